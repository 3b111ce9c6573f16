import PyProof.Rows.All
import Wide.All
import OpenK.AllK
import Wide.FinOn
import PySem.Challenge.RW_loadwide_k57_whole_periods_by_many_roads
import HandS.ForMost
import HandS.Exc
import HandS.Walk
import HandS.IsInst
import HandS.ExcOwn
import HandS.CallSlots
import HandS.Star
import HandS.Iter
import HandS.Zip
import KE.GoesEnum
import HandS.ForExc
import HandS.TupAny
import HandS.TupMul
import HandS.Wide
import HandS.Style
import HandS.SortInts
import HandS.Small
import HandS.AnyAll
import HandS.More
set_option Elab.async false
set_option linter.all false
set_option maxRecDepth 100000
set_option maxHeartbeats 2000000
/-! Layer 1: plain data, the store, what relates them to the abstract heap. -/
namespace Y
open PySem PySem.Spec PyProof.Rows L2

/-- plain data: tuples, frozen lists and dicts by value; `ref i`: the cell i of the store; `glb x`: the module's def x -/
inductive D where
  | non | bl (b : Bool) | int (i : Int) | str (x : Str) | ty (n : String)
  | tup (xs : List D) | lst (xs : List D) | dict (ks : List Key) (xs : List D)
  | ref (i : Nat) | glb (x : Str) | scr (ns : List Int)

inductive Cell where
  | lst (xs : List D) | dict (ks : List Key) (xs : List D) | dead

abbrev Store := List Cell
abbrev Env := List (Option D)
structure Exn where
  cls : Str
  arg : Option (Str × D)

inductive Res (α : Type) where
  | ok (a : α) (S : Store) | err (x : Exn) (S : Store) | stuck
@[inline] def Res.bind {α β : Type} (r : Res α) (k : α → Store → Res β) : Res β := match r with
  | .ok a S => k a S
  | .err x S => .err x S
  | .stuck => .stuck

abbrev SE := Env → Store → Res D
abbrev ST := Env → Store → Res Bool
abbrev SA := Env → Store → Res (List D)
inductive Flo where
  | nx (env : Env) | ret (d : D) | brk (env : Env) | ct (env : Env)
abbrev SS := Env → Store → Res Flo
abbrev Fn := List D → Store → Res D

/-- the written part, the module's names, the objects that nothing speaks of for the time being -/
structure Gx where
  K : PySem.W.Frag
  mg : Str → Option Value
  hid : List Addr

/-! ### how data lie in the abstract heap -/
def KTup (K : PySem.W.Frag) (a : Addr) (vs : List V) : Prop := ∃ (o : Obj) (its : Array Value) (n : Nat), K.lookup a = some o ∧ o.cls = .type "tuple" ∧ o.data = .seq its n ∧ its.size ≤ sizeLine ∧ Vals vs its.toList
def TupAt (G : Gx) (ρ : List Addr) (H : Hp) (a : Addr) (vs : List V) : Prop := (Rd H a (.tup vs) ∧ a ∉ ρ ∧ a ∉ G.hid) ∨ KTup G.K a vs
def LstAt (G : Gx) (ρ : List Addr) (H : Hp) (a : Addr) (vs : List V) : Prop := H a = some (.lst vs) ∧ a ∉ ρ ∧ a ∉ G.hid
def ScrAt (G : Gx) (ρ : List Addr) (H : Hp) (a : Addr) (vs : List V) : Prop := (Rd H a (.lst vs) ∧ a ∉ ρ ∧ a ∉ G.hid) ∨ ∃ (o : Obj) (its : Array Value) (n : Nat), G.K.lookup a = some o ∧ o.cls = .type "list" ∧ o.dict = none ∧ o.data = .seq its n ∧ its.size ≤ sizeLine ∧ Vals vs its.toList
def DictAt (G : Gx) (ρ : List Addr) (H : Hp) (a : Addr) (kvs : List (Key × V)) : Prop := Rd H a (.dK kvs) ∧ a ∉ ρ ∧ a ∉ G.hid

section
variable (G : Gx) (ρ : List Addr) (H : Hp)
mutual
def RD : D → V → Prop
  | .non, v => v = .non
  | .bl b, v => v = .bl b
  | .int i, v => v = .int i
  | .str x, v => v = .str x
  | .ty n, v => v = .ty n
  | .tup xs, v => ∃ a vs, v = .ref a ∧ TupAt G ρ H a vs ∧ RDs xs vs
  | .lst xs, v => ∃ a vs, v = .ref a ∧ LstAt G ρ H a vs ∧ RDs xs vs
  | .dict ks xs, v => ∃ a vs, v = .ref a ∧ DictAt G ρ H a (ks.zip vs) ∧ ks.length = vs.length ∧ RDs xs vs
  | .ref i, v => ∃ a, v = .ref a ∧ ρ[i]? = some a
  | .glb x, v => ∃ a, v = .ref a ∧ G.mg x = some (.ref a)
  | .scr ns, v => ∃ a, v = .ref a ∧ ScrAt G ρ H a (ns.map V.int)
def RDs : List D → List V → Prop
  | [], [] => True
  | x :: xs, v :: vs => RD x v ∧ RDs xs vs
  | _, _ => False
end
def CellOk (a : Addr) : Cell → Prop
  | .lst xs => ∃ vs, H a = some (.lst vs) ∧ RDs G ρ H xs vs
  | .dict ks xs => ∃ vs, H a = some (.dK (ks.zip vs)) ∧ ks.length = vs.length ∧ RDs G ρ H xs vs
  | .dead => ∃ o, H a = some o
structure RS (S : Store) : Prop where
  len : ρ.length = S.length
  nd : ρ.Nodup
  hid : ∀ a ∈ G.hid, ∃ o, H a = some o
  dis : ∀ a ∈ ρ, a ∉ G.hid
  cell : ∀ (i : Nat) (a : Addr) (c : Cell), ρ[i]? = some a → S[i]? = some c → CellOk G ρ H a c
end

/-- the world goes on: cells are added, all that is no cell stays -/
structure Ext (ρ : List Addr) (H : Hp) (ρ' : List Addr) (H' : Hp) : Prop where
  pre : ∃ more, ρ' = ρ ++ more ∧ ∀ a ∈ more, H a = none
  keep : ∀ a o, a ∉ ρ → H a = some o → H' a = some o
  there : ∀ a o, H a = some o → ∃ o', H' a = some o'
theorem Ext.refl {ρ : List Addr} {H : Hp} : Ext ρ H ρ H := ⟨⟨[], by simp⟩, fun _ _ _ h => h, fun _ o h => ⟨o, h⟩⟩
theorem Ext.free {ρ ρ' : List Addr} {H H' : Hp} {a : Addr} {o : HO} (e : Ext ρ H ρ' H') (h : a ∉ ρ) (ho : H a = some o) : a ∉ ρ' := by
  obtain ⟨⟨more, rfl, hm⟩, _⟩ := e
  intro z
  rcases List.mem_append.mp z with z | z
  · exact h z
  · rw [hm a z] at ho; cases ho
theorem Ext.trans {ρ ρ1 ρ2 : List Addr} {H H1 H2 : Hp} (e : Ext ρ H ρ1 H1) (f : Ext ρ1 H1 ρ2 H2) : Ext ρ H ρ2 H2 := by
  refine ⟨?_, fun a o h ho => f.keep a o (e.free h ho) (e.keep a o h ho), fun a o h => ?_⟩
  · obtain ⟨m1, e1, n1⟩ := e.pre
    obtain ⟨m2, e2, n2⟩ := f.pre
    refine ⟨m1 ++ m2, by rw [e2, e1, List.append_assoc], fun a ha => ?_⟩
    rcases List.mem_append.mp ha with z | z
    · exact n1 a z
    · cases q : H a with
      | none => rfl
      | some o =>
        obtain ⟨o', q'⟩ := e.there a o q
        rw [n2 a z] at q'; cases q'
  · obtain ⟨o', h'⟩ := e.there a o h
    exact f.there a o' h'
theorem Ext.idx {ρ ρ' : List Addr} {H H' : Hp} (e : Ext ρ H ρ' H') {i : Nat} {a : Addr} (h : ρ[i]? = some a) : ρ'[i]? = some a := by
  obtain ⟨m, e, _⟩ := e.pre
  rw [e, List.getElem?_append_left (List.getElem?_eq_some_iff.mp h).1]
  exact h
theorem Ext.rd {ρ ρ' hd : List Addr} {H H' : Hp} (e : Ext ρ H ρ' H') {a : Addr} {u : HO} (h : a ∉ ρ ∧ a ∉ hd) (r : Rd H a u) : Rd H' a u ∧ a ∉ ρ' ∧ a ∉ hd := by
  rcases r with r | ⟨o, r⟩
  · exact ⟨.inl (e.keep a _ h.1 r), e.free h.1 r, h.2⟩
  · exact ⟨.inr ⟨o, e.keep a _ h.1 r⟩, e.free h.1 r, h.2⟩
/-- a new object, no cell -/
theorem Ext.new {ρ : List Addr} {H : Hp} {p : Addr} {o : HO} (h : H p = none) : Ext ρ H ρ (upd H p o) :=
  ⟨⟨[], by simp⟩, fun a u _ e => by rw [upd_ne (ne_of_none e h)]; exact e, fun a u e => ⟨u, by rw [upd_ne (ne_of_none e h)]; exact e⟩⟩
/-- a new cell -/
theorem Ext.cell {ρ : List Addr} {H : Hp} {p : Addr} {o : HO} (h : H p = none) : Ext ρ H (ρ ++ [p]) (upd H p o) :=
  ⟨⟨[p], rfl, fun a ha => by rw [List.mem_singleton.mp ha]; exact h⟩, fun a u _ e => by rw [upd_ne (ne_of_none e h)]; exact e, fun a u e => ⟨u, by rw [upd_ne (ne_of_none e h)]; exact e⟩⟩
/-- a cell is written -/
theorem Ext.write {ρ : List Addr} {H : Hp} {p : Addr} {o : HO} (h : p ∈ ρ) : Ext ρ H ρ (upd H p o) :=
  ⟨⟨[], by simp⟩, fun a u n e => by rw [upd_ne (show a ≠ p from fun z => n (by rw [z]; exact h))]; exact e, fun a u e => by
    by_cases hp : a = p
    · subst hp; exact ⟨o, upd_same⟩
    · exact ⟨u, by rw [upd_ne hp]; exact e⟩⟩
/-- fewer cells are looked at -/
theorem Ext.less {ρ ρ' : List Addr} {H H' : Hp} (e : Ext ρ H ρ' H') : Ext ρ H ρ H' := ⟨⟨[], by simp⟩, e.keep, e.there⟩

section
variable {G : Gx} {ρ ρ' : List Addr} {H H' : Hp}
theorem there_upd {H : Hp} {a p : Addr} {o : HO} (h : ∃ u, H a = some u) : ∃ u, upd H p o a = some u := by
  by_cases e : a = p
  · subst e; exact ⟨o, upd_same⟩
  · obtain ⟨u, q⟩ := h; exact ⟨u, by rw [upd_ne e]; exact q⟩
theorem TupAt.ext (e : Ext ρ H ρ' H') {a : Addr} {vs : List V} (h : TupAt G ρ H a vs) : TupAt G ρ' H' a vs := by
  rcases h with ⟨h, n⟩ | h
  · exact .inl (e.rd n h)
  · exact .inr h
mutual
theorem RD.ext (e : Ext ρ H ρ' H') : ∀ {d : D} {v : V}, RD G ρ H d v → RD G ρ' H' d v
  | .non, v, h => by unfold RD at h ⊢; exact h
  | .bl b, v, h => by unfold RD at h ⊢; exact h
  | .int i, v, h => by unfold RD at h ⊢; exact h
  | .str x, v, h => by unfold RD at h ⊢; exact h
  | .ty n, v, h => by unfold RD at h ⊢; exact h
  | .tup xs, v, h => by
    unfold RD at h ⊢
    obtain ⟨a, vs, e1, e2, e3⟩ := h
    exact ⟨a, vs, e1, e2.ext e, RDs.ext e e3⟩
  | .lst xs, v, h => by
    unfold RD at h ⊢
    obtain ⟨a, vs, e1, e2, e3⟩ := h
    exact ⟨a, vs, e1, ⟨e.keep a _ e2.2.1 e2.1, e.free e2.2.1 e2.1, e2.2.2⟩, RDs.ext e e3⟩
  | .dict ks xs, v, h => by
    unfold RD at h ⊢
    obtain ⟨a, vs, e1, e2, e3, e4⟩ := h
    exact ⟨a, vs, e1, e.rd e2.2 e2.1, e3, RDs.ext e e4⟩
  | .ref i, v, h => by
    unfold RD at h ⊢
    obtain ⟨a, e1, e2⟩ := h
    exact ⟨a, e1, e.idx e2⟩
  | .glb x, v, h => by unfold RD at h ⊢; exact h
  | .scr ns, v, h => by
    unfold RD at h ⊢
    obtain ⟨a, e1, e2⟩ := h
    refine ⟨a, e1, ?_⟩
    rcases e2 with ⟨h, n⟩ | h
    · exact .inl (e.rd n h)
    · exact .inr h
theorem RDs.ext (e : Ext ρ H ρ' H') : ∀ {xs : List D} {vs : List V}, RDs G ρ H xs vs → RDs G ρ' H' xs vs
  | [], [], _ => by unfold RDs; trivial
  | x :: xs, v :: vs, h => by
    unfold RDs at h ⊢
    exact ⟨RD.ext e h.1, RDs.ext e h.2⟩
  | [], _ :: _, h => by unfold RDs at h; exact h.elim
  | _ :: _, [], h => by unfold RDs at h; exact h.elim
end
theorem RDs.len : ∀ {xs : List D} {vs : List V}, RDs G ρ H xs vs → xs.length = vs.length
  | [], [], _ => rfl
  | x :: xs, v :: vs, h => by
    unfold RDs at h
    rw [List.length_cons, List.length_cons, RDs.len h.2]
  | [], _ :: _, h => by unfold RDs at h; exact h.elim
  | _ :: _, [], h => by unfold RDs at h; exact h.elim
theorem RDs.nil : RDs G ρ H [] [] := by unfold RDs; trivial
theorem RDs.cons {x : D} {v : V} {xs : List D} {vs : List V} (h : RD G ρ H x v) (t : RDs G ρ H xs vs) : RDs G ρ H (x :: xs) (v :: vs) := by unfold RDs; exact ⟨h, t⟩
theorem RDs.nil_inv {vs : List V} (h : RDs G ρ H [] vs) : vs = [] := by
  cases vs with
  | nil => rfl
  | cons _ _ => unfold RDs at h; exact h.elim
theorem RDs.cons_inv {x : D} {xs : List D} {vs : List V} (h : RDs G ρ H (x :: xs) vs) : ∃ v vs', vs = v :: vs' ∧ RD G ρ H x v ∧ RDs G ρ H xs vs' := by
  cases vs with
  | nil => unfold RDs at h; exact h.elim
  | cons v vs' => unfold RDs at h; exact ⟨v, vs', rfl, h.1, h.2⟩
theorem RDs.get : ∀ {xs : List D} {vs : List V} {i : Nat} {d : D}, RDs G ρ H xs vs → xs[i]? = some d → ∃ v, vs[i]? = some v ∧ RD G ρ H d v
  | [], _, _, _, _, e => by simp at e
  | x :: xs, vs, 0, d, h, e => by
    obtain ⟨v, vs', rfl, h1, h2⟩ := h.cons_inv
    simp at e
    subst e
    exact ⟨v, rfl, h1⟩
  | x :: xs, vs, i + 1, d, h, e => by
    obtain ⟨v, vs', rfl, h1, h2⟩ := h.cons_inv
    obtain ⟨w, e1, e2⟩ := RDs.get (i := i) h2 (by simpa using e)
    exact ⟨w, by simpa using e1, e2⟩
theorem RDs.append : ∀ {xs ys : List D} {vs ws : List V}, RDs G ρ H xs vs → RDs G ρ H ys ws → RDs G ρ H (xs ++ ys) (vs ++ ws)
  | [], ys, vs, ws, h, q => by rw [h.nil_inv]; exact q
  | x :: xs, ys, vs, ws, h, q => by
    obtain ⟨v, vs', rfl, h1, h2⟩ := h.cons_inv
    exact .cons h1 (RDs.append h2 q)
theorem RDs.take : ∀ {xs : List D} {vs : List V} (n : Nat), RDs G ρ H xs vs → RDs G ρ H (xs.take n) (vs.take n)
  | [], vs, n, h => by rw [h.nil_inv]; simpa using RDs.nil
  | x :: xs, vs, 0, h => by simpa using RDs.nil
  | x :: xs, vs, n + 1, h => by
    obtain ⟨v, vs', rfl, h1, h2⟩ := h.cons_inv
    simpa using RDs.cons h1 (RDs.take n h2)
theorem RDs.drop : ∀ {xs : List D} {vs : List V} (n : Nat), RDs G ρ H xs vs → RDs G ρ H (xs.drop n) (vs.drop n)
  | [], vs, n, h => by rw [h.nil_inv]; simpa using RDs.nil
  | x :: xs, vs, 0, h => by simpa using h
  | x :: xs, vs, n + 1, h => by
    obtain ⟨v, vs', rfl, h1, h2⟩ := h.cons_inv
    simpa using RDs.drop n h2
theorem RDs.set : ∀ {xs : List D} {vs : List V} (i : Nat) {d : D} {v : V}, RDs G ρ H xs vs → RD G ρ H d v → RDs G ρ H (xs.set i d) (vs.set i v)
  | [], vs, n, d, v, h, q => by rw [h.nil_inv]; simpa using RDs.nil
  | x :: xs, vs, 0, d, v, h, q => by
    obtain ⟨v', vs', rfl, h1, h2⟩ := h.cons_inv
    simpa using RDs.cons q h2
  | x :: xs, vs, n + 1, d, v, h, q => by
    obtain ⟨v', vs', rfl, h1, h2⟩ := h.cons_inv
    simpa using RDs.cons h1 (RDs.set n h2 q)
theorem RDs.reverse : ∀ {xs : List D} {vs : List V}, RDs G ρ H xs vs → RDs G ρ H xs.reverse vs.reverse
  | [], vs, h => by rw [h.nil_inv]; exact .nil
  | x :: xs, vs, h => by
    obtain ⟨v, vs', rfl, h1, h2⟩ := h.cons_inv
    rw [List.reverse_cons, List.reverse_cons]
    exact (RDs.reverse h2).append (.cons h1 .nil)
theorem RS.in (r : RS G ρ H S) {i : Nat} {c : Cell} (h : S[i]? = some c) : ∃ a, ρ[i]? = some a ∧ CellOk G ρ H a c := by
  have hi : i < ρ.length := by rw [r.len]; exact (List.getElem?_eq_some_iff.mp h).1
  exact ⟨ρ[i], List.getElem?_eq_getElem hi, r.cell i _ c (List.getElem?_eq_getElem hi) h⟩
theorem RS.there {S : Store} (r : RS G ρ H S) {a : Addr} (h : a ∈ ρ) : ∃ o, H a = some o := by
  obtain ⟨i, hi⟩ := List.getElem?_of_mem h
  have hl : i < S.length := by rw [← r.len]; exact (List.getElem?_eq_some_iff.mp hi).1
  have q := r.cell i a _ hi (List.getElem?_eq_getElem hl)
  cases e : S[i] with
  | lst xs => rw [e] at q; obtain ⟨vs, h, _⟩ := q; exact ⟨_, h⟩
  | dict ks xs => rw [e] at q; obtain ⟨vs, h, _⟩ := q; exact ⟨_, h⟩
  | dead => rw [e] at q; exact q
theorem CellOk.ext (e : Ext ρ H ρ' H') {a : Addr} (hs : ∀ o, H a = some o → H' a = some o) {c : Cell} (h : CellOk G ρ H a c) : CellOk G ρ' H' a c := by
  cases c with
  | lst xs => obtain ⟨vs, h, r⟩ := h; exact ⟨vs, hs _ h, r.ext e⟩
  | dict ks xs => obtain ⟨vs, h, l, r⟩ := h; exact ⟨vs, hs _ h, l, r.ext e⟩
  | dead => obtain ⟨o, h⟩ := h; exact ⟨o, hs _ h⟩
/-- an object is laid that is no cell -/
theorem RS.new {S : Store} (r : RS G ρ H S) {p : Addr} {o : HO} (h : H p = none) : RS G ρ (upd H p o) S :=
  ⟨r.len, r.nd, fun a h => there_upd (r.hid a h), r.dis, fun i a c e1 e2 => (r.cell i a c e1 e2).ext (Ext.new h) fun u q => by rw [upd_ne (ne_of_none q h)]; exact q⟩
/-- a cell is laid -/
theorem RS.alloc {S : Store} (r : RS G ρ H S) {p : Addr} {o : HO} {c : Cell} (h : H p = none) (hc : CellOk G (ρ ++ [p]) (upd H p o) p c) : RS G (ρ ++ [p]) (upd H p o) (S ++ [c]) := by
  have hp : p ∉ ρ := fun z => by
    obtain ⟨o, q⟩ := r.there z
    rw [h] at q; cases q
  refine ⟨by simp [r.len], List.nodup_append.mpr ⟨r.nd, by simp, fun a ha b hb => by rintro rfl; exact hp (by simpa [List.mem_singleton.mp hb] using ha)⟩, fun a h => there_upd (r.hid a h), fun a ha z => (List.mem_append.mp ha).elim (fun q => r.dis a q z) fun q => (by
    obtain ⟨o, q'⟩ := r.hid a z
    rw [List.mem_singleton.mp q, h] at q'
    cases q'), fun i a c' e1 e2 => ?_⟩
  by_cases hi : i < ρ.length
  · rw [List.getElem?_append_left hi] at e1
    rw [List.getElem?_append_left (by rw [← r.len]; exact hi)] at e2
    exact (r.cell i a c' e1 e2).ext (Ext.cell h) fun u q => by rw [upd_ne (ne_of_none q h)]; exact q
  · have hi2 : i = ρ.length := by
      have := (List.getElem?_eq_some_iff.mp e1).1
      simp at this
      omega
    subst hi2
    rw [List.getElem?_append_right (Nat.le_refl _), Nat.sub_self] at e1
    rw [r.len, List.getElem?_append_right (Nat.le_refl _), Nat.sub_self] at e2
    simp at e1 e2
    subst e1 e2
    exact hc
theorem RS.ne (r : RS G ρ H S) {i j : Nat} {a b : Addr} (hi : ρ[i]? = some a) (hj : ρ[j]? = some b) (h : i ≠ j) : a ≠ b := by
  rintro rfl
  exact h ((List.getElem?_inj (List.getElem?_eq_some_iff.mp hi).1 r.nd).mp (hi.trans hj.symm))
/-- a cell is written -/
theorem RS.write {S : Store} (r : RS G ρ H S) {i : Nat} {p : Addr} {o : HO} {c : Cell} (hi : ρ[i]? = some p) (hc : CellOk G ρ (upd H p o) p c) : RS G ρ (upd H p o) (S.set i c) := by
  refine ⟨by simp [r.len], r.nd, fun a h => there_upd (r.hid a h), r.dis, fun j a c' e1 e2 => ?_⟩
  by_cases hj : i = j
  · subst hj
    rw [List.getElem?_set_self (by rw [← r.len]; exact (List.getElem?_eq_some_iff.mp hi).1)] at e2
    rw [hi] at e1
    cases e1; cases e2
    exact hc
  · rw [List.getElem?_set_ne hj] at e2
    exact (r.cell j a c' e1 e2).ext (Ext.write (List.mem_of_getElem? hi)) fun u q => by rw [upd_ne (r.ne e1 hi (Ne.symm hj))]; exact q
theorem Ext.mut {ρ ρ' : List Addr} {H H' : Hp} {p : Addr} {o : HO} (e : Ext ρ H ρ' H') (h : H p = none) : Ext ρ H ρ' (upd H' p o) :=
  ⟨e.pre, fun a u n q => by rw [upd_ne (ne_of_none q h)]; exact e.keep a u n q, fun a u q => there_upd (e.there a u q)⟩
/-- a hidden object is written: nothing sees it -/
theorem rd_hid {p a : Addr} {o u : HO} (hp : p ∈ G.hid) (h : a ∉ G.hid) (r : Rd H a u) : Rd (upd H p o) a u := by
  have ne : a ≠ p := fun z => h (by rw [z]; exact hp)
  rcases r with r | ⟨w, r⟩
  · exact .inl (by rw [upd_ne ne]; exact r)
  · exact .inr ⟨w, by rw [upd_ne ne]; exact r⟩
mutual
theorem RD.hidden {p : Addr} {o : HO} (hp : p ∈ G.hid) : ∀ {d : D} {v : V}, RD G ρ H d v → RD G ρ (upd H p o) d v
  | .non, v, h => by unfold RD at h ⊢; exact h
  | .bl b, v, h => by unfold RD at h ⊢; exact h
  | .int i, v, h => by unfold RD at h ⊢; exact h
  | .str x, v, h => by unfold RD at h ⊢; exact h
  | .ty n, v, h => by unfold RD at h ⊢; exact h
  | .tup xs, v, h => by
    unfold RD at h ⊢
    obtain ⟨a, vs, e1, e2, e3⟩ := h
    refine ⟨a, vs, e1, ?_, RDs.hidden hp e3⟩
    rcases e2 with ⟨r, n1, n2⟩ | r
    · exact .inl ⟨rd_hid hp n2 r, n1, n2⟩
    · exact .inr r
  | .lst xs, v, h => by
    unfold RD at h ⊢
    obtain ⟨a, vs, e1, ⟨r, n1, n2⟩, e3⟩ := h
    exact ⟨a, vs, e1, ⟨by rw [upd_ne (fun z => n2 (by rw [z]; exact hp))]; exact r, n1, n2⟩, RDs.hidden hp e3⟩
  | .dict ks xs, v, h => by
    unfold RD at h ⊢
    obtain ⟨a, vs, e1, ⟨r, n1, n2⟩, e3, e4⟩ := h
    exact ⟨a, vs, e1, ⟨rd_hid hp n2 r, n1, n2⟩, e3, RDs.hidden hp e4⟩
  | .ref i, v, h => by unfold RD at h ⊢; exact h
  | .glb x, v, h => by unfold RD at h ⊢; exact h
  | .scr ns, v, h => by
    unfold RD at h ⊢
    obtain ⟨a, e1, e2⟩ := h
    refine ⟨a, e1, ?_⟩
    rcases e2 with ⟨r, n1, n2⟩ | r
    · exact .inl ⟨rd_hid hp n2 r, n1, n2⟩
    · exact .inr r
theorem RDs.hidden {p : Addr} {o : HO} (hp : p ∈ G.hid) : ∀ {xs : List D} {vs : List V}, RDs G ρ H xs vs → RDs G ρ (upd H p o) xs vs
  | [], [], _ => by unfold RDs; trivial
  | x :: xs, v :: vs, h => by
    unfold RDs at h ⊢
    exact ⟨RD.hidden hp h.1, RDs.hidden hp h.2⟩
  | [], _ :: _, h => by unfold RDs at h; exact h.elim
  | _ :: _, [], h => by unfold RDs at h; exact h.elim
end
/-- the object at p is hidden, behind which it was new -/
def Gx.hide (G : Gx) (p : Addr) : Gx := ⟨G.K, G.mg, p :: G.hid⟩
theorem not_hid {hd : List Addr} {a : Addr} {u : HO} (hh : ∀ b ∈ hd, b ∈ G.hid ∨ H b = none) (h : a ∉ G.hid) (r : Rd H a u) : a ∉ hd := fun z => by
  rcases hh a z with z | z
  · exact h z
  · rcases r with r | ⟨w, r⟩ <;> rw [z] at r <;> cases r
mutual
theorem RD.rehide {hd : List Addr} (hh : ∀ b ∈ hd, b ∈ G.hid ∨ H b = none) : ∀ {d : D} {v : V}, RD G ρ H d v → RD ⟨G.K, G.mg, hd⟩ ρ H d v
  | .non, v, h => by unfold RD at h ⊢; exact h
  | .bl b, v, h => by unfold RD at h ⊢; exact h
  | .int i, v, h => by unfold RD at h ⊢; exact h
  | .str x, v, h => by unfold RD at h ⊢; exact h
  | .ty n, v, h => by unfold RD at h ⊢; exact h
  | .tup xs, v, h => by
    unfold RD at h ⊢
    obtain ⟨a, vs, e1, e2, e3⟩ := h
    refine ⟨a, vs, e1, ?_, RDs.rehide hh e3⟩
    rcases e2 with ⟨r, n1, n2⟩ | r
    · exact .inl ⟨r, n1, not_hid hh n2 r⟩
    · exact .inr r
  | .lst xs, v, h => by
    unfold RD at h ⊢
    obtain ⟨a, vs, e1, ⟨r, n1, n2⟩, e3⟩ := h
    exact ⟨a, vs, e1, ⟨r, n1, not_hid hh n2 (.inl r)⟩, RDs.rehide hh e3⟩
  | .dict ks xs, v, h => by
    unfold RD at h ⊢
    obtain ⟨a, vs, e1, ⟨r, n1, n2⟩, e3, e4⟩ := h
    exact ⟨a, vs, e1, ⟨r, n1, not_hid hh n2 r⟩, e3, RDs.rehide hh e4⟩
  | .ref i, v, h => by unfold RD at h ⊢; exact h
  | .glb x, v, h => by unfold RD at h ⊢; exact h
  | .scr ns, v, h => by
    unfold RD at h ⊢
    obtain ⟨a, e1, e2⟩ := h
    refine ⟨a, e1, ?_⟩
    rcases e2 with ⟨r, n1, n2⟩ | r
    · exact .inl ⟨r, n1, not_hid hh n2 r⟩
    · exact .inr r
theorem RDs.rehide {hd : List Addr} (hh : ∀ b ∈ hd, b ∈ G.hid ∨ H b = none) : ∀ {xs : List D} {vs : List V}, RDs G ρ H xs vs → RDs ⟨G.K, G.mg, hd⟩ ρ H xs vs
  | [], [], _ => by unfold RDs; trivial
  | x :: xs, v :: vs, h => by
    unfold RDs at h ⊢
    exact ⟨RD.rehide hh h.1, RDs.rehide hh h.2⟩
  | [], _ :: _, h => by unfold RDs at h; exact h.elim
  | _ :: _, [], h => by unfold RDs at h; exact h.elim
end
theorem hide_ok {p : Addr} (hn : H p = none) : ∀ b ∈ p :: G.hid, b ∈ G.hid ∨ H b = none := fun b hb => by
  rcases List.mem_cons.mp hb with rfl | hb
  · exact .inr hn
  · exact .inl hb
theorem RD.hide {p : Addr} (hn : H p = none) {d : D} {v : V} (h : RD G ρ H d v) : RD (G.hide p) ρ H d v := h.rehide (hide_ok hn)
theorem RDs.hide {p : Addr} (hn : H p = none) {ds : List D} {vs : List V} (h : RDs G ρ H ds vs) : RDs (G.hide p) ρ H ds vs := h.rehide (hide_ok hn)
mutual
theorem RD.show {p : Addr} : ∀ {d : D} {v : V}, RD (G.hide p) ρ H d v → RD G ρ H d v
  | .non, v, h => by unfold RD at h ⊢; exact h
  | .bl b, v, h => by unfold RD at h ⊢; exact h
  | .int i, v, h => by unfold RD at h ⊢; exact h
  | .str x, v, h => by unfold RD at h ⊢; exact h
  | .ty n, v, h => by unfold RD at h ⊢; exact h
  | .tup xs, v, h => by
    unfold RD at h ⊢
    obtain ⟨a, vs, e1, e2, e3⟩ := h
    refine ⟨a, vs, e1, ?_, RDs.show e3⟩
    rcases e2 with ⟨r, n1, n2⟩ | r
    · exact .inl ⟨r, n1, fun z => n2 (List.mem_cons_of_mem _ z)⟩
    · exact .inr r
  | .lst xs, v, h => by
    unfold RD at h ⊢
    obtain ⟨a, vs, e1, ⟨r, n1, n2⟩, e3⟩ := h
    exact ⟨a, vs, e1, ⟨r, n1, fun z => n2 (List.mem_cons_of_mem _ z)⟩, RDs.show e3⟩
  | .dict ks xs, v, h => by
    unfold RD at h ⊢
    obtain ⟨a, vs, e1, ⟨r, n1, n2⟩, e3, e4⟩ := h
    exact ⟨a, vs, e1, ⟨r, n1, fun z => n2 (List.mem_cons_of_mem _ z)⟩, e3, RDs.show e4⟩
  | .ref i, v, h => by unfold RD at h ⊢; exact h
  | .glb x, v, h => by unfold RD at h ⊢; exact h
  | .scr ns, v, h => by
    unfold RD at h ⊢
    obtain ⟨a, e1, e2⟩ := h
    refine ⟨a, e1, ?_⟩
    rcases e2 with ⟨r, n1, n2⟩ | r
    · exact .inl ⟨r, n1, fun z => n2 (List.mem_cons_of_mem _ z)⟩
    · exact .inr r
theorem RDs.show {p : Addr} : ∀ {xs : List D} {vs : List V}, RDs (G.hide p) ρ H xs vs → RDs G ρ H xs vs
  | [], [], _ => by unfold RDs; trivial
  | x :: xs, v :: vs, h => by
    unfold RDs at h ⊢
    exact ⟨RD.show h.1, RDs.show h.2⟩
  | [], _ :: _, h => by unfold RDs at h; exact h.elim
  | _ :: _, [], h => by unfold RDs at h; exact h.elim
end
theorem CellOk.to {G' : Gx} {a : Addr} {c : Cell} (h : CellOk G ρ H a c) (hs : ∀ xs vs, RDs G ρ H xs vs → RDs G' ρ H xs vs) : CellOk G' ρ H a c := by
  cases c with
  | lst xs => obtain ⟨vs, h, r⟩ := h; exact ⟨vs, h, hs _ _ r⟩
  | dict ks xs => obtain ⟨vs, h, l, r⟩ := h; exact ⟨vs, h, l, hs _ _ r⟩
  | dead => exact h
/-- a new object is laid and hidden -/
theorem RS.hide {S : Store} {p : Addr} {o : HO} (r : RS G ρ H S) (hn : H p = none) : RS (G.hide p) ρ (upd H p o) S :=
  ⟨r.len, r.nd, fun a h => by
    rcases List.mem_cons.mp h with rfl | h
    · exact ⟨o, upd_same⟩
    · exact there_upd (r.hid a h), fun a ha z => (List.mem_cons.mp z).elim (fun q => by
      obtain ⟨o, q'⟩ := r.there ha
      rw [q, hn] at q'; cases q') fun q => r.dis a ha q, fun i a c e1 e2 => ((r.cell i a c e1 e2).to fun _ _ q => RDs.hide hn q).ext (Ext.new hn) fun u q => by rw [upd_ne (ne_of_none q hn)]; exact q⟩
theorem RS.show {S : Store} {p : Addr} (r : RS (G.hide p) ρ H S) : RS G ρ H S :=
  ⟨r.len, r.nd, fun a h => r.hid a (List.mem_cons_of_mem _ h), fun a ha z => r.dis a ha (List.mem_cons_of_mem _ z), fun i a c e1 e2 => (r.cell i a c e1 e2).to fun _ _ q => RDs.show q⟩
/-- a hidden object, no cell, is written -/
theorem RS.hidden {S : Store} {p : Addr} {o : HO} (r : RS G ρ H S) (hp : p ∈ G.hid) (hc : p ∉ ρ) : RS G ρ (upd H p o) S :=
  ⟨r.len, r.nd, fun a h => there_upd (r.hid a h), r.dis, fun i a c e1 e2 => by
    have ne : a ≠ p := fun z => hc (by rw [← z]; exact List.mem_of_getElem? e1)
    have q := r.cell i a c e1 e2
    cases c with
    | lst xs => obtain ⟨vs, h, r⟩ := q; exact ⟨vs, by rw [upd_ne ne]; exact h, r.hidden hp⟩
    | dict ks xs => obtain ⟨vs, h, l, r⟩ := q; exact ⟨vs, by rw [upd_ne ne]; exact h, l, r.hidden hp⟩
    | dead => obtain ⟨o, h⟩ := q; exact ⟨o, by rw [upd_ne ne]; exact h⟩⟩
end
end Y

set_option maxHeartbeats 2000000
/-! Layer 2: judgements. -/
namespace Y
open PySem PySem.Spec PyProof.Rows L2

/-- what every rule asks of the context -/
structure Gd (X : Cx) (W : WX) : Prop where
  calm : X.calm = true
  own : PassesOwn (model X.prog X.w) X.A X.env X.xe
  tk : Takes X W
  nd : X.N.Nodup
abbrev W0 : WX := fun _ _ _ _ => False
theorem takes_W0 {X : Cx} : Takes X W0 := fun _ _ ⟨_, _, _, _, _, _, _, _, _, _, _, _, _, _, _, _, w⟩ => w.elim

/-- slots, heap against env, store -/
structure R3 (G : Gx) (ρ : List Addr) (σ : L2.St) (H : Hp) (env : Env) (S : Store) : Prop where
  len : σ.length = env.length
  sl : ∀ (i : Nat) (d : D), env[i]? = some (some d) → ∃ v, σ[i]? = some (some v) ∧ RD G ρ H d v
  st : RS G ρ H S
theorem R3.ext {G : Gx} {ρ ρ' : List Addr} {σ : L2.St} {H H' : Hp} {env : Env} {S S' : Store} (r : R3 G ρ σ H env S) (e : Ext ρ H ρ' H') (s : RS G ρ' H' S') : R3 G ρ' σ H' env S' :=
  ⟨r.len, fun i d h => let ⟨v, h1, h2⟩ := r.sl i d h; ⟨v, h1, h2.ext e⟩, s⟩
theorem R3.set {G : Gx} {ρ : List Addr} {σ : L2.St} {H : Hp} {env : Env} {S : Store} (r : R3 G ρ σ H env S) (i : Nat) {d : D} {v : V} (h : RD G ρ H d v) : R3 G ρ (σ.set i (some v)) H (env.set i (some d)) S := by
  refine ⟨by simp [r.len], fun j d' e => ?_, r.st⟩
  by_cases hj : i = j
  · subst hj
    have hi : i < env.length := by
      have := (List.getElem?_eq_some_iff.mp e).1
      simpa using this
    rw [List.getElem?_set_self hi] at e
    cases e
    exact ⟨v, by rw [List.getElem?_set_self (by rw [r.len]; exact hi)], h⟩
  · rw [List.getElem?_set_ne hj] at e
    obtain ⟨w, h1, h2⟩ := r.sl j d' e
    exact ⟨w, by rw [List.getElem?_set_ne hj]; exact h1, h2⟩

/-- an exception as it lies -/
def RX (G : Gx) (ρ : List Addr) (H : Hp) (x : Exn) (cls : Value) (dd : Option Addr) : Prop :=
  ∃ C, G.mg x.cls = some (.ref C) ∧ cls = .ref C ∧ match x.arg with
    | none => dd = none
    | some (f, a) => ∃ d v, dd = some d ∧ (d ∉ ρ ∧ d ∉ G.hid) ∧ H d = some (.xd [(f, v)]) ∧ RD G ρ H a v
theorem RX.ext {G : Gx} {ρ ρ' : List Addr} {H H' : Hp} {x : Exn} {cls : Value} {dd : Option Addr} (e : Ext ρ H ρ' H') (h : RX G ρ H x cls dd) : RX G ρ' H' x cls dd := by
  obtain ⟨C, h1, h2, h3⟩ := h
  refine ⟨C, h1, h2, ?_⟩
  obtain ⟨xc, xa⟩ := x
  cases xa with
  | none => exact h3
  | some p =>
    obtain ⟨f, a⟩ := p
    obtain ⟨d, v, q1, q2, q3, q4⟩ := h3
    exact ⟨d, v, q1, ⟨e.free q2.1 q3, q2.2⟩, e.keep _ _ q2.1 q3, q4.ext e⟩

/-- the outcome r, from ρ, H on: E is wished of exceptions, k of values -/
def Out (G : Gx) (E : XK) (ρ : List Addr) (H : Hp) {α : Type} (r : Res α) (k : α → Store → List Addr → Hp → Prop) : Prop :=
  match r with
  | .ok a S' => ∀ ρ' H', Ext ρ H ρ' H' → RS G ρ' H' S' → k a S' ρ' H'
  | .err x S' => ∀ ρ' H' cls dd, Ext ρ H ρ' H' → RS G ρ' H' S' → RX G ρ' H' x cls dd → E cls dd H'
  | .stuck => False
section
variable {G : Gx} {E E' : XK} {ρ ρ' : List Addr} {H H' : Hp} {α β : Type}
theorem Out.from (e : Ext ρ H ρ' H') {r : Res α} {k : α → Store → List Addr → Hp → Prop} (h : Out G E ρ H r k) : Out G E ρ' H' r k := by
  cases r with
  | ok a S => exact fun ρ2 H2 e2 s => h ρ2 H2 (e.trans e2) s
  | err x S => exact fun ρ2 H2 cls dd e2 s x => h ρ2 H2 cls dd (e.trans e2) s x
  | stuck => exact h
theorem Out.imp {r : Res α} {k k' : α → Store → List Addr → Hp → Prop} (h : Out G E ρ H r k) (hE : ∀ c d H, E c d H → E' c d H) (hk : ∀ a S ρ' H', Ext ρ H ρ' H' → RS G ρ' H' S → k a S ρ' H' → k' a S ρ' H') : Out G E' ρ H r k' := by
  cases r with
  | ok a S => exact fun ρ2 H2 e2 s => hk _ _ _ _ e2 s (h ρ2 H2 e2 s)
  | err x S => exact fun ρ2 H2 cls dd e2 s x => hE _ _ _ (h ρ2 H2 cls dd e2 s x)
  | stuck => exact h
theorem Out.bind {r : Res α} {g : α → Store → Res β} {k : β → Store → List Addr → Hp → Prop} (h : Out G E ρ H (r.bind g) k) :
    Out G E ρ H r fun a S' ρ' H' => Out G E ρ' H' (g a S') k := by
  cases r with
  | ok a S => exact fun ρ2 H2 e2 s => Out.from e2 h
  | err x S => exact h
  | stuck => exact h
end

/-! ### readings -/
section
variable (K : PySem.W.Frag) (mg : Str → Option Value) (G : Gx) (W : WX)
abbrev EE (σ : L2.St) : XK := fun c d H => W c d σ H
abbrev ES : XK := fun c d H => ∀ σ, W c d σ H
def tE (f : SE) : TE := fun σ H Q => ∃ η ρ env S, R3 ⟨K, mg, η⟩ ρ σ H env S ∧ Out ⟨K, mg, η⟩ (EE W σ) ρ H (f env S) fun d _ ρ' H' => ∀ v, RD ⟨K, mg, η⟩ ρ' H' d v → Q v H'
def tT (f : ST) : TT := fun σ H Q => ∃ η ρ env S, R3 ⟨K, mg, η⟩ ρ σ H env S ∧ Out ⟨K, mg, η⟩ (EE W σ) ρ H (f env S) fun b _ _ H' => Q b H'
def tA (f : SA) : TA := fun σ H Q => ∃ η ρ env S, R3 ⟨K, mg, η⟩ ρ σ H env S ∧ Out ⟨K, mg, η⟩ (EE W σ) ρ H (f env S) fun ds _ ρ' H' => ∀ vs, RDs ⟨K, mg, η⟩ ρ' H' ds vs → Q vs H'
def FloOk (D : Ends) (fl : Flo) (S : Store) (ρ : List Addr) (H : Hp) : Prop := match fl with
  | .nx env => ∀ σ, R3 G ρ σ H env S → D.nx σ H
  | .ret d => ∀ v, RD G ρ H d v → D.rt v H
  | .brk env => ∀ σ, R3 G ρ σ H env S → D.bk σ H
  | .ct env => ∀ σ, R3 G ρ σ H env S → D.ct σ H
def tS (g : SS) : TS := fun D σ H => ∃ η ρ env S, R3 ⟨K, mg, η⟩ ρ σ H env S ∧ Out ⟨K, mg, η⟩ (ES W) ρ H (g env S) (FloOk ⟨K, mg, η⟩ D)
/-- a target: the value's data, then env and store -/
abbrev SG := D → Env → Store → Res Env
def tG (f : SG) : TG := fun v σ H k => ∃ η ρ env S d, R3 ⟨K, mg, η⟩ ρ σ H env S ∧ RD ⟨K, mg, η⟩ ρ H d v ∧ Out ⟨K, mg, η⟩ (ES W) ρ H (f d env S) fun env' S' ρ' H' => ∀ σ', R3 ⟨K, mg, η⟩ ρ' σ' H' env' S' → k σ' H'
abbrev SGs := List D → Env → Store → Res Env
def tGs (f : SGs) : TGs := fun vs σ H k => ∃ η ρ env S ds, R3 ⟨K, mg, η⟩ ρ σ H env S ∧ RDs ⟨K, mg, η⟩ ρ H ds vs ∧ Out ⟨K, mg, η⟩ (ES W) ρ H (f ds env S) fun env' S' ρ' H' => ∀ σ', R3 ⟨K, mg, η⟩ ρ' σ' H' env' S' → k σ' H'
end

/-- the judgements -/
abbrev PEy (X : Cx) (W : WX) (e : Expr) (f : SE) : Prop := PE X e (tE X.K X.mg W f)
abbrev PTy (X : Cx) (W : WX) (e : Expr) (f : ST) : Prop := PT X e (tT X.K X.mg W f)
abbrev PWy (X : Cx) (W : WX) (e : Expr) (f : ST) : Prop := PW X e (tT X.K X.mg W f)
abbrev PAy (X : Cx) (W : WX) (es : List Expr) (f : SA) : Prop := PA X es (tA X.K X.mg W f)
abbrev PSy (X : Cx) (W : WX) (s : Stmt) (f : SS) : Prop := PS X s (tS X.K X.mg W f)
abbrev PSsy (X : Cx) (W : WX) (s : List Stmt) (f : SS) : Prop := PSs X s (tS X.K X.mg W f)
abbrev PGy (X : Cx) (W : WX) (e : Expr) (f : SG) : Prop := PG X e (tG X.K X.mg W f)
abbrev PGsy (X : Cx) (W : WX) (es : List Expr) (f : SGs) : Prop := PGs X es (tGs X.K X.mg W f)

section
variable {X : Cx} {W : WX} {K : PySem.W.Frag} {mg : Str → Option Value} {G : Gx}
theorem PE_imp {e : Expr} {t t' : TE} (h : PE X e t) (i : ∀ σ H Q, t' σ H Q → t σ H Q) : PE X e t' := ⟨fun pins s σ H Q I q => h.run pins s σ H Q I (i _ _ _ q)⟩
theorem PT_imp {e : Expr} {t t' : TT} (h : PT X e t) (i : ∀ σ H Q, t' σ H Q → t σ H Q) : PT X e t' := ⟨fun pins s σ H Q I q => h.run pins s σ H Q I (i _ _ _ q)⟩
theorem PW_imp {e : Expr} {t t' : TT} (h : PW X e t) (i : ∀ σ H Q, t' σ H Q → t σ H Q) : PW X e t' := ⟨fun w pins s σ H Q I q => h.run w pins s σ H Q I (i _ _ _ q)⟩
theorem PA_imp {es : List Expr} {t t' : TA} (h : PA X es t) (i : ∀ σ H Q, t' σ H Q → t σ H Q) : PA X es t' := ⟨fun pos pins s σ H Q I q => h.run pos pins s σ H Q I (i _ _ _ q)⟩
theorem PS_imp {s : Stmt} {t t' : TS} (h : PS X s t) (i : ∀ D σ H, t' D σ H → t D σ H) : PS X s t' := ⟨fun pins s σ H D I q => h.run pins s σ H D I (i _ _ _ q)⟩
theorem PSs_imp {s : List Stmt} {t t' : TS} (h : PSs X s t) (i : ∀ D σ H, t' D σ H → t D σ H) : PSs X s t' := ⟨fun pins s σ H D I q => h.run pins s σ H D I (i _ _ _ q)⟩
theorem PG_imp {e : Expr} {t t' : TG} (h : PG X e t) (i : ∀ v σ H Q, t' v σ H Q → t v σ H Q) : PG X e t' := ⟨fun pins s σ H v u Q I r q => h.run pins s σ H v u Q I r (i _ _ _ _ q)⟩
theorem PGs_imp {es : List Expr} {t t' : TGs} (h : PGs X es t) (i : ∀ v σ H Q, t' v σ H Q → t v σ H Q) : PGs X es t' := ⟨fun pins s σ H v u Q I r q => h.run pins s σ H v u Q I r (i _ _ _ _ q)⟩

/-- tE, tT, tA hand on: from the outcome of f then what follows -/
theorem tE_of {η : List Addr} {f : SE} {σ : L2.St} {H : Hp} {Q : VK} {ρ : List Addr} {env : Env} {S : Store} (r : R3 ⟨K, mg, η⟩ ρ σ H env S)
    (h : Out ⟨K, mg, η⟩ (EE W σ) ρ H (f env S) fun d S' ρ' H' => R3 ⟨K, mg, η⟩ ρ' σ H' env S' → Ext ρ H ρ' H' → ∀ v, RD ⟨K, mg, η⟩ ρ' H' d v → Q v H') : tE K mg W f σ H Q :=
  ⟨η, ρ, env, S, r, h.imp (fun _ _ _ x => x) fun d S' ρ' H' e s q v rd => q (r.ext e s) e v rd⟩
theorem tT_of {η : List Addr} {f : ST} {σ : L2.St} {H : Hp} {Q : Bool → Hp → Prop} {ρ : List Addr} {env : Env} {S : Store} (r : R3 ⟨K, mg, η⟩ ρ σ H env S)
    (h : Out ⟨K, mg, η⟩ (EE W σ) ρ H (f env S) fun b S' ρ' H' => R3 ⟨K, mg, η⟩ ρ' σ H' env S' → Ext ρ H ρ' H' → Q b H') : tT K mg W f σ H Q :=
  ⟨η, ρ, env, S, r, h.imp (fun _ _ _ x => x) fun d S' ρ' H' e s q => q (r.ext e s) e⟩
theorem tA_of {η : List Addr} {f : SA} {σ : L2.St} {H : Hp} {Q : List V → Hp → Prop} {ρ : List Addr} {env : Env} {S : Store} (r : R3 ⟨K, mg, η⟩ ρ σ H env S)
    (h : Out ⟨K, mg, η⟩ (EE W σ) ρ H (f env S) fun ds S' ρ' H' => R3 ⟨K, mg, η⟩ ρ' σ H' env S' → Ext ρ H ρ' H' → ∀ vs, RDs ⟨K, mg, η⟩ ρ' H' ds vs → Q vs H') : tA K mg W f σ H Q :=
  ⟨η, ρ, env, S, r, h.imp (fun _ _ _ x => x) fun d S' ρ' H' e s q v rd => q (r.ext e s) e v rd⟩
end

/-! ### names, constants -/
section
variable {X : Cx} {W : WX} {K : PySem.W.Frag} {mg : Str → Option Value} {G : Gx}
@[reducible] def sVar (i : Nat) : SE := fun env S => match env[i]? with
  | some (some d) => .ok d S
  | _ => .stuck
@[reducible] def sC (d : D) : SE := fun _ S => .ok d S
theorem py_var (i : Nat) {x : Str} {pos : Pos} (hN : X.N[i]? = some x := by rfl) (hv : Vis X.env.scope x := by first | exact Or.inl rfl | exact Or.inr (Or.inl rfl) | exact Or.inr (Or.inr rfl)) (hd : (x == ("__debug__" : Str)) = false := by decide)
    (hcd : (x == ("__classdict__" : Str)) = false := by decide) : PEy X W (.Name x pos) (sVar i) :=
  PE_imp (pe_var hN hv hd hcd) fun σ H Q ⟨η, ρ, env, S, r, o⟩ => by
    unfold sVar at o
    split at o
    · rename_i d e
      obtain ⟨v, h1, h2⟩ := r.sl i d e
      exact ⟨v, h1, o ρ H Ext.refl r.st v h2⟩
    · exact o.elim
theorem py_c {e : Expr} {d : D} {v : V} (h : PE X e (tC v)) (rd : ∀ η ρ H, RD ⟨X.K, X.mg, η⟩ ρ H d v) : PEy X W e (sC d) :=
  PE_imp h fun σ H Q ⟨η, ρ, env, S, r, o⟩ => o ρ H Ext.refl r.st v (rd η ρ H)
theorem py_int {i j pos} : PEy X W (.Constant (.int i) j pos) (sC (.int i)) := py_c pe_int fun _ _ _ => by unfold RD; rfl
theorem py_bl {b j pos} : PEy X W (.Constant (.bool b) j pos) (sC (.bl b)) := py_c pe_bl fun _ _ _ => by unfold RD; rfl
theorem py_non {j pos} : PEy X W (.Constant .none j pos) (sC .non) := py_c pe_non fun _ _ _ => by unfold RD; rfl
theorem py_str {x j pos} : PEy X W (.Constant (.str x) j pos) (sC (.str x)) := py_c pe_str fun _ _ _ => by unfold RD; rfl
/-- a module's constant -/
structure GC (X : Cx) (x : Str) (d : D) : Prop where
  ex : ∃ v u, X.mg x = some u ∧ RelV v u ∧ ∀ η ρ H, RD ⟨X.K, X.mg, η⟩ ρ H d v
theorem py_glob {x : Str} {d : D} {pos : Pos} (h : GC X x d) (hg : Gl X x := by rfl) (hd : (x == ("__debug__" : Str)) = false := by decide) : PEy X W (.Name x pos) (sC d) := by
  obtain ⟨v, u, h1, h2, h3⟩ := h
  exact py_c (pe_glob hg h1 h2 hd) h3
/-- a builtin type by its name, as a value -/
theorem py_ty {x : Str} {n : String} {pos : Pos} (hm : X.mg x = none) (hg : Gl X x := by rfl) (hv : bootBuiltins x = some (.type n) := by decide +kernel) (hn : x ≠ "__name__" := by decide) (hd : (x == ("__debug__" : Str)) = false := by decide) : PEy X W (.Name x pos) (sC (.ty n)) :=
  py_c (pe_bltn (v := .ty n) hg hm hv rfl hn hd) fun _ _ _ => by unfold RD; rfl
end

/-! ### operators -/
abbrev O1 := Store → D → Option D
abbrev O2 := Store → D → D → Option D
abbrev ON := Store → List D → Option D
def ofO (S : Store) : Option D → Res D
  | some d => .ok d S
  | none => .stuck
section
variable (K : PySem.W.Frag) (mg : Str → Option Value) (G : Gx)
/-- the data d stand behind the operation: k of it -/
def Gives (ρ : List Addr) (H : Hp) (S : Store) (d : D) (Q : VK) : Prop := ∀ H', Ext ρ H ρ H' → RS G ρ H' S → ∀ v, RD G ρ H' d v → Q v H'
def r2 (h : O2) : R2 := fun x y H Q => ∃ η ρ S dx dy d, RS ⟨K, mg, η⟩ ρ H S ∧ RD ⟨K, mg, η⟩ ρ H dx x ∧ RD ⟨K, mg, η⟩ ρ H dy y ∧ h S dx dy = some d ∧ Gives ⟨K, mg, η⟩ ρ H S d Q
def r1 (h : O1) : V → Hp → VK → Prop := fun x H Q => ∃ η ρ S dx d, RS ⟨K, mg, η⟩ ρ H S ∧ RD ⟨K, mg, η⟩ ρ H dx x ∧ h S dx = some d ∧ Gives ⟨K, mg, η⟩ ρ H S d Q
def rN (h : ON) : List V → Hp → VK → Prop := fun xs H Q => ∃ η ρ S ds d, RS ⟨K, mg, η⟩ ρ H S ∧ RDs ⟨K, mg, η⟩ ρ H ds xs ∧ h S ds = some d ∧ Gives ⟨K, mg, η⟩ ρ H S d Q
end
def sOp (h : O2) (f g : SE) : SE := fun env S => (f env S).bind fun x S1 => (g env S1).bind fun y S2 => ofO S2 (h S2 x y)
def sUn (h : O1) (f : SE) : SE := fun env S => (f env S).bind fun x S1 => ofO S1 (h S1 x)
def sFn (h : ON) (f : SA) : SE := fun env S => (f env S).bind fun xs S1 => ofO S1 (h S1 xs)
def sTest (f : SE) : ST := fun env S => (f env S).bind fun x S1 => match x with
  | .bl b => .ok b S1
  | _ => .stuck
section
variable {X : Cx} {W : WX} {K : PySem.W.Frag} {mg : Str → Option Value} {a b c : Expr} {f g : SE} {pos : Pos}
theorem Out.ofO {E : XK} {ρ : List Addr} {H : Hp} {S : Store} {o : Option D} {k : D → Store → List Addr → Hp → Prop} (h : Out G E ρ H (ofO S o) k) : ∃ d, o = some d ∧ ∀ ρ' H', Ext ρ H ρ' H' → RS G ρ' H' S → k d S ρ' H' := by
  cases o with
  | none => exact h.elim
  | some d => exact ⟨d, rfl, h⟩
theorem sOp_read {h : O2} {σ : L2.St} {H : Hp} {Q : VK} (q : tE K mg W (sOp h f g) σ H Q) : tOp (r2 K mg h) (tE K mg W f) (tE K mg W g) σ H Q := by
  obtain ⟨η, ρ, env, S, r, o⟩ := q
  refine tE_of r (o.bind.imp (fun _ _ _ x => x) fun x S1 ρ1 H1 e1 s1 o1 r1 _ v rv => ?_)
  refine tE_of r1 (o1.bind.imp (fun _ _ _ x => x) fun y S2 ρ2 H2 e2 s2 o2 r2 _ u ru => ?_)
  obtain ⟨d, ed, k⟩ := o2.ofO
  exact ⟨η, ρ2, S2, x, y, d, s2, rv.ext e2, ru, ed, fun H' e' s' w rw => k ρ2 H' e' s' w rw⟩
theorem sUn_read {h : O1} {σ : L2.St} {H : Hp} {Q : VK} (q : tE K mg W (sUn h f) σ H Q) : tUn (r1 K mg h) (tE K mg W f) σ H Q := by
  obtain ⟨η, ρ, env, S, r, o⟩ := q
  refine tE_of r (o.bind.imp (fun _ _ _ x => x) fun x S1 ρ1 H1 e1 s1 o1 r1 _ v rv => ?_)
  obtain ⟨d, ed, k⟩ := o1.ofO
  exact ⟨η, ρ1, S1, x, d, s1, rv, ed, fun H' e' s' w rw => k ρ1 H' e' s' w rw⟩
theorem sFn_read {h : ON} {fa : SA} {σ : L2.St} {H : Hp} {Q : VK} (q : tE K mg W (sFn h fa) σ H Q) : tCB (rN K mg h) (tA K mg W fa) σ H Q := by
  obtain ⟨η, ρ, env, S, r, o⟩ := q
  refine tA_of r (o.bind.imp (fun _ _ _ x => x) fun x S1 ρ1 H1 e1 s1 o1 r1 _ v rv => ?_)
  obtain ⟨d, ed, k⟩ := o1.ofO
  exact ⟨η, ρ1, S1, x, d, s1, rv, ed, fun H' e' s' w rw => k ρ1 H' e' s' w rw⟩
theorem sTest_read {σ : L2.St} {H : Hp} {Q : Bool → Hp → Prop} (q : tT K mg W (sTest f) σ H Q) : tE K mg W f σ H fun x H' => ∃ k, x = .bl k ∧ Q k H' := by
  obtain ⟨η, ρ, env, S, r, o⟩ := q
  refine tE_of r (o.bind.imp (fun _ _ _ x => x) fun x S1 ρ1 H1 e1 s1 o1 r1 _ v rv => ?_)
  cases x with
  | bl k =>
    unfold RD at rv
    exact ⟨k, rv, o1 ρ1 H1 Ext.refl s1⟩
  | _ => exact o1.elim
theorem py_op {op : Operator} {h : O2} (ho : OpR X (binaryOp op) (r2 X.K X.mg h)) (ha : PEy X W a f) (hb : PEy X W b g) : PEy X W (.BinOp a op b pos) (sOp h f g) := PE_imp (pe_op ho ha hb) fun _ _ _ => sOp_read
theorem py_un {op : UnaryOp} {h : O1} (ho : UnR X (unaryOp op) (r1 X.K X.mg h)) (ha : PEy X W a f) : PEy X W (.UnaryOp op a pos) (sUn h f) := PE_imp (pe_un ho ha) fun _ _ _ => sUn_read
theorem py_cmp {op : CmpOp} {h : O2} (ho : OpR X (compareOp op) (r2 X.K X.mg h)) (ha : PEy X W a f) (hb : PEy X W b g) (hm : behindInMarks op b = false) : PEy X W (.Compare a [op] [b] pos) (sOp h f g) := PE_imp (pe_cmpR ho ha hb hm) fun _ _ _ => sOp_read
theorem pty_cmp {op : CmpOp} {h : O2} (ho : OpR X (compareOp op) (r2 X.K X.mg h)) (ha : PEy X W a f) (hb : PEy X W b g) (hm : behindInMarks op b = false) : PTy X W (.Compare a [op] [b] pos) (sTest (sOp h f g)) :=
  PT_imp (pt_cmpR ho ha hb hm) fun σ H Q q => sOp_read (sTest_read q)
/-- a value that is a bool, as a test -/
theorem pty_val {e : Expr} (he : PEy X W e f) (hw : ∀ whole, isTrue e X.env whole = (do let v ← whole; standAt e.pos; holding [v] (truthy v)) := by intro _; rfl) : PTy X W e (sTest f) :=
  PT_imp (pt_val he hw) fun σ H Q q => sTest_read q
end
end Y

set_option maxHeartbeats 2000000
/-! Layer 3: connectives, displays, statements, loops, comprehensions. -/
namespace Y
open PySem PySem.Spec PyProof.Rows L2

/-! ### and, or, not, if-else, chains -/
def sAndT (f g : ST) : ST := fun env S => (f env S).bind fun b S1 => if b = true then g env S1 else .ok false S1
def sOrT (f g : ST) : ST := fun env S => (f env S).bind fun b S1 => if b = true then .ok true S1 else g env S1
def sNotT (f : ST) : ST := fun env S => (f env S).bind fun b S1 => .ok (!b) S1
def sAndV (f g : SE) : SE := fun env S => (f env S).bind fun x S1 => match x with
  | .bl true => g env S1
  | .bl false => .ok (.bl false) S1
  | _ => .stuck
def sOrV (f g : SE) : SE := fun env S => (f env S).bind fun x S1 => match x with
  | .bl true => .ok (.bl true) S1
  | .bl false => g env S1
  | _ => .stuck
def sNotV (f : ST) : SE := fun env S => (f env S).bind fun b S1 => .ok (.bl (!b)) S1
def sIfE (c : ST) (f g : SE) : SE := fun env S => (c env S).bind fun b S1 => if b = true then f env S1 else g env S1
def sChain (h h' : O2) (f g k : SE) : SE := fun env S => (f env S).bind fun x S1 => (g env S1).bind fun y S2 => (ofO S2 (h S2 x y)).bind fun z S3 => match z with
  | .bl true => (k env S3).bind fun u S4 => ofO S4 (h' S4 y u)
  | .bl false => .ok (.bl false) S3
  | _ => .stuck
section
variable {X : Cx} {W : WX} {K : PySem.W.Frag} {mg : Str → Option Value} {a b c : Expr} {f g k : SE} {tf tg : ST} {rest : List Expr} {pos : Pos}
theorem pwy_and1 (ha : PTy X W a tf) : PWy X W (.BoolOp .And [a] pos) tf := pw_and1 ha
theorem pwy_or1 (ha : PTy X W a tf) : PWy X W (.BoolOp .Or [a] pos) tf := pw_or1 ha
theorem pwy_and (ha : PTy X W a tf) (hb : PWy X W (.BoolOp .And (b :: rest) pos) tg) : PWy X W (.BoolOp .And (a :: b :: rest) pos) (sAndT tf tg) :=
  PW_imp (pw_and ha hb) fun σ H Q ⟨η, ρ, env, S, r, o⟩ => tT_of r (o.bind.imp (fun _ _ _ x => x) fun t S1 ρ1 H1 e1 s1 o1 r1 _ => by
    cases t with
    | true => exact ⟨η, ρ1, env, S1, r1, o1⟩
    | false => exact o1 ρ1 H1 Ext.refl s1)
theorem pwy_or (ha : PTy X W a tf) (hb : PWy X W (.BoolOp .Or (b :: rest) pos) tg) : PWy X W (.BoolOp .Or (a :: b :: rest) pos) (sOrT tf tg) :=
  PW_imp (pw_or ha hb) fun σ H Q ⟨η, ρ, env, S, r, o⟩ => tT_of r (o.bind.imp (fun _ _ _ x => x) fun t S1 ρ1 H1 e1 s1 o1 r1 _ => by
    cases t with
    | true => exact o1 ρ1 H1 Ext.refl s1
    | false => exact ⟨η, ρ1, env, S1, r1, o1⟩)
theorem pty_bool (h : PWy X W a tf) : PTy X W a tf := h.pt
theorem pty_not (ha : PTy X W a tf) : PTy X W (.UnaryOp .Not a pos) (sNotT tf) :=
  PT_imp (pt_not ha) fun σ H Q ⟨η, ρ, env, S, r, o⟩ => tT_of r (o.bind.imp (fun _ _ _ x => x) fun t S1 ρ1 H1 e1 s1 o1 r1 _ => o1 ρ1 H1 Ext.refl s1)
theorem py_one {op} (h : PEy X W a f) : PEy X W (.BoolOp op [a] pos) f := pe_one h
theorem bl_inv {G : Gx} {ρ : List Addr} {H : Hp} {b : Bool} {v : V} (h : RD G ρ H (.bl b) v) : v = .bl b := by unfold RD at h; exact h
theorem bl_mk {G : Gx} {ρ : List Addr} {H : Hp} {b : Bool} : RD G ρ H (.bl b) (.bl b) := by unfold RD; rfl
theorem py_and (ha : PEy X W a f) (hb : PEy X W (.BoolOp .And (b :: rest) pos) g) : PEy X W (.BoolOp .And (a :: b :: rest) pos) (sAndV f g) :=
  PE_imp (pe_and ha hb) fun σ H Q ⟨η, ρ, env, S, r, o⟩ => tE_of r (o.bind.imp (fun _ _ _ x => x) fun x S1 ρ1 H1 e1 s1 o1 r1 _ v rv => by
    cases x with
    | bl t =>
      refine ⟨t, bl_inv rv, ?_⟩
      cases t with
      | true => exact ⟨η, ρ1, env, S1, r1, o1⟩
      | false => exact o1 ρ1 H1 Ext.refl s1 _ bl_mk
    | _ => exact o1.elim)
theorem py_or (ha : PEy X W a f) (hb : PEy X W (.BoolOp .Or (b :: rest) pos) g) : PEy X W (.BoolOp .Or (a :: b :: rest) pos) (sOrV f g) :=
  PE_imp (pe_or ha hb) fun σ H Q ⟨η, ρ, env, S, r, o⟩ => tE_of r (o.bind.imp (fun _ _ _ x => x) fun x S1 ρ1 H1 e1 s1 o1 r1 _ v rv => by
    cases x with
    | bl t =>
      refine ⟨t, bl_inv rv, ?_⟩
      cases t with
      | true => exact o1 ρ1 H1 Ext.refl s1 _ bl_mk
      | false => exact ⟨η, ρ1, env, S1, r1, o1⟩
    | _ => exact o1.elim)
theorem py_not (ha : PEy X W a f) : PEy X W (.UnaryOp .Not a pos) (sNotV (sTest f)) :=
  PE_imp (pe_not ha) fun σ H Q ⟨η, ρ, env, S, r, o⟩ => sTest_read ⟨η, ρ, env, S, r, o.bind.imp (fun _ _ _ x => x) fun t S1 ρ1 H1 e1 s1 o1 => o1 ρ1 H1 Ext.refl s1 _ bl_mk⟩
theorem py_ifE (hc : PTy X W c tf) (ha : PEy X W a f) (hb : PEy X W b g) : PEy X W (.IfExp c a b pos) (sIfE tf f g) :=
  PE_imp (pe_ifExp hc ha hb) fun σ H Q ⟨η, ρ, env, S, r, o⟩ => tT_of r (o.bind.imp (fun _ _ _ x => x) fun t S1 ρ1 H1 e1 s1 o1 r1 _ => by
    cases t with
    | true => exact ⟨η, ρ1, env, S1, r1, o1⟩
    | false => exact ⟨η, ρ1, env, S1, r1, o1⟩)
theorem sChain_read {h h' : O2} {σ : L2.St} {H : Hp} {Q : VK} (q : tE K mg W (sChain h h' f g k) σ H Q) : tChain (r2 K mg h) (r2 K mg h') (tE K mg W f) (tE K mg W g) (tE K mg W k) σ H Q := by
  obtain ⟨η, ρ, env, S, r, o⟩ := q
  refine tE_of r (o.bind.imp (fun _ _ _ x => x) fun x S1 ρ1 H1 e1 s1 o1 r1 _ v rv => ?_)
  refine tE_of r1 (o1.bind.imp (fun _ _ _ x => x) fun y S2 ρ2 H2 e2 s2 o2 r2 _ u ru => ?_)
  obtain ⟨d, ed, k1⟩ := o2.bind.ofO
  refine ⟨η, ρ2, S2, x, y, d, s2, rv.ext e2, ru, ed, fun H3 e3 s3 z rz => ?_⟩
  have o3 := k1 ρ2 H3 e3 s3
  have r3 := r2.ext e3 s3
  cases d with
  | bl t =>
    refine ⟨t, bl_inv rz, ?_⟩
    cases t with
    | true =>
      refine tE_of r3 (o3.bind.imp (fun _ _ _ x => x) fun u' S4 ρ4 H4 e4 s4 o4 r4 _ v4 rv4 => ?_)
      obtain ⟨d4, ed4, k4⟩ := o4.ofO
      exact ⟨η, ρ4, S4, y, u', d4, s4, (ru.ext e3).ext e4, rv4, ed4, fun H' e' s' w rw => k4 ρ4 H' e' s' w rw⟩
    | false => exact o3 ρ2 H3 Ext.refl s3 _ bl_mk
  | _ => exact o3.elim
theorem py_chain {op op' : CmpOp} {h h' : O2} (ho : OpR X (compareOp op) (r2 X.K X.mg h)) (ho' : OpR X (compareOp op') (r2 X.K X.mg h')) (ha : PEy X W a f) (hb : PEy X W b g) (hc : PEy X W c k)
    (hm : lastMarks [op, op'] [b, c] = false := by with_unfolding_all rfl) : PEy X W (.Compare a [op, op'] [b, c] pos) (sChain h h' f g k) := PE_imp (pe_chain ho ho' ha hb hc hm) fun _ _ _ => sChain_read
theorem pty_chain {op op' : CmpOp} {h h' : O2} (ho : OpR X (compareOp op) (r2 X.K X.mg h)) (ho' : OpR X (compareOp op') (r2 X.K X.mg h')) (ha : PEy X W a f) (hb : PEy X W b g) (hc : PEy X W c k)
    (hm : lastMarks [op, op'] [b, c] = false := by with_unfolding_all rfl) : PTy X W (.Compare a [op, op'] [b, c] pos) (sTest (sChain h h' f g k)) :=
  PT_imp (pt_chain ho ho' ha hb hc hm) fun σ H Q q => sChain_read (sTest_read q)
end

/-! ### arguments, displays -/
def sNil : SA := fun _ S => .ok [] S
def sCons (f : SE) (g : SA) : SA := fun env S => (f env S).bind fun x S1 => (g env S1).bind fun xs S2 => .ok (x :: xs) S2
/-- the items of a tuple, of a list -/
def itemsOf (S : Store) : D → Option (List D)
  | .tup xs => some xs
  | .lst xs => some xs
  | .ref i => match S[i]? with
    | some (.lst xs) => some xs
    | _ => none
  | _ => none
def sStar (f : SE) (g : SA) : SA := fun env S => (f env S).bind fun x S1 => match itemsOf S1 x with
  | some xs => (g env S1).bind fun ys S2 => .ok (xs ++ ys) S2
  | none => .stuck
def sTup (f : SA) : SE := fun env S => (f env S).bind fun xs S1 => if xs.length ≤ 1000000 then .ok (.tup xs) S1 else .stuck
def sLst (f : SA) : SE := fun env S => (f env S).bind fun xs S1 => if xs.length ≤ 1000000 then .ok (.lst xs) S1 else .stuck
/-- a list that will be changed -/
def sNew (f : SA) : SE := fun env S => (f env S).bind fun xs S1 => if xs.length ≤ 1000000 then .ok (.ref S1.length) (S1 ++ [.lst xs]) else .stuck
def sNewD : SE := fun _ S => .ok (.ref S.length) (S ++ [.dict [] []])
def sDict0 : SE := fun _ S => .ok (.dict [] []) S
theorem line_of {n : Nat} (h : n ≤ 1000000) : n ≤ sizeLine := by rw [sizeLine_eq]; omega
section
variable {X : Cx} {W : WX} {K : PySem.W.Frag} {mg : Str → Option Value} {e : Expr} {es : List Expr} {f : SE} {g : SA} {pos : Pos}
theorem pay_nil : PAy X W [] sNil := PA_imp pa_nil fun σ H Q ⟨η, ρ, env, S, r, o⟩ => o ρ H Ext.refl r.st [] .nil
theorem pay_cons (ha : PEy X W e f) (hr : PAy X W es g) (hs : starEach (e :: es) X.env = (false, eval e X.env) :: starEach es X.env := by rfl) : PAy X W (e :: es) (sCons f g) :=
  PA_imp (pa_cons ha hr hs) fun σ H Q ⟨η, ρ, env, S, r, o⟩ => tE_of r (o.bind.imp (fun _ _ _ x => x) fun x S1 ρ1 H1 e1 s1 o1 r1 _ v rv =>
    tA_of r1 (o1.bind.imp (fun _ _ _ x => x) fun xs S2 ρ2 H2 e2 s2 o2 r2 x2 vs rvs => o2 ρ2 H2 Ext.refl s2 _ (.cons (rv.ext x2) rvs)))
theorem ref_fresh {ρ : List Addr} {H : Hp} {S : Store} {p : Addr} (s : RS G ρ H S) (hp : H p = none) : p ∉ ρ ∧ p ∉ G.hid := by
  constructor
  · intro z
    obtain ⟨o, q⟩ := s.there z
    rw [hp] at q; cases q
  · intro z
    obtain ⟨o, q⟩ := s.hid _ z
    rw [hp] at q; cases q
theorem py_tup {x1} (h : PAy X W es g) : PEy X W (.Tuple es x1 pos) (sTup g) :=
  PE_imp (pe_tup h) fun σ H Q ⟨η, ρ, env, S, r, o⟩ => tA_of r (o.bind.imp (fun _ _ _ x => x) fun xs S1 ρ1 H1 e1 s1 o1 r1 _ vs rv => by
    split at o1
    · rename_i hl
      rw [RDs.len rv] at hl
      refine ⟨line_of hl, fun p hp => o1 ρ1 _ (Ext.new hp) (s1.new hp) _ ?_⟩
      unfold RD
      exact ⟨p, vs, rfl, .inl ⟨.inl upd_same, ref_fresh s1 hp⟩, rv.ext (Ext.new hp)⟩
    · exact o1.elim)
theorem py_lst (h : PAy X W es g) : PEy X W (.List es pos) (sLst g) :=
  PE_imp (pe_lst h) fun σ H Q ⟨η, ρ, env, S, r, o⟩ => tA_of r (o.bind.imp (fun _ _ _ x => x) fun xs S1 ρ1 H1 e1 s1 o1 r1 _ vs rv => by
    split at o1
    · rename_i hl
      rw [RDs.len rv] at hl
      refine ⟨line_of hl, fun p hp => o1 ρ1 _ (Ext.new hp) (s1.new hp) _ ?_⟩
      unfold RD
      exact ⟨p, vs, rfl, ⟨upd_same, ref_fresh s1 hp⟩, rv.ext (Ext.new hp)⟩
    · exact o1.elim)
theorem RD.newcell {ρ : List Addr} {H : Hp} {S : Store} {p : Addr} (s : RS G ρ H S) : RD G (ρ ++ [p]) H (.ref S.length) (.ref p) := by
  unfold RD
  exact ⟨p, rfl, by rw [← s.len, List.getElem?_append_right (Nat.le_refl _), Nat.sub_self]; rfl⟩
theorem py_new (h : PAy X W es g) : PEy X W (.List es pos) (sNew g) :=
  PE_imp (pe_lst h) fun σ H Q ⟨η, ρ, env, S, r, o⟩ => tA_of r (o.bind.imp (fun _ _ _ x => x) fun xs S1 ρ1 H1 e1 s1 o1 r1 _ vs rv => by
    split at o1
    · rename_i hl
      rw [RDs.len rv] at hl
      refine ⟨line_of hl, fun p hp => o1 (ρ1 ++ [p]) _ (Ext.cell hp) (s1.alloc hp ⟨vs, upd_same, rv.ext (Ext.cell hp)⟩) _ ?_⟩
      have := RD.newcell (p := p) (s1.new (o := .lst vs) hp)
      exact this
    · exact o1.elim)
end
end Y

set_option maxHeartbeats 2000000
/-! Layer 4: targets, statements, loops. -/
namespace Y
open PySem PySem.Spec PyProof.Rows L2

/-! ### targets -/
/-- only the slots js differ -/
structure But (js : List Nat) (σ σ' : L2.St) : Prop where
  len : σ'.length = σ.length
  els : ∀ i, i ∉ js → σ'[i]? = σ[i]?
theorem But.refl {js : List Nat} {σ : L2.St} : But js σ σ := ⟨rfl, fun _ _ => rfl⟩
theorem But.trans {js ks : List Nat} {σ σ' σ'' : L2.St} (a : But js σ σ') (b : But ks σ' σ'') : But (js ++ ks) σ σ'' :=
  ⟨b.len.trans a.len, fun i h => (b.els i fun z => h (List.mem_append_right _ z)).trans (a.els i fun z => h (List.mem_append_left _ z))⟩
theorem But.set {i : Nat} {σ : L2.St} {v : Option V} : But [i] σ (σ.set i v) := ⟨by simp, fun j h => by rw [List.getElem?_set_ne (fun e => h (by simp [e]))]⟩
theorem wipe_at {σ : L2.St} {i : Nat} : ∀ {vs : List Nat}, (L2.wipe σ vs)[i]? = if i ∈ vs ∧ i < σ.length then some none else σ[i]?
  | [] => by simp [L2.wipe]
  | v :: vs => by
    unfold L2.wipe
    by_cases hv : v = i
    · subst hv
      by_cases hl : v < σ.length
      · rw [List.getElem?_set_self (by rw [L2.wipe_length]; exact hl), if_pos ⟨List.mem_cons_self, hl⟩]
      · rw [if_neg fun z => hl z.2, List.getElem?_eq_none_iff.mpr (by rw [List.length_set, L2.wipe_length]; omega), List.getElem?_eq_none_iff.mpr (by omega)]
    · rw [List.getElem?_set_ne hv, wipe_at]
      by_cases hm : i ∈ vs ∧ i < σ.length
      · rw [if_pos hm, if_pos ⟨List.mem_cons_of_mem _ hm.1, hm.2⟩]
      · rw [if_neg hm, if_neg fun z => hm ⟨(List.mem_cons.mp z.1).resolve_left (Ne.symm hv), z.2⟩]
theorem But.wipe {js vs : List Nat} {σ σ' : L2.St} (b : But js (L2.wipe σ vs) σ') (h : ∀ j ∈ js, j ∈ vs) : L2.wipe σ' vs = L2.wipe σ vs := by
  apply List.ext_getElem?
  intro i
  rw [wipe_at, wipe_at, b.len, L2.wipe_length]
  by_cases hi : i ∈ vs ∧ i < σ.length
  · rw [if_pos hi, if_pos hi]
  · rw [if_neg hi, if_neg hi]
    by_cases hv : i ∈ vs
    · have hl : ¬ i < σ.length := fun z => hi ⟨hv, z⟩
      rw [List.getElem?_eq_none_iff.mpr (by rw [b.len, L2.wipe_length]; omega), List.getElem?_eq_none_iff.mpr (by omega)]
    · rw [b.els i fun z => hv (h i z), wipe_at, if_neg fun z => hv z.1]

section
variable (K : PySem.W.Frag) (mg : Str → Option Value) (W : WX)
def tGj (js : List Nat) (f : SG) : TG := fun v σ H k => ∃ η ρ env S d, R3 ⟨K, mg, η⟩ ρ σ H env S ∧ RD ⟨K, mg, η⟩ ρ H d v ∧ Out ⟨K, mg, η⟩ (ES W) ρ H (f d env S) fun env' S' ρ' H' => ∀ σ', R3 ⟨K, mg, η⟩ ρ' σ' H' env' S' → But js σ σ' → k σ' H'
def tGsj (js : List Nat) (f : SGs) : TGs := fun vs σ H k => ∃ η ρ env S ds, R3 ⟨K, mg, η⟩ ρ σ H env S ∧ RDs ⟨K, mg, η⟩ ρ H ds vs ∧ Out ⟨K, mg, η⟩ (ES W) ρ H (f ds env S) fun env' S' ρ' H' => ∀ σ', R3 ⟨K, mg, η⟩ ρ' σ' H' env' S' → But js σ σ' → k σ' H'
end
abbrev PGj (X : Cx) (W : WX) (e : Expr) (js : List Nat) (f : SG) : Prop := PG X e (tGj X.K X.mg W js f)
abbrev PGsj (X : Cx) (W : WX) (es : List Expr) (js : List Nat) (f : SGs) : Prop := PGs X es (tGsj X.K X.mg W js f)
def gNm (i : Nat) : SG := fun d env S => .ok (env.set i (some d)) S
def gTp (n : Nat) (f : SGs) : SG := fun d env S => match d with
  | .tup xs => if xs.length = n then f xs env S else .stuck
  | _ => .stuck
def gsNil : SGs := fun ds env S => match ds with
  | [] => .ok env S
  | _ => .stuck
def gsCons (f : SG) (g : SGs) : SGs := fun ds env S => match ds with
  | d :: r => (f d env S).bind fun env1 S1 => g r env1 S1
  | [] => .stuck
section
variable {X : Cx} {W : WX} {K : PySem.W.Frag} {mg : Str → Option Value} {pos : Pos}
theorem pgy_name {i : Nat} {x : Str} (G : Gd X W) (hi : X.N[i]? = some x := by rfl) (hx : Loc X.env.scope x := by first | exact Or.inl rfl | exact Or.inr rfl) (hf : X.fn x = true ∨ X.env.scope.names.lookup x = some .local := by first | exact .inl rfl | exact .inr rfl) : PGj X W (.Name x pos) [i] (gNm i) :=
  PG_imp (pg_name G.nd hi hx hf) fun v σ H k ⟨η, ρ, env, S, d, r, rd, o⟩ => o ρ H Ext.refl r.st _ (r.set i rd) But.set
theorem pgsy_nil : PGsj X W [] [] gsNil := PGs_imp pgs_nil fun vs σ H k ⟨η, ρ, env, S, ds, r, rd, o⟩ => by
  cases ds with
  | nil => exact ⟨rd.nil_inv, o ρ H Ext.refl r.st _ r But.refl⟩
  | cons _ _ => exact o.elim
theorem pgsy_cons {e : Expr} {es : List Expr} {js ks : List Nat} {f : SG} {g : SGs} (h1 : PGj X W e js f) (h2 : PGsj X W es ks g)
    (hs : (assignEach (e :: es) X.env).map (·.2) = assign e X.env :: (assignEach es X.env).map (·.2) := by rfl) : PGsj X W (e :: es) (js ++ ks) (gsCons f g) :=
  PGs_imp (pgs_cons h1 h2 hs) fun vs σ H k ⟨η, ρ, env, S, ds, r, rd, o⟩ => by
    cases ds with
    | nil => exact o.elim
    | cons d ds =>
      obtain ⟨v, vr, rfl, rd1, rd2⟩ := rd.cons_inv
      refine ⟨v, vr, rfl, η, ρ, env, S, d, r, rd1, (Out.bind o).imp (fun _ _ _ x => x) fun env1 S1 ρ1 H1 e1 s1 o1 σ1 r1 b1 => ?_⟩
      exact ⟨η, ρ1, env1, S1, ds, r1, rd2.ext e1, o1.imp (fun _ _ _ x => x) fun env2 S2 ρ2 H2 e2 s2 q σ2 r2 b2 => q σ2 r2 (b1.trans b2)⟩
theorem TupAt.sq {G : Gx} {ρ : List Addr} {H : Hp} {a : Addr} {vs : List V} (h : TupAt G ρ H a vs) : SqT G.K H a vs := by
  rcases h with ⟨h, _⟩ | h
  · exact .inl h
  · exact .inr h
theorem pgy_tup {es : List Expr} {m n : Nat} {js : List Nat} {f : SGs} (G : Gd X W) (h : PGsj X W es js f)
    (hn : (assignEach es X.env).length = n := by rfl) (hst : (assignEach es X.env).findIdx? (·.1) = none := by rfl) : PGj X W (.Tuple es m pos) js (gTp n f) :=
  PG_imp (pg_tup G.calm h hn hst) fun v σ H k ⟨η, ρ, env, S, d, r, rd, o⟩ => by
    cases d with
    | tup xs =>
      unfold RD at rd
      obtain ⟨a, vs, e1, e2, e3⟩ := rd
      have o' : Out ⟨X.K, X.mg, η⟩ (ES W) ρ H (if xs.length = n then f xs env S else .stuck) _ := o
      split at o'
      · rename_i hl
        exact ⟨a, vs, e1, e2.sq, by rw [← RDs.len e3]; exact hl, η, ρ, env, S, xs, r, e3, o'⟩
      · exact o'.elim
    | _ => exact o.elim
end

/-! ### statements -/
def sSeq (f g : SS) : SS := fun env S => (f env S).bind fun fl S1 => match fl with
  | .nx env1 => g env1 S1
  | fl => .ok fl S1
def sSkip : SS := fun env S => .ok (.nx env) S
def sBrk : SS := fun env S => .ok (.brk env) S
def sCnt : SS := fun env S => .ok (.ct env) S
def sDrop (f : SE) : SS := fun env S => (f env S).bind fun _ S1 => .ok (.nx env) S1
def sRet (f : SE) : SS := fun env S => (f env S).bind fun d S1 => .ok (.ret d) S1
def sRetN : SS := fun env S => .ok (.ret .non) S
def sIf (c : ST) (f g : SS) : SS := fun env S => (c env S).bind fun b S1 => if b = true then f env S1 else g env S1
def sAsg (f : SE) (g : SG) : SS := fun env S => (f env S).bind fun d S1 => (g d env S1).bind fun env1 S2 => .ok (.nx env1) S2
def sPar (i j : Nat) (f : SA) : SS := fun env S => (f env S).bind fun ds S1 => match ds with
  | [x, y] => .ok (.nx ((env.set i (some x)).set j (some y))) S1
  | _ => .stuck
def sStuck : SS := fun _ _ => .stuck
def sStuckE : SE := fun _ _ => .stuck
section
variable {X : Cx} {W : WX} {K : PySem.W.Frag} {mg : Str → Option Value} {st : Stmt} {rest : List Stmt} {e : Expr} {f g : SS} {fe : SE} {c : ST} {pos : Pos}
theorem FloOk.imp {D D' : Ends} {fl : Flo} {S : Store} {ρ : List Addr} {H : Hp} (h : FloOk G D fl S ρ H) (h1 : ∀ σ, D.nx σ H → D'.nx σ H) (h2 : ∀ v, D.rt v H → D'.rt v H) (h3 : ∀ σ, D.bk σ H → D'.bk σ H) (h4 : ∀ σ, D.ct σ H → D'.ct σ H) : FloOk G D' fl S ρ H := by
  cases fl with
  | nx env => exact fun σ r => h1 σ (h σ r)
  | ret d => exact fun v r => h2 v (h v r)
  | brk env => exact fun σ r => h3 σ (h σ r)
  | ct env => exact fun σ r => h4 σ (h σ r)
theorem pssy_nil : PSsy X W [] sSkip := PSs_imp pss_nil fun D σ H ⟨η, ρ, env, S, r, o⟩ => o ρ H Ext.refl r.st σ r
theorem seq_read {D : Ends} {σ : L2.St} {H : Hp} (h : tS K mg W (sSeq f g) D σ H) : tS K mg W f { D with nx := tS K mg W g D } σ H := by
  obtain ⟨η, ρ, env, S, r, o⟩ := h
  refine ⟨η, ρ, env, S, r, (Out.bind o).imp (fun _ _ _ x => x) fun fl S1 ρ1 H1 e1 s1 o1 => ?_⟩
  cases fl with
  | nx env1 => exact fun σ1 r1 => ⟨η, ρ1, env1, S1, r1, o1⟩
  | ret d => exact o1 ρ1 H1 Ext.refl s1
  | brk env1 => exact o1 ρ1 H1 Ext.refl s1
  | ct env1 => exact o1 ρ1 H1 Ext.refl s1
theorem pssy_cons (h1 : PSy X W st f) (h2 : PSsy X W rest g) : PSsy X W (st :: rest) (sSeq f g) := PSs_imp (pss_cons h1 h2) fun D σ H h => seq_read h
theorem pssy_one (h1 : PSy X W st f) : PSsy X W [st] f := pss_one h1
theorem psy_pass : PSy X W (.Pass pos) sSkip := PS_imp ps_pass fun D σ H ⟨η, ρ, env, S, r, o⟩ => o ρ H Ext.refl r.st σ r
theorem psy_break : PSy X W (.Break pos) sBrk := PS_imp ps_break fun D σ H ⟨η, ρ, env, S, r, o⟩ => o ρ H Ext.refl r.st σ r
theorem psy_cont : PSy X W (.Continue pos) sCnt := PS_imp ps_continue fun D σ H ⟨η, ρ, env, S, r, o⟩ => o ρ H Ext.refl r.st σ r
theorem psy_stuck : PSy X W st sStuck := ⟨fun _ _ _ _ _ _ ⟨_, _, _, _, _, o⟩ => o.elim⟩
theorem pssy_stuck : PSsy X W rest sStuck := ⟨fun _ _ _ _ _ _ ⟨_, _, _, _, _, o⟩ => o.elim⟩
theorem py_stuck : PEy X W e sStuckE := ⟨fun _ _ _ _ _ _ ⟨_, _, _, _, _, o⟩ => o.elim⟩
theorem ES_EE {E : XK} {σ : L2.St} (h : ∀ c d H, ES W c d H → E c d H) : True := trivial
theorem psy_expr (he : PEy X W e fe) (hs : swapsWith e none pos.line X.env = pure false := by rfl) : PSy X W (.Expr e pos) (sDrop fe) :=
  PS_imp (ps_expr he hs) fun D σ H ⟨η, ρ, env, S, r, o⟩ => tE_of r ((Out.bind o).imp (fun _ _ _ x => x σ) fun d S1 ρ1 H1 e1 s1 o1 r1 _ v rv => o1 ρ1 H1 Ext.refl s1 σ r1)
theorem psy_ret (he : PEy X W e fe) : PSy X W (.Return (some e) pos) (sRet fe) :=
  PS_imp (ps_ret he) fun D σ H ⟨η, ρ, env, S, r, o⟩ => tE_of r ((Out.bind o).imp (fun _ _ _ x => x σ) fun d S1 ρ1 H1 e1 s1 o1 r1 _ v rv => o1 ρ1 H1 Ext.refl s1 v rv)
theorem psy_retN : PSy X W (.Return none pos) sRetN := PS_imp ps_retN fun D σ H ⟨η, ρ, env, S, r, o⟩ => o ρ H Ext.refl r.st .non (by unfold RD; rfl)
theorem psy_if {ce : Expr} {a b : List Stmt} (hc : PTy X W ce c) (ha : PSsy X W a f) (hb : PSsy X W b g) : PSy X W (.If ce a b pos) (sIf c f g) :=
  PS_imp (ps_if hc ha hb) fun D σ H ⟨η, ρ, env, S, r, o⟩ => tT_of r ((Out.bind o).imp (fun _ _ _ x => x σ) fun t S1 ρ1 H1 e1 s1 o1 r1 _ => by
    cases t with
    | true => exact ⟨η, ρ1, env, S1, r1, o1⟩
    | false => exact ⟨η, ρ1, env, S1, r1, o1⟩)
theorem asg_read {js : List Nat} {gt : SG} {D : Ends} {σ : L2.St} {H : Hp} (h : tS K mg W (sAsg fe gt) D σ H) : tE K mg W fe σ H fun x H1 => tGj K mg W js gt x σ H1 D.nx := by
  obtain ⟨η, ρ, env, S, r, o⟩ := h
  refine tE_of r ((Out.bind o).imp (fun _ _ _ x => x σ) fun d S1 ρ1 H1 e1 s1 o1 r1 _ v rv => ?_)
  exact ⟨η, ρ1, env, S1, d, r1, rv, (Out.bind o1).imp (fun _ _ _ x => x) fun env2 S2 ρ2 H2 e2 s2 o2 σ2 r2 _ => o2 ρ2 H2 Ext.refl s2 σ2 r2⟩
theorem psy_asg {tg : Expr} {js : List Nat} {gt : SG} (he : PEy X W e fe) (hg : PGj X W tg js gt) (hs : swapsWithSole [tg] e pos.line X.env = pure false := by rfl) (hw : swappedStores [tg] e X.env = pure none := by rfl)
    (h1 : (assignEach [tg] X.env).map (·.2) = [assign tg X.env] := by rfl) : PSy X W (.Assign [tg] e pos) (sAsg fe gt) := PS_imp (ps_asg he hg hs hw h1) fun D σ H h => asg_read h
theorem set_read {i : Nat} {D : Ends} {σ : L2.St} {H : Hp} (h : tS K mg W (sAsg fe (gNm i)) D σ H) : tE K mg W fe σ H fun x H1 => gName i x σ H1 D.nx := by
  obtain ⟨η, ρ, env, S, r, o⟩ := h
  refine tE_of r ((Out.bind o).imp (fun _ _ _ x => x σ) fun d S1 ρ1 H1 e1 s1 o1 r1 _ v rv => ?_)
  exact o1 ρ1 H1 Ext.refl s1 _ (r1.set i rv)
theorem psy_set {i : Nat} {x : Str} {pos' : Pos} (G : Gd X W) (he : PEy X W e fe) (hi : X.N[i]? = some x := by rfl) (hx : Loc X.env.scope x := by first | exact Or.inl rfl | exact Or.inr rfl) (hs : swapsWith e (some (.Name x pos')) pos.line X.env = pure false := by rfl)
    (hf : X.fn x = true ∨ X.env.scope.names.lookup x = some .local := by first | exact .inl rfl | exact .inr rfl) : PSy X W (.Assign [.Name x pos'] e pos) (sAsg fe (gNm i)) :=
  PS_imp (ps_set G.nd hi hx he hs hf) fun D σ H h => set_read h
theorem psy_par {i j : Nat} {x y : Str} {a b : Expr} {fa : SA} {px py pt : Pos} {kt k2 pt2} (G : Gd X W) (ha : PAy X W [a, b] fa) (hi : X.N[i]? = some x := by rfl) (hj : X.N[j]? = some y := by rfl) (hij : i ≠ j := by decide)
    (hx : X.env.scope.names.lookup x = some .local := by rfl) (hy : X.env.scope.names.lookup y = some .local := by rfl)
    (hw : swappedStores [.Tuple [.Name x px, .Name y py] kt pt] (.Tuple [a, b] k2 pt2) X.env = pure (some [x, y]) := by rfl)
    (hs : swapsWithSole [.Tuple [.Name x px, .Name y py] kt pt] (.Tuple [a, b] k2 pt2) pos.line X.env = pure false := by rfl) :
    PSy X W (.Assign [.Tuple [.Name x px, .Name y py] kt pt] (.Tuple [a, b] k2 pt2) pos) (sPar i j fa) :=
  PS_imp (ps_par G.calm G.nd hi hj hij hx hy ha hw hs) fun D σ H ⟨η, ρ, env, S, r, o⟩ => tA_of r ((Out.bind o).imp (fun _ _ _ x => x σ) fun ds S1 ρ1 H1 e1 s1 o1 r1 _ vs rv => by
    match ds, rv, o1 with
    | [x, y], rv, o1 =>
      obtain ⟨v, vs', rfl, rx, rv⟩ := rv.cons_inv
      obtain ⟨w, vs', rfl, ry, rv⟩ := rv.cons_inv
      rw [rv.nil_inv]
      exact ⟨v, w, rfl, o1 ρ1 H1 Ext.refl s1 _ ((r1.set i rx).set j ry)⟩
    | [], _, o1 => exact o1.elim
    | [_], _, o1 => exact o1.elim
    | _ :: _ :: _ :: _, _, o1 => exact o1.elim)
end

/-! ### while -/
def wloop (c : ST) (b : SS) : Nat → SS
  | 0 => fun _ _ => .stuck
  | n + 1 => fun env S => (c env S).bind fun t S1 => if t = true then (b env S1).bind fun fl S2 => match fl with
      | .nx env' => wloop c b n env' S2
      | .ct env' => wloop c b n env' S2
      | .brk env' => .ok (.nx env') S2
      | .ret d => .ok (.ret d) S2
    else .ok (.nx env) S1
def sWhile (n : Nat) (c : ST) (b : SS) : SS := wloop c b n
section
variable {X : Cx} {W : WX} {K : PySem.W.Frag} {mg : Str → Option Value} {ce : Expr} {body : List Stmt} {c : ST} {b : SS} {pos : Pos}
theorem psy_while (n : Nat) (G : Gd X W) (hc : PTy X W ce c) (hb : PSsy X W body b) : PSy X W (.While ce body [] pos) (sWhile n c b) :=
  PS_imp (ps_while G.own hc hb) fun D σ H ⟨η, ρ, env, S, r, o⟩ => by
    refine ⟨fun m σ H => ∃ ρ env S, R3 ⟨X.K, X.mg, η⟩ ρ σ H env S ∧ Out ⟨X.K, X.mg, η⟩ (ES W) ρ H (wloop c b m env S) (FloOk ⟨X.K, X.mg, η⟩ D), ⟨n, ρ, env, S, r, o⟩, fun m σ H ⟨ρ, env, S, r, o⟩ => ?_⟩
    cases m with
    | zero => exact o.elim
    | succ m =>
      refine tT_of r ((Out.bind o).imp (fun _ _ _ x => x σ) fun t S1 ρ1 H1 e1 s1 o1 r1 _ => ?_)
      cases t with
      | false => exact o1 ρ1 H1 Ext.refl s1 σ r1
      | true =>
        refine ⟨fun σ' H' => ∃ ρ env S, R3 ⟨X.K, X.mg, η⟩ ρ σ' H' env S ∧ Out ⟨X.K, X.mg, η⟩ (ES W) ρ H' (wloop c b m env S) (FloOk ⟨X.K, X.mg, η⟩ D), fun σ' H' h => ⟨m, Nat.lt_succ_self _, h⟩, η, ρ1, env, S1, r1, (Out.bind o1).imp (fun _ _ _ x => x) fun fl S2 ρ2 H2 e2 s2 o2 => ?_⟩
        cases fl with
        | nx env' => exact fun σ2 r2 => ⟨ρ2, env', S2, r2, o2⟩
        | ct env' => exact fun σ2 r2 => ⟨ρ2, env', S2, r2, o2⟩
        | brk env' => exact o2 ρ2 H2 Ext.refl s2
        | ret d => exact o2 ρ2 H2 Ext.refl s2
end

/-! ### what is walked -/
inductive Src where
  | vals (ds : List D) | cell (i : Nat)
abbrev SI := Env → Store → Res Src
def ItOk (G : Gx) (src : Src) (ρ : List Addr) (H : Hp) (J : It) : Prop := match src with
  | .vals ds => ∀ ρ1 H1, Ext ρ H ρ1 H1 → (∀ a ∈ ρ1, ∃ o, H1 a = some o) → (∀ i, i < ds.length → J.go i H1) ∧ J.stop ds.length H1 ∧
      ∀ i x H2 d hd, (∀ a ∈ hd, (a ∈ G.hid ∨ H a = none) ∧ ∃ o, H1 a = some o) → ds[i]? = some d → J.yld i H1 x H2 → (H2 = H1 ∨ ∃ T o, H1 T = none ∧ H2 = upd H1 T o) ∧ RD ⟨G.K, G.mg, hd⟩ ρ1 H2 d x
  | .cell i => ∃ a, ρ[i]? = some a ∧ J = Itl G.K a
def tI (K : PySem.W.Frag) (mg : Str → Option Value) (W : WX) (f : SI) : TI := fun σ H R => ∃ η ρ env S, R3 ⟨K, mg, η⟩ ρ σ H env S ∧ Out ⟨K, mg, η⟩ (EE W σ) ρ H (f env S) fun src _ ρ' H' => ∀ J, ItOk ⟨K, mg, η⟩ src ρ' H' J → R J H'
abbrev PIy (X : Cx) (W : WX) (tg iter : Expr) (f : SI) : Prop := PI X tg iter (tI X.K X.mg W f)
theorem PI_imp {X : Cx} {tg e : Expr} {t t' : TI} (h : PI X tg e t) (i : ∀ σ H Q, t' σ H Q → t σ H Q) : PI X tg e t' := ⟨fun pins s σ H Q I q => h.run pins s σ H Q I (i _ _ _ q)⟩

def forV (t : SG) (b : SS) : List D → SS
  | [] => fun env S => .ok (.nx env) S
  | d :: ds => fun env S => (t d env S).bind fun env1 S1 => (b env1 S1).bind fun fl S2 => match fl with
      | .nx env' => forV t b ds env' S2
      | .ct env' => forV t b ds env' S2
      | .brk env' => .ok (.nx env') S2
      | .ret d => .ok (.ret d) S2
def forC (t : SG) (b : SS) (c : Nat) : Nat → Nat → SS
  | 0, _ => fun _ _ => .stuck
  | n + 1, j => fun env S => match S[c]? with
    | some (.lst ds) => match ds[j]? with
      | some d => (t d env S).bind fun env1 S1 => (b env1 S1).bind fun fl S2 => match fl with
        | .nx env' => forC t b c n (j + 1) env' S2
        | .ct env' => forC t b c n (j + 1) env' S2
        | .brk env' => .ok (.nx env') S2
        | .ret d => .ok (.ret d) S2
      | none => .ok (.nx env) S
    | _ => .stuck
def forS (n : Nat) (t : SG) (b : SS) (src : Src) : SS := match src with
  | .vals ds => forV t b ds
  | .cell c => forC t b c n 0
def sFor (n : Nat) (s : SI) (t : SG) (b : SS) : SS := fun env S => (s env S).bind fun src S1 => forS n t b src env S1
theorem forS_v {n : Nat} {t : SG} {b : SS} {ds : List D} : forS n t b (.vals ds) = forV t b ds := rfl
theorem forS_c {n : Nat} {t : SG} {b : SS} {c : Nat} : forS n t b (.cell c) = forC t b c n 0 := rfl
section
variable {X : Cx} {W : WX} {K : PySem.W.Frag} {mg : Str → Option Value} {tg iter : Expr} {body : List Stmt} {fs : SI} {js : List Nat} {t : SG} {b : SS} {pos : Pos}
theorem step_ext {ρ : List Addr} {H1 H2 : Hp} (h : H2 = H1 ∨ ∃ T o, H1 T = none ∧ H2 = upd H1 T o) : Ext ρ H1 ρ H2 := by
  rcases h with rfl | ⟨T, o, h, rfl⟩
  · exact Ext.refl
  · exact Ext.new h
theorem step_rs {G : Gx} {ρ : List Addr} {H1 H2 : Hp} {S : Store} (h : H2 = H1 ∨ ∃ T o, H1 T = none ∧ H2 = upd H1 T o) (s : RS G ρ H1 S) : RS G ρ H2 S := by
  rcases h with rfl | ⟨T, o, h, rfl⟩
  · exact s
  · exact s.new h
theorem flo_loop {E : XK} {D : Ends} {σ : L2.St} {ρ : List Addr} {H : Hp} {N : L2.St → Hp → Prop} {r : Res Flo} {nxt : Env → Store → Res Flo}
    (o : Out G E ρ H (r.bind fun fl S2 => match fl with
      | .nx env' => nxt env' S2
      | .ct env' => nxt env' S2
      | .brk env' => .ok (.nx env') S2
      | .ret d => .ok (.ret d) S2) (FloOk G D)) (hN : ∀ ρ2 H2 env' S2 σ2, Ext ρ H ρ2 H2 → R3 G ρ2 σ2 H2 env' S2 → Out G E ρ2 H2 (nxt env' S2) (FloOk G D) → N σ2 H2) :
    Out G E ρ H r (FloOk G { D with nx := N, ct := N, bk := D.nx }) := by
  refine (Out.bind o).imp (fun _ _ _ x => x) fun fl S2 ρ2 H2 e2 s2 o2 => ?_
  cases fl with
  | nx env' => exact fun σ2 r2 => hN _ _ _ _ _ e2 r2 o2
  | ct env' => exact fun σ2 r2 => hN _ _ _ _ _ e2 r2 o2
  | brk env' => exact o2 ρ2 H2 Ext.refl s2
  | ret d => exact o2 ρ2 H2 Ext.refl s2
theorem psy_for (n : Nat) (G : Gd X W) (hi : PIy X W tg iter fs) (hg : PGj X W tg js t) (hb : PSsy X W body b)
    (hs : ∀ x, foldedSetIterable iter X.env x = pure x := by intro _; rfl) : PSy X W (.For tg iter body [] pos) (sFor n fs t b) :=
  PS_imp (ps_for G.own G.calm hi hg hb hs) fun D σ H ⟨η, ρ, env, S, r, o⟩ => by
    refine ⟨η, ρ, env, S, r, (Out.bind o).imp (fun _ _ _ x => x σ) fun src S1 ρ1 H1 e1 s1 o1 J hJ => ?_⟩
    have r1 := r.ext e1 s1
    cases src with
    | vals ds =>
      refine ⟨fun i m σ' H' => m = ds.length - i ∧ i ≤ ds.length ∧ ∃ ρ' env' S', Ext ρ1 H1 ρ' H' ∧ R3 ⟨X.K, X.mg, η⟩ ρ' σ' H' env' S' ∧ Out ⟨X.K, X.mg, η⟩ (ES W) ρ' H' (forV t b (ds.drop i) env' S') (FloOk ⟨X.K, X.mg, η⟩ D), ⟨_, rfl, Nat.zero_le _, ρ1, env, S1, Ext.refl, r1, o1⟩, ?_⟩
      rintro i m σ' H' ⟨rfl, hi, ρ', env', S', e', r', o'⟩
      obtain ⟨g1, g2, g3⟩ := hJ ρ' H' e' fun a h => r'.st.there h
      by_cases hlt : i < ds.length
      · refine .inr ⟨g1 i hlt, fun σ2 H2 => ∃ ρ2 env2 S2, Ext ρ1 H1 ρ2 H2 ∧ R3 ⟨X.K, X.mg, η⟩ ρ2 σ2 H2 env2 S2 ∧ Out ⟨X.K, X.mg, η⟩ (ES W) ρ2 H2 (forV t b (ds.drop (i + 1)) env2 S2) (FloOk ⟨X.K, X.mg, η⟩ D), fun σ2 H2 h => ⟨ds.length - (i + 1), by omega, rfl, hlt, h⟩, fun x H2 y => ?_⟩
        obtain ⟨st, rd⟩ := g3 i x H2 ds[i] η (fun a ha => ⟨.inl ha, r'.st.hid a ha⟩) (List.getElem?_eq_getElem hlt) y
        have e2 := step_ext (ρ := ρ') st
        rw [List.drop_eq_getElem_cons hlt] at o'
        have o'' := Out.from e2 o'
        refine ⟨η, ρ', env', S', ds[i], r'.ext e2 (step_rs st r'.st), rd, (Out.bind o'').imp (fun _ _ _ x => x) fun env3 S3 ρ3 H3 e3 s3 o3 σ3 r3 _ => ⟨η, ρ3, env3, S3, r3, ?_⟩⟩
        exact flo_loop (σ := σ3) o3 fun ρ4 H4 env4 S4 σ4 e4 r4 o4 => ⟨ρ4, env4, S4, ((e'.trans e2).trans e3).trans e4, r4, o4⟩
      · have ei : i = ds.length := by omega
        subst ei
        rw [List.drop_length] at o'
        exact .inl ⟨g2, o' ρ' H' Ext.refl r'.st σ' r'⟩
    | cell c =>
      obtain ⟨a, ha, rfl⟩ := hJ
      refine ⟨fun i m σ' H' => ∃ ρ' env' S', Ext ρ1 H1 ρ' H' ∧ R3 ⟨X.K, X.mg, η⟩ ρ' σ' H' env' S' ∧ Out ⟨X.K, X.mg, η⟩ (ES W) ρ' H' (forC t b c m i env' S') (FloOk ⟨X.K, X.mg, η⟩ D), ⟨n, ρ1, env, S1, Ext.refl, r1, o1⟩, ?_⟩
      rintro i m σ' H' ⟨ρ', env', S', e', r', o'⟩
      cases m with
      | zero => exact o'.elim
      | succ m =>
        unfold forC at o'
        cases hc : S'[c]? with
        | none => rw [hc] at o'; exact o'.elim
        | some cc =>
          rw [hc] at o'
          cases cc with
          | lst ds =>
            obtain ⟨vs, hv, rv⟩ := r'.st.cell c a _ (e'.idx ha) hc
            dsimp only at o'
            cases hd : ds[i]? with
            | none =>
              rw [hd] at o'
              refine .inl ⟨⟨vs, .inl (.inl hv), ?_⟩, o' ρ' H' Ext.refl r'.st σ' r'⟩
              have := List.getElem?_eq_none_iff.mp hd
              rw [RDs.len rv] at this
              exact this
            | some d =>
              rw [hd] at o'
              obtain ⟨v, hv1, hv2⟩ := rv.get hd
              refine .inr ⟨⟨vs, v, .inl (.inl hv), hv1⟩, fun σ2 H2 => ∃ ρ2 env2 S2, Ext ρ1 H1 ρ2 H2 ∧ R3 ⟨X.K, X.mg, η⟩ ρ2 σ2 H2 env2 S2 ∧ Out ⟨X.K, X.mg, η⟩ (ES W) ρ2 H2 (forC t b c m (i + 1) env2 S2) (FloOk ⟨X.K, X.mg, η⟩ D), fun σ2 H2 h => ⟨m, Nat.lt_succ_self _, h⟩, fun x H2 y => ?_⟩
              obtain ⟨rfl, y⟩ := y
              have ex : x = v := Option.some.inj ((y vs (.inl (.inl hv))).symm.trans hv1)
              subst ex
              refine ⟨η, ρ', env', S', d, r', hv2, (Out.bind o').imp (fun _ _ _ x => x) fun env3 S3 ρ3 H3 e3 s3 o3 σ3 r3 _ => ⟨η, ρ3, env3, S3, r3, ?_⟩⟩
              exact flo_loop (σ := σ3) o3 fun ρ4 H4 env4 S4 σ4 e4 r4 o4 => ⟨ρ4, env4, S4, (e'.trans e3).trans e4, r4, o4⟩
          | dict _ _ => exact o'.elim
          | dead => exact o'.elim
end
end Y

set_option maxHeartbeats 2000000
/-! Layer 5: comprehensions, defs and their calls. -/
namespace Y
open PySem PySem.Spec PyProof.Rows L2

/-- no exception may leave -/
def Res.np {α : Type} (r : Res α) : Res α := match r with
  | .ok a S => .ok a S
  | _ => .stuck
def wipeE (env : Env) : List Nat → Env
  | [] => env
  | v :: vs => (wipeE env vs).set v none
def compV (t : SG) (c : ST) (e : SE) (env0 : Env) : List D → Store → Res (List D)
  | [], S => .ok [] S
  | d :: ds, S => (t d env0 S).np.bind fun env1 S1 => (c env1 S1).np.bind fun b S2 => if b = true then (e env1 S2).np.bind fun y S3 => (compV t c e env0 ds S3).bind fun ys S4 => .ok (y :: ys) S4 else compV t c e env0 ds S2
def compC (t : SG) (c : ST) (e : SE) (env0 : Env) (k : Nat) : Nat → Nat → Store → Res (List D)
  | 0, _, _ => .stuck
  | n + 1, j, S => match S[k]? with
    | some (.lst ds) => match ds[j]? with
      | some d => (t d env0 S).np.bind fun env1 S1 => (c env1 S1).np.bind fun b S2 => if b = true then (e env1 S2).np.bind fun y S3 => (compC t c e env0 k n (j + 1) S3).bind fun ys S4 => .ok (y :: ys) S4 else compC t c e env0 k n (j + 1) S2
      | none => .ok [] S
    | _ => .stuck
def sComp (vs : List Nat) (s : SI) (t : SG) (c : ST) (e : SE) : Env → Store → Res (List D) := fun env S => (s env S).bind fun src S1 => match src with
  | .vals ds => if ds.length ≤ 1000000 then compV t c e (wipeE env vs) ds S1 else .stuck
  | .cell k => compC t c e (wipeE env vs) k 1000000 0 S1
/-- the comprehension's list by value | as a cell -/
def sLc (vs : List Nat) (s : SI) (t : SG) (c : ST) (e : SE) : SE := fun env S => (sComp vs s t c e env S).bind fun ys S1 => .ok (.lst ys) S1
def sLcN (vs : List Nat) (s : SI) (t : SG) (c : ST) (e : SE) : SE := fun env S => (sComp vs s t c e env S).bind fun ys S1 => .ok (.ref S1.length) (S1 ++ [.lst ys])
def sTrue : ST := fun _ S => .ok true S
theorem Out.np {G : Gx} {E E' : XK} {ρ : List Addr} {H : Hp} {α : Type} {r : Res α} {k : α → Store → List Addr → Hp → Prop} (h : Out G E ρ H r.np k) : Out G E' ρ H r k := by
  cases r with
  | ok a S => exact h
  | err x S => exact h.elim
  | stuck => exact h
theorem R3.wipe {G : Gx} {ρ : List Addr} {σ : L2.St} {H : Hp} {env : Env} {S : Store} (r : R3 G ρ σ H env S) : ∀ vs : List Nat, R3 G ρ (L2.wipe σ vs) H (wipeE env vs) S
  | [] => r
  | v :: vs => by
    have q := r.wipe vs
    refine ⟨by unfold L2.wipe wipeE; rw [List.length_set, List.length_set]; exact q.len, fun i d h => ?_, r.st⟩
    unfold wipeE at h
    unfold L2.wipe
    have ne : v ≠ i := by
      rintro rfl
      by_cases hl : v < (wipeE env vs).length
      · rw [List.getElem?_set_self hl] at h
        cases h
      · rw [List.getElem?_eq_none_iff.mpr (by rw [List.length_set]; omega)] at h
        cases h
    rw [List.getElem?_set_ne ne] at h ⊢
    exact q.sl i d h

section
variable {X : Cx} {W : WX} {K : PySem.W.Frag} {mg : Str → Option Value} {G : Gx}
theorem ptsy_nil : PTs X [] (tT X.K X.mg W sTrue) := ⟨fun pins s σ H Q I ⟨_, ρ, _, _, r, o⟩ => (pts_nil (X := X)).run pins s σ H Q I (o ρ H Ext.refl r.st)⟩
theorem ptsy_one {c : Expr} {t : ST} (h : PTy X W c t) : PTs X [c] (tT X.K X.mg W t) := pts_one h

/-- what is known while the list at D grows -/
structure Grow (G : Gx) (ρ1 : List Addr) (H1 : Hp) (p : Addr) (ρ : List Addr) (H : Hp) (acc : List D) (S : Store) : Prop where
  e : Ext ρ1 H1 ρ H
  st : RS (G.hide p) ρ H S
  nc : p ∉ ρ
  it : ∃ vs, H p = some (.lst vs) ∧ RDs (G.hide p) ρ H acc vs
theorem Grow.start {ρ1 : List Addr} {H1 : Hp} {p : Addr} {S : Store} (s : RS G ρ1 H1 S) (hp : H1 p = none) : Grow G ρ1 H1 p ρ1 (upd H1 p (.lst [])) [] S :=
  ⟨Ext.new hp, s.hide hp, (ref_fresh s hp).1, [], upd_same, .nil⟩
theorem R3.in {ρ1 ρ : List Addr} {H1 H : Hp} {p : Addr} {S1 S : Store} {σ : L2.St} {env : Env} {acc : List D} (r : R3 G ρ1 σ H1 env S1) (hp : H1 p = none) (g : Grow G ρ1 H1 p ρ H acc S) : R3 (G.hide p) ρ σ H env S :=
  ⟨r.len, fun i d h => let ⟨v, h1, h2⟩ := r.sl i d h; ⟨v, h1, (RD.hide hp h2).ext g.e⟩, g.st⟩
theorem Grow.step {ρ1 ρ ρ' : List Addr} {H1 H H' : Hp} {p : Addr} {S S' : Store} {acc : List D} (hp : H1 p = none) (g : Grow G ρ1 H1 p ρ H acc S) (e : Ext ρ H ρ' H') (s : RS (G.hide p) ρ' H' S') : Grow G ρ1 H1 p ρ' H' acc S' := by
  obtain ⟨vs, h1, h2⟩ := g.it
  exact ⟨g.e.trans e, s, e.free g.nc h1, vs, e.keep _ _ g.nc h1, h2.ext e⟩
theorem Grow.push {ρ1 ρ : List Addr} {H1 H : Hp} {p : Addr} {S : Store} {acc : List D} {d : D} {v : V} (hp : H1 p = none) (g : Grow G ρ1 H1 p ρ H acc S) (rd : RD (G.hide p) ρ H d v) :
    ∃ vs, H p = some (.lst vs) ∧ vs.length = acc.length ∧ Grow G ρ1 H1 p ρ (upd H p (.lst (vs ++ [v]))) (acc ++ [d]) S := by
  obtain ⟨vs, h1, h2⟩ := g.it
  have hm : p ∈ (G.hide p).hid := List.mem_cons_self
  exact ⟨vs, h1, (RDs.len h2).symm, g.e.mut hp, g.st.hidden hm g.nc, g.nc, vs ++ [v], upd_same, (h2.hidden hm).append (.cons (rd.hidden hm) .nil)⟩

theorem Out.bind0 {E : XK} {ρ : List Addr} {H : Hp} {α β : Type} {r : Res α} {g : α → Store → Res β} {k : β → Store → List Addr → Hp → Prop} (h : Out G E ρ H (r.bind g) k) :
    Out G E ρ H r fun a S' _ _ => Out G E ρ H (g a S') k := by
  cases r with
  | ok a S => exact fun _ _ _ _ => h
  | err x S => exact h
  | stuck => exact h
/-- behind p's hiding, at a later state, no exception leaves -/
theorem Out.hid {E E1 : XK} {ρ1 ρ : List Addr} {H1 H : Hp} {p : Addr} {α : Type} {r : Res α} {k k' : α → Store → List Addr → Hp → Prop} (h : Out G E1 ρ1 H1 r.np k) (e : Ext ρ1 H1 ρ H)
    (hk : ∀ a S ρ' H', Ext ρ H ρ' H' → RS (G.hide p) ρ' H' S → k a S ρ' H' → k' a S ρ' H') : Out (G.hide p) E ρ H r k' := by
  cases r with
  | ok a S => exact fun ρ' H' e' s => hk _ _ _ _ e' s (h ρ' H' (e.trans e') s.show)
  | err x S => exact h.elim
  | stuck => exact h
theorem comp_turn {vs js : List Nat} {t : SG} {c : ST} {e : SE} {σ : L2.St} {Nx : Hp → Prop} (hj : ∀ j ∈ js, j ∈ vs) {η ρ1 ρ : List Addr} {H1 H : Hp} {p : Addr} {env : Env} {S1 S : Store} {acc : List D} {d : D} {x : V} {E : XK}
    {k : List D → Store → List Addr → Hp → Prop} {rest : Store → Res (List D)} (r1 : R3 ⟨K, mg, η⟩ ρ1 (L2.wipe σ vs) H1 env S1) (hp : H1 p = none) (g : Grow ⟨K, mg, η⟩ ρ1 H1 p ρ H acc S) (rd : RD ⟨K, mg, p :: η⟩ ρ H d x) (hl : acc.length < 1000000)
    (o : Out ⟨K, mg, η⟩ E ρ1 H1 ((t d env S).np.bind fun env1 S1 => (c env1 S1).np.bind fun b S2 => if b = true then (e env1 S2).np.bind fun y S3 => (rest S3).bind fun ys S4 => .ok (y :: ys) S4 else rest S2) k)
    (hN : ∀ ρ' H' acc' S', Grow ⟨K, mg, η⟩ ρ1 H1 p ρ' H' acc' S' → (acc' = acc ∧ Out ⟨K, mg, η⟩ E ρ1 H1 (rest S') k ∨ ∃ y, acc' = acc ++ [y] ∧ Out ⟨K, mg, η⟩ E ρ1 H1 ((rest S').bind fun ys S4 => .ok (y :: ys) S4) k) → Nx H') :
    tGj K mg W0 js t x (L2.wipe σ vs) H fun σ2 H2 => L2.wipe σ2 vs = L2.wipe σ vs ∧ tT K mg W0 c σ2 H2 fun b H3 =>
      if b = true then tE K mg W0 e σ2 H3 fun y H4 => ∃ acc, H4 p = some (.lst acc) ∧ acc.length < sizeLine ∧ Nx (upd H4 p (.lst (acc ++ [y]))) else Nx H3 := by
  refine ⟨p :: η, ρ, env, S, d, r1.in hp g, rd, (Out.bind0 o).hid g.e fun env2 S2 ρ2 H2 e2 s2 o2 σ2 r2 bt => ⟨bt.wipe hj, ?_⟩⟩
  have g2 := g.step hp e2 s2
  refine ⟨p :: η, ρ2, env2, S2, r2, (Out.bind0 o2).hid g2.e fun b S3 ρ3 H3 e3 s3 o3 => ?_⟩
  have g3 := g2.step hp e3 s3
  cases b with
  | false => exact hN ρ3 H3 acc S3 g3 (.inl ⟨rfl, o3⟩)
  | true =>
    have r3 := r2.ext e3 s3
    refine ⟨p :: η, ρ3, env2, S3, r3, (Out.bind0 o3).hid g3.e fun y S4 ρ4 H4 e4 s4 o4 v rv => ?_⟩
    have g4 := g3.step hp e4 s4
    obtain ⟨us, h1, h2, g5⟩ := g4.push hp rv
    exact ⟨us, h1, by rw [h2, sizeLine_eq]; omega, hN ρ4 _ _ S4 g5 (.inr ⟨y, rfl, o4⟩)⟩
theorem comp_read {vs js : List Nat} {fs : SI} {t : SG} {c : ST} {e : SE} {σ : L2.St} {H : Hp} {Q : VK} (hj : ∀ j ∈ js, j ∈ vs) {η ρ : List Addr} {env : Env} {S : Store} (r : R3 ⟨K, mg, η⟩ ρ σ H env S)
    (o : Out ⟨K, mg, η⟩ (EE W σ) ρ H (sComp vs fs t c e env S) fun ys S' ρ' H' => ∀ p us, p ∉ ρ' ∧ p ∉ η → H p = none → H' p = some (.lst us) → RDs (Gx.hide ⟨K, mg, η⟩ p) ρ' H' ys us → RS (Gx.hide ⟨K, mg, η⟩ p) ρ' H' S' → Q (.ref p) H') :
    tLc (tI K mg W fs) (tGj K mg W0 js t) (tT K mg W0 c) (tE K mg W0 e) vs σ H Q := by
  refine ⟨η, ρ, env, S, r, (Out.bind0 o).imp (fun _ _ _ x => x) fun src S1 ρ1 H1 e1 s1 o1 J hJ p hp => ?_⟩
  replace o1 := Out.from e1 o1
  have r1 := (r.ext e1 s1).wipe vs
  have h0 : H p = none := by
    cases q : H p with
    | none => rfl
    | some u =>
      obtain ⟨u', q'⟩ := e1.there p u q
      rw [hp] at q'; cases q'
  have fin : ∀ {acc : List D} {ρ' : List Addr} {H' : Hp} {S' : Store}, Grow ⟨K, mg, η⟩ ρ1 H1 p ρ' H' acc S' →
      (∀ p us, p ∉ ρ' ∧ p ∉ η → H p = none → H' p = some (.lst us) → RDs (Gx.hide ⟨K, mg, η⟩ p) ρ' H' acc us → RS (Gx.hide ⟨K, mg, η⟩ p) ρ' H' S' → Q (.ref p) H') → Q (.ref p) H' := fun {acc ρ' H' S'} g q => by
    obtain ⟨us, h1, h2⟩ := g.it
    exact q p us ⟨g.nc, (ref_fresh s1 hp).2⟩ h0 h1 h2 g.st
  have push : ∀ {E : XK} {r : Res (List D)} {acc : List D} {y : D}, Out ⟨K, mg, η⟩ E ρ1 H1 (r.bind fun ys S4 => .ok (y :: ys) S4) (fun ys S' ρ' H' => ∀ p us, p ∉ ρ' ∧ p ∉ η → H p = none → H' p = some (.lst us) → RDs (Gx.hide ⟨K, mg, η⟩ p) ρ' H' (acc ++ ys) us → RS (Gx.hide ⟨K, mg, η⟩ p) ρ' H' S' → Q (.ref p) H') →
      Out ⟨K, mg, η⟩ E ρ1 H1 r (fun ys S' ρ' H' => ∀ p us, p ∉ ρ' ∧ p ∉ η → H p = none → H' p = some (.lst us) → RDs (Gx.hide ⟨K, mg, η⟩ p) ρ' H' ((acc ++ [y]) ++ ys) us → RS (Gx.hide ⟨K, mg, η⟩ p) ρ' H' S' → Q (.ref p) H') := fun {E r acc y} h =>
    (Out.bind0 h).imp (fun _ _ _ x => x) fun ys S' ρ' H' e' s' q p us n h0 hu rd st => q ρ' H' e' s' p us n h0 hu (by rw [List.append_assoc] at rd; exact rd) st
  cases src with
  | vals ds =>
    have o1' : Out ⟨K, mg, η⟩ (EE W σ) ρ1 H1 (if ds.length ≤ 1000000 then compV t c e (wipeE env vs) ds S1 else .stuck) _ := o1
    split at o1'
    case isFalse => exact o1'.elim
    rename_i hlen
    refine ⟨fun i m H' => m = ds.length - i ∧ i ≤ ds.length ∧ ∃ ρ' acc S', Grow ⟨K, mg, η⟩ ρ1 H1 p ρ' H' acc S' ∧ acc.length ≤ i ∧ Out ⟨K, mg, η⟩ (EE W σ) ρ1 H1 (compV t c e (wipeE env vs) (ds.drop i) S') (fun ys S' ρ' H' => ∀ p us, p ∉ ρ' ∧ p ∉ η → H p = none → H' p = some (.lst us) → RDs (Gx.hide ⟨K, mg, η⟩ p) ρ' H' (acc ++ ys) us → RS (Gx.hide ⟨K, mg, η⟩ p) ρ' H' S' → Q (.ref p) H'),
      ⟨_, rfl, Nat.zero_le _, ρ1, [], S1, Grow.start s1 hp, Nat.le_refl _, o1'⟩, ?_⟩
    rintro i m H' ⟨rfl, hi, ρ', acc, S', g, hl, o'⟩
    obtain ⟨g1, g2, g3⟩ := hJ ρ' H' g.e fun a h => g.st.there h
    by_cases hlt : i < ds.length
    · refine .inr ⟨g1 i hlt, fun H2 => ∃ ρ' acc S', Grow ⟨K, mg, η⟩ ρ1 H1 p ρ' H2 acc S' ∧ acc.length ≤ i + 1 ∧ Out ⟨K, mg, η⟩ (EE W σ) ρ1 H1 (compV t c e (wipeE env vs) (ds.drop (i + 1)) S') (fun ys S' ρ' H' => ∀ p us, p ∉ ρ' ∧ p ∉ η → H p = none → H' p = some (.lst us) → RDs (Gx.hide ⟨K, mg, η⟩ p) ρ' H' (acc ++ ys) us → RS (Gx.hide ⟨K, mg, η⟩ p) ρ' H' S' → Q (.ref p) H'),
        fun H2 h => ⟨ds.length - (i + 1), by omega, rfl, hlt, h⟩, fun x H2 y => ?_⟩
      obtain ⟨st, rd⟩ := g3 i x H2 ds[i] (p :: η) (fun a ha => ⟨hide_ok (G := ⟨K, mg, η⟩) hp a ha, g.st.hid a ha⟩) (List.getElem?_eq_getElem hlt) y
      have e2 := step_ext (ρ := ρ') st
      have g4 := g.step hp e2 (step_rs st g.st)
      rw [List.drop_eq_getElem_cons hlt] at o'
      refine comp_turn (rest := compV t c e (wipeE env vs) (ds.drop (i + 1))) hj r1 hp g4 rd (by omega) o' fun ρ5 H5 acc5 S5 g5 h5 => ?_
      rcases h5 with ⟨rfl, h5⟩ | ⟨y, rfl, h5⟩
      · exact ⟨ρ5, acc5, S5, g5, by omega, h5⟩
      · exact ⟨ρ5, acc ++ [y], S5, g5, by simp; omega, push h5⟩
    · have ei : i = ds.length := by omega
      subst ei
      rw [List.drop_length] at o'
      exact .inl ⟨g2, fin g fun p us n h0 hu rd st => o' ρ' H' g.e g.st.show p us n h0 hu (by rw [List.append_nil]; exact rd) st⟩
  | cell k =>
    obtain ⟨a, ha, rfl⟩ := hJ
    refine ⟨fun i m H' => m + i = 1000000 ∧ ∃ ρ' acc S', Grow ⟨K, mg, η⟩ ρ1 H1 p ρ' H' acc S' ∧ acc.length ≤ i ∧ Out ⟨K, mg, η⟩ (EE W σ) ρ1 H1 (compC t c e (wipeE env vs) k m i S') (fun ys S' ρ' H' => ∀ p us, p ∉ ρ' ∧ p ∉ η → H p = none → H' p = some (.lst us) → RDs (Gx.hide ⟨K, mg, η⟩ p) ρ' H' (acc ++ ys) us → RS (Gx.hide ⟨K, mg, η⟩ p) ρ' H' S' → Q (.ref p) H'),
      ⟨1000000, rfl, ρ1, [], S1, Grow.start s1 hp, Nat.le_refl _, o1⟩, ?_⟩
    rintro i m H' ⟨hm, ρ', acc, S', g, hl, o'⟩
    cases m with
    | zero => exact o'.elim
    | succ m =>
      unfold compC at o'
      cases hc : S'[k]? with
      | none => rw [hc] at o'; exact o'.elim
      | some cc =>
        rw [hc] at o'
        cases cc with
        | lst ds =>
          obtain ⟨vs', hv, rv⟩ := g.st.cell k a _ (g.e.idx ha) hc
          dsimp only at o'
          cases hd : ds[i]? with
          | none =>
            rw [hd] at o'
            refine .inl ⟨⟨vs', .inl (.inl hv), ?_⟩, fin g fun p us n h0 hu rd st => o' ρ' H' g.e g.st.show p us n h0 hu (by rw [List.append_nil]; exact rd) st⟩
            have := List.getElem?_eq_none_iff.mp hd
            rw [RDs.len rv] at this
            exact this
          | some d =>
            rw [hd] at o'
            obtain ⟨v, hv1, hv2⟩ := rv.get hd
            refine .inr ⟨⟨vs', v, .inl (.inl hv), hv1⟩, fun H2 => ∃ ρ' acc S', Grow ⟨K, mg, η⟩ ρ1 H1 p ρ' H2 acc S' ∧ acc.length ≤ i + 1 ∧ Out ⟨K, mg, η⟩ (EE W σ) ρ1 H1 (compC t c e (wipeE env vs) k m (i + 1) S') (fun ys S' ρ' H' => ∀ p us, p ∉ ρ' ∧ p ∉ η → H p = none → H' p = some (.lst us) → RDs (Gx.hide ⟨K, mg, η⟩ p) ρ' H' (acc ++ ys) us → RS (Gx.hide ⟨K, mg, η⟩ p) ρ' H' S' → Q (.ref p) H'),
              fun H2 h => ⟨m, Nat.lt_succ_self _, by omega, h⟩, fun x H2 y => ?_⟩
            obtain ⟨rfl, y⟩ := y
            have ex : x = v := Option.some.inj ((y vs' (.inl (.inl hv))).symm.trans hv1)
            subst ex
            refine comp_turn (rest := compC t c e (wipeE env vs) k m (i + 1)) hj r1 hp g hv2 (by omega) o' fun ρ5 H5 acc5 S5 g5 h5 => ?_
            rcases h5 with ⟨rfl, h5⟩ | ⟨y, rfl, h5⟩
            · exact ⟨ρ5, acc5, S5, g5, by omega, h5⟩
            · exact ⟨ρ5, acc ++ [y], S5, g5, by simp; omega, push h5⟩
        | dict _ _ => exact o'.elim
        | dead => exact o'.elim
theorem not_in_snoc {ρ : List Addr} {a p : Addr} {hd : List Addr} (h : a ∉ ρ) (n : a ∉ p :: hd) : a ∉ ρ ++ [p] ∧ a ∉ hd :=
  ⟨fun z => by
    rcases List.mem_append.mp z with z | z
    · exact h z
    · exact n (by rw [List.mem_singleton.mp z]; exact List.mem_cons_self), fun z => n (List.mem_cons_of_mem _ z)⟩
mutual
theorem RD.cellize {ρ : List Addr} {H : Hp} {p : Addr} : ∀ {d : D} {v : V}, RD (G.hide p) ρ H d v → RD G (ρ ++ [p]) H d v
  | .non, v, h => by unfold RD at h ⊢; exact h
  | .bl b, v, h => by unfold RD at h ⊢; exact h
  | .int i, v, h => by unfold RD at h ⊢; exact h
  | .str x, v, h => by unfold RD at h ⊢; exact h
  | .ty n, v, h => by unfold RD at h ⊢; exact h
  | .tup xs, v, h => by
    unfold RD at h ⊢
    obtain ⟨a, vs, e1, e2, e3⟩ := h
    refine ⟨a, vs, e1, ?_, RDs.cellize e3⟩
    rcases e2 with ⟨r, n1, n2⟩ | r
    · exact .inl ⟨r, not_in_snoc n1 n2⟩
    · exact .inr r
  | .lst xs, v, h => by
    unfold RD at h ⊢
    obtain ⟨a, vs, e1, ⟨r, n1, n2⟩, e3⟩ := h
    exact ⟨a, vs, e1, ⟨r, not_in_snoc n1 n2⟩, RDs.cellize e3⟩
  | .dict ks xs, v, h => by
    unfold RD at h ⊢
    obtain ⟨a, vs, e1, ⟨r, n1, n2⟩, e3, e4⟩ := h
    exact ⟨a, vs, e1, ⟨r, not_in_snoc n1 n2⟩, e3, RDs.cellize e4⟩
  | .ref i, v, h => by
    unfold RD at h ⊢
    obtain ⟨a, e1, e2⟩ := h
    exact ⟨a, e1, by rw [List.getElem?_append_left (List.getElem?_eq_some_iff.mp e2).1]; exact e2⟩
  | .glb x, v, h => by unfold RD at h ⊢; exact h
  | .scr ns, v, h => by
    unfold RD at h ⊢
    obtain ⟨a, e1, e2⟩ := h
    refine ⟨a, e1, ?_⟩
    rcases e2 with ⟨r, n1, n2⟩ | r
    · exact .inl ⟨r, not_in_snoc n1 n2⟩
    · exact .inr r
theorem RDs.cellize {ρ : List Addr} {H : Hp} {p : Addr} : ∀ {xs : List D} {vs : List V}, RDs (G.hide p) ρ H xs vs → RDs G (ρ ++ [p]) H xs vs
  | [], [], _ => by unfold RDs; trivial
  | x :: xs, v :: vs, h => by
    unfold RDs at h ⊢
    exact ⟨RD.cellize h.1, RDs.cellize h.2⟩
  | [], _ :: _, h => by unfold RDs at h; exact h.elim
  | _ :: _, [], h => by unfold RDs at h; exact h.elim
end
theorem RS.cellize {ρ : List Addr} {H : Hp} {p : Addr} {S : Store} {c : Cell} (r : RS (G.hide p) ρ H S) (hn : p ∉ ρ ∧ p ∉ G.hid) (hc : CellOk G (ρ ++ [p]) H p c) : RS G (ρ ++ [p]) H (S ++ [c]) := by
  refine ⟨by simp [r.len], List.nodup_append.mpr ⟨r.nd, by simp, fun a ha b hb => by rintro rfl; exact hn.1 (by simpa [List.mem_singleton.mp hb] using ha)⟩, fun a h => r.hid a (List.mem_cons_of_mem _ h), fun a ha z => (List.mem_append.mp ha).elim (fun q => r.dis a q (List.mem_cons_of_mem _ z)) fun q => hn.2 (by rw [← List.mem_singleton.mp q]; exact z), fun i a c' e1 e2 => ?_⟩
  by_cases hi : i < ρ.length
  · rw [List.getElem?_append_left hi] at e1
    rw [List.getElem?_append_left (by rw [← r.len]; exact hi)] at e2
    have q := r.cell i a c' e1 e2
    cases c' with
    | lst xs => obtain ⟨vs, h, r⟩ := q; exact ⟨vs, h, r.cellize⟩
    | dict ks xs => obtain ⟨vs, h, l, r⟩ := q; exact ⟨vs, h, l, r.cellize⟩
    | dead => exact q
  · have hi2 : i = ρ.length := by
      have := (List.getElem?_eq_some_iff.mp e1).1
      simp at this
      omega
    subst hi2
    rw [List.getElem?_append_right (Nat.le_refl _), Nat.sub_self] at e1
    rw [r.len, List.getElem?_append_right (Nat.le_refl _), Nat.sub_self] at e2
    simp at e1 e2
    subst e1 e2
    exact hc
theorem Ext.plus {ρ ρ' : List Addr} {H H' : Hp} {p : Addr} (e : Ext ρ H ρ' H') (h : H p = none) : Ext ρ H (ρ' ++ [p]) H' := by
  obtain ⟨m, e1, e2⟩ := e.pre
  refine ⟨⟨m ++ [p], by rw [e1, List.append_assoc], fun a ha => ?_⟩, e.keep, e.there⟩
  rcases List.mem_append.mp ha with z | z
  · exact e2 a z
  · rw [List.mem_singleton.mp z]; exact h
section
variable {elt tg iter : Expr} {ifs : List Expr} {scope : Scope} {own : List (Str × Nat)} {pos : Pos} {js : List Nat} {fs : SI} {t : SG} {c : ST} {e : SE}
theorem lc_read {vs : List Nat} {σ : L2.St} {H : Hp} {Q : VK} (hj : ∀ j ∈ js, j ∈ vs) (h : tE K mg W (sLc vs fs t c e) σ H Q) : tLc (tI K mg W fs) (tGj K mg W0 js t) (tT K mg W0 c) (tE K mg W0 e) vs σ H Q := by
  obtain ⟨η, ρ, env, S, r, o⟩ := h
  refine comp_read hj r ((Out.bind o).imp (fun _ _ _ x => x) fun ys S1 ρ1 H1 e1 s1 o1 p us n h0 hu rd st => o1 ρ1 H1 Ext.refl s1 _ ?_)
  unfold RD
  exact ⟨p, us, rfl, ⟨hu, n⟩, rd.show⟩
theorem lcN_read {vs : List Nat} {σ : L2.St} {H : Hp} {Q : VK} (hj : ∀ j ∈ js, j ∈ vs) (h : tE K mg W (sLcN vs fs t c e) σ H Q) : tLc (tI K mg W fs) (tGj K mg W0 js t) (tT K mg W0 c) (tE K mg W0 e) vs σ H Q := by
  obtain ⟨η, ρ, env, S, r, o⟩ := h
  refine comp_read hj r ((Out.bind0 o).imp (fun _ _ _ x => x) fun ys S1 ρ1 H1 e1 s1 o1 p us n h0 hu rd st => o1 (ρ1 ++ [p]) H1 (e1.plus h0) (st.cellize n ⟨us, hu, rd.cellize⟩) _ ?_)
  exact RD.newcell s1
theorem py_lc (G : Gd X W) (hi : PIy X W tg iter fs) (ok : BlkOk X.N X.env.scope scope own)
    (hg : ∀ (s : Shared) (H : Hp) (C : Addr) (cl : List (Str × Addr)) (fp : List Addr), PG (X.blk s H scope (compEnvC scope cl C X.env) fp) tg (tGj X.K X.mg W0 js t)) (ht : ∀ (s : Shared) (H : Hp) (C : Addr) (cl : List (Str × Addr)) (fp : List Addr), PTs (X.blk s H scope (compEnvC scope cl C X.env) fp) ifs (tT X.K X.mg W0 c))
    (he : ∀ (s : Shared) (H : Hp) (C : Addr) (cl : List (Str × Addr)) (fp : List Addr), PE (X.blk s H scope (compEnvC scope cl C X.env) fp) elt (tE X.K X.mg W0 e)) (hj : ∀ j ∈ js, j ∈ own.map (·.2) := by decide) (hs : ∀ x, foldedSetIterable iter X.env x = pure x := by intro _; rfl) :
    PEy X W (.ListComp elt [⟨tg, iter, ifs, 0⟩] scope pos) (sLc (own.map (·.2)) fs t c e) := PE_imp (pe_lc G.calm G.nd hi ok hg ht he hs) fun σ H Q h => lc_read hj h
theorem py_lcN (G : Gd X W) (hi : PIy X W tg iter fs) (ok : BlkOk X.N X.env.scope scope own)
    (hg : ∀ (s : Shared) (H : Hp) (C : Addr) (cl : List (Str × Addr)) (fp : List Addr), PG (X.blk s H scope (compEnvC scope cl C X.env) fp) tg (tGj X.K X.mg W0 js t)) (ht : ∀ (s : Shared) (H : Hp) (C : Addr) (cl : List (Str × Addr)) (fp : List Addr), PTs (X.blk s H scope (compEnvC scope cl C X.env) fp) ifs (tT X.K X.mg W0 c))
    (he : ∀ (s : Shared) (H : Hp) (C : Addr) (cl : List (Str × Addr)) (fp : List Addr), PE (X.blk s H scope (compEnvC scope cl C X.env) fp) elt (tE X.K X.mg W0 e)) (hj : ∀ j ∈ js, j ∈ own.map (·.2) := by decide) (hs : ∀ x, foldedSetIterable iter X.env x = pure x := by intro _; rfl) :
    PEy X W (.ListComp elt [⟨tg, iter, ifs, 0⟩] scope pos) (sLcN (own.map (·.2)) fs t c e) := PE_imp (pe_lc G.calm G.nd hi ok hg ht he hs) fun σ H Q h => lcN_read hj h
/-- y = [..] on one line -/
theorem psy_setLc {i : Nat} {y : Str} {py spos : Pos} (G : Gd X W) (hi : PIy X W tg iter fs) (ok : BlkOk X.N X.env.scope scope own)
    (hg : ∀ (s : Shared) (H : Hp) (C : Addr) (cl : List (Str × Addr)) (fp : List Addr), PG (X.blk s H scope (compEnvC scope cl C X.env) fp) tg (tGj X.K X.mg W0 js t)) (ht : ∀ (s : Shared) (H : Hp) (C : Addr) (cl : List (Str × Addr)) (fp : List Addr), PTs (X.blk s H scope (compEnvC scope cl C X.env) fp) ifs (tT X.K X.mg W0 c))
    (he : ∀ (s : Shared) (H : Hp) (C : Addr) (cl : List (Str × Addr)) (fp : List Addr), PE (X.blk s H scope (compEnvC scope cl C X.env) fp) elt (tE X.K X.mg W0 e)) (hsw : swapsWith (.ListComp elt [⟨tg, iter, ifs, 0⟩] scope pos) (some (.Name y py)) spos.line X.env = pure true) (hy : X.N[i]? = some y := by rfl) (hyl : X.env.scope.names.lookup y = some .local := by rfl)
    (hj : ∀ j ∈ js, j ∈ own.map (·.2) := by decide) (hs : ∀ x, foldedSetIterable iter X.env x = pure x := by intro _; rfl) :
    PSy X W (.Assign [.Name y py] (.ListComp elt [⟨tg, iter, ifs, 0⟩] scope pos) spos) (sAsg (sLc (own.map (·.2)) fs t c e) (gNm i)) :=
  PS_imp (ps_setLc G.calm G.nd hy hyl hsw hi ok hg ht he hs) fun D σ H h => lc_read hj (set_read h)
theorem psy_setLcN {i : Nat} {y : Str} {py spos : Pos} (G : Gd X W) (hi : PIy X W tg iter fs) (ok : BlkOk X.N X.env.scope scope own)
    (hg : ∀ (s : Shared) (H : Hp) (C : Addr) (cl : List (Str × Addr)) (fp : List Addr), PG (X.blk s H scope (compEnvC scope cl C X.env) fp) tg (tGj X.K X.mg W0 js t)) (ht : ∀ (s : Shared) (H : Hp) (C : Addr) (cl : List (Str × Addr)) (fp : List Addr), PTs (X.blk s H scope (compEnvC scope cl C X.env) fp) ifs (tT X.K X.mg W0 c))
    (he : ∀ (s : Shared) (H : Hp) (C : Addr) (cl : List (Str × Addr)) (fp : List Addr), PE (X.blk s H scope (compEnvC scope cl C X.env) fp) elt (tE X.K X.mg W0 e)) (hsw : swapsWith (.ListComp elt [⟨tg, iter, ifs, 0⟩] scope pos) (some (.Name y py)) spos.line X.env = pure true) (hy : X.N[i]? = some y := by rfl) (hyl : X.env.scope.names.lookup y = some .local := by rfl)
    (hj : ∀ j ∈ js, j ∈ own.map (·.2) := by decide) (hs : ∀ x, foldedSetIterable iter X.env x = pure x := by intro _; rfl) :
    PSy X W (.Assign [.Name y py] (.ListComp elt [⟨tg, iter, ifs, 0⟩] scope pos) spos) (sAsg (sLcN (own.map (·.2)) fs t c e) (gNm i)) :=
  PS_imp (ps_setLc G.calm G.nd hy hyl hsw hi ok hg ht he hs) fun D σ H h => lcN_read hj (set_read h)
end
end
end Y

set_option maxHeartbeats 2000000
/-! enumerate over a tuple. -/
namespace Y
open PySem PySem.Spec PyProof.Rows L2

set_option maxHeartbeats 4000000 in
theorem meets_enum1 {v : Value} {o : Obj} {H : Heap → Prop} (B : Begins v o H) :
    Meets (Builtin.«enumerate.__new__» ⟨[.type "enumerate", v], []⟩) (fun _ R s => H s.heap ∧
      R (.ok (.ret (.ref (s.heap.push o).objs.size))) { s with heap := (s.heap.push o).push { cls := .type "enumerate", data := .fields #[.none, .bool false, .ref s.heap.objs.size, rawInt 0, .none, .none] } }) :=
  .of_wp fun prog w A R s h => by
    obtain ⟨hp, g, d, tk, os⟩ := s; obtain ⟨h1, h⟩ := h
    have hsub := sub_enumerate
    have q1 : ∀ {A' : Around} {E : Value → Shared → Prop} {Q : Value → Shared → Prop}, Q (.ref hp.objs.size) ⟨hp.push o, g, d, tk, os⟩ → wpAny (model prog w) A' (pyIter v) Q E ⟨hp, g, d, tk, os⟩ :=
      fun q => B.iter prog w _ _ ⟨hp, g, d, tk, os⟩ _ h1 q
    wp_walk using q1
    refine wpAny_stack_any fun st => wpAny_pure ?_
    split
    · rename_i c _ _ _ _ _
      cases (c == Value.type "enumerate")
      · wp_walk using q1
        exact ⟨_, rfl, h⟩
      · wp_walk using q1
        exact ⟨_, rfl, h⟩
    · wp_walk using q1
      exact ⟨_, rfl, h⟩
theorem call_enum1 {prog : Program} {w : World} {A : Around} {E : Value → Shared → Prop} {s : Shared} {v : Value} {o : Obj} {H : Heap → Prop} {Q : Value → Shared → Prop} (B : Begins v o H) (h1 : H s.heap)
    (h : ∀ h', IsEnum h' (s.heap.objs.size + 1) s.heap.objs.size 0 .none → h'.get? s.heap.objs.size = some o → h'.objs.size = s.heap.objs.size + 2 →
      (∀ b o, s.heap.get? b = some o → h'.get? b = some o) → Q (.ref (s.heap.objs.size + 1)) { s with heap := h' }) :
    wpAny (model prog w) A (call (.type "enumerate") [v]) Q E s := by
  refine callType_new F.called_enumerate (by decide) (F.typeCall_enumerate_1 _) (F.newCall_enumerate_1 _) (fun obj => F.args_object_init_2 obj _) F.entry_enumerate_new
    (meets_enum1 B) ⟨h1, ?_⟩
  have hz : (s.heap.push o).objs.size = s.heap.objs.size + 1 := Heap.size_push ..
  show _ ∧ _
  rw [hz]
  have he : IsEnum ((s.heap.push o).push { cls := .type "enumerate", data := .fields #[.none, .bool false, .ref s.heap.objs.size, rawInt 0, .none, .none] }) (s.heap.objs.size + 1) s.heap.objs.size 0 .none := by
    have := Heap.get?_push_size (s.heap.push o) (o := { cls := .type "enumerate", data := .fields #[.none, .bool false, .ref s.heap.objs.size, rawInt 0, .none, .none] }) rfl
    rw [hz] at this; exact this
  refine ⟨⟨_, he, rfl⟩, h _ he (Heap.get?_push_of_some _ (Heap.get?_push_size _ B.free)) (by rw [Heap.size_push, hz]) fun b o x => Heap.get?_push_of_some _ (Heap.get?_push_of_some _ x)⟩

def IteT (K : PySem.W.Frag) (a : Addr) : It :=
  ⟨fun i H => ∃ (xs : List V) (x : V), SqT K H a xs ∧ xs[i]? = some x, fun i H v H' => ∃ T x, v = .ref T ∧ H T = none ∧ H' = upd H T (.tup [.int (i : Nat), x]) ∧ ∀ xs, SqT K H a xs → xs[i]? = some x, fun i H => ∃ xs : List V, SqT K H a xs ∧ xs.length = i⟩
theorem turn_enumT {P : Program} {w : World} {K : PySem.W.Frag} {elts : List Expr} {kk : Nat} {tpos : Pos} (a e it : Addr) (hai : a ≠ it) (hae : a ≠ e) :
    Turn P w K (.Tuple elts kk tpos) (IteT K a) [e, it] e (fun i h => (∃ old, IsEnum h e it ((i : Nat) : Int) old) ∧ h.IsTupleIter it a i ∧ e ≠ it) where
  mem := by simp
  obj := fun i h st b hb => by
    obtain ⟨⟨old, he⟩, ⟨o, ho, hc, hd⟩, _⟩ := st
    have e' : b = e ∨ b = it := by simpa using hb
    rcases e' with z | z
    · rw [z]; exact ⟨_, he, fun v q => nomatch q⟩
    · rw [z]; exact ⟨o, ho, fun v q => by rw [hd] at q; cases q⟩
  keep := fun i h h' st k => let ⟨⟨old, he⟩, hi, hne⟩ := st; ⟨⟨old, k e (by simp) _ he⟩, hi.at fun o q => k it (by simp) o q, hne⟩
  item := by
    intro X hP hw hK hc i pins s σ H E I hf st hg
    subst hP hw hK
    obtain ⟨⟨old, he⟩, hit, hne⟩ := st
    obtain ⟨xs, x, hq, hx⟩ := hg
    obtain ⟨its, rv, p, hz⟩ := I.tuple hq
    obtain ⟨u, hu, ru⟩ := rv.get hx
    have hel : e < s.heap.objs.size := Heap.lt_size he
    have hil : it < s.heap.objs.size := by obtain ⟨_, q, _⟩ := hit; exact Heap.lt_size q
    have hi : i < its.toArray.size := by
      have := (List.getElem?_eq_some_iff.mp hu).1
      simpa using this
    refine wpAny_pyNext_enum_itemC (Draws.tuple (prog := X.prog) (w := X.w) (A := X.A.in1) (I.ok.hd hc) it a hai its.toArray) he ⟨hit, p⟩ hi hne (by simp [hne, Ne.symm hae]) fun y h' tk hy ho hit' hT hsz hk => ?_
    have ey : y = u := by
      have q : its.toArray[i]? = some u := by simpa using hu
      rw [q] at hy; exact (Option.some.inj hy).symm
    subst ey
    obtain ⟨hit', _⟩ := hit'
    refine ⟨_, rfl, wpAny_letOwnedTupleGo_enum (s := { s with heap := h', toks := tk + 1 }) ho fun h'' he' sb => ?_⟩
    have hT2 : h''.get? s.heap.objs.size = some { cls := .type "tuple", data := .seq #[.int i tk, y] } := (sb.2 _ (Nat.ne_of_gt hel)).trans hT
    have new : ObjOk X.prog X.w (upd H s.heap.objs.size (.tup [.int (i : Nat), x])) h'' s.heap.objs.size (.tup [.int (i : Nat), x]) :=
      ⟨by show 2 ≤ sizeLine; decide, [.int i tk, y], .cons ⟨_, rfl⟩ (.cons ru .nil), ⟨_, hT2, rfl, _, rfl⟩⟩
    have I1 : Inv X pins σ (upd H s.heap.objs.size (.tup [.int (i : Nat), x])) { s with heap := h'', toks := tk + 1 } :=
      I.turnedNew (ch := [e, it]) (fun b ob hb q => (sb.2 b (fun z => hb (by simp [z]))).trans (hk b ob (fun z => hb (by simp [z])) (fun z => hb (by simp [z])) q)) hf (Nat.le_refl _) new
    refine ⟨.ref s.heap.objs.size, _, I1, rfl, ⟨_, x, rfl, I.hok.fresh (Nat.le_refl _), rfl, fun ys hy => by rw [I.tuple_inj hy hq]; exact hx⟩, ⟨⟨y, ?_⟩, hit'.at fun o q => (sb.2 it (Ne.symm hne)).trans q, hne⟩, fun b hb => ?_⟩
    · have e1 : ((i + 1 : Nat) : Int) = (i : Int) + 1 := by omega
      rw [e1]; exact he'
    · have hb' : b < s.heap.objs.size := by
        have e' : b = e ∨ b = it := by simpa using hb
        rcases e' with z | z
        · rw [z]; exact hel
        · rw [z]; exact hil
      rw [upd_ne (Nat.ne_of_lt hb')]
      exact (hf b hb).1
  done := by
    intro X hP hw hK hc i pins s σ H E I hf st hg
    subst hP hw hK
    obtain ⟨⟨old, he⟩, hit, hne⟩ := st
    obtain ⟨xs, hq, hx⟩ := hg
    obtain ⟨its, rv, p, hz⟩ := I.tuple hq
    obtain ⟨f0, f1, f2, f3, f4, f5⟩ := hf it (by simp)
    have hl := rv.length
    have ei : i = its.toArray.size := by simp; omega
    subst ei
    exact wpAny_pyNext_enum_endD (Draws.tuple (prog := X.prog) (w := X.w) (A := X.A.in1) (I.ok.hd hc) it a hai its.toArray) he ⟨hit, p⟩ fun h' eb => ⟨rfl, I.turned (t' := s.toks) (fun b o hb q => eb b o hb q) f0 f1 f3 f4 f5⟩
  self := fun A i s Q E st h => let ⟨⟨_, he⟩, _⟩ := st; wpAny_pyIter_enum he h
def iEnumA (K : PySem.W.Frag) (ta : TA) : TI := fun σ H R => ta σ H fun vs H1 => ∃ a xs, vs = [.ref a] ∧ ((SqL K H1 a xs ∧ R (Ite K a) H1) ∨ (SqT K H1 a xs ∧ R (IteT K a) H1))
theorem pi_enumA {X : Cx} {e : Expr} {ta : TA} {p pos tpos : Pos} {elts : List Expr} {kk : Nat} (hg : Gl X "enumerate") (hm : X.mg "enumerate" = none) (ha : PA X [e] ta) (hs : starEach [e] X.env = [(false, eval e X.env)] := by rfl) :
    PI X (.Tuple elts kk tpos) (.Call (.Name "enumerate" p) [e] [] pos) (iEnumA X.K ta) := by
  refine ⟨fun pins s σ H R I h => ?_⟩
  refine Call_ (ld_blt I hg hm boot_enumerate (PyProof.Rows.callWith_type1 (thn (ha.run pos pins s σ H _ I h) fun us s1 ⟨vs, H1, I1, r1, q1⟩ => ?_) hs rfl))
  obtain ⟨a, xs, ex, q1⟩ := q1
  subst ex
  cases r1 with
  | cons r rr =>
    cases rr
    cases r
    have fr : ∀ b ∈ [s1.heap.objs.size + 1, s1.heap.objs.size], FpOk X pins H1 b := fun b hb => by
      have e' : b = s1.heap.objs.size + 1 ∨ b = s1.heap.objs.size := by simpa using hb
      have hle : s1.heap.objs.size ≤ b := by
        rcases e' with z | z
        · rw [z]; exact Nat.le_add_right _ _
        · rw [z]; exact Nat.le_refl _
      exact I1.fpOk hle (I1.hok.fresh hle)
    rcases q1 with ⟨hq, q⟩ | ⟨hq, q⟩
    · obtain ⟨its, rv, p', hz⟩ := I1.list hq
      refine call_enumerate_list p'.isList fun h' he hit hsz hk => wpAny_pyIter_enum he ?_
      have I2 : Inv X pins σ H1 { s1 with heap := h' } := I1.kept (t' := s1.toks) hk
      exact ⟨s1.heap.objs.size + 1, [s1.heap.objs.size + 1, s1.heap.objs.size], _, _, H1, rfl, I2, turn_enum a (s1.heap.objs.size + 1) s1.heap.objs.size, ⟨⟨.none, he⟩, hit, Nat.succ_ne_self _⟩, fr, q⟩
    · obtain ⟨its, rv, p', hz⟩ := I1.tuple hq
      have la : a < s1.heap.objs.size := by obtain ⟨o, ho, _⟩ := id p'; exact Heap.lt_size ho
      refine call_enum1 (begins_tuple a its.toArray) (show s1.heap.IsTuple a its.toArray from p') fun h' he hit hsz hk => wpAny_pyIter_enum he ?_
      have I2 : Inv X pins σ H1 { s1 with heap := h' } := I1.kept (t' := s1.toks) hk
      exact ⟨s1.heap.objs.size + 1, [s1.heap.objs.size + 1, s1.heap.objs.size], _, _, H1, rfl, I2, turn_enumT a (s1.heap.objs.size + 1) s1.heap.objs.size (Nat.ne_of_lt la) (Nat.ne_of_lt (Nat.lt_succ_of_lt la)), ⟨⟨.none, he⟩, ⟨_, hit, rfl, rfl⟩, Nat.succ_ne_self _⟩, fr, q⟩
end Y

set_option maxHeartbeats 2000000
/-! Layer 6: defs, calls, what is walked. -/
namespace Y
open PySem PySem.Spec PyProof.Rows L2

/-! ### data without cells -/
mutual
def D.noRef : D → Bool
  | .ref _ => false
  | .tup xs => D.noRefs xs
  | .lst xs => D.noRefs xs
  | .dict _ xs => D.noRefs xs
  | _ => true
def D.noRefs : List D → Bool
  | [] => true
  | x :: xs => x.noRef && D.noRefs xs
end
def mapO {α β : Type} (f : α → Option β) : List α → Option (List β)
  | [] => some []
  | x :: xs => match f x, mapO f xs with
    | some y, some ys => some (y :: ys)
    | _, _ => none
/-- cells read off, n deep -/
def fz : Nat → Store → D → Option D
  | 0, _, _ => none
  | n + 1, S, d => match d with
    | .ref i => match S[i]? with
      | some (.lst xs) => (mapO (fz n S) xs).map .lst
      | some (.dict ks xs) => (mapO (fz n S) xs).map (.dict ks)
      | _ => none
    | .tup xs => (mapO (fz n S) xs).map .tup
    | .lst xs => (mapO (fz n S) xs).map .lst
    | .dict ks xs => (mapO (fz n S) xs).map (.dict ks)
    | d => some d

/-- a def that may change cells -/
def mkFn (np n : Nat) (g : SS) : Fn := fun ds S => if ds.length = np then (g (ds.map some ++ List.replicate (n - ds.length) none) S).bind fun fl S' => match fl with
    | .nx _ => .ok .non S'
    | .ret d => .ok d S'
    | _ => .stuck
  else .stuck
/-- what a def computes of data without cells: its own cells are read off at the end -/
def runP (np n : Nat) (g : SS) (ds : List D) : Res D := if ds.length = np ∧ D.noRefs ds = true then match g (ds.map some ++ List.replicate (n - ds.length) none) [] with
    | .ok (.nx _) _ => .ok .non []
    | .ok (.ret d) S' => match fz 60 S' d with
      | some d' => .ok d' []
      | none => .stuck
    | .err ⟨c, none⟩ _ => .err ⟨c, none⟩ []
    | .err ⟨c, some (f, a)⟩ S' => match fz 60 S' a with
      | some a' => .err ⟨c, some (f, a')⟩ []
      | none => .stuck
    | _ => .stuck
  else .stuck
def mkP (np n : Nat) (g : SS) : Fn := fun ds S => match runP np n g ds with
  | .ok d _ => .ok d S
  | .err x _ => .err x S
  | .stuck => .stuck

section
variable {G : Gx} {ρ : List Addr} {H : Hp}
mutual
theorem RD.inside (S : Store) (hs : RS G ρ H S) : ∀ {d : D} {v : V}, D.noRef d = true → RD G ρ H d v → RD ⟨G.K, G.mg, ρ ++ G.hid⟩ [] H d v
  | .non, v, _, h => by unfold RD at h ⊢; exact h
  | .bl b, v, _, h => by unfold RD at h ⊢; exact h
  | .int i, v, _, h => by unfold RD at h ⊢; exact h
  | .str x, v, _, h => by unfold RD at h ⊢; exact h
  | .ty n, v, _, h => by unfold RD at h ⊢; exact h
  | .tup xs, v, q, h => by
    unfold RD at h ⊢
    unfold D.noRef at q
    obtain ⟨a, vs, e1, e2, e3⟩ := h
    refine ⟨a, vs, e1, ?_, RDs.inside S hs q e3⟩
    rcases e2 with ⟨r, n1, n2⟩ | r
    · exact .inl ⟨r, by simp, fun z => (List.mem_append.mp z).elim n1 n2⟩
    · exact .inr r
  | .lst xs, v, q, h => by
    unfold RD at h ⊢
    unfold D.noRef at q
    obtain ⟨a, vs, e1, ⟨r, n1, n2⟩, e3⟩ := h
    exact ⟨a, vs, e1, ⟨r, by simp, fun z => (List.mem_append.mp z).elim n1 n2⟩, RDs.inside S hs q e3⟩
  | .dict ks xs, v, q, h => by
    unfold RD at h ⊢
    unfold D.noRef at q
    obtain ⟨a, vs, e1, ⟨r, n1, n2⟩, e3, e4⟩ := h
    exact ⟨a, vs, e1, ⟨r, by simp, fun z => (List.mem_append.mp z).elim n1 n2⟩, e3, RDs.inside S hs q e4⟩
  | .ref i, v, q, h => by unfold D.noRef at q; cases q
  | .glb x, v, _, h => by unfold RD at h ⊢; exact h
  | .scr ns, v, _, h => by
    unfold RD at h ⊢
    obtain ⟨a, e1, e2⟩ := h
    refine ⟨a, e1, ?_⟩
    rcases e2 with ⟨r, n1, n2⟩ | r
    · exact .inl ⟨r, by simp, fun z => (List.mem_append.mp z).elim n1 n2⟩
    · exact .inr r
theorem RDs.inside (S : Store) (hs : RS G ρ H S) : ∀ {xs : List D} {vs : List V}, D.noRefs xs = true → RDs G ρ H xs vs → RDs ⟨G.K, G.mg, ρ ++ G.hid⟩ [] H xs vs
  | [], [], _, _ => by unfold RDs; trivial
  | x :: xs, v :: vs, q, h => by
    unfold RDs at h ⊢
    unfold D.noRefs at q
    simp only [Bool.and_eq_true] at q
    exact ⟨RD.inside S hs q.1 h.1, RDs.inside S hs q.2 h.2⟩
  | [], _ :: _, _, h => by unfold RDs at h; exact h.elim
  | _ :: _, [], _, h => by unfold RDs at h; exact h.elim
end
theorem RS.inside {S : Store} (hs : RS G ρ H S) : RS ⟨G.K, G.mg, ρ ++ G.hid⟩ [] H [] :=
  ⟨rfl, List.nodup_nil, fun a h => (List.mem_append.mp h).elim (fun z => hs.there z) fun z => hs.hid a z, fun a h => by simp at h, fun i a c h => by simp at h⟩
/-- frozen data lie so that they are no cells -/
theorem frozen {S : Store} (hs : RS G ρ H S) : ∀ (n : Nat) {d d' : D} {v : V}, fz n S d = some d' → RD G ρ H d v → RD G [] H d' v
  | 0, _, _, _, e, _ => by simp [fz] at e
  | n + 1, d, d', v, e, r => by
    have ih2 : ∀ {xs ys : List D} {vs : List V}, mapO (fz n S) xs = some ys → RDs G ρ H xs vs → RDs G [] H ys vs := by
      intro xs
      induction xs with
      | nil =>
        intro ys vs e r
        unfold mapO at e; cases e
        rw [r.nil_inv]; exact .nil
      | cons x xs ih =>
        intro ys vs e r
        obtain ⟨v, vs', rfl, r1, r2⟩ := r.cons_inv
        unfold mapO at e
        cases h1 : fz n S x with
        | none => rw [h1] at e; cases e
        | some y =>
          cases h2 : mapO (fz n S) xs with
          | none => rw [h1, h2] at e; cases e
          | some ys' =>
            rw [h1, h2] at e; cases e
            exact .cons (frozen hs n h1 r1) (ih h2 r2)
    have tup0 : ∀ {a : Addr} {vs : List V}, TupAt G ρ H a vs → TupAt G [] H a vs := fun {a vs} h => by
      rcases h with ⟨r, _, n2⟩ | r
      · exact .inl ⟨r, by simp, n2⟩
      · exact .inr r
    · cases d with
      | ref i =>
        unfold fz at e
        dsimp only at e
        unfold RD at r
        obtain ⟨a, rfl, ha⟩ := r
        cases hc : S[i]? with
        | none => rw [hc] at e; cases e
        | some c =>
          rw [hc] at e
          have q := hs.cell i a c ha hc
          have nh := hs.dis a (List.mem_of_getElem? ha)
          cases c with
          | lst xs =>
            obtain ⟨vs, h1, h2⟩ := q
            dsimp only at e
            cases h3 : mapO (fz n S) xs with
            | none => rw [h3] at e; cases e
            | some ys =>
              rw [h3] at e; cases e
              unfold RD
              exact ⟨a, vs, rfl, ⟨h1, by simp, nh⟩, ih2 h3 h2⟩
          | dict ks xs =>
            obtain ⟨vs, h1, hl, h2⟩ := q
            dsimp only at e
            cases h3 : mapO (fz n S) xs with
            | none => rw [h3] at e; cases e
            | some ys =>
              rw [h3] at e; cases e
              unfold RD
              exact ⟨a, vs, rfl, ⟨.inl h1, by simp, nh⟩, hl, ih2 h3 h2⟩
          | dead => cases e
      | tup xs =>
        unfold fz at e
        dsimp only at e
        cases h3 : mapO (fz n S) xs with
        | none => rw [h3] at e; cases e
        | some ys =>
          rw [h3] at e; cases e
          unfold RD at r ⊢
          obtain ⟨a, vs, e1, e2, e3⟩ := r
          exact ⟨a, vs, e1, tup0 e2, ih2 h3 e3⟩
      | lst xs =>
        unfold fz at e
        dsimp only at e
        cases h3 : mapO (fz n S) xs with
        | none => rw [h3] at e; cases e
        | some ys =>
          rw [h3] at e; cases e
          unfold RD at r ⊢
          obtain ⟨a, vs, e1, ⟨e2, _, n2⟩, e3⟩ := r
          exact ⟨a, vs, e1, ⟨e2, by simp, n2⟩, ih2 h3 e3⟩
      | dict ks xs =>
        unfold fz at e
        dsimp only at e
        cases h3 : mapO (fz n S) xs with
        | none => rw [h3] at e; cases e
        | some ys =>
          rw [h3] at e; cases e
          unfold RD at r ⊢
          obtain ⟨a, vs, e1, ⟨e2, _, n2⟩, e4, e3⟩ := r
          exact ⟨a, vs, e1, ⟨e2, by simp, n2⟩, e4, ih2 h3 e3⟩
      | non => unfold fz at e; cases e; unfold RD at r ⊢; exact r
      | bl b => unfold fz at e; cases e; unfold RD at r ⊢; exact r
      | int b => unfold fz at e; cases e; unfold RD at r ⊢; exact r
      | str b => unfold fz at e; cases e; unfold RD at r ⊢; exact r
      | ty b => unfold fz at e; cases e; unfold RD at r ⊢; exact r
      | glb b => unfold fz at e; cases e; unfold RD at r ⊢; exact r
      | scr b =>
        unfold fz at e; cases e; unfold RD at r ⊢
        obtain ⟨a, e1, e2⟩ := r
        refine ⟨a, e1, ?_⟩
        rcases e2 with ⟨r, _, n2⟩ | r
        · exact .inl ⟨r, by simp, n2⟩
        · exact .inr r
theorem out_of {a : Addr} {hd : List Addr} (n : a ∉ ρ ++ hd) : a ∉ ρ ∧ a ∉ hd := ⟨fun z => n (List.mem_append_left _ z), fun z => n (List.mem_append_right _ z)⟩
mutual
theorem RD.outside : ∀ {d : D} {v : V}, RD ⟨G.K, G.mg, ρ ++ G.hid⟩ [] H d v → RD G ρ H d v
  | .non, v, h => by unfold RD at h ⊢; exact h
  | .bl b, v, h => by unfold RD at h ⊢; exact h
  | .int i, v, h => by unfold RD at h ⊢; exact h
  | .str x, v, h => by unfold RD at h ⊢; exact h
  | .ty n, v, h => by unfold RD at h ⊢; exact h
  | .tup xs, v, h => by
    unfold RD at h ⊢
    obtain ⟨a, vs, e1, e2, e3⟩ := h
    refine ⟨a, vs, e1, ?_, RDs.outside e3⟩
    rcases e2 with ⟨r, _, n2⟩ | r
    · exact .inl ⟨r, out_of n2⟩
    · exact .inr r
  | .lst xs, v, h => by
    unfold RD at h ⊢
    obtain ⟨a, vs, e1, ⟨r, _, n2⟩, e3⟩ := h
    exact ⟨a, vs, e1, ⟨r, out_of n2⟩, RDs.outside e3⟩
  | .dict ks xs, v, h => by
    unfold RD at h ⊢
    obtain ⟨a, vs, e1, ⟨r, _, n2⟩, e3, e4⟩ := h
    exact ⟨a, vs, e1, ⟨r, out_of n2⟩, e3, RDs.outside e4⟩
  | .ref i, v, h => by
    unfold RD at h
    obtain ⟨a, _, h⟩ := h
    simp at h
  | .glb x, v, h => by unfold RD at h ⊢; exact h
  | .scr ns, v, h => by
    unfold RD at h ⊢
    obtain ⟨a, e1, e2⟩ := h
    refine ⟨a, e1, ?_⟩
    rcases e2 with ⟨r, _, n2⟩ | r
    · exact .inl ⟨r, out_of n2⟩
    · exact .inr r
theorem RDs.outside : ∀ {xs : List D} {vs : List V}, RDs ⟨G.K, G.mg, ρ ++ G.hid⟩ [] H xs vs → RDs G ρ H xs vs
  | [], [], _ => by unfold RDs; trivial
  | x :: xs, v :: vs, h => by
    unfold RDs at h ⊢
    exact ⟨RD.outside h.1, RDs.outside h.2⟩
  | [], _ :: _, h => by unfold RDs at h; exact h.elim
  | _ :: _, [], h => by unfold RDs at h; exact h.elim
end
end

/-! ### a def's promise -/
def spOf (K : PySem.W.Frag) (mg : Str → Option Value) (np : Nat) (F : Fn) : Sp := fun vs H Q E => vs.length = np ∧ ∃ η ρ S ds, RS ⟨K, mg, η⟩ ρ H S ∧ RDs ⟨K, mg, η⟩ ρ H ds vs ∧
  Out ⟨K, mg, η⟩ E ρ H (F ds S) fun d _ ρ' H' => ∀ v, RD ⟨K, mg, η⟩ ρ' H' d v → Q v H'
/-- a def that stands in the module, kept to what F computes -/
structure Callee (P : Program) (w : World) (K : PySem.W.Frag) (mg : Str → Option Value) (base : Heap) (k : Nat) (x : Str) (np : Nat) (F : Fn) : Prop where
  ex : ∃ (f : Addr) (fd : FuncData) (ps : List Str), ps.length = np ∧ FnOk P w K mg base (L2.CX P w) k f fd ps (spOf K mg np F) ∧ mg x = some (.ref f) ∧ PySem.W.keepIn K (.ref f) = true ∧ Binds K fd ps []
theorem Callee.mono {P : Program} {w : World} {K : PySem.W.Frag} {mg : Str → Option Value} {base : Heap} {j k : Nat} {x : Str} {np : Nat} {F : Fn} (C : Callee P w K mg base j x np F) (h : j ≤ k) : Callee P w K mg base k x np F := by
  obtain ⟨f, fd, ps, h1, h2, h3⟩ := C
  exact ⟨f, fd, ps, h1, h2.mono h, h3⟩
theorem start_r3 {G : Gx} {ρ : List Addr} {H : Hp} {S : Store} {N : List Str} {ds : List D} {vs : List V} (r : RDs G ρ H ds vs) (s : RS G ρ H S) : R3 G ρ (L2.start N vs) H (ds.map some ++ List.replicate (N.length - ds.length) none) S := by
  have hl := r.len
  refine ⟨by unfold L2.start; simp [hl], fun i d h => ?_, s⟩
  by_cases hi : i < ds.length
  · rw [List.getElem?_append_left (by simpa using hi), List.getElem?_map] at h
    cases e : ds[i]? with
    | none => rw [e] at h; cases h
    | some x =>
      rw [e] at h; cases h
      obtain ⟨v, h1, h2⟩ := r.get e
      refine ⟨v, ?_, h2⟩
      unfold L2.start
      rw [List.getElem?_append_left (by simp; omega), List.getElem?_map, h1]
      rfl
  · rw [List.getElem?_append_right (by simp; omega), List.getElem?_replicate] at h
    split at h <;> cases h
section
variable {P : Program} {w : World} {K : PySem.W.Frag} {mg : Str → Option Value} {base : Heap}
theorem gd_of {N : List Str} {qual : Str} {sc : Scope} {f : Addr} {cd : Value} {A : Around} {outer : List PySem.Env} {s : Shared} {H : Hp} {E : XK} (nd : N.Nodup) :
    Gd (cxOf (L2.CX P w) P w K mg base N qual sc f cd A outer s H E) (fun c d _ H => E c d H) :=
  ⟨rfl, passes_of rfl, takes_of rfl rfl rfl rfl, nd⟩
/-- THE RULE for a def, by what its body computes -/
theorem fn_y {x qual : Str} {st : Stmt} {f : Addr} {fd : FuncData} {N ps : List Str} {k : Nat} {g : SS} (F : Fun K x qual st f fd) (Sc : FnScope N ps (defScope st))
    (hb : ∀ (cdv : Value) (A : Around) (outer : List PySem.Env) (s : Shared) (H : Hp) (E : XK), Room k (A.deeper (envOfC qual (defScope st) s.heap.objs.size f cdv)) →
      Gd (cxOf (L2.CX P w) P w K mg base N qual (defScope st) f cdv A outer s H E) (fun c d _ H => E c d H) →
      PSsy (cxOf (L2.CX P w) P w K mg base N qual (defScope st) f cdv A outer s H E) (fun c d _ H => E c d H) (defBody st) g) :
    FnOk P w K mg base (L2.CX P w) (k + 1) f fd ps (spOf K mg ps.length (mkFn ps.length N.length g)) := by
  refine F.okX Sc (fun vs H Q E h => h.1) fun cdv A outer s H vs Q E hr h => ⟨_, hb cdv A outer s H E hr (gd_of Sc.nd), ?_⟩
  obtain ⟨hl, η, ρ, S, ds, rs, rd, o⟩ := h
  unfold mkFn at o
  rw [if_pos (by rw [rd.len]; exact hl)] at o
  refine ⟨η, ρ, _, S, start_r3 rd rs, (Out.bind o).imp (fun _ _ _ x _ => x) fun fl S1 ρ1 H1 e1 s1 o1 => ?_⟩
  cases fl with
  | nx env => exact fun σ r => o1 ρ1 H1 Ext.refl s1 .non (by unfold RD; rfl)
  | ret d => exact fun v rv => o1 ρ1 H1 Ext.refl s1 v rv
  | brk env => exact o1.elim
  | ct env => exact o1.elim
theorem RS.outside {G : Gx} {ρ ρ' : List Addr} {H H' : Hp} {S : Store} (rs : RS G ρ H S) (e : Ext [] H ρ' H') : Ext ρ H ρ H' ∧ RS G ρ H' S := by
  have e2 : Ext ρ H ρ H' := ⟨⟨[], by simp⟩, fun a o _ h => e.keep a o (by simp) h, e.there⟩
  exact ⟨e2, rs.len, rs.nd, fun a h => by
    obtain ⟨o, q⟩ := rs.hid a h
    exact ⟨o, e.keep a o (by simp) q⟩, rs.dis, fun i a c h1 h2 => (rs.cell i a c h1 h2).ext e2 fun o q => e.keep a o (by simp) q⟩
/-- .. that computes data of data -/
theorem fn_p {x qual : Str} {st : Stmt} {f : Addr} {fd : FuncData} {N ps : List Str} {k : Nat} {g : SS} (F : Fun K x qual st f fd) (Sc : FnScope N ps (defScope st))
    (hb : ∀ (cdv : Value) (A : Around) (outer : List PySem.Env) (s : Shared) (H : Hp) (E : XK), Room k (A.deeper (envOfC qual (defScope st) s.heap.objs.size f cdv)) →
      Gd (cxOf (L2.CX P w) P w K mg base N qual (defScope st) f cdv A outer s H E) (fun c d _ H => E c d H) →
      PSsy (cxOf (L2.CX P w) P w K mg base N qual (defScope st) f cdv A outer s H E) (fun c d _ H => E c d H) (defBody st) g) :
    FnOk P w K mg base (L2.CX P w) (k + 1) f fd ps (spOf K mg ps.length (mkP ps.length N.length g)) := by
  refine F.okX Sc (fun vs H Q E h => h.1) fun cdv A outer s H vs Q E hr h => ⟨_, hb cdv A outer s H E hr (gd_of Sc.nd), ?_⟩
  obtain ⟨hl, η, ρ, S, ds, rs, rd, o⟩ := h
  unfold mkP runP at o
  by_cases hc : ds.length = ps.length ∧ D.noRefs ds = true
  case neg => rw [if_neg hc] at o; exact o.elim
  rw [if_pos hc] at o
  refine ⟨ρ ++ η, [], _, [], start_r3 (RDs.inside S rs hc.2 rd) rs.inside, ?_⟩
  generalize hr : g (ds.map some ++ List.replicate (N.length - ds.length) none) [] = r at o
  cases r with
  | stuck => exact o.elim
  | err x S1 =>
    intro ρ1 H1 cls dd e1 s1 rx σ
    obtain ⟨e2, rs2⟩ := rs.outside e1
    obtain ⟨xc, xa⟩ := x
    cases xa with
    | none =>
      refine o ρ H1 cls dd e2 rs2 ?_
      obtain ⟨C, q1, q2, q3⟩ := rx
      exact ⟨C, q1, q2, q3⟩
    | some p =>
      obtain ⟨fl, a⟩ := p
      dsimp only at o
      cases hf : fz 60 S1 a with
      | none => rw [hf] at o; exact o.elim
      | some a' =>
        rw [hf] at o
        obtain ⟨C, q1, q2, d, v, q3, q4, q5, q6⟩ := rx
        have q7 := (frozen s1 60 hf q6).outside (G := ⟨K, mg, η⟩)
        refine o ρ H1 cls dd e2 rs2 ⟨C, q1, q2, d, v, q3, out_of q4.2, q5, q7⟩
  | ok fl S1 =>
    intro ρ1 H1 e1 s1
    obtain ⟨e2, rs2⟩ := rs.outside e1
    cases fl with
    | nx env => exact fun σ r => o ρ H1 e2 rs2 .non (by unfold RD; rfl)
    | brk env => exact o.elim
    | ct env => exact o.elim
    | ret d =>
      intro v rv
      dsimp only at o
      cases hf : fz 60 S1 d with
      | none => rw [hf] at o; exact o.elim
      | some d' =>
        rw [hf] at o
        exact o ρ H1 e2 rs2 v ((frozen s1 60 hf rv).outside (G := ⟨K, mg, η⟩))
end
end Y

set_option maxHeartbeats 2000000
/-! Layer 7: operators by data. -/
namespace Y
open PySem PySem.Spec PyProof.Rows L2

def big : Nat := 114813069527425452423283320117768198402231770208869520047764273682576626139237031385665948631650626991844596463898746277344711896086305533142593135616665318539129989145312280000688779148240044871428926990063486244781615463646388363947317026040466353970904996558162398808944629605623311649536164221970332681344168908984458505602379484807914058900934776500429002716706625830522008132236281291761267883317206598995396418127021779858404042159853183251540889433902091920554957783589672039160081957216630582755380425583726015528348786419432054508915275783882625175435528800822842770817965453762184851149029376
theorem big_eq : big = 2 ^ 2000 := by decide +kernel
/-- a list's items, by value or a cell's -/
def lstOf (S : Store) : D → Option (List D)
  | .lst xs => some xs
  | .ref i => match S[i]? with
    | some (.lst xs) => some xs
    | _ => none
  | _ => none
def dictOf (S : Store) : D → Option (List Key × List D)
  | .dict ks xs => some (ks, xs)
  | .ref i => match S[i]? with
    | some (.dict ks xs) => some (ks, xs)
    | _ => none
  | _ => none
section
variable {G : Gx} {ρ : List Addr} {H : Hp} {S : Store} {d : D} {v : V} {xs : List D}
theorem lst_at (s : RS G ρ H S) (r : RD G ρ H d v) (e : lstOf S d = some xs) : ∃ a vs, v = .ref a ∧ H a = some (.lst vs) ∧ RDs G ρ H xs vs := by
  cases d with
  | lst ys =>
    cases e
    unfold RD at r
    obtain ⟨a, vs, h1, h2, h3⟩ := r
    exact ⟨a, vs, h1, h2.1, h3⟩
  | ref i =>
    unfold lstOf at e
    dsimp only at e
    unfold RD at r
    obtain ⟨a, h1, h2⟩ := r
    cases hc : S[i]? with
    | none => rw [hc] at e; cases e
    | some c =>
      rw [hc] at e
      have q := s.cell i a c h2 hc
      cases c with
      | lst ys => cases e; obtain ⟨vs, q1, q2⟩ := q; exact ⟨a, vs, h1, q1, q2⟩
      | dict _ _ => cases e
      | dead => cases e
  | _ => cases e
theorem dict_at {ks : List Key} (s : RS G ρ H S) (r : RD G ρ H d v) (e : dictOf S d = some (ks, xs)) : ∃ a vs, v = .ref a ∧ Rd H a (.dK (ks.zip vs)) ∧ ks.length = vs.length ∧ RDs G ρ H xs vs := by
  cases d with
  | dict ks' ys =>
    cases e
    unfold RD at r
    obtain ⟨a, vs, h1, h2, h3, h4⟩ := r
    exact ⟨a, vs, h1, h2.1, h3, h4⟩
  | ref i =>
    unfold dictOf at e
    dsimp only at e
    unfold RD at r
    obtain ⟨a, h1, h2⟩ := r
    cases hc : S[i]? with
    | none => rw [hc] at e; cases e
    | some c =>
      rw [hc] at e
      have q := s.cell i a c h2 hc
      cases c with
      | dict ks' ys => cases e; obtain ⟨vs, q1, q2, q3⟩ := q; exact ⟨a, vs, h1, .inl q1, q2, q3⟩
      | lst _ => cases e
      | dead => cases e
  | _ => cases e
theorem tup_at (r : RD G ρ H (.tup xs) v) : ∃ a vs, v = .ref a ∧ SqT G.K H a vs ∧ RDs G ρ H xs vs := by
  unfold RD at r
  obtain ⟨a, vs, h1, h2, h3⟩ := r
  exact ⟨a, vs, h1, h2.sq, h3⟩
theorem items_at (s : RS G ρ H S) (r : RD G ρ H d v) (e : itemsOf S d = some xs) : ∃ a vs, v = .ref a ∧ (SqL G.K H a vs ∨ SqT G.K H a vs) ∧ RDs G ρ H xs vs := by
  cases d with
  | tup ys => cases e; obtain ⟨a, vs, h1, h2, h3⟩ := tup_at r; exact ⟨a, vs, h1, .inr h2, h3⟩
  | lst ys => obtain ⟨a, vs, h1, h2, h3⟩ := lst_at s r (show lstOf S (.lst ys) = some xs from e); exact ⟨a, vs, h1, .inl (.inl (.inl h2)), h3⟩
  | ref i => obtain ⟨a, vs, h1, h2, h3⟩ := lst_at s r (show lstOf S (.ref i) = some xs from e); exact ⟨a, vs, h1, .inl (.inl (.inl h2)), h3⟩
  | _ => cases e
theorem Gives.here {Q : VK} (g : Gives G ρ H S d Q) (s : RS G ρ H S) (r : RD G ρ H d v) : Q v H := g H Ext.refl s v r
theorem Gives.lst {Q : VK} {vs : List V} (g : Gives G ρ H S (.lst xs) Q) (s : RS G ρ H S) (r : RDs G ρ H xs vs) : ∀ p, H p = none → Q (.ref p) (upd H p (.lst vs)) := fun p hp => by
  refine g _ (Ext.new hp) (s.new hp) _ ?_
  unfold RD
  exact ⟨p, vs, rfl, ⟨upd_same, ref_fresh s hp⟩, r.ext (Ext.new hp)⟩
theorem Gives.tup {Q : VK} {vs : List V} (g : Gives G ρ H S (.tup xs) Q) (s : RS G ρ H S) (r : RDs G ρ H xs vs) : ∀ p, H p = none → Q (.ref p) (upd H p (.tup vs)) := fun p hp => by
  refine g _ (Ext.new hp) (s.new hp) _ ?_
  unfold RD
  exact ⟨p, vs, rfl, .inl ⟨.inl upd_same, ref_fresh s hp⟩, r.ext (Ext.new hp)⟩
theorem int_inv {i : Int} (r : RD G ρ H (.int i) v) : v = .int i := by unfold RD at r; exact r
theorem str_inv {i : Str} (r : RD G ρ H (.str i) v) : v = .str i := by unfold RD at r; exact r
theorem int_mk {i : Int} : RD G ρ H (.int i) (.int i) := by unfold RD; rfl
theorem str_mk {i : Str} : RD G ρ H (.str i) (.str i) := by unfold RD; rfl
end

/-! ### + - * // % ** -/
def hAdd : O2 := fun S x y => match x, y with
  | .int i, .int j => some (.int (i + j))
  | .str a, .str b => if a.length + b.length ≤ 1000000 then some (.str (a ++ b)) else none
  | .tup xs, .tup ys => if xs.length + ys.length ≤ 1000000 then some (.tup (xs ++ ys)) else none
  | x, y => match lstOf S x, lstOf S y with
    | some xs, some ys => if xs.length + ys.length ≤ 1000000 then some (.lst (xs ++ ys)) else none
    | _, _ => none
def hSub : O2 := fun _ x y => match x, y with
  | .int i, .int j => some (.int (i - j))
  | _, _ => none
def reps (n : Nat) (xs : List D) : List D := (List.replicate n xs).flatten
def hMul : O2 := fun S x y => match x, y with
  | .int i, .int j => if i.natAbs < big ∧ j.natAbs < big then some (.int (i * j)) else none
  | .tup xs, .int k => if xs ≠ [] ∧ 2 ≤ k ∧ k ≤ 1000 ∧ xs.length ≤ 1000 then some (.tup (reps k.toNat xs)) else none
  | x, .int k => match lstOf S x with
    | some xs => if 0 ≤ k ∧ k ≤ 1000 ∧ xs.length ≤ 1000 then some (.lst (reps k.toNat xs)) else none
    | none => none
  | _, _ => none
def hFdiv : O2 := fun _ x y => match x, y with
  | .int i, .int j => if 0 < j ∧ j.natAbs < big then some (.int (i / j)) else none
  | _, _ => none
def hMod : O2 := fun _ x y => match x, y with
  | .int i, .int j => if 0 < j then some (.int (i % j)) else none
  | _, _ => none
def hPow : O2 := fun _ x y => match x, y with
  | .int i, .int j => if 1 ≤ j ∧ j ≤ 1000 ∧ 1 < i ∧ i.natAbs < big then some (.int (i ^ j.toNat)) else none
  | _, _ => none
def hNeg : O1 := fun _ x => match x with
  | .int i => some (.int (-i))
  | _ => none

theorem log_big {n : Nat} (h : n < big) : n.log2 < 2000 := PySem.Flt.log2_lt_of (by decide) (by rw [← big_eq]; exact h)
theorem lt_big {n : Nat} (h : n < 10 ^ 100) : n < big := Nat.lt_trans h (by decide +kernel)
theorem RDs.reps {G : Gx} {ρ : List Addr} {H : Hp} {xs : List D} {vs : List V} (r : RDs G ρ H xs vs) : ∀ n, RDs G ρ H (reps n xs) (List.replicate n vs).flatten
  | 0 => by unfold Y.reps; exact .nil
  | n + 1 => by
    have ih := RDs.reps r n
    unfold Y.reps at ih ⊢
    rw [List.replicate_succ, List.replicate_succ, List.flatten_cons, List.flatten_cons]
    exact r.append ih
section
variable {X : Cx}
theorem opy_add : OpR X (binaryOp .Add) (r2 X.K X.mg hAdd) := by
  intro pins s σ H x y v u Q I rx ry ⟨η, ρ, S, dx, dy, d, st, rdx, rdy, e, g⟩
  unfold hAdd at e
  split at e
  · rename_i i j
    cases e
    exact op_add pins s σ H x y v u Q I rx ry ⟨i, j, int_inv rdx, int_inv rdy, g.here st int_mk⟩
  · rename_i a b
    split at e
    · rename_i hl
      cases e
      exact op_add_str pins s σ H x y v u Q I rx ry ⟨a, b, str_inv rdx, str_inv rdy, line_of hl, g.here st str_mk⟩
    · cases e
  · rename_i xs ys
    split at e
    · rename_i hl
      cases e
      obtain ⟨a, vs, h1, h2, h3⟩ := tup_at rdx
      obtain ⟨b, ws, k1, k2, k3⟩ := tup_at rdy
      refine op_catA pins s σ H x y v u Q I rx ry ⟨a, b, vs, ws, h1, k1, h2, k2, by rw [← h3.len, ← k3.len]; exact line_of hl, fun z => ?_, fun _ z => ?_, fun _ _ => g.tup st (h3.append k3)⟩
      · subst z
        have e0 : xs = [] := List.eq_nil_of_length_eq_zero (by rw [h3.len]; rfl)
        subst e0
        exact g.here st (k1 ▸ rdy)
      · subst z
        have e0 : ys = [] := List.eq_nil_of_length_eq_zero (by rw [k3.len]; rfl)
        subst e0
        rw [List.append_nil] at g
        exact g.here st (h1 ▸ rdx)
    · cases e
  · split at e
    · rename_i xs ys ex ey
      split at e
      · rename_i hl
        cases e
        obtain ⟨a, vs, h1, h2, h3⟩ := lst_at st rdx ex
        obtain ⟨b, ws, k1, k2, k3⟩ := lst_at st rdy ey
        exact op_cat pins s σ H x y v u Q I rx ry ⟨a, b, vs, ws, h1, k1, h2, k2, by rw [← h3.len, ← k3.len]; exact line_of hl, g.lst st (h3.append k3)⟩
      · cases e
    · cases e
theorem opy_sub : OpR X (binaryOp .Sub) (r2 X.K X.mg hSub) := by
  intro pins s σ H x y v u Q I rx ry ⟨η, ρ, S, dx, dy, d, st, rdx, rdy, e, g⟩
  unfold hSub at e
  split at e
  · rename_i i j
    cases e
    exact op_sub pins s σ H x y v u Q I rx ry ⟨i, j, int_inv rdx, int_inv rdy, g.here st int_mk⟩
  · cases e
theorem opy_mul : OpR X (binaryOp .Mult) (r2 X.K X.mg hMul) := by
  intro pins s σ H x y v u Q I rx ry ⟨η, ρ, S, dx, dy, d, st, rdx, rdy, e, g⟩
  unfold hMul at e
  split at e
  · rename_i i j
    split at e
    · rename_i hl
      cases e
      refine op_mulW pins s σ H x y v u Q I rx ry ⟨i, j, int_inv rdx, int_inv rdy, ?_, g.here st int_mk⟩
      have a := log_big hl.1
      have b := log_big hl.2
      unfold CMulW
      omega
    · cases e
  · rename_i xs k
    split at e
    · rename_i hl
      cases e
      obtain ⟨a, vs, h1, h2, h3⟩ := tup_at rdx
      refine op_repT pins s σ H x y v u Q I rx ry ⟨a, k, vs, h1, int_inv rdy, h2, fun z => ?_, hl.2.1, hl.2.2.1, by rw [← h3.len]; exact hl.2.2.2, g.tup st (h3.reps _)⟩
      subst z
      exact hl.1 (List.eq_nil_of_length_eq_zero (by rw [h3.len]; rfl))
    · cases e
  · rename_i k _ _
    split at e
    · rename_i xs ex
      split at e
      · rename_i hl
        cases e
        obtain ⟨a, vs, h1, h2, h3⟩ := lst_at st rdx ex
        refine op_rep pins s σ H x y v u Q I rx ry ⟨a, k, vs, h1, int_inv rdy, h2, by omega, by omega, ?_, g.lst st (h3.reps _)⟩
        rw [← h3.len, sizeLine_eq]
        have a1 : xs.length * k.toNat ≤ 1000 * 1000 := Nat.mul_le_mul hl.2.2 (by omega)
        omega
      · cases e
    · cases e
  · cases e
theorem opy_fdiv : OpR X (binaryOp .FloorDiv) (r2 X.K X.mg hFdiv) := by
  intro pins s σ H x y v u Q I rx ry ⟨η, ρ, S, dx, dy, d, st, rdx, rdy, e, g⟩
  unfold hFdiv at e
  split at e
  · rename_i i j
    split at e
    · rename_i hl
      cases e
      exact op_fdivW pins s σ H x y v u Q I rx ry ⟨i, j, int_inv rdx, int_inv rdy, ⟨hl.1, by have := log_big hl.2; omega⟩, g.here st int_mk⟩
    · cases e
  · cases e
theorem opy_mod : OpR X (binaryOp .Mod) (r2 X.K X.mg hMod) := by
  intro pins s σ H x y v u Q I rx ry ⟨η, ρ, S, dx, dy, d, st, rdx, rdy, e, g⟩
  unfold hMod at e
  split at e
  · rename_i i j
    split at e
    · rename_i hl
      cases e
      exact op_mod pins s σ H x y v u Q I rx ry ⟨i, j, int_inv rdx, int_inv rdy, hl, g.here st int_mk⟩
    · cases e
  · cases e
theorem opy_pow : OpR X (binaryOp .Pow) (r2 X.K X.mg hPow) := by
  intro pins s σ H x y v u Q I rx ry ⟨η, ρ, S, dx, dy, d, st, rdx, rdy, e, g⟩
  unfold hPow at e
  split at e
  · rename_i i j
    split at e
    · rename_i hl
      cases e
      rw [int_inv rdx] at rx
      rw [int_inv rdy] at ry
      obtain ⟨t, rfl⟩ := rx
      obtain ⟨t', rfl⟩ := ry
      obtain ⟨h1, h2, h3, h4⟩ := hl
      have hb := log_big h4
      have q : Q (.int (i ^ j.toNat)) H := g.here st int_mk
      refine AutoIntOps.pow_4 (by omega) (by simp; omega) (by simp; omega) (by simp; omega) ?_ ?_
      · unfold Builtin.Int.intTooBig
        have e0 : bitsLine = 134217728 := by decide
        have e1 : Builtin.Int.intBits i ≤ i.natAbs.log2 + 1 := by
          unfold Builtin.Int.intBits
          split <;> omega
        have e2 : ((Builtin.Int.intBits i : Nat) : Int) * j ≤ 2001 * 1000 := Int.mul_le_mul (by omega) h2 (by omega) (by omega)
        simp only [decide_eq_true_eq, e0]
        omega
      · exact ⟨.int (i ^ j.toNat), H, I.tok _, ⟨_, rfl⟩, q⟩
    · cases e
  · cases e
theorem uny_neg : UnR X (unaryOp .USub) (r1 X.K X.mg hNeg) := by
  intro pins s σ H x v Q I rx ⟨η, ρ, S, dx, d, st, rdx, e, g⟩
  unfold hNeg at e
  split at e
  · rename_i i
    cases e
    exact un_neg pins s σ H x v Q I rx ⟨i, int_inv rdx, g.here st int_mk⟩
  · cases e
end
end Y

set_option maxHeartbeats 2000000
/-! Layer 8: comparisons by data. -/
namespace Y
open PySem PySem.Spec PyProof.Rows L2

/-- the library's data of ours: none, bools, ints, texts, lists, tuples, n deep -/
def toPD : Nat → Store → D → Option PyData
  | 0, _, _ => none
  | n + 1, S, d => match d with
    | .non => some .none
    | .bl b => some (.bool b)
    | .int i => some (.int i)
    | .str x => if PyData.strOk x = true then some (.str x) else none
    | .tup xs => (mapO (toPD n S) xs).map .tuple
    | d => match lstOf S d with
      | some xs => (mapO (toPD n S) xs).map .list
      | none => none
def hEq : O2 := fun S x y => match toPD 40 S x, toPD 40 S y with
  | some a, some b => some (.bl (PyData.eqv a b))
  | _, _ => none
def hNe : O2 := fun S x y => match toPD 40 S x, toPD 40 S y with
  | some a, some b => some (.bl (!PyData.eqv a b))
  | _, _ => none
def hCmp (p : Int → Int → Bool) : O2 := fun _ x y => match x, y with
  | .int i, .int j => some (.bl (p i j))
  | _, _ => none
abbrev hLt : O2 := hCmp fun i j => decide (i < j)
abbrev hLe : O2 := hCmp fun i j => decide (i ≤ j)
abbrev hGt : O2 := hCmp fun i j => decide (j < i)
abbrev hGe : O2 := hCmp fun i j => decide (j ≤ i)
/-- is None, is True, is False -/
def isB : D → D → Option Bool
  | .non, .non => some true
  | _, .non => some false
  | .bl a, .bl b => some (decide (a = b))
  | _, .bl _ => some false
  | _, _ => none
def hIs : O2 := fun _ x y => (isB x y).map .bl
def hNotIs : O2 := fun _ x y => (isB x y).map fun b => .bl (!b)

theorem mapO_len {α β : Type} {f : α → Option β} : ∀ {xs : List α} {ys : List β}, mapO f xs = some ys → xs.length = ys.length
  | [], ys, h => by unfold mapO at h; cases h; rfl
  | x :: xs, ys, h => by
    unfold mapO at h
    cases h1 : f x with
    | none => rw [h1] at h; cases h
    | some y =>
      cases h2 : mapO f xs with
      | none => rw [h1, h2] at h; cases h
      | some ys' =>
        rw [h1, h2] at h; cases h
        rw [List.length_cons, List.length_cons, mapO_len h2]
theorem mapO_all {α β : Type} {f : α → Option β} {P : β → Prop} (hf : ∀ x y, f x = some y → P y) : ∀ {xs : List α} {ys : List β}, mapO f xs = some ys → ∀ y ∈ ys, P y
  | [], ys, h => by unfold mapO at h; cases h; intro y hy; cases hy
  | x :: xs, ys, h => by
    unfold mapO at h
    cases h1 : f x with
    | none => rw [h1] at h; cases h
    | some y =>
      cases h2 : mapO f xs with
      | none => rw [h1, h2] at h; cases h
      | some ys' =>
        rw [h1, h2] at h; cases h
        intro z hz
        rcases List.mem_cons.mp hz with rfl | hz
        · exact hf _ _ h1
        · exact mapO_all hf h2 z hz
theorem canLayAll : ∀ {ys : List PyData}, (∀ y ∈ ys, y.canLay0 = true) → PyData.canLayAll0 ys = true
  | [], _ => rfl
  | y :: ys, h => by
    unfold PyData.canLayAll0
    rw [h y List.mem_cons_self, canLayAll fun z hz => h z (List.mem_cons_of_mem _ hz)]
    rfl
theorem toPD_can : ∀ (n : Nat) (S : Store) {d : D} {p : PyData}, toPD n S d = some p → p.canLay0 = true
  | 0, _, _, _, h => by cases h
  | n + 1, S, d, p, h => by
    unfold toPD at h
    split at h
    · cases h; rfl
    · cases h; rfl
    · cases h; rfl
    · split at h
      · rename_i hs; cases h; exact hs
      · cases h
    · rename_i xs
      cases h1 : mapO (toPD n S) xs with
      | none => rw [h1] at h; cases h
      | some ys =>
        rw [h1] at h; cases h
        exact canLayAll (mapO_all (fun x y e => toPD_can n S e) h1)
    · split at h
      · rename_i xs _
        cases h1 : mapO (toPD n S) xs with
        | none => rw [h1] at h; cases h
        | some ys =>
          rw [h1] at h; cases h
          exact canLayAll (mapO_all (fun x y e => toPD_can n S e) h1)
      · cases h
theorem depthAll_le {n : Nat} : ∀ {ys : List PyData}, (∀ y ∈ ys, PyData.depth y ≤ n) → PyData.depthAll ys ≤ n
  | [], _ => Nat.zero_le _
  | y :: ys, h => by
    unfold PyData.depthAll
    exact Nat.max_le.mpr ⟨h y List.mem_cons_self, depthAll_le fun z hz => h z (List.mem_cons_of_mem _ hz)⟩
theorem toPD_depth : ∀ (n : Nat) (S : Store) {d : D} {p : PyData}, toPD n S d = some p → p.depth ≤ n
  | 0, _, _, _, h => by cases h
  | n + 1, S, d, p, h => by
    unfold toPD at h
    split at h
    · cases h; exact Nat.zero_le _
    · cases h; exact Nat.zero_le _
    · cases h; exact Nat.zero_le _
    · split at h
      · cases h; exact Nat.zero_le _
      · cases h
    · rename_i xs
      cases h1 : mapO (toPD n S) xs with
      | none => rw [h1] at h; cases h
      | some ys =>
        rw [h1] at h; cases h
        exact Nat.succ_le_succ (depthAll_le (mapO_all (P := fun y => PyData.depth y ≤ n) (fun x y e => toPD_depth n S e) h1))
    · split at h
      · rename_i xs _
        cases h1 : mapO (toPD n S) xs with
        | none => rw [h1] at h; cases h
        | some ys =>
          rw [h1] at h; cases h
          exact Nat.succ_le_succ (depthAll_le (mapO_all (P := fun y => PyData.depth y ≤ n) (fun x y e => toPD_depth n S e) h1))
      · cases h
theorem toPD_shaped {S : Store} {d : D} {p : PyData} (h : toPD 40 S d = some p) : SeqAt.shaped p = true := by
  unfold SeqAt.shaped
  rw [toPD_can 40 S h]
  have := toPD_depth 40 S h
  simp only [Bool.true_and, decide_eq_true_eq]
  omega
section
variable {G : Gx} {ρ : List Addr} {H : Hp} {S : Store}
theorem toPD_dp (s : RS G ρ H S) : ∀ (n : Nat) {d : D} {p : PyData} {v : V}, toPD n S d = some p → RD G ρ H d v → Dp G.K H v p
  | 0, _, _, _, h, _ => by cases h
  | n + 1, d, p, v, h, r => by
    have all : ∀ {xs : List D} {ys : List PyData} {vs : List V}, mapO (toPD n S) xs = some ys → RDs G ρ H xs vs → DpAll G.K H vs ys := by
      intro xs
      induction xs with
      | nil =>
        intro ys vs e r
        unfold mapO at e; cases e
        rw [r.nil_inv]; exact .nil
      | cons x xs ih =>
        intro ys vs e r
        obtain ⟨v, vs', rfl, r1, r2⟩ := r.cons_inv
        unfold mapO at e
        cases h1 : toPD n S x with
        | none => rw [h1] at e; cases e
        | some y =>
          cases h2 : mapO (toPD n S) xs with
          | none => rw [h1, h2] at e; cases e
          | some ys' =>
            rw [h1, h2] at e; cases e
            exact .cons (toPD_dp s n h1 r1) (ih h2 r2)
    unfold toPD at h
    split at h
    · cases h; unfold RD at r; subst r; exact .non
    · cases h; unfold RD at r; subst r; exact .bl _
    · cases h; unfold RD at r; subst r; exact .int _
    · split at h
      · cases h; unfold RD at r; subst r; exact .str _
      · cases h
    · rename_i xs
      cases h1 : mapO (toPD n S) xs with
      | none => rw [h1] at h; cases h
      | some ys =>
        rw [h1] at h; cases h
        obtain ⟨a, vs, rfl, h2, h3⟩ := tup_at r
        exact .tup h2 (all h1 h3)
    · split at h
      · rename_i xs e
        cases h1 : mapO (toPD n S) xs with
        | none => rw [h1] at h; cases h
        | some ys =>
          rw [h1] at h; cases h
          obtain ⟨a, vs, rfl, h2, h3⟩ := lst_at s r e
          exact .lst (.inl (.inl h2)) (all h1 h3)
      · cases h
end
section
variable {X : Cx}
theorem opy_eq (hu : X.A.units + 64 < cLine) : OpR X (compareOp .Eq) (r2 X.K X.mg hEq) := by
  intro pins s σ H x y v u Q I rx ry ⟨η, ρ, S, dx, dy, d, st, rdx, rdy, e, g⟩
  unfold hEq at e
  split at e
  · rename_i a b h1 h2
    cases e
    exact op_eqD hu pins s σ H x y v u Q I rx ry ⟨a, b, toPD_dp st 40 h1 rdx, toPD_dp st 40 h2 rdy, toPD_shaped h1, toPD_shaped h2, g.here st bl_mk⟩
  · cases e
theorem opy_ne (hu : X.A.units + 64 < cLine) : OpR X (compareOp .NotEq) (r2 X.K X.mg hNe) := by
  intro pins s σ H x y v u Q I rx ry ⟨η, ρ, S, dx, dy, d, st, rdx, rdy, e, g⟩
  unfold hNe at e
  split at e
  · rename_i a b h1 h2
    cases e
    exact op_neD hu pins s σ H x y v u Q I rx ry ⟨a, b, toPD_dp st 40 h1 rdx, toPD_dp st 40 h2 rdy, toPD_shaped h1, toPD_shaped h2, g.here st bl_mk⟩
  · cases e
theorem opy_cmp {op : CmpOp} {p : Int → Int → Bool} (h : OpR X (compareOp op) (rI0 fun i j => .bl (p i j))) : OpR X (compareOp op) (r2 X.K X.mg (hCmp p)) := by
  intro pins s σ H x y v u Q I rx ry ⟨η, ρ, S, dx, dy, d, st, rdx, rdy, e, g⟩
  unfold hCmp at e
  split at e
  · rename_i i j
    cases e
    exact h pins s σ H x y v u Q I rx ry ⟨i, j, int_inv rdx, int_inv rdy, g.here st bl_mk⟩
  · cases e
theorem opy_lt : OpR X (compareOp .Lt) (r2 X.K X.mg hLt) := opy_cmp op_lt
theorem opy_le : OpR X (compareOp .LtE) (r2 X.K X.mg hLe) := opy_cmp op_le
theorem opy_gt : OpR X (compareOp .Gt) (r2 X.K X.mg hGt) := opy_cmp op_gt
theorem opy_ge : OpR X (compareOp .GtE) (r2 X.K X.mg hGe) := opy_cmp op_ge
theorem is_bool_gen {M : Model} {A : Around} {E : Value → Shared → Prop} {s : Shared} {Q : Value → Shared → Prop} {x : V} {v : Value} {b : Bool} (r : RelV x v) (h : Q (.bool (v == .bool b)) s) : wpAny M A (compareOp .Is v (.bool b)) Q E s := by
  cases x with
  | non => cases (show v = Value.none from r); exact wpAny_pure h
  | bl c => cases (show v = Value.bool c from r); exact wpAny_pure h
  | int _ => obtain ⟨t, rfl⟩ := r; exact wpAny_pure h
  | str _ => obtain ⟨t, rfl⟩ := r; exact wpAny_pure h
  | byt _ => obtain ⟨t, rfl⟩ := r; exact wpAny_pure h
  | flt _ => obtain ⟨t, rfl⟩ := r; exact wpAny_pure h
  | ref a => cases (show v = Value.ref a from r); exact wpAny_pure h
  | ty n => cases (show v = Value.type n from r); exact wpAny_pure h
theorem isnot_bool_gen {M : Model} {A : Around} {E : Value → Shared → Prop} {s : Shared} {Q : Value → Shared → Prop} {x : V} {v : Value} {b : Bool} (r : RelV x v) (h : Q (.bool (!(v == .bool b))) s) : wpAny M A (compareOp .IsNot v (.bool b)) Q E s := by
  cases x with
  | non => cases (show v = Value.none from r); exact wpAny_pure h
  | bl c => cases (show v = Value.bool c from r); exact wpAny_pure h
  | int _ => obtain ⟨t, rfl⟩ := r; exact wpAny_pure h
  | str _ => obtain ⟨t, rfl⟩ := r; exact wpAny_pure h
  | byt _ => obtain ⟨t, rfl⟩ := r; exact wpAny_pure h
  | flt _ => obtain ⟨t, rfl⟩ := r; exact wpAny_pure h
  | ref a => cases (show v = Value.ref a from r); exact wpAny_pure h
  | ty n => cases (show v = Value.type n from r); exact wpAny_pure h
def isNonD : D → Bool
  | .non => true
  | _ => false
def isBlD (b : Bool) : D → Bool
  | .bl a => decide (a = b)
  | _ => false
theorem RelV.bool_iff {x : V} {v : Value} {b : Bool} (r : RelV x v) : (v == Value.bool b) = decide (x = .bl b) := by
  cases x with
  | non => cases r; rfl
  | bl c =>
    cases (show v = Value.bool c from r)
    cases b <;> cases c <;> rfl
  | int _ => obtain ⟨t, rfl⟩ := r; rfl
  | str _ => obtain ⟨t, rfl⟩ := r; rfl
  | byt _ => obtain ⟨t, rfl⟩ := r; rfl
  | flt _ => obtain ⟨t, rfl⟩ := r; rfl
  | ref _ => cases r; rfl
  | ty _ => cases r; rfl
theorem rd_non {G : Gx} {ρ : List Addr} {H : Hp} {d : D} {v : V} (r : RD G ρ H d v) : decide (v = V.non) = isNonD d := by
  cases d <;> unfold RD at r
  case non => subst r; rfl
  case bl => subst r; rfl
  case int => subst r; rfl
  case str => subst r; rfl
  case ty => subst r; rfl
  case tup => obtain ⟨a, vs, rfl, _⟩ := r; rfl
  case lst => obtain ⟨a, vs, rfl, _⟩ := r; rfl
  case dict => obtain ⟨a, vs, rfl, _⟩ := r; rfl
  case ref => obtain ⟨a, rfl, _⟩ := r; rfl
  case glb => obtain ⟨a, rfl, _⟩ := r; rfl
  case scr => obtain ⟨a, rfl, _⟩ := r; rfl
theorem rd_bl {G : Gx} {ρ : List Addr} {H : Hp} {d : D} {v : V} {b : Bool} (r : RD G ρ H d v) : decide (v = V.bl b) = isBlD b d := by
  cases d <;> unfold RD at r
  case non => subst r; rfl
  case bl a => subst r; cases a <;> cases b <;> rfl
  case int => subst r; rfl
  case str => subst r; rfl
  case ty => subst r; rfl
  case tup => obtain ⟨a, vs, rfl, _⟩ := r; rfl
  case lst => obtain ⟨a, vs, rfl, _⟩ := r; rfl
  case dict => obtain ⟨a, vs, rfl, _⟩ := r; rfl
  case ref => obtain ⟨a, rfl, _⟩ := r; rfl
  case glb => obtain ⟨a, rfl, _⟩ := r; rfl
  case scr => obtain ⟨a, rfl, _⟩ := r; rfl
theorem isB_sem {G : Gx} {ρ : List Addr} {H : Hp} {dx dy : D} {x y : V} {v u : Value} {b : Bool} (e : isB dx dy = some b) (rdx : RD G ρ H dx x) (rdy : RD G ρ H dy y) (rx : RelV x v) (ry : RelV y u) :
    (u = .none ∨ ∃ c, u = .bool c) ∧ (v == u) = b := by
  cases dy with
  | non =>
    unfold RD at rdy
    subst rdy
    cases (show u = Value.none from ry)
    refine ⟨.inl rfl, ?_⟩
    rw [L2.RelV.none_iff rx, rd_non rdx]
    cases dx <;> cases e <;> rfl
  | bl c =>
    unfold RD at rdy
    subst rdy
    cases (show u = Value.bool c from ry)
    refine ⟨.inr ⟨c, rfl⟩, ?_⟩
    rw [RelV.bool_iff rx, rd_bl rdx]
    cases dx <;> cases e <;> rfl
  | _ => cases dx <;> cases e
theorem opy_is : OpR X (compareOp .Is) (r2 X.K X.mg hIs) := by
  intro pins s σ H x y v u Q I rx ry ⟨η, ρ, S, dx, dy, d, st, rdx, rdy, e, g⟩
  unfold hIs at e
  cases h : isB dx dy with
  | none => rw [h] at e; cases e
  | some b =>
    rw [h] at e; cases e
    obtain ⟨h1, h2⟩ := isB_sem h rdx rdy rx ry
    have fin : EP X pins σ Q (.bool (v == u)) s := ⟨.bl b, H, I, by rw [h2]; rfl, g.here st bl_mk⟩
    rcases h1 with rfl | ⟨c, rfl⟩
    · exact is_none_gen fin
    · exact is_bool_gen rx fin
theorem opy_isNot : OpR X (compareOp .IsNot) (r2 X.K X.mg hNotIs) := by
  intro pins s σ H x y v u Q I rx ry ⟨η, ρ, S, dx, dy, d, st, rdx, rdy, e, g⟩
  unfold hNotIs at e
  cases h : isB dx dy with
  | none => rw [h] at e; cases e
  | some b =>
    rw [h] at e; cases e
    obtain ⟨h1, h2⟩ := isB_sem h rdx rdy rx ry
    have fin : EP X pins σ Q (.bool (!(v == u))) s := ⟨.bl (!b), H, I, by rw [h2]; rfl, g.here st bl_mk⟩
    rcases h1 with rfl | ⟨c, rfl⟩
    · exact isnot_none_gen fin
    · exact isnot_bool_gen rx fin
end

/-! ### in, not in -/
/-- Python's == of flat data -/
def eqF : D → D → Option Bool
  | .int i, .int j => some (decide (i = j))
  | .str a, .str b => some (decide (a = b))
  | .non, .non => some true
  | .bl a, .bl b => some (decide (a = b))
  | .bl a, .int j => some (decide ((if a then 1 else 0) = j))
  | .int i, .bl b => some (decide (i = (if b then 1 else 0)))
  | .int _, .str _ => some false
  | .str _, .int _ => some false
  | .non, .int _ => some false
  | .non, .str _ => some false
  | .int _, .non => some false
  | .str _, .non => some false
  | .bl _, .str _ => some false
  | .bl _, .non => some false
  | .str _, .bl _ => some false
  | .non, .bl _ => some false
  | _, _ => none
def inF (x : D) : List D → Option Bool
  | [] => some false
  | y :: ys => match eqF y x, inF x ys with
    | some a, some b => some (a || b)
    | _, _ => none
def isFlat : D → Bool
  | .int _ => true
  | .str _ => true
  | .non => true
  | .bl _ => true
  | _ => false
def keyOf : D → Option Key
  | .int i => some (.inl i)
  | .str x => some (.inr x)
  | _ => none
/-- the value at a key of a dict -/
def look (k : Key) : List Key → List D → Option D
  | k' :: ks, x :: xs => if k' = k then some x else look k ks xs
  | _, _ => none
def hIn : O2 := fun S x y => match dictOf S y with
  | some (ks, xs) => (keyOf x).map fun k => .bl (look k ks xs).isSome
  | none => match itemsOf S y with
    | some ys => if isFlat x = true then (inF x ys).map .bl else none
    | none => none
def hNotIn : O2 := fun S x y => (hIn S x y).bind fun d => match d with
  | .bl b => some (.bl (!b))
  | _ => none
section
variable {G : Gx} {ρ : List Addr} {H : Hp} {S : Store}
theorem flat_rd {d : D} {v : V} (f : isFlat d = true) (r : RD G ρ H d v) : flatV v = true := by
  cases d <;> (try cases f) <;> unfold RD at r <;> subst r <;> rfl
theorem eqF_flat {d e : D} {b : Bool} (h : eqF d e = some b) : isFlat d = true ∧ isFlat e = true := by
  cases d <;> cases e <;> first | exact ⟨rfl, rfl⟩ | cases h
theorem eqF_sem {d e : D} {v w : V} {b : Bool} (h : eqF d e = some b) (r : RD G ρ H d v) (q : RD G ρ H e w) : eqV v w = b := by
  obtain ⟨f1, f2⟩ := eqF_flat h
  cases d <;> (try cases f1) <;> cases e <;> (try cases f2) <;> unfold RD at r q <;> subst r q <;> cases h <;> first
    | rfl
    | (unfold eqV; first | rfl | exact Bool.beq_eq_decide_eq _ _ | (simp [Bool.beq_eq_decide_eq]; done))
theorem inF_sem {x : D} {v : V} (r : RD G ρ H x v) : ∀ {ys : List D} {ws : List V} {b : Bool}, inF x ys = some b → RDs G ρ H ys ws → inV v ws = b ∧ ws.all flatV = true
  | [], ws, b, h, q => by
    unfold inF at h; cases h
    rw [q.nil_inv]; exact ⟨rfl, rfl⟩
  | y :: ys, ws, b, h, q => by
    obtain ⟨w, ws', rfl, q1, q2⟩ := q.cons_inv
    unfold inF at h
    cases h1 : eqF y x with
    | none => rw [h1] at h; cases h
    | some a =>
      cases h2 : inF x ys with
      | none => rw [h1, h2] at h; cases h
      | some c =>
        rw [h1, h2] at h; cases h
        obtain ⟨i1, i2⟩ := inF_sem r h2 q2
        have e := eqF_sem h1 q1 r
        refine ⟨?_, ?_⟩
        · show (eqV w v || inV v ws') = (a || c)
          rw [e, i1]
        · rw [List.all_cons, flat_rd (eqF_flat h1).1 q1, i2]; rfl
theorem key_rd {d : D} {k : Key} {v : V} (h : keyOf d = some k) (r : RD G ρ H d v) : v = kV k := by
  cases d <;> (try cases h) <;> unfold RD at r <;> subst r <;> rfl
theorem look_sem {k : Key} : ∀ {ks : List Key} {xs : List D} {vs : List V}, ks.length = vs.length → RDs G ρ H xs vs → match look k ks xs with
    | some x => ∃ v, valV (ks.zip vs) k = some v ∧ RD G ρ H x v
    | none => valV (ks.zip vs) k = none
  | [], xs, vs, hl, r => by
    unfold look
    exact rfl
  | k' :: ks, [], vs, hl, r => by
    have := r.len
    simp at hl
    rw [← this] at hl
    simp at hl
  | k' :: ks, x :: xs, vs, hl, r => by
    obtain ⟨v, vs', rfl, r1, r2⟩ := r.cons_inv
    unfold look
    by_cases hk : k' = k
    · rw [if_pos hk]
      refine ⟨v, ?_, r1⟩
      unfold valV
      simp [hk]
    · rw [if_neg hk]
      have ih := look_sem (k := k) (ks := ks) (by simpa using hl) r2
      have e : valV ((k' :: ks).zip (v :: vs')) k = valV (ks.zip vs') k := by
        unfold valV
        simp [hk]
      rw [e]
      exact ih
end
section
variable {X : Cx}
theorem DGet.rd {H : Hp} {a : Addr} {kvs : List (Key × V)} {k : Key} (h : Rd H a (.dK kvs)) : DGet H a (kV k) (valV kvs k) := .inl ⟨kvs, k, h, rfl, rfl⟩
theorem hIn_bool {S : Store} {x y d : D} (h : hIn S x y = some d) : ∃ b, d = .bl b := by
  unfold hIn at h
  split at h
  · cases hk : keyOf x with
    | none => rw [hk] at h; cases h
    | some k => rw [hk] at h; cases h; exact ⟨_, rfl⟩
  · split at h
    · split at h
      · rename_i ys _ _
        cases hi : inF x ys with
        | none => rw [hi] at h; cases h
        | some b => rw [hi] at h; cases h; exact ⟨b, rfl⟩
      · cases h
    · cases h
theorem in_sem (hu : X.A.units + 64 < cLine) {pins : List (Addr × Obj)} {s : Shared} {σ : L2.St} {H : Hp} {x y : V} {v u : Value} {Q : VK} {η ρ : List Addr} {S : Store} {dx dy : D} {b : Bool} (neg : Bool) (I : Inv X pins σ H s) (rx : RelV x v) (ry : RelV y u)
    (st : RS ⟨X.K, X.mg, η⟩ ρ H S) (rdx : RD ⟨X.K, X.mg, η⟩ ρ H dx x) (rdy : RD ⟨X.K, X.mg, η⟩ ρ H dy y) (e : hIn S dx dy = some (.bl b)) (q : Q (.bl (if neg then !b else b)) H) :
    wpAny (model X.prog X.w) X.A (compareOp (if neg then .NotIn else .In) v u) (EP X pins σ Q) X.xe s := by
  unfold hIn at e
  split at e
  · rename_i ks xs hd
    cases hk : keyOf dx with
    | none => rw [hk] at e; cases e
    | some k =>
      rw [hk] at e; cases e
      obtain ⟨a, vs, rfl, h1, h2, h3⟩ := dict_at st rdy hd
      obtain rfl : u = Value.ref a := ry
      have g : DGet H a x (valV (ks.zip vs) k) := key_rd hk rdx ▸ DGet.rd h1
      have es : (valV (ks.zip vs) k).isSome = (look k ks xs).isSome := by
        have l := look_sem (k := k) h2 h3
        cases hl : look k ks xs with
        | none => rw [hl] at l; dsimp only at l; rw [l]; rfl
        | some z => rw [hl] at l; obtain ⟨w, w1, _⟩ := l; rw [w1]; rfl
      cases neg with
      | true => exact d_notIn (by omega) I g rx fun s3 I3 => ⟨.bl (!(look k ks xs).isSome), H, I3, by rw [es]; rfl, q⟩
      | false => exact d_in (by omega) I g rx fun s3 I3 => ⟨.bl (look k ks xs).isSome, H, I3, by rw [es]; rfl, q⟩
  · split at e
    · rename_i ys hi
      split at e
      · rename_i hf
        cases hb : inF dx ys with
        | none => rw [hb] at e; cases e
        | some c =>
          rw [hb] at e; cases e
          obtain ⟨a, vs, rfl, h1, h2⟩ := items_at st rdy hi
          obtain ⟨i1, i2⟩ := inF_sem rdx hb h2
          cases neg with
          | true => exact op_notIn_seq pins s σ H x _ v u Q I rx ry ⟨a, vs, rfl, h1, flat_rd hf rdx, i2, by rw [i1]; exact q⟩
          | false => exact op_in_seq pins s σ H x _ v u Q I rx ry ⟨a, vs, rfl, h1, flat_rd hf rdx, i2, by rw [i1]; exact q⟩
      · cases e
    · cases e
theorem opy_in (hu : X.A.units + 64 < cLine) : OpR X (compareOp .In) (r2 X.K X.mg hIn) := by
  intro pins s σ H x y v u Q I rx ry ⟨η, ρ, S, dx, dy, d, st, rdx, rdy, e, g⟩
  obtain ⟨b, rfl⟩ := hIn_bool e
  exact in_sem hu false I rx ry st rdx rdy e (g.here st bl_mk)
theorem opy_notIn (hu : X.A.units + 64 < cLine) : OpR X (compareOp .NotIn) (r2 X.K X.mg hNotIn) := by
  intro pins s σ H x y v u Q I rx ry ⟨η, ρ, S, dx, dy, d, st, rdx, rdy, e, g⟩
  unfold hNotIn at e
  cases h : hIn S dx dy with
  | none => rw [h] at e; cases e
  | some d' =>
    obtain ⟨b, rfl⟩ := hIn_bool h
    rw [h] at e; cases e
    exact in_sem hu true I rx ry st rdx rdy h (g.here st bl_mk)
end
end Y

set_option maxHeartbeats 2000000
/-! Layer 9: subscripts, slices, stores. -/
namespace Y
open PySem PySem.Spec PyProof.Rows L2

/-! ### a[i] -/
def hIx : O2 := fun S x y => match dictOf S x with
  | some (ks, xs) => (keyOf y).bind fun k => look k ks xs
  | none => match x, y with
    | .scr ns, .int i => (atI ns i).map .int
    | x, .int i => (itemsOf S x).bind fun xs => atI xs i
    | _, _ => none
theorem atI_sem {G : Gx} {ρ : List Addr} {H : Hp} {xs : List D} {vs : List V} {i : Int} {d : D} (r : RDs G ρ H xs vs) (h : atI xs i = some d) : ∃ v, atI vs i = some v ∧ RD G ρ H d v := by
  unfold atI at h ⊢
  rw [← r.len]
  cases e : ixN xs.length i with
  | none => rw [e] at h; cases h
  | some j => rw [e] at h; exact r.get h
theorem scr_sq {G : Gx} {ρ : List Addr} {H : Hp} {a : Addr} {vs : List V} (h : ScrAt G ρ H a vs) : SqL G.K H a vs := by
  rcases h with ⟨h, _⟩ | h
  · exact .inl h
  · exact .inr h
section
variable {X : Cx}
theorem ixy (hu : X.A.units + 64 < cLine) : IxR X (r2 X.K X.mg hIx) := by
  intro value slice pins s σ H x y v u Q I rx ry ⟨η, ρ, S, dx, dy, d, st, rdx, rdy, e, g⟩ hs
  unfold hIx at e
  split at e
  · rename_i ks xs hd
    cases hk : keyOf dy with
    | none => rw [hk] at e; cases e
    | some k =>
      rw [hk] at e
      obtain ⟨a, vs, rfl, h1, h2, h3⟩ := dict_at st rdx hd
      obtain rfl : v = Value.ref a := rx
      have l := look_sem (k := k) h2 h3
      have e' : look k ks xs = some d := e
      rw [e'] at l
      obtain ⟨w, w1, w2⟩ := l
      have gg : DGet H a y (some w) := by
        have q := DGet.rd (k := k) h1
        rw [w1] at q
        exact key_rd hk rdy ▸ q
      exact tail_any (dict_typeIs I gg) PySem.F.slot_dict_getitem.lookup (d_getItem (by omega) I gg ry fun w' s3 I3 rw' => ⟨w, H, I3, rw', g.here st w2⟩) hs
  · split at e
    · rename_i ns i _
      cases ha : atI ns i with
      | none => rw [ha] at e; cases e
      | some n =>
        rw [ha] at e; cases e
        unfold RD at rdx
        obtain ⟨a, rfl, h2⟩ := rdx
        have ha' : atI (ns.map V.int) i = some (.int n) := by
          unfold atI at ha ⊢
          rw [List.length_map]
          cases e2 : ixN ns.length i with
          | none => rw [e2] at ha; cases ha
          | some j =>
            rw [e2] at ha
            show (ns.map V.int)[j]? = _
            rw [List.getElem?_map]
            have ha : ns[j]? = some n := ha
            rw [ha]
            rfl
        exact ix_list value slice pins s σ H _ y v u Q I rx ry ⟨a, ns.map V.int, i, .int n, rfl, int_inv rdy, scr_sq h2, ha', g.here st int_mk⟩ hs
    · rename_i i _
      cases hi : itemsOf S dx with
      | none => rw [hi] at e; cases e
      | some xs =>
        rw [hi] at e
        obtain ⟨a, vs, rfl, h1, h2⟩ := items_at st rdx hi
        obtain ⟨w, w1, w2⟩ := atI_sem h2 e
        rcases h1 with h1 | h1
        · exact ix_list value slice pins s σ H _ y v u Q I rx ry ⟨a, vs, i, w, rfl, int_inv rdy, h1, w1, g.here st w2⟩ hs
        · exact ix_tup value slice pins s σ H _ y v u Q I rx ry ⟨a, vs, i, w, rfl, int_inv rdy, h1, w1, g.here st w2⟩ hs
    · cases e
variable {W : WX} {a b : Expr} {f g : SE} {pos : Pos}
theorem py_ix (hu : X.A.units + 64 < cLine) (ha : PEy X W a f) (hb : PEy X W b g) (hs : PlainIx b := by intro _ _; rfl) : PEy X W (.Subscript a b pos) (sOp hIx f g) := PE_imp (pe_ix (ixy hu) ha hb hs) fun _ _ _ => sOp_read
end

/-! ### a[i:j], a[::-1] -/
def cutD (xs : List D) (lo hi : Option Int) : List D := (xs.drop (HT.sIx xs.length 0 lo)).take (HT.sIx xs.length xs.length hi - HT.sIx xs.length 0 lo)
def hCut (S : Store) (d : D) (lo hi : Option Int) : Option D := match d with
  | .tup xs => some (.tup (cutD xs lo hi))
  | d => (lstOf S d).map fun xs => .lst (cutD xs lo hi)
theorem RDs.cut {G : Gx} {ρ : List Addr} {H : Hp} {xs : List D} {vs : List V} (r : RDs G ρ H xs vs) (lo hi : Option Int) : RDs G ρ H (cutD xs lo hi) (cutV vs lo hi) := by
  unfold cutD cutV
  rw [← r.len]
  exact (r.drop _).take _
abbrev SO := Env → Store → Res (Option Int)
def sNoPart : SO := fun _ S => .ok none S
def sPart (f : SE) : SO := fun env S => (f env S).bind fun x S1 => match x with
  | .int i => .ok (some i) S1
  | _ => .stuck
def tO (K : PySem.W.Frag) (mg : Str → Option Value) (W : WX) (f : SO) : TO := fun σ H Q => ∃ η ρ env S, R3 ⟨K, mg, η⟩ ρ σ H env S ∧ Out ⟨K, mg, η⟩ (EE W σ) ρ H (f env S) fun o _ _ H' => Q o H'
abbrev POy (X : Cx) (W : WX) (e : Option Expr) (f : SO) : Prop := PO X e (tO X.K X.mg W f)
theorem PO_imp {X : Cx} {e : Option Expr} {t t' : TO} (h : PO X e t) (i : ∀ σ H Q, t' σ H Q → t σ H Q) : PO X e t' := ⟨fun pins s σ H Q I q => h.run pins s σ H Q I (i _ _ _ q)⟩
def sCut (f : SE) (l h : SO) : SE := fun env S => (f env S).bind fun x S1 => (l env S1).bind fun lo S2 => (h env S2).bind fun hi S3 => ofO S3 (hCut S3 x lo hi)
section
variable {X : Cx} {W : WX} {e : Expr} {lo hi : Option Expr} {f : SE} {l h : SO} {pos p2 : Pos}
theorem poy_none : POy X W none sNoPart := PO_imp po_none fun σ H Q ⟨η, ρ, env, S, r, o⟩ => o ρ H Ext.refl r.st
theorem poy_some {x : Expr} (hx : PEy X W x f) : POy X W (some x) (sPart f) := PO_imp (po_some hx) fun σ H Q ⟨η, ρ, env, S, r, o⟩ => tE_of r (o.bind.imp (fun _ _ _ x => x) fun d S1 ρ1 H1 e1 s1 o1 r1 _ v rv => by
  cases d with
  | int i => exact ⟨i, int_inv rv, o1 ρ1 H1 Ext.refl s1⟩
  | _ => exact o1.elim)
def rCut (K : PySem.W.Frag) : V → Option Int → Option Int → Hp → VK → Prop := fun x lo hi H Q => rSlA K x lo hi H Q ∨ rSlL K x lo hi H Q
theorem tO_of {K : PySem.W.Frag} {mg : Str → Option Value} {η : List Addr} {f : SO} {σ : L2.St} {H : Hp} {Q : Option Int → Hp → Prop} {ρ : List Addr} {env : Env} {S : Store} (r : R3 ⟨K, mg, η⟩ ρ σ H env S)
    (h : Out ⟨K, mg, η⟩ (EE W σ) ρ H (f env S) fun b S' ρ' H' => R3 ⟨K, mg, η⟩ ρ' σ H' env S' → Ext ρ H ρ' H' → Q b H') : tO K mg W f σ H Q :=
  ⟨η, ρ, env, S, r, h.imp (fun _ _ _ x => x) fun d S' ρ' H' e s q => q (r.ext e s) e⟩
theorem py_cut (he : PEy X W e f) (hl : POy X W lo l) (hh : POy X W hi h) : PEy X W (.Subscript e (.Slice lo hi none p2) pos) (sCut f l h) :=
  PE_imp (pe_slice (SlR.or sl_tupA sl_list) he hl hh) fun σ H Q ⟨η, ρ, env, S, r, o⟩ => tE_of r (o.bind.imp (fun _ _ _ x => x) fun x S1 ρ1 H1 e1 s1 o1 r1 _ v rv =>
    tO_of r1 (o1.bind.imp (fun _ _ _ x => x) fun lo S2 ρ2 H2 e2 s2 o2 r2 x2 => tO_of r2 (o2.bind.imp (fun _ _ _ x => x) fun hi S3 ρ3 H3 e3 s3 o3 r3 x3 => by
      obtain ⟨d, ed, k⟩ := o3.ofO
      have rv3 := (rv.ext e2).ext e3
      have g : Gives ⟨X.K, X.mg, η⟩ ρ3 H3 S3 d Q := fun H' e' s' w rw => k ρ3 H' e' s' w rw
      unfold hCut at ed
      split at ed
      · rename_i xs
        cases ed
        obtain ⟨a, vs, rfl, h1, h2⟩ := tup_at rv3
        refine .inl ⟨a, vs, rfl, h1, fun hw => ?_, fun _ => g.tup s3 (h2.cut lo hi)⟩
        rw [← h2.len] at hw
        have ec : cutD xs lo hi = xs := by
          unfold cutD
          rw [hw.1, hw.2, List.drop_zero, Nat.sub_zero, List.take_length]
        rw [ec] at g
        exact g.here s3 rv3
      · cases hx : lstOf S3 x with
        | none => rw [hx] at ed; cases ed
        | some xs =>
          rw [hx] at ed; cases ed
          obtain ⟨a, vs, rfl, h1, h2⟩ := lst_at s3 rv3 hx
          exact .inr ⟨a, vs, rfl, .inl (.inl h1), g.lst s3 (h2.cut lo hi)⟩)))
/-- xs[::-1] of a list -/
def hRev : O1 := fun S d => (lstOf S d).map fun xs => .lst xs.reverse
theorem py_rev {k : Nat} {p1 p3 : Pos} (he : PEy X W e f) : PEy X W (.Subscript e (.Slice none none (some (.UnaryOp .USub (.Constant (.int 1) k p1) p2)) p3) pos) (sUn hRev f) :=
  PE_imp (pe_revL he) fun σ H Q ⟨η, ρ, env, S, r, o⟩ => tE_of r (o.bind.imp (fun _ _ _ x => x) fun x S1 ρ1 H1 e1 s1 o1 r1 _ v rv => by
    obtain ⟨d, ed, k⟩ := o1.ofO
    have g : Gives ⟨X.K, X.mg, η⟩ ρ1 H1 S1 d Q := fun H' e' s' w rw => k ρ1 H' e' s' w rw
    unfold hRev at ed
    cases hx : lstOf S1 x with
    | none => rw [hx] at ed; cases ed
    | some xs =>
      rw [hx] at ed; cases ed
      obtain ⟨a, vs, rfl, h1, h2⟩ := lst_at s1 rv hx
      exact ⟨a, vs, rfl, .inl (.inl h1), g.lst s1 h2.reverse⟩)
end

/-! ### a[i] = v -/
def putD (ks : List Key) (xs : List D) (k : Key) (d : D) : List Key × List D := match ks, xs with
  | k' :: ks, x :: xs => if k' = k then (k' :: ks, d :: xs) else ((k' :: (putD ks xs k d).1), (x :: (putD ks xs k d).2))
  | _, _ => ([k], [d])
/-- behind a[i] = v: the store -/
def hSet (S : Store) (o i v : D) : Option Store := match o with
  | .ref c => match S[c]? with
    | some (.lst xs) => match i with
      | .int i => (ixN xs.length i).map fun j => S.set c (.lst (xs.set j v))
      | _ => none
    | some (.dict ks xs) => (keyOf i).bind fun k => if ks.Nodup ∧ ks.length < 1000000 then some (S.set c (.dict (putD ks xs k v).1 (putD ks xs k v).2)) else none
    | _ => none
  | _ => none
def rSt (K : PySem.W.Frag) (mg : Str → Option Value) : TSet := fun o i v H Q => ∃ η ρ S dO di dv S', RS ⟨K, mg, η⟩ ρ H S ∧ RD ⟨K, mg, η⟩ ρ H dO o ∧ RD ⟨K, mg, η⟩ ρ H di i ∧ RD ⟨K, mg, η⟩ ρ H dv v ∧ hSet S dO di dv = some S' ∧
  ∀ H', Ext ρ H ρ H' → RS ⟨K, mg, η⟩ ρ H' S' → Q H'
theorem put_zip {k : Key} {d : D} {v : V} {G : Gx} {ρ : List Addr} {H : Hp} (rd : RD G ρ H d v) : ∀ {ks : List Key} {xs : List D} {vs : List V}, ks.Nodup → ks.length = vs.length → RDs G ρ H xs vs →
    ∃ vs', putK (ks.zip vs) k v = (putD ks xs k d).1.zip vs' ∧ (putD ks xs k d).1.length = vs'.length ∧ RDs G ρ H (putD ks xs k d).2 vs'
  | [], xs, vs, _, hl, r => by
    have e : vs = [] := List.eq_nil_of_length_eq_zero hl.symm
    subst e
    have e2 : xs = [] := List.eq_nil_of_length_eq_zero r.len
    subst e2
    exact ⟨[v], rfl, rfl, .cons rd .nil⟩
  | k' :: ks, [], vs, _, hl, r => by
    have e := r.len
    rw [← e] at hl
    cases hl
  | k' :: ks, x :: xs, vs, nd, hl, r => by
    obtain ⟨w, vs', rfl, r1, r2⟩ := r.cons_inv
    have hl' : ks.length = vs'.length := by simpa using hl
    have nd' := List.nodup_cons.mp nd
    unfold putD
    by_cases hk : k' = k
    · subst hk
      rw [if_pos rfl]
      refine ⟨v :: vs', ?_, by simp [hl'], .cons rd r2⟩
      unfold putK
      have h1 : (((k' :: ks).zip (w :: vs')).any fun kv => decide (kv.1 = k')) = true := by simp
      rw [if_pos h1]
      show (if (k', w).1 = k' then ((k', w).1, v) else (k', w)) :: (ks.zip vs').map _ = (k', v) :: ks.zip vs'
      rw [if_pos rfl]
      congr 1
      have same : ∀ kv ∈ ks.zip vs', (if kv.1 = k' then (kv.1, v) else kv) = kv := fun kv hkv => by
        rw [if_neg]
        intro z
        exact nd'.1 (z ▸ (List.of_mem_zip hkv).1)
      rw [List.map_congr_left same, List.map_id']
    · rw [if_neg hk]
      obtain ⟨vs2, e1, e2, e3⟩ := put_zip (k := k) rd nd'.2 hl' r2
      refine ⟨w :: vs2, ?_, by simp [e2], .cons r1 e3⟩
      show putK ((k', w) :: ks.zip vs') k v = (k', w) :: (putD ks xs k d).1.zip vs2
      rw [← e1]
      unfold putK
      simp only [List.any_cons, hk, decide_false, Bool.false_or]
      split
      · rw [List.map_cons, if_neg hk]
      · rfl
section
variable {X : Cx}
theorem sety (hu : X.A.units + 64 < cLine) : PSet X (rSt X.K X.mg) := by
  intro pins s σ H o i v ov iv u Q I ro ri rv ⟨η, ρ, S, dO, di, dv, S', st, rdo, rdi, rdv, e, q⟩
  unfold hSet at e
  split at e
  case h_2 => cases e
  rename_i c
  unfold RD at rdo
  obtain ⟨a, rfl, ha⟩ := rdo
  split at e
  · rename_i xs hc
    cases di with
    | int k => ?_
    | _ => cases e
    dsimp only at e
    cases hj : ixN xs.length k with
    | none => rw [hj] at e; cases e
    | some j =>
      rw [hj] at e; cases e
      obtain ⟨vs, h1, h2⟩ := st.cell c a _ ha hc
      refine set_list pins s σ H _ i v ov iv u Q I ro ri rv ⟨a, vs, k, j, rfl, int_inv rdi, h1, by rw [← h2.len]; exact hj, ?_⟩
      have x : Ext ρ H ρ (upd H a (.lst (vs.set j v))) := Ext.write (List.mem_of_getElem? ha)
      exact q _ x (st.write ha ⟨_, upd_same, (h2.set j rdv).ext x⟩)
  · rename_i ks xs hc
    cases hk : keyOf di with
    | none => rw [hk] at e; cases e
    | some k =>
      rw [hk] at e
      have e' : (if ks.Nodup ∧ ks.length < 1000000 then some (S.set c (.dict (putD ks xs k dv).1 (putD ks xs k dv).2)) else none) = some S' := e
      split at e'
      · rename_i hn
        cases e'
        obtain ⟨vs, h1, hl, h2⟩ := st.cell c a _ ha hc
        obtain ⟨vs', p1, p2, p3⟩ := put_zip (k := k) rdv hn.1 hl h2
        have ei := key_rd hk rdi
        subst ei
        refine set_dict (by omega) pins s σ H _ _ v ov iv u Q I ro ri rv ⟨a, _, rfl, DPut.k h1 (by rw [List.length_zip, sizeLine_eq]; omega), ?_⟩
        rw [p1]
        have x : Ext ρ H ρ (upd H a (.dK ((putD ks xs k dv).1.zip vs'))) := Ext.write (List.mem_of_getElem? ha)
        exact q _ x (st.write ha ⟨_, upd_same, p2, p3.ext x⟩)
      · cases e'
  · cases e
def gSb (fo fi : SE) : SG := fun d env S => (fo env S).bind fun o S1 => (fi env S1).bind fun i S2 => match hSet S2 o i d with
  | some S3 => .ok env S3
  | none => .stuck
variable {W : WX} {o i : Expr} {fo fi : SE} {pos : Pos}
theorem pgy_sub (hu : X.A.units + 64 < cLine) (ho : PEy X W o fo) (hi : PEy X W i fi)
    (ha : ∀ v, assign (.Subscript o i pos) X.env v = (do
      let ov ← holding [v] (eval o X.env)
      let iv ← holding [v, ov] (eval i X.env)
      standAt pos
      holding [v, ov, iv] (setItem ov iv v)
      release [v, ov, iv] []) := by intro _; rfl) : PGj X W (.Subscript o i pos) [] (gSb fo fi) :=
  PG_imp (pg_sub ho hi (sety hu) ha) fun v σ H k ⟨η, ρ, env, S, d, r, rd, q⟩ => tE_of r ((Out.bind q).imp (fun _ _ _ x => x σ) fun x S1 ρ1 H1 e1 s1 o1 r1 _ w rw =>
    tE_of r1 ((Out.bind o1).imp (fun _ _ _ x => x σ) fun y S2 ρ2 H2 e2 s2 o2 r2 _ z rz => by
      cases hs : hSet S2 x y d with
      | none => rw [hs] at o2; exact o2.elim
      | some S3 =>
        rw [hs] at o2
        exact ⟨η, ρ2, S2, x, y, d, S3, s2, rw.ext e2, rz, (rd.ext e1).ext e2, hs, fun H' e' s' => o2 ρ2 H' e' s' σ (r2.ext e' s') But.refl⟩))
end
end Y

set_option maxHeartbeats 2000000
/-! Layer 10: what is walked; calls. -/
namespace Y
open PySem PySem.Spec PyProof.Rows L2

/-! ### what is walked -/
theorem PI_or {X : Cx} {tg e : Expr} {t t' : TI} (h : PI X tg e t) (h' : PI X tg e t') : PI X tg e (fun σ H R => t σ H R ∨ t' σ H R) :=
  ⟨fun pins s σ H R I q => q.elim (fun q => h.run pins s σ H R I q) fun q => h'.run pins s σ H R I q⟩
/-- an item of data that lie at H, later -/
theorem item_later {G : Gx} {ρ ρ1 hd : List Addr} {H H1 : Hp} {d : D} {v : V} (r : RD G ρ H d v) (e : Ext ρ H ρ1 H1) (hh : ∀ a ∈ hd, (a ∈ G.hid ∨ H a = none) ∧ ∃ o, H1 a = some o) : RD ⟨G.K, G.mg, hd⟩ ρ1 H1 d v :=
  RD.ext (G := ⟨G.K, G.mg, hd⟩) e (r.rehide fun b hb => (hh b hb).1)
theorem itok_lst {G : Gx} {ρ : List Addr} {H : Hp} {a : Addr} {xs : List D} {vs : List V} (h : LstAt G ρ H a vs) (r : RDs G ρ H xs vs) : ItOk G (.vals xs) ρ H (Itl G.K a) := by
  intro ρ1 H1 e hr
  have h1 : SqL G.K H1 a vs := .inl (.inl (e.keep a _ h.2.1 h.1))
  refine ⟨fun i hi => ?_, ⟨vs, h1, by rw [r.len]; exact Nat.le_refl _⟩, fun i x H2 d hd hh hx y => ?_⟩
  · obtain ⟨v, hv, _⟩ := r.get (List.getElem?_eq_getElem hi)
    exact ⟨vs, v, h1, hv⟩
  · obtain ⟨rfl, y⟩ := y
    obtain ⟨v, hv, rv⟩ := r.get hx
    have e2 : x = v := Option.some.inj ((y vs h1).symm.trans hv)
    subst e2
    exact ⟨.inl rfl, item_later rv e hh⟩
theorem itok_tup {G : Gx} {ρ : List Addr} {H : Hp} {a : Addr} {xs : List D} {vs : List V} (h : TupAt G ρ H a vs) (r : RDs G ρ H xs vs) : ItOk G (.vals xs) ρ H (Itt G.K a) := by
  intro ρ1 H1 e hr
  have h1 : SqT G.K H1 a vs := (h.ext e).sq
  refine ⟨fun i hi => ?_, ⟨vs, h1, by rw [r.len]; exact Nat.le_refl _⟩, fun i x H2 d hd hh hx y => ?_⟩
  · obtain ⟨v, hv, _⟩ := r.get (List.getElem?_eq_getElem hi)
    exact ⟨vs, v, h1, hv⟩
  · obtain ⟨rfl, y⟩ := y
    obtain ⟨v, hv, rv⟩ := r.get hx
    have e2 : x = v := Option.some.inj ((y vs h1).symm.trans hv)
    subst e2
    exact ⟨.inl rfl, item_later rv e hh⟩
def srcOf (S : Store) : D → Option Src
  | .tup xs => some (.vals xs)
  | .lst xs => some (.vals xs)
  | .ref i => match S[i]? with
    | some (.lst _) => some (.cell i)
    | _ => none
  | _ => none
def ofI (S : Store) : Option Src → Res Src
  | some d => .ok d S
  | none => .stuck
def sSeqI (f : SE) : SI := fun env S => (f env S).bind fun d S1 => ofI S1 (srcOf S1 d)
section
variable {X : Cx} {W : WX} {tg e : Expr} {f : SE}
def iSeqA (K : PySem.W.Frag) (tl : TE) : TI := fun σ H R => tl σ H fun x H1 => ∃ a, x = .ref a ∧ (((∃ xs, SqL K H1 a xs) ∧ R (Itl K a) H1) ∨ ((∃ xs, SqT K H1 a xs) ∧ R (Itt K a) H1))
theorem pi_seq {l : Expr} {tl : TE} (hl : PE X l tl) : PI X tg l (iSeqA X.K tl) := by
  refine ⟨fun pins s σ H R I h => ?_⟩
  refine thn (hl.run pins s σ H _ I h) fun v s1 ⟨x, H1, I1, r1, q1⟩ => ?_
  obtain ⟨a, e, q1⟩ := q1
  subst e
  cases r1
  rcases q1 with ⟨⟨xs, hq⟩, q⟩ | ⟨⟨xs, hq⟩, q⟩
  · obtain ⟨its, rv, p, hz⟩ := I1.list hq
    refine wpAny_pyIter_list p.isList ?_
    refine ⟨s1.heap.objs.size, [s1.heap.objs.size], _, _, H1, rfl, I1.kept (t' := s1.toks) fun b o e => Heap.get?_push_of_some _ e, turn_list a _, ⟨_, Heap.get?_push_size _ rfl, rfl, rfl⟩, fun b hb => ?_, q⟩
    have e : b = s1.heap.objs.size := by simpa using hb
    subst e
    exact I1.fpOk (Nat.le_refl _) (I1.hok.fresh (Nat.le_refl _))
  · obtain ⟨its, rv, p, hz⟩ := I1.tuple hq
    refine wpAny_pyIter_tuple (show s1.heap.IsTuple a its.toArray from p) ?_
    refine ⟨s1.heap.objs.size, [s1.heap.objs.size], _, _, H1, rfl, I1.kept (t' := s1.toks) fun b o e => Heap.get?_push_of_some _ e, turn_tuple a _, ⟨_, Heap.get?_push_size _ rfl, rfl, rfl⟩, fun b hb => ?_, q⟩
    have e : b = s1.heap.objs.size := by simpa using hb
    subst e
    exact I1.fpOk (Nat.le_refl _) (I1.hok.fresh (Nat.le_refl _))
theorem src_seq {K : PySem.W.Frag} {mg : Str → Option Value} {η ρ : List Addr} {H : Hp} {S : Store} {d : D} {v : V} {src : Src} (s : RS ⟨K, mg, η⟩ ρ H S) (rv : RD ⟨K, mg, η⟩ ρ H d v) (e : srcOf S d = some src) :
    ∃ a, v = .ref a ∧ (((∃ xs, SqL K H a xs) ∧ ItOk ⟨K, mg, η⟩ src ρ H (Itl K a)) ∨ ((∃ xs, SqT K H a xs) ∧ ItOk ⟨K, mg, η⟩ src ρ H (Itt K a))) := by
  cases d with
  | tup xs =>
    cases e
    unfold RD at rv
    obtain ⟨a, vs, h1, h2, h3⟩ := rv
    exact ⟨a, h1, .inr ⟨⟨vs, h2.sq⟩, itok_tup (G := ⟨K, mg, η⟩) h2 h3⟩⟩
  | lst xs =>
    cases e
    unfold RD at rv
    obtain ⟨a, vs, h1, h2, h3⟩ := rv
    exact ⟨a, h1, .inl ⟨⟨vs, .inl (.inl h2.1)⟩, itok_lst (G := ⟨K, mg, η⟩) h2 h3⟩⟩
  | ref i =>
    unfold srcOf at e
    dsimp only at e
    unfold RD at rv
    obtain ⟨a, h1, h2⟩ := rv
    cases hc : S[i]? with
    | none => rw [hc] at e; cases e
    | some c =>
      rw [hc] at e
      cases c with
      | lst xs =>
        cases e
        obtain ⟨vs, q1, q2⟩ := s.cell i a _ h2 hc
        exact ⟨a, h1, .inl ⟨⟨vs, .inl (.inl q1)⟩, ⟨a, h2, rfl⟩⟩⟩
      | dict _ _ => cases e
      | dead => cases e
  | _ => cases e
theorem Out.ofI {G : Gx} {E : XK} {ρ : List Addr} {H : Hp} {S : Store} {o : Option Src} {k : Src → Store → List Addr → Hp → Prop} (h : Out G E ρ H (ofI S o) k) : ∃ d, o = some d ∧ ∀ ρ' H', Ext ρ H ρ' H' → RS G ρ' H' S → k d S ρ' H' := by
  cases o with
  | none => exact h.elim
  | some d => exact ⟨d, rfl, h⟩
theorem piy_seq (he : PEy X W e f) : PIy X W tg e (sSeqI f) := PI_imp (pi_seq he) fun σ H R ⟨η, ρ, env, S, r, o⟩ =>
  tE_of r ((Out.bind o).imp (fun _ _ _ x => x) fun d S1 ρ1 H1 e1 s1 o1 r1 _ v rv => by
    obtain ⟨src, e2, k⟩ := o1.ofI
    obtain ⟨a, h1, h2⟩ := src_seq s1 rv e2
    have k2 := k ρ1 H1 Ext.refl s1
    refine ⟨a, h1, ?_⟩
    rcases h2 with ⟨h2, h3⟩ | ⟨h2, h3⟩
    · exact .inl ⟨h2, k2 _ h3⟩
    · exact .inr ⟨h2, k2 _ h3⟩)
def intsD (lo : Int) (n : Nat) : List D := (List.range n).map fun k => .int (lo + (k : Nat))
def range1 (ds : List D) : Option Src := match ds with
  | [.int j] => if j.natAbs < 4611686018427387904 then some (.vals (intsD 0 j.toNat)) else none
  | _ => none
def range2 (ds : List D) : Option Src := match ds with
  | [.int i, .int j] => if i.natAbs < 4611686018427387904 ∧ j.natAbs < 4611686018427387904 then some (.vals (intsD i (j - i).toNat)) else none
  | _ => none
def sRng1 (fa : SA) : SI := fun env S => (fa env S).bind fun ds S1 => ofI S1 (range1 ds)
def sRng2 (fa : SA) : SI := fun env S => (fa env S).bind fun ds S1 => ofI S1 (range2 ds)
theorem itok_rng {G : Gx} {ρ : List Addr} {H : Hp} {lo : Int} {n : Nat} : ItOk G (.vals (intsD lo n)) ρ H (Itr lo n) := by
  intro ρ1 H1 e hr
  have hl : (intsD lo n).length = n := by simp [intsD]
  refine ⟨fun i hi => by rw [hl] at hi; exact hi, by rw [hl]; exact Nat.le_refl n, fun i x H2 d hd hh hx y => ?_⟩
  obtain ⟨rfl, rfl⟩ := y
  refine ⟨.inl rfl, ?_⟩
  unfold intsD at hx
  rw [List.getElem?_map] at hx
  cases hr : (List.range n)[i]? with
  | none => rw [hr] at hx; cases hx
  | some k =>
    rw [hr] at hx
    cases hx
    have := List.getElem?_eq_some_iff.mp hr
    obtain ⟨h1, h2⟩ := this
    simp at h2
    subst h2
    exact int_mk
variable {a b : Expr} {fa : SA} {p pos : Pos}
theorem piy_rng1 (hm : X.mg "range" = none) (ha : PAy X W [a] fa) (hg : Gl X "range" := by rfl) (hs : starEach [a] X.env = [(false, eval a X.env)] := by rfl) : PIy X W tg (.Call (.Name "range" p) [a] [] pos) (sRng1 fa) :=
  PI_imp (pi_range1 hg hm ha hs) fun σ H R ⟨η, ρ, env, S, r, o⟩ => tA_of r ((Out.bind o).imp (fun _ _ _ x => x) fun ds S1 ρ1 H1 e1 s1 o1 r1 _ vs rv => by
    obtain ⟨src, e2, k⟩ := o1.ofI
    have k2 := k ρ1 H1 Ext.refl s1
    unfold range1 at e2
    split at e2
    · rename_i j
      split at e2
      · rename_i hj
        cases e2
        obtain ⟨v, vs', rfl, rx, rv⟩ := rv.cons_inv
        rw [rv.nil_inv, int_inv rx]
        exact ⟨j, rfl, by omega, by omega, k2 _ itok_rng⟩
      · cases e2
    · cases e2)
theorem piy_rng2 (hm : X.mg "range" = none) (ha : PAy X W [a, b] fa) (hg : Gl X "range" := by rfl) (hs : starEach [a, b] X.env = [(false, eval a X.env), (false, eval b X.env)] := by rfl) (hs2 : starEach [b] X.env = [(false, eval b X.env)] := by rfl) : PIy X W tg (.Call (.Name "range" p) [a, b] [] pos) (sRng2 fa) :=
  PI_imp (pi_range2 hg hm ha hs hs2) fun σ H R ⟨η, ρ, env, S, r, o⟩ => tA_of r ((Out.bind o).imp (fun _ _ _ x => x) fun ds S1 ρ1 H1 e1 s1 o1 r1 _ vs rv => by
    obtain ⟨src, e2, k⟩ := o1.ofI
    have k2 := k ρ1 H1 Ext.refl s1
    unfold range2 at e2
    split at e2
    · rename_i i j
      split at e2
      · rename_i hj
        cases e2
        obtain ⟨v, vs', rfl, rx, rv⟩ := rv.cons_inv
        obtain ⟨w, vs', rfl, ry, rv⟩ := rv.cons_inv
        rw [rv.nil_inv, int_inv rx, int_inv ry]
        exact ⟨i, j, rfl, ⟨by omega, by omega, by omega, by omega⟩, k2 _ itok_rng⟩
      · cases e2
    · cases e2)
/-- enumerate of a list, of a tuple, by value -/
def enumD (i : Int) : List D → List D
  | [] => []
  | d :: ds => .tup [.int i, d] :: enumD (i + 1) ds
def enumOf (S : Store) (ds : List D) : Option Src := match ds with
  | [.tup xs] => some (.vals (enumD 0 xs))
  | [.lst xs] => some (.vals (enumD 0 xs))
  | _ => none
def sEnum (fa : SA) : SI := fun env S => (fa env S).bind fun ds S1 => ofI S1 (enumOf S1 ds)
theorem enumD_len : ∀ {xs : List D} {i : Int}, (enumD i xs).length = xs.length
  | [], _ => rfl
  | x :: xs, i => by simp [enumD, enumD_len]
theorem enumD_get : ∀ {xs : List D} {i : Int} {k : Nat} {d : D}, (enumD i xs)[k]? = some d → ∃ x, xs[k]? = some x ∧ d = .tup [.int (i + k), x]
  | [], _, _, _, h => by simp [enumD] at h
  | x :: xs, i, 0, d, h => by
    simp [enumD] at h
    exact ⟨x, rfl, by simp [← h]⟩
  | x :: xs, i, k + 1, d, h => by
    have h2 : (enumD (i + 1) xs)[k]? = some d := by simpa [enumD] using h
    obtain ⟨y, h3, h4⟩ := enumD_get h2
    refine ⟨y, by simpa using h3, ?_⟩
    rw [h4, show i + 1 + (k : Int) = i + ((k + 1 : Nat) : Int) from by omega]
theorem pair_new {K : PySem.W.Frag} {mg : Str → Option Value} {hd ρ1 : List Addr} {H1 : Hp} {T : Addr} {x y : V} {dx dy : D} (hT : H1 T = none) (hh : ∀ a ∈ hd, ∃ o, H1 a = some o) (hr : ∀ a ∈ ρ1, ∃ o, H1 a = some o)
    (rx : RD ⟨K, mg, hd⟩ ρ1 H1 dx x) (ry : RD ⟨K, mg, hd⟩ ρ1 H1 dy y) : RD ⟨K, mg, hd⟩ ρ1 (upd H1 T (.tup [x, y])) (.tup [dx, dy]) (.ref T) := by
  unfold RD
  refine ⟨T, [x, y], rfl, .inl ⟨.inl upd_same, fun z => ?_, fun z => ?_⟩, .cons (RD.ext (G := ⟨K, mg, hd⟩) (Ext.new hT) rx) (.cons (RD.ext (G := ⟨K, mg, hd⟩) (Ext.new hT) ry) .nil)⟩
  · obtain ⟨o, q⟩ := hr T z; rw [hT] at q; cases q
  · obtain ⟨o, q⟩ := hh T z; rw [hT] at q; cases q
theorem itok_enumL {G : Gx} {ρ : List Addr} {H : Hp} {a : Addr} {xs : List D} {vs : List V} (h : LstAt G ρ H a vs) (r : RDs G ρ H xs vs) : ItOk G (.vals (enumD 0 xs)) ρ H (Ite G.K a) := by
  intro ρ1 H1 e hr
  have h1 : SqL G.K H1 a vs := .inl (.inl (e.keep a _ h.2.1 h.1))
  refine ⟨fun i hi => ?_, ⟨vs, h1, by rw [enumD_len, r.len]; exact Nat.le_refl _⟩, fun i x H2 d hd hh hx y => ?_⟩
  · rw [enumD_len] at hi
    obtain ⟨v, hv, _⟩ := r.get (List.getElem?_eq_getElem hi)
    exact ⟨vs, v, h1, hv⟩
  · obtain ⟨T, x', rfl, hT, rfl, y⟩ := y
    obtain ⟨dx, hx2, rfl⟩ := enumD_get hx
    obtain ⟨v, hv, rv⟩ := r.get hx2
    have e2 : x' = v := Option.some.inj ((y vs h1).symm.trans hv)
    subst e2
    rw [Int.zero_add]
    exact ⟨.inr ⟨T, _, hT, rfl⟩, pair_new hT (fun a ha => (hh a ha).2) hr int_mk (item_later rv e hh)⟩
theorem itok_enumT {G : Gx} {ρ : List Addr} {H : Hp} {a : Addr} {xs : List D} {vs : List V} (h : TupAt G ρ H a vs) (r : RDs G ρ H xs vs) : ItOk G (.vals (enumD 0 xs)) ρ H (IteT G.K a) := by
  intro ρ1 H1 e hr
  have h1 : SqT G.K H1 a vs := (h.ext e).sq
  refine ⟨fun i hi => ?_, ⟨vs, h1, by rw [enumD_len, r.len]⟩, fun i x H2 d hd hh hx y => ?_⟩
  · rw [enumD_len] at hi
    obtain ⟨v, hv, _⟩ := r.get (List.getElem?_eq_getElem hi)
    exact ⟨vs, v, h1, hv⟩
  · obtain ⟨T, x', rfl, hT, rfl, y⟩ := y
    obtain ⟨dx, hx2, rfl⟩ := enumD_get hx
    obtain ⟨v, hv, rv⟩ := r.get hx2
    have e2 : x' = v := Option.some.inj ((y vs h1).symm.trans hv)
    subst e2
    rw [Int.zero_add]
    exact ⟨.inr ⟨T, _, hT, rfl⟩, pair_new hT (fun a ha => (hh a ha).2) hr int_mk (item_later rv e hh)⟩
theorem piy_enum {elts : List Expr} {kk : Nat} {tpos : Pos} (hm : X.mg "enumerate" = none) (ha : PAy X W [e] fa) (hg : Gl X "enumerate" := by rfl) (hs : starEach [e] X.env = [(false, eval e X.env)] := by rfl) : PIy X W (.Tuple elts kk tpos) (.Call (.Name "enumerate" p) [e] [] pos) (sEnum fa) :=
  PI_imp (pi_enumA hg hm ha hs) fun σ H R ⟨η, ρ, env, S, r, o⟩ => tA_of r ((Out.bind o).imp (fun _ _ _ x => x) fun ds S1 ρ1 H1 e1 s1 o1 r1 _ vs rv => by
    obtain ⟨src, e2, k⟩ := o1.ofI
    have k2 := k ρ1 H1 Ext.refl s1
    unfold enumOf at e2
    split at e2
    · rename_i xs
      cases e2
      obtain ⟨v, vs', rfl, rx, rv⟩ := rv.cons_inv
      rw [rv.nil_inv]
      unfold RD at rx
      obtain ⟨a, ws, rfl, h2, h3⟩ := rx
      exact ⟨a, ws, rfl, .inr ⟨h2.sq, k2 _ (itok_enumT (G := ⟨X.K, X.mg, η⟩) h2 h3)⟩⟩
    · rename_i xs
      cases e2
      obtain ⟨v, vs', rfl, rx, rv⟩ := rv.cons_inv
      rw [rv.nil_inv]
      unfold RD at rx
      obtain ⟨a, ws, rfl, h2, h3⟩ := rx
      exact ⟨a, ws, rfl, .inl ⟨.inl (.inl h2.1), k2 _ (itok_enumL (G := ⟨X.K, X.mg, η⟩) h2 h3)⟩⟩
    · cases e2)
end
end Y

set_option maxHeartbeats 2000000
/-! Layer 11: calls. -/
namespace Y
open PySem PySem.Spec PyProof.Rows L2

def sCall (F : Fn) (fa : SA) : SE := fun env S => (fa env S).bind fun ds S1 => F ds S1
/-- F takes np arguments -/
def Arity (np : Nat) (F : Fn) : Prop := ∀ ds S, ds.length ≠ np → F ds S = .stuck
theorem mkFn_ar (np n : Nat) (g : SS) : Arity np (mkFn np n g) := fun ds S h => by unfold mkFn; rw [if_neg h]
theorem mkP_ar (np n : Nat) (g : SS) : Arity np (mkP np n g) := fun ds S h => by unfold mkP runP; rw [if_neg fun z => h z.1]
theorem py_call {P : Program} {w : World} {K : PySem.W.Frag} {mg : Str → Option Value} {base : Heap} {j : Nat} {x : Str} {np : Nat} {F : Fn} (C : Callee P w K mg base j x np F) (ar : Arity np F) {X : Cx} {W : WX} {e : Expr} {es : List Expr} {fa : SA} {p pos : Pos}
    (hP : X.prog = P) (hw : X.w = w) (hK : X.K = K) (hm : X.mg = mg) (hb : X.base = base) (hr : Room j X.A) (tk : Takes X W) (ha : PAy X W (e :: es) fa) (hg : Gl X x := by rfl)
    (hdb : (x == ("__debug__" : Str)) = false := by decide) (he : starEach (e :: es) X.env = (false, eval e X.env) :: starEach es X.env := by rfl) (hpl : (backTo pos (starEach es X.env)).any (·.1) = false := by rfl) :
    PEy X W (.Call (.Name x p) (e :: es) [] pos) (sCall F fa) := by
  subst hP hw hK hm hb
  obtain ⟨f, fd, ps, hps, h1, h2, h3, h4⟩ := C
  refine PE_imp (pe_callSD (E := fun σ => WE W σ) (dvs := []) h1 hr hg h2 h3 h4 .nil (fun σ => passAt tk σ) ha hdb he hpl) fun σ H Q ⟨η, ρ, env, S, r, o⟩ => ?_
  refine tA_of r ((Out.bind o).imp (fun _ _ _ x => x) fun ds S1 ρ1 H1 e1 s1 o1 r1 _ vs rv => ?_)
  rw [List.append_nil]
  have hl : ds.length = np := by
    by_cases hl : ds.length = np
    · exact hl
    · rw [ar _ _ hl] at o1; exact o1.elim
  exact ⟨by rw [← rv.len, hl], η, ρ1, S1, ds, s1, rv, o1⟩

/-! ### built-in functions, types -/
section
variable {X : Cx} {W : WX} {e : Expr} {es : List Expr} {fa : SA} {p pos : Pos} {x : Str} {id T : String} {h : ON}
theorem py_bi (hc : CallR X (.builtin id) (rN X.K X.mg h)) (hv : bootBuiltins x = some (.builtin id)) (hm : X.mg x = none) (ha : PAy X W (e :: es) fa) (hg : Gl X x := by rfl) (hn : x ≠ "__name__" := by decide) (hdb : (x == ("__debug__" : Str)) = false := by decide)
    (he : starEach (e :: es) X.env = (false, eval e X.env) :: starEach es X.env := by rfl) (hpl : (backTo pos (starEach es X.env)).any (·.1) = false := by rfl) : PEy X W (.Call (.Name x p) (e :: es) [] pos) (sFn h fa) :=
  PE_imp (pe_callB hc hg hm hv ha hn hdb he hpl) fun _ _ _ => sFn_read
theorem py_bt (hc : CallR X (.type T) (rN X.K X.mg h)) (hv : bootBuiltins x = some (.type T)) (hm : X.mg x = none) (ha : PAy X W (e :: es) fa) (hg : Gl X x := by rfl) (hn : x ≠ "__name__" := by decide) (hdb : (x == ("__debug__" : Str)) = false := by decide)
    (he : starEach (e :: es) X.env = (false, eval e X.env) :: starEach es X.env := by rfl) (hpl : (backTo pos (starEach es X.env)).any (·.1) = false := by rfl) : PEy X W (.Call (.Name x p) (e :: es) [] pos) (sFn h fa) :=
  PE_imp (pe_callTy hc hg hm hv ha hn hdb he hpl) fun _ _ _ => sFn_read
end
def one1 (f : Store → D → Option D) : ON := fun S ds => match ds with
  | [d] => f S d
  | _ => none
def two2 (f : Store → D → D → Option D) : ON := fun S ds => match ds with
  | [d, e] => f S d e
  | _ => none
theorem cr_one {X : Cx} {f : Value} {r : List V → Hp → VK → Prop} {h : Store → D → Option D} (hc : CallR X f r)
    (q : ∀ {η ρ : List Addr} {S : Store} {d d' : D} {v : V} {H : Hp} {Q : VK}, RS ⟨X.K, X.mg, η⟩ ρ H S → RD ⟨X.K, X.mg, η⟩ ρ H d v → h S d = some d' → Gives ⟨X.K, X.mg, η⟩ ρ H S d' Q → r [v] H Q) : CallR X f (rN X.K X.mg (one1 h)) := by
  intro pins s σ H xs us Q I rv ⟨η, ρ, S, ds, d, st, rd, e, g⟩
  unfold one1 at e
  split at e
  · obtain ⟨v, vs', rfl, rx, rd⟩ := rd.cons_inv
    rw [rd.nil_inv] at rv
    exact hc pins s σ H _ us Q I rv (q st rx e g)
  · cases e
theorem cr_two {X : Cx} {f : Value} {r : List V → Hp → VK → Prop} {h : Store → D → D → Option D} (hc : CallR X f r)
    (q : ∀ {η ρ : List Addr} {S : Store} {d e d' : D} {v w : V} {H : Hp} {Q : VK}, RS ⟨X.K, X.mg, η⟩ ρ H S → RD ⟨X.K, X.mg, η⟩ ρ H d v → RD ⟨X.K, X.mg, η⟩ ρ H e w → h S d e = some d' → Gives ⟨X.K, X.mg, η⟩ ρ H S d' Q → r [v, w] H Q) : CallR X f (rN X.K X.mg (two2 h)) := by
  intro pins s σ H xs us Q I rv ⟨η, ρ, S, ds, d, st, rd, e, g⟩
  unfold two2 at e
  split at e
  · obtain ⟨v, vs', rfl, rx, rd⟩ := rd.cons_inv
    obtain ⟨w, vs', rfl, ry, rd⟩ := rd.cons_inv
    rw [rd.nil_inv] at rv
    exact hc pins s σ H _ us Q I rv (q st rx ry e g)
  · cases e
def oInt : D → Option Int
  | .int i => some i
  | _ => none
def oBl : D → Option Bool
  | .bl i => some i
  | _ => none
def hAbs : ON := one1 fun _ d => match d with
  | .int i => some (.int (if i < 0 then -i else i))
  | _ => none
def hMax2 : ON := two2 fun _ d e => match d, e with
  | .int i, .int j => some (.int (if j > i then j else i))
  | _, _ => none
def hMin2 : ON := two2 fun _ d e => match d, e with
  | .int i, .int j => some (.int (if j < i then j else i))
  | _, _ => none
def hInt : ON := one1 fun _ d => match d with
  | .int i => some (.int i)
  | .bl b => some (.int (if b then 1 else 0))
  | _ => none
def hLen : ON := one1 fun S d => match d with
  | .scr ns => some (.int ns.length)
  | .str x => if x.length ≤ 1000000 then some (.int x.length) else none
  | .ref i => match S[i]? with
    | some (.lst xs) => some (.int xs.length)
    | some (.dict ks _) => some (.int ks.length)
    | _ => none
  | d => (itemsOf S d).map fun xs => .int xs.length
def itemsOrScr (S : Store) : D → Option (List D)
  | .scr ns => some (ns.map .int)
  | d => lstOf S d
def hSum : ON := one1 fun S d => (lstOf S d).bind fun xs => (mapO oInt xs).map fun ns => .int ns.sum
def hAll : ON := one1 fun S d => (lstOf S d).bind fun xs => (mapO oBl xs).map fun bs => .bl (bs.all id)
def hAny : ON := one1 fun S d => (lstOf S d).bind fun xs => (mapO oBl xs).map fun bs => .bl (bs.any id)
def hTuple : ON := one1 fun S d => match d with
  | .tup xs => some (.tup xs)
  | d => (lstOf S d).map .tup
def hList : ON := one1 fun S d => (itemsOf S d).map .lst
def insI (i : Int) : List Int → List Int
  | [] => [i]
  | j :: js => if i ≤ j then i :: j :: js else j :: insI i js
def sortI : List Int → List Int
  | [] => []
  | i :: is => insI i (sortI is)
def hSorted : ON := one1 fun S d => (lstOf S d).bind fun xs => (mapO oInt xs).map fun ns => .lst ((sortI ns).map .int)
def oKey : Key → Option Int
  | .inl i => some i
  | _ => none
/-- sorted(dict) -/
def hSortedD : ON := one1 fun S d => (dictOf S d).bind fun kx => (mapO oKey kx.1).bind fun ns => if ns.length < 64 then some (.lst ((sortI ns).map .int)) else none
def maxL : Int → List Int → Int
  | m, [] => m
  | m, x :: xs => maxL (if m < x then x else m) xs
def hMaxL : ON := one1 fun S d => (lstOf S d).bind fun xs => (mapO oInt xs).bind fun ns => match ns with
  | [] => none
  | n :: ns => some (.int (maxL n ns))
theorem insI_perm (i : Int) : ∀ js, (insI i js).Perm (i :: js)
  | [] => by unfold insI; exact .refl _
  | j :: js => by
    unfold insI
    split
    · exact .refl _
    · exact ((insI_perm i js).cons j).trans (.swap ..)
theorem sortI_perm : ∀ is, (sortI is).Perm is
  | [] => .refl _
  | i :: is => (insI_perm i _).trans ((sortI_perm is).cons i)
theorem insI_sorted (i : Int) : ∀ js, js.Pairwise (· ≤ ·) → (insI i js).Pairwise (· ≤ ·)
  | [], _ => by unfold insI; simp
  | j :: js, h => by
    unfold insI
    have h' := List.pairwise_cons.mp h
    split
    · rename_i hij
      refine List.pairwise_cons.mpr ⟨fun a ha => ?_, h⟩
      rcases List.mem_cons.mp ha with rfl | ha
      · exact hij
      · exact Int.le_trans hij (h'.1 a ha)
    · rename_i hij
      refine List.pairwise_cons.mpr ⟨fun a ha => ?_, insI_sorted i js h'.2⟩
      rcases List.mem_cons.mp ((insI_perm i js).mem_iff.mp ha) with rfl | ha
      · omega
      · exact h'.1 a ha
theorem sortI_sorted : ∀ is, (sortI is).Pairwise (· ≤ ·)
  | [] => .nil
  | i :: is => insI_sorted i _ (sortI_sorted is)
theorem sortI_only {ns ms : List Int} (h : ms.Perm ns) (s : ms.Pairwise (· ≤ ·)) : ms = sortI ns :=
  List.Perm.eq_of_pairwise (le := fun a b => a ≤ b) (fun a b _ _ h1 h2 => Int.le_antisymm h1 h2) s (sortI_sorted ns) (h.trans (sortI_perm ns).symm)
theorem maxL_is : ∀ (xs : List Int) (m : Int), (maxL m xs = m ∨ maxL m xs ∈ xs) ∧ m ≤ maxL m xs ∧ ∀ y ∈ xs, y ≤ maxL m xs
  | [], m => ⟨.inl rfl, Int.le_refl _, fun y h => nomatch h⟩
  | x :: xs, m => by
    unfold maxL
    obtain ⟨h1, h2, h3⟩ := maxL_is xs (if m < x then x else m)
    refine ⟨?_, ?_, fun y hy => ?_⟩
    · rcases h1 with h1 | h1
      · rw [h1]
        split
        · exact .inr (by simp)
        · exact .inl rfl
      · exact .inr (by simp [h1])
    · split at h2 <;> split <;> omega
    · rcases List.mem_cons.mp hy with rfl | hy
      · split at h2 <;> split <;> omega
      · exact h3 y hy
theorem mapO_ints {G : Gx} {ρ : List Addr} {H : Hp} : ∀ {xs : List D} {ns : List Int} {vs : List V}, mapO oInt xs = some ns → RDs G ρ H xs vs → vs = ns.map V.int
  | [], ns, vs, h, r => by unfold mapO at h; cases h; exact r.nil_inv
  | x :: xs, ns, vs, h, r => by
    obtain ⟨v, vs', rfl, r1, r2⟩ := r.cons_inv
    unfold mapO at h
    cases x with
    | int i =>
      cases h2 : mapO oInt xs with
      | none => rw [h2] at h; simp [oInt] at h
      | some ms =>
        rw [h2] at h
        simp [oInt] at h
        subst h
        rw [List.map_cons, ← mapO_ints h2 r2, int_inv r1]
    | _ => simp [oInt] at h
theorem mapO_bls {G : Gx} {ρ : List Addr} {H : Hp} : ∀ {xs : List D} {ns : List Bool} {vs : List V}, mapO oBl xs = some ns → RDs G ρ H xs vs → vs = ns.map V.bl
  | [], ns, vs, h, r => by unfold mapO at h; cases h; exact r.nil_inv
  | x :: xs, ns, vs, h, r => by
    obtain ⟨v, vs', rfl, r1, r2⟩ := r.cons_inv
    unfold mapO at h
    cases x with
    | bl i =>
      cases h2 : mapO oBl xs with
      | none => rw [h2] at h; simp [oBl] at h
      | some ms =>
        rw [h2] at h
        simp [oBl] at h
        subst h
        rw [List.map_cons, ← mapO_bls h2 r2, bl_inv r1]
    | _ => simp [oBl] at h
theorem ints_rd {G : Gx} {ρ : List Addr} {H : Hp} : ∀ ns : List Int, RDs G ρ H (ns.map .int) (ns.map V.int)
  | [] => .nil
  | n :: ns => .cons int_mk (ints_rd ns)
theorem mapO_keys : ∀ {ks : List Key} {ns : List Int}, mapO oKey ks = some ns → ks = ns.map Sum.inl
  | [], ns, h => by unfold mapO at h; cases h; rfl
  | k :: ks, ns, h => by
    unfold mapO at h
    cases k with
    | inl i =>
      cases h2 : mapO oKey ks with
      | none => rw [h2] at h; simp [oKey] at h
      | some ms =>
        rw [h2] at h
        simp [oKey] at h
        subst h
        rw [List.map_cons, ← mapO_keys h2]
    | inr _ => simp [oKey] at h
section
variable {X : Cx}
theorem cry_abs : CallR X (.builtin "abs") (rN X.K X.mg hAbs) := cr_one call_abs fun st rd e g => by
  split at e
  · cases e; rw [int_inv rd]; exact ⟨_, rfl, g.here st int_mk⟩
  · cases e
theorem cry_max2 (hc : X.calm = true) : CallR X (.builtin "max") (rN X.K X.mg hMax2) := cr_two (call_max2 hc) fun st r1 r2 e g => by
  split at e
  · cases e; rw [int_inv r1, int_inv r2]; exact ⟨_, _, rfl, g.here st int_mk⟩
  · cases e
theorem cry_min2 (hc : X.calm = true) : CallR X (.builtin "min") (rN X.K X.mg hMin2) := cr_two (call_min2 hc) fun st r1 r2 e g => by
  split at e
  · cases e; rw [int_inv r1, int_inv r2]; exact ⟨_, _, rfl, g.here st int_mk⟩
  · cases e
theorem cry_int : CallR X (.type "int") (rN X.K X.mg hInt) := cr_one call_int1 fun st rd e g => by
  split at e
  · cases e; rw [int_inv rd]; exact .inl ⟨_, rfl, g.here st int_mk⟩
  · cases e; rw [bl_inv rd]; exact .inr ⟨_, rfl, g.here st int_mk⟩
  · cases e
theorem CallR.or {f : Value} {r r' : List V → Hp → VK → Prop} (h : CallR X f r) (h' : CallR X f r') : CallR X f (fun vs H Q => r vs H Q ∨ r' vs H Q) := by
  intro pins s σ H xs us Q I rv q
  rcases q with q | q
  · exact h pins s σ H xs us Q I rv q
  · exact h' pins s σ H xs us Q I rv q
theorem cry_len : CallR X (.builtin "len") (rN X.K X.mg hLen) := cr_one (CallR.or call_len call_lenD) fun {η ρ S d d' v H Q} st rd e g => by
  split at e
  · cases e
    unfold RD at rd
    obtain ⟨a, rfl, h⟩ := rd
    refine .inl ⟨_, _, rfl, .inl ⟨_, scr_sq h, rfl⟩, ?_⟩
    rw [List.length_map]
    exact g.here st int_mk
  · split at e
    · rename_i x hl
      cases e
      rw [str_inv rd]
      exact .inl ⟨_, _, rfl, ⟨line_of hl, rfl⟩, g.here st int_mk⟩
    · cases e
  · unfold RD at rd
    obtain ⟨a, rfl, ha⟩ := rd
    split at e
    · rename_i i xs hs
      cases e
      obtain ⟨vs, q1, q2⟩ := st.cell _ a _ ha hs
      refine .inl ⟨_, _, rfl, .inl ⟨_, .inl (.inl q1), rfl⟩, ?_⟩
      rw [← q2.len]
      exact g.here st int_mk
    · rename_i i ks xs hs
      cases e
      obtain ⟨vs, q1, q2, q3⟩ := st.cell _ a _ ha hs
      refine .inr ⟨a, _, rfl, q1, ?_⟩
      rw [List.length_zip, ← q2, Nat.min_self]
      exact g.here st int_mk
    · cases e
  · cases hi : itemsOf S d with
    | none => rw [hi] at e; cases e
    | some xs =>
      rw [hi] at e; cases e
      obtain ⟨a, vs, rfl, h1, h2⟩ := items_at st rd hi
      have g : Gives ⟨X.K, X.mg, η⟩ ρ H S (.int xs.length) Q := g
      rw [h2.len] at g
      rcases h1 with h1 | h1
      · exact .inl ⟨_, _, rfl, .inl ⟨_, h1, rfl⟩, g.here st int_mk⟩
      · exact .inl ⟨_, _, rfl, .inr ⟨_, h1, rfl⟩, g.here st int_mk⟩
theorem cry_sum (hc : X.calm = true) : CallR X (.builtin "sum") (rN X.K X.mg hSum) := cr_one (cr_sum hc) fun {η ρ S d d' v H Q} st rd e g => by
  cases hx : lstOf S d with
  | none => rw [hx] at e; cases e
  | some xs =>
    rw [hx] at e
    have e : (mapO oInt xs).map (fun ns => D.int ns.sum) = some d' := e
    cases hn : mapO oInt xs with
    | none => rw [hn] at e; cases e
    | some ns =>
      rw [hn] at e; cases e
      obtain ⟨a, vs, rfl, h1, h2⟩ := lst_at st rd hx
      have := mapO_ints hn h2
      subst this
      exact ⟨a, ns, rfl, .inl (.inl h1), g.here st int_mk⟩
theorem cry_all (hc : X.calm = true) : CallR X (.builtin "all") (rN X.K X.mg hAll) := cr_one (cr_all hc) fun {η ρ S d d' v H Q} st rd e g => by
  cases hx : lstOf S d with
  | none => rw [hx] at e; cases e
  | some xs =>
    rw [hx] at e
    have e : (mapO oBl xs).map (fun ns => D.bl (ns.all id)) = some d' := e
    cases hn : mapO oBl xs with
    | none => rw [hn] at e; cases e
    | some ns =>
      rw [hn] at e; cases e
      obtain ⟨a, vs, rfl, h1, h2⟩ := lst_at st rd hx
      have := mapO_bls hn h2
      subst this
      exact ⟨a, ns, rfl, .inl (.inl h1), g.here st bl_mk⟩
theorem cry_any (hc : X.calm = true) : CallR X (.builtin "any") (rN X.K X.mg hAny) := cr_one (cr_any hc) fun {η ρ S d d' v H Q} st rd e g => by
  cases hx : lstOf S d with
  | none => rw [hx] at e; cases e
  | some xs =>
    rw [hx] at e
    have e : (mapO oBl xs).map (fun ns => D.bl (ns.any id)) = some d' := e
    cases hn : mapO oBl xs with
    | none => rw [hn] at e; cases e
    | some ns =>
      rw [hn] at e; cases e
      obtain ⟨a, vs, rfl, h1, h2⟩ := lst_at st rd hx
      have := mapO_bls hn h2
      subst this
      exact ⟨a, ns, rfl, .inl (.inl h1), g.here st bl_mk⟩
theorem cry_tuple : CallR X (.type "tuple") (rN X.K X.mg hTuple) := cr_one call_tuple_of fun {η ρ S d d' v H Q} st rd e g => by
  split at e
  · cases e
    obtain ⟨a, vs, rfl, h1, h2⟩ := tup_at rd
    exact ⟨a, vs, rfl, .inr ⟨h1, g.here st rd⟩⟩
  · cases hx : lstOf S d with
    | none => rw [hx] at e; cases e
    | some xs =>
      rw [hx] at e; cases e
      obtain ⟨a, vs, rfl, h1, h2⟩ := lst_at st rd hx
      exact ⟨a, vs, rfl, .inl ⟨.inl (.inl h1), g.tup st h2⟩⟩
theorem cry_list : CallR X (.type "list") (rN X.K X.mg hList) := cr_one call_list_of fun {η ρ S d d' v H Q} st rd e g => by
  cases hx : itemsOf S d with
  | none => rw [hx] at e; cases e
  | some xs =>
    rw [hx] at e; cases e
    obtain ⟨a, vs, rfl, h1, h2⟩ := items_at st rd hx
    exact ⟨a, vs, rfl, h1, g.lst st h2⟩
theorem cry_sorted : CallR X (.builtin "sorted") (rN X.K X.mg hSorted) := cr_one cr_sortedI fun {η ρ S d d' v H Q} st rd e g => by
  cases hx : lstOf S d with
  | none => rw [hx] at e; cases e
  | some xs =>
    rw [hx] at e
    have e : (mapO oInt xs).map (fun ns => D.lst ((sortI ns).map .int)) = some d' := e
    cases hn : mapO oInt xs with
    | none => rw [hn] at e; cases e
    | some ns =>
      rw [hn] at e; cases e
      obtain ⟨a, vs, rfl, h1, h2⟩ := lst_at st rd hx
      have := mapO_ints hn h2
      subst this
      exact ⟨a, ns, rfl, .inl (.inl h1), fun ms p h3 h4 hp => by rw [sortI_only h3 h4]; exact g.lst st (ints_rd _) p hp⟩
theorem cry_sortedD (hc : X.calm = true) : CallR X (.builtin "sorted") (rN X.K X.mg hSortedD) := cr_one (call_sortedDI hc) fun {η ρ S d d' v H Q} st rd e g => by
  cases hx : dictOf S d with
  | none => rw [hx] at e; cases e
  | some kx =>
    obtain ⟨ks, xs⟩ := kx
    rw [hx] at e
    have e : (mapO oKey ks).bind (fun ns => if ns.length < 64 then some (D.lst ((sortI ns).map .int)) else none) = some d' := e
    cases hn : mapO oKey ks with
    | none => rw [hn] at e; cases e
    | some ns =>
      rw [hn] at e
      have e : (if ns.length < 64 then some (D.lst ((sortI ns).map .int)) else none) = some d' := e
      split at e
      · rename_i hl
        cases e
        obtain ⟨a, vs, rfl, h1, h2, h3⟩ := dict_at st rd hx
        refine ⟨a, _, ns, rfl, h1, ?_, hl, fun ms p h3 h4 hp => by rw [sortI_only h3 h4]; exact g.lst st (ints_rd _) p hp⟩
        rw [List.map_fst_zip (Nat.le_of_eq h2)]
        exact mapO_keys hn
      · cases e
theorem cry_maxL (hc : X.calm = true) : CallR X (.builtin "max") (rN X.K X.mg hMaxL) := cr_one (cr_max hc) fun {η ρ S d d' v H Q} st rd e g => by
  cases hx : lstOf S d with
  | none => rw [hx] at e; cases e
  | some xs =>
    rw [hx] at e
    have e : (mapO oInt xs).bind (fun ns => match ns with
      | [] => none
      | n :: ns => some (D.int (maxL n ns))) = some d' := e
    cases hn : mapO oInt xs with
    | none => rw [hn] at e; cases e
    | some ns =>
      rw [hn] at e
      cases ns with
      | nil => cases e
      | cons n ns =>
        have e : some (D.int (maxL n ns)) = some d' := e
        cases e
        obtain ⟨a, vs, rfl, h1, h2⟩ := lst_at st rd hx
        have := mapO_ints hn h2
        subst this
        refine ⟨a, n :: ns, rfl, .inl (.inl h1), by simp, fun m hm hmx => ?_⟩
        obtain ⟨q1, q2, q3⟩ := maxL_is ns n
        have a1 : maxL n ns ≤ m := by
          rcases q1 with q1 | q1
          · rw [q1]; exact hmx n (by simp)
          · exact hmx _ (by simp [q1])
        have a2 : m ≤ maxL n ns := by
          rcases List.mem_cons.mp hm with rfl | hm
          · exact q2
          · exact q3 m hm
        rw [Int.le_antisymm a2 a1]
        exact g.here st int_mk
end

/-! ### isinstance -/
def typD (S : Store) : D → Option String
  | .non => some "NoneType"
  | .bl _ => some "bool"
  | .int _ => some "int"
  | .str _ => some "str"
  | .tup _ => some "tuple"
  | .lst _ => some "list"
  | .dict _ _ => some "dict"
  | .ref i => match S[i]? with
    | some (.lst _) => some "list"
    | some (.dict _ _) => some "dict"
    | _ => none
  | _ => none
def isaD (a b : String) : Option Bool := if b = "tuple" ∨ b = "int" ∨ b = "bool" ∨ b = "str" ∨ b = "list" ∨ b = "dict" then (if a = "NoneType" ∨ a = "bool" ∨ a = "int" ∨ a = "str" ∨ a = "tuple" ∨ a = "list" ∨ a = "dict" then some (decide (a = b ∨ (a = "bool" ∧ b = "int"))) else none) else none
def hIsi : ON := two2 fun S d e => match e with
  | .ty T => (typD S d).bind fun t => (isaD t T).map .bl
  | _ => none
theorem isa_kit {K : PySem.W.Frag} {a b : String} {r : Bool} (h : isaD a b = some r) : PySem.W.kitOne K (.type a) (.type b) = some r := by
  apply kit_ty
  unfold isaD at h
  split at h
  · rename_i hb
    split at h
    · rename_i ha
      cases h
      rcases hb with rfl | rfl | rfl | rfl | rfl | rfl <;> rcases ha with rfl | rfl | rfl | rfl | rfl | rfl | rfl <;> decide +kernel
    · cases h
  · cases h
theorem typ_at {G : Gx} {ρ : List Addr} {H : Hp} {S : Store} {d : D} {v : V} {t : String} (s : RS G ρ H S) (r : RD G ρ H d v) (h : typD S d = some t) : TyX G.K H v (.type t) := by
  cases d with
  | non => cases h; unfold RD at r; subst r; exact .base .non
  | bl b => cases h; rw [bl_inv r]; exact .base (.bl b)
  | int b => cases h; rw [int_inv r]; exact .base (.int b)
  | str b => cases h; rw [str_inv r]; exact .base (.str b)
  | tup xs =>
    cases h
    unfold RD at r
    obtain ⟨a, vs, rfl, h2, h3⟩ := r
    rcases h2 with ⟨h2 | ⟨o, h2⟩, _⟩ | ⟨o, its, n, h2, h4, _⟩
    · exact .base (.tup h2)
    · exact .fTuple h2
    · exact .kTuple h2 h4
  | lst xs =>
    cases h
    unfold RD at r
    obtain ⟨a, vs, rfl, h2, h3⟩ := r
    exact .base (.lst h2.1)
  | dict ks xs =>
    cases h
    unfold RD at r
    obtain ⟨a, vs, rfl, h2, h3⟩ := r
    rcases h2.1 with h2 | ⟨o, h2⟩
    · exact .base (.dK h2)
    · exact .fDict h2
  | ref i =>
    unfold typD at h
    dsimp only at h
    unfold RD at r
    obtain ⟨a, rfl, h2⟩ := r
    split at h
    · rename_i xs hc
      cases h
      obtain ⟨vs, q1, q2⟩ := s.cell i a _ h2 hc
      exact .base (.lst q1)
    · rename_i ks xs hc
      cases h
      obtain ⟨vs, q1, q2⟩ := s.cell i a _ h2 hc
      exact .base (.dK q1)
    · cases h
  | _ => cases h
theorem cry_isi {X : Cx} : CallR X (.builtin "isinstance") (rN X.K X.mg hIsi) := cr_two call_isi fun {η ρ S d e d' v w H Q} st r1 r2 e g => by
  split at e
  · rename_i T
    cases ht : typD S d with
    | none => rw [ht] at e; cases e
    | some t =>
      rw [ht] at e
      have e : (isaD t T).map D.bl = some d' := e
      cases hb : isaD t T with
      | none => rw [hb] at e; cases e
      | some b =>
        rw [hb] at e; cases e
        unfold RD at r2
        subst r2
        exact ⟨v, .ty T, .type t, .type T, b, rfl, .ty T, typ_at st r1 ht, isa_kit hb, g.here st bl_mk⟩
  · cases e
end Y

set_option maxHeartbeats 2000000
/-! Layer 12: methods, stars, new cells. -/
namespace Y
open PySem PySem.Spec PyProof.Rows L2

/-! ### methods -/
abbrev MD := Store → D → List D → Option (D × Store)
def ofM : Option (D × Store) → Res D
  | some (d, S) => .ok d S
  | none => .stuck
def sMt (q : Store → D → Bool) (h : MD) (f : SE) (fa : SA) : SE := fun env S => (f env S).bind fun x S1 => if q S1 x = true then (fa env S1).bind fun xs S2 => ofM (h S2 x xs) else .stuck
def rMt (K : PySem.W.Frag) (mg : Str → Option Value) (h : MD) : V → List V → Hp → VK → Prop := fun x xs H Q => ∃ η ρ S dx ds d S', RS ⟨K, mg, η⟩ ρ H S ∧ RD ⟨K, mg, η⟩ ρ H dx x ∧ RDs ⟨K, mg, η⟩ ρ H ds xs ∧ h S dx ds = some (d, S') ∧
  ∀ H', Ext ρ H ρ H' → RS ⟨K, mg, η⟩ ρ H' S' → ∀ v, RD ⟨K, mg, η⟩ ρ H' d v → Q v H'
def TyOk (T : String) (q : Store → D → Bool) : Prop := ∀ {G : Gx} {ρ : List Addr} {H : Hp} {S : Store} {d : D} {v : V}, RS G ρ H S → RD G ρ H d v → q S d = true → tyV G.K T v H
def qLst (S : Store) (d : D) : Bool := (lstOf S d).isSome
def qDict (S : Store) : D → Bool
  | .ref i => match S[i]? with
    | some (.dict _ _) => true
    | _ => false
  | _ => false
theorem qLst_ok : TyOk "list" qLst := fun {G ρ H S d v} s r h => by
  unfold qLst at h
  cases hx : lstOf S d with
  | none => rw [hx] at h; cases h
  | some xs =>
    obtain ⟨a, vs, rfl, h1, h2⟩ := lst_at s r hx
    exact .inl ⟨rfl, vs, .inl (.inl h1)⟩
theorem qDict_ok : TyOk "dict" qDict := fun {G ρ H S d v} s r h => by
  cases d with
  | ref i =>
    unfold qDict at h
    dsimp only at h
    unfold RD at r
    obtain ⟨a, rfl, ha⟩ := r
    split at h
    · rename_i ks xs hc
      obtain ⟨vs, h1, _⟩ := s.cell i a _ ha hc
      exact .inr (.inr (.inl ⟨rfl, .inl ⟨_, h1⟩⟩))
    · cases h
  | _ => cases h
section
variable {X : Cx} {W : WX} {o e : Expr} {es : List Expr} {f : SE} {fa : SA} {name : Str} {apos cpos : Pos} {T id : String} {q : Store → D → Bool} {h : MD}
theorem Out.ofM {G : Gx} {E : XK} {ρ : List Addr} {H : Hp} {o : Option (D × Store)} {k : D → Store → List Addr → Hp → Prop} (h : Out G E ρ H (ofM o) k) : ∃ d S, o = some (d, S) ∧ ∀ ρ' H', Ext ρ H ρ' H' → RS G ρ' H' S → k d S ρ' H' := by
  cases o with
  | none => exact h.elim
  | some d => exact ⟨d.1, d.2, rfl, h⟩
theorem mt_read {σ : L2.St} {H : Hp} {Q : VK} {K : PySem.W.Frag} {mg : Str → Option Value} (ty : TyOk T q) (z : tE K mg W (sMt q h f fa) σ H Q) : tBM K T (rMt K mg h) (tE K mg W f) (tA K mg W fa) σ H Q := by
  obtain ⟨η, ρ, env, S, r, o⟩ := z
  refine tE_of r ((Out.bind o).imp (fun _ _ _ x => x) fun x S1 ρ1 H1 e1 s1 o1 r1 _ v rv => ?_)
  by_cases hq : q S1 x = true
  · rw [if_pos hq] at o1
    refine ⟨ty s1 rv hq, tA_of r1 ((Out.bind o1).imp (fun _ _ _ x => x) fun ds S2 ρ2 H2 e2 s2 o2 r2 x2 vs rvs => ?_)⟩
    obtain ⟨d, S3, hd, k⟩ := o2.ofM
    exact ⟨η, ρ2, S2, x, ds, d, S3, s2, rv.ext x2, rvs, hd, fun H' e' s' w rw => k ρ2 H' e' s' w rw⟩
  · rw [if_neg hq] at o1; exact o1.elim
theorem mt0_read {σ : L2.St} {H : Hp} {Q : VK} {K : PySem.W.Frag} {mg : Str → Option Value} (ty : TyOk T q) (z : tE K mg W (sMt q h f sNil) σ H Q) : tBM0 K T (rMt K mg h) (tE K mg W f) σ H Q := by
  obtain ⟨η, ρ, env, S, r, o⟩ := z
  refine tE_of r ((Out.bind o).imp (fun _ _ _ x => x) fun x S1 ρ1 H1 e1 s1 o1 r1 _ v rv => ?_)
  by_cases hq : q S1 x = true
  · rw [if_pos hq] at o1
    have o2 : Out ⟨K, mg, η⟩ (EE W σ) ρ1 H1 (ofM (h S1 x [])) _ := o1
    obtain ⟨d, S3, hd, k⟩ := o2.ofM
    exact ⟨ty s1 rv hq, η, ρ1, S1, x, [], d, S3, s1, rv, .nil, hd, fun H' e' s' w rw => k ρ1 H' e' s' w rw⟩
  · rw [if_neg hq] at o1; exact o1.elim
theorem py_mt (ty : TyOk T q) (pa : PlainAttrs T) (slot : Slot T name id) (hty : typeOf (.builtin id) = pure (.type "method_descriptor")) (hm : MtR X id (rMt X.K X.mg h)) (ho : PEy X W o f) (ha : PAy X W (e :: es) fa)
    (hbase : attributeBase o name X.env (eval o X.env) = eval o X.env := by rfl)
    (hfew : ((backTo cpos (starEach (e :: es) X.env)).all (fun x => !x.1) && (backToKw cpos (keywordEach [] X.env)).all (fun x => x.1.isSome)
      && decide ((e :: es).length + ([] : List Keyword).length + (if ([] : List Keyword).isEmpty then 0 else 1) < 30)) = true := by rfl)
    (hline : (apos.endLine == cpos.line) = true := by rfl) (hs : starEach (e :: es) X.env = (false, eval e X.env) :: starEach es X.env := by rfl) (hplain : (backTo cpos (starEach es X.env)).any (·.1) = false := by rfl) :
    PEy X W (.Call (.Attribute o name apos) (e :: es) [] cpos) (sMt q h f fa) := PE_imp (pe_bm pa slot hty hm ho ha hbase hfew hline hs hplain) fun σ H Q z => mt_read ty z
theorem py_mt0 (ty : TyOk T q) (pa : PlainAttrs T) (slot : Slot T name id) (hty : typeOf (.builtin id) = pure (.type "method_descriptor")) (hm : MtR X id (rMt X.K X.mg h)) (ho : PEy X W o f)
    (hbase : attributeBase o name X.env (eval o X.env) = eval o X.env := by rfl) (hline : (apos.endLine == cpos.line) = true := by rfl) :
    PEy X W (.Call (.Attribute o name apos) [] [] cpos) (sMt q h f sNil) := PE_imp (pe_bm0 pa slot hty hm ho hbase hline) fun σ H Q z => mt0_read ty z
end
def cellL (S : Store) : D → Option (Nat × List D)
  | .ref i => match S[i]? with
    | some (.lst xs) => some (i, xs)
    | _ => none
  | _ => none
def mApp : MD := fun S x ds => match cellL S x, ds with
  | some (i, xs), [d] => if xs.length < 1000000 then some (.non, S.set i (.lst (xs ++ [d]))) else none
  | _, _ => none
def mExt : MD := fun S x ds => match cellL S x, ds with
  | some (i, xs), [d] => match lstOf S d with
    | some ys => if xs.length + ys.length ≤ 1000000 then some (.non, S.set i (.lst (xs ++ ys))) else none
    | none => none
  | _, _ => none
def mPop : MD := fun S x ds => match cellL S x, ds with
  | some (i, xs), [] => (xs[xs.length - 1]?).map fun d => (d, S.set i (.lst xs.dropLast))
  | _, _ => none
def idxF (x : D) : List D → Option Nat
  | [] => none
  | y :: ys => match eqF y x with
    | some true => some 0
    | some false => (idxF x ys).map (· + 1)
    | none => none
/-- xs.index(x): flat ones -/
def mIndex : MD := fun S x ds => match lstOf S x, ds with
  | some xs, [d] => if isFlat d = true ∧ xs.all isFlat = true then (idxF d xs).map fun i => (.int i, S) else none
  | _, _ => none
section
variable {G : Gx} {ρ : List Addr} {H : Hp} {S : Store}
theorem cell_at {x : D} {v : V} {i : Nat} {xs : List D} (s : RS G ρ H S) (r : RD G ρ H x v) (h : cellL S x = some (i, xs)) : ∃ a vs, v = .ref a ∧ ρ[i]? = some a ∧ S[i]? = some (.lst xs) ∧ H a = some (.lst vs) ∧ RDs G ρ H xs vs := by
  cases x with
  | ref j =>
    unfold cellL at h
    dsimp only at h
    unfold RD at r
    obtain ⟨a, h1, h2⟩ := r
    split at h
    · rename_i ys hc
      cases h
      obtain ⟨vs, q1, q2⟩ := s.cell i a _ h2 hc
      exact ⟨a, vs, h1, h2, hc, q1, q2⟩
    · cases h
  | _ => cases h
theorem RDs.dropLast : ∀ {xs : List D} {vs : List V}, RDs G ρ H xs vs → RDs G ρ H xs.dropLast vs.dropLast := fun {xs vs} r => by
  rw [List.dropLast_eq_take, List.dropLast_eq_take, ← r.len]
  exact r.take _
theorem write_list {i : Nat} {a : Addr} {xs : List D} {vs : List V} (s : RS G ρ H S) (ha : ρ[i]? = some a) (r : RDs G ρ H xs vs) : Ext ρ H ρ (upd H a (.lst vs)) ∧ RS G ρ (upd H a (.lst vs)) (S.set i (.lst xs)) := by
  have x : Ext ρ H ρ (upd H a (.lst vs)) := Ext.write (List.mem_of_getElem? ha)
  exact ⟨x, s.write ha ⟨_, upd_same, r.ext x⟩⟩
end
section
variable {X : Cx}
theorem mty_append : MtR X "list.append" (rMt X.K X.mg mApp) := by
  intro pins s σ H x xs v us Q I rx rxs ⟨η, ρ, S, dx, ds, d, S', st, rdx, rds, e, g⟩
  unfold mApp at e
  split at e
  · rename_i i ys y hc
    split at e
    · rename_i hl
      cases e
      obtain ⟨a, vs, rfl, ha, hS, h1, h2⟩ := cell_at st rdx hc
      obtain ⟨w, ws', rfl, ry, rds⟩ := rds.cons_inv
      rw [rds.nil_inv] at rxs
      obtain ⟨q1, q2⟩ := write_list st ha (h2.append (.cons ry .nil))
      exact mt_append pins s σ H _ _ v us Q I rx rxs ⟨a, vs, w, rfl, rfl, h1, by rw [← h2.len, sizeLine_eq]; omega, g _ q1 q2 _ (by unfold RD; rfl)⟩
    · cases e
  · cases e
theorem mty_extend : MtR X "list.extend" (rMt X.K X.mg mExt) := by
  intro pins s σ H x xs v us Q I rx rxs ⟨η, ρ, S, dx, ds, d, S', st, rdx, rds, e, g⟩
  unfold mExt at e
  split at e
  · rename_i i ys y hc
    split at e
    · rename_i zs hz
      split at e
      · rename_i hl
        cases e
        obtain ⟨a, vs, rfl, ha, hS, h1, h2⟩ := cell_at st rdx hc
        obtain ⟨w, ws', rfl, ry, rds⟩ := rds.cons_inv
        rw [rds.nil_inv] at rxs
        obtain ⟨b, zv, rfl, k1, k2⟩ := lst_at st ry hz
        obtain ⟨q1, q2⟩ := write_list st ha (h2.append k2)
        exact mt_extend pins s σ H _ _ v us Q I rx rxs ⟨a, b, vs, zv, rfl, rfl, h1, k1, by rw [← h2.len, ← k2.len]; exact line_of hl, g _ q1 q2 _ (by unfold RD; rfl)⟩
      · cases e
    · cases e
  · cases e
theorem mty_pop : MtR X "list.pop" (rMt X.K X.mg mPop) := by
  intro pins s σ H x xs v us Q I rx rxs ⟨η, ρ, S, dx, ds, d, S', st, rdx, rds, e, g⟩
  unfold mPop at e
  split at e
  · rename_i i ys hc
    cases hd : ys[ys.length - 1]? with
    | none => rw [hd] at e; cases e
    | some y =>
      rw [hd] at e; cases e
      obtain ⟨a, vs, rfl, ha, hS, h1, h2⟩ := cell_at st rdx hc
      rw [rds.nil_inv] at rxs
      obtain ⟨w, w1, w2⟩ := h2.get hd
      rw [h2.len] at w1
      obtain ⟨q1, q2⟩ := write_list st ha h2.dropLast
      exact mt_pop pins s σ H _ _ v us Q I rx rxs ⟨a, vs, w, rfl, rfl, h1, w1, g _ q1 q2 _ (w2.ext q1)⟩
  · cases e
theorem idxF_sem {x : D} {v : V} {G : Gx} {ρ : List Addr} {H : Hp} (r : RD G ρ H x v) : ∀ {ys : List D} {ws : List V} {i : Nat}, idxF x ys = some i → RDs G ρ H ys ws → ∃ z, ws[i]? = some z ∧ eqV z v = true ∧ ∀ (m : Nat) (z' : V), m < i → ws[m]? = some z' → eqV z' v = false
  | [], ws, i, h, _ => by cases h
  | y :: ys, ws, i, h, q => by
    obtain ⟨w, ws', rfl, q1, q2⟩ := q.cons_inv
    unfold idxF at h
    split at h
    · rename_i he
      cases h
      exact ⟨w, rfl, eqF_sem he q1 r, fun m z' hm => nomatch hm⟩
    · rename_i he
      cases hj : idxF x ys with
      | none => rw [hj] at h; cases h
      | some j =>
        rw [hj] at h; cases h
        obtain ⟨z, z1, z2, z3⟩ := idxF_sem r hj q2
        refine ⟨z, by simpa using z1, z2, fun m z' hm hz => ?_⟩
        cases m with
        | zero =>
          simp at hz
          subst hz
          exact eqF_sem he q1 r
        | succ m =>
          have hm : m + 1 < j + 1 := hm
          exact z3 m z' (by omega) (by simpa using hz)
    · cases h
theorem flats_rd {G : Gx} {ρ : List Addr} {H : Hp} : ∀ {ys : List D} {ws : List V}, ys.all isFlat = true → RDs G ρ H ys ws → ws.all flatV = true
  | [], ws, _, q => by rw [q.nil_inv]; rfl
  | y :: ys, ws, h, q => by
    obtain ⟨w, ws', rfl, q1, q2⟩ := q.cons_inv
    simp only [List.all_cons, Bool.and_eq_true] at h ⊢
    exact ⟨flat_rd h.1 q1, flats_rd h.2 q2⟩
theorem mty_index : MtR X "list.index" (rMt X.K X.mg mIndex) := by
  intro pins s σ H x xs v us Q I rx rxs ⟨η, ρ, S, dx, ds, d, S', st, rdx, rds, e, g⟩
  unfold mIndex at e
  split at e
  · rename_i ys y hc
    split at e
    · rename_i hf
      cases hi : idxF y ys with
      | none => rw [hi] at e; cases e
      | some i =>
        rw [hi] at e; cases e
        obtain ⟨a, vs, rfl, h1, h2⟩ := lst_at st rdx hc
        obtain ⟨w, ws', rfl, ry, rds⟩ := rds.cons_inv
        rw [rds.nil_inv] at rxs
        obtain ⟨z, z1, z2, z3⟩ := idxF_sem ry hi h2
        exact mt_index pins s σ H _ _ v us Q I rx rxs ⟨a, vs, w, i, z, rfl, rfl, .inl (.inl h1), flat_rd hf.1 ry, flats_rd hf.2 h2, z1, z2, z3, g _ Ext.refl st _ int_mk⟩
    · cases e
  · cases e
end

/-! ### new lists as cells -/
/-- xs * k, xs + ys, list(xs), sorted(xs), [..]: the new list is a cell -/
def sCell (f : SE) : SE := fun env S => (f env S).bind fun d S1 => match d with
  | .lst xs => .ok (.ref S1.length) (S1 ++ [.lst xs])
  | _ => .stuck
/-- an operation that lays a new list -/
def newOf (d : D) : Prop := match d with
  | .lst _ => True
  | _ => False
section
variable {X : Cx} {W : WX} {e : Expr} {es : List Expr} {f g : SE} {fa : SA} {pos p2 : Pos}
/-- xs * k -/
def hRep : O2 := fun S x y => match lstOf S x, y with
  | some xs, .int k => if 0 ≤ k ∧ k ≤ 1000 ∧ xs.length ≤ 1000 then some (.lst (reps k.toNat xs)) else none
  | _, _ => none
theorem Gives.cell {K : PySem.W.Frag} {mg : Str → Option Value} {η ρ : List Addr} {H : Hp} {S : Store} {xs : List D} {vs : List V} {Q : VK} {E : XK} (o : Out ⟨K, mg, η⟩ E ρ H (.ok (D.ref S.length) (S ++ [.lst xs])) fun d _ ρ' H' => ∀ v, RD ⟨K, mg, η⟩ ρ' H' d v → Q v H') (s : RS ⟨K, mg, η⟩ ρ H S) (r : RDs ⟨K, mg, η⟩ ρ H xs vs) : ∀ p, H p = none → Q (.ref p) (upd H p (.lst vs)) := fun p hp =>
  o (ρ ++ [p]) _ (Ext.cell hp) (s.alloc hp ⟨vs, upd_same, r.ext (Ext.cell hp)⟩) _ (RD.newcell (p := p) (s.new (o := .lst vs) hp))
theorem py_repN {a b : Expr} (ha : PEy X W a f) (hb : PEy X W b g) : PEy X W (.BinOp a .Mult b pos) (sCell (sOp hRep f g)) :=
  PE_imp (pe_op op_rep ha hb) fun σ H Q ⟨η, ρ, env, S, r, o⟩ => tE_of r ((Out.bind (Out.bind o)).imp (fun _ _ _ x => x) fun x S1 ρ1 H1 e1 s1 o1 r1 _ v rv =>
    tE_of r1 ((Out.bind o1).imp (fun _ _ _ x => x) fun y S2 ρ2 H2 e2 s2 o2 r2 x2 u ru => by
      have rv2 := rv.ext x2
      cases hd : hRep S2 x y with
      | none => rw [hd] at o2; exact o2.elim
      | some d =>
        rw [hd] at o2
        have o3 := o2 ρ2 H2 Ext.refl s2
        unfold hRep at hd
        split at hd
        · rename_i xs k hx
          split at hd
          · rename_i hl
            cases hd
            obtain ⟨a, vs, rfl, h1, h2⟩ := lst_at s2 rv2 hx
            refine ⟨a, k, vs, rfl, int_inv ru, h1, by omega, by omega, ?_, Gives.cell o3 s2 (h2.reps _)⟩
            rw [← h2.len, sizeLine_eq]
            have a1 : xs.length * k.toNat ≤ 1000 * 1000 := Nat.mul_le_mul hl.2.2 (by omega)
            omega
          · cases hd
        · cases hd))
/-- list(xs) as a cell -/
theorem py_listN (hm : X.mg "list" = none) (ha : PAy X W [e] fa) (hg : Gl X "list" := by rfl) (he : starEach [e] X.env = (false, eval e X.env) :: starEach [] X.env := by rfl) : PEy X W (.Call (.Name "list" p2) [e] [] pos) (sCell (sFn hList fa)) :=
  PE_imp (pe_callTy call_list_of hg hm boot_list ha (he := he)) fun σ H Q ⟨η, ρ, env, S, r, o⟩ => tA_of r ((Out.bind (Out.bind o)).imp (fun _ _ _ x => x) fun ds S1 ρ1 H1 e1 s1 o1 r1 _ vs rv => by
    cases hd : hList S1 ds with
    | none => rw [hd] at o1; exact o1.elim
    | some d =>
      rw [hd] at o1
      have o3 := o1 ρ1 H1 Ext.refl s1
      unfold hList one1 at hd
      split at hd
      · rename_i d0
        dsimp only at hd
        cases hx : itemsOf S1 d0 with
        | none => rw [hx] at hd; cases hd
        | some xs =>
          rw [hx] at hd; cases hd
          obtain ⟨v, vs', rfl, rx, rd⟩ := rv.cons_inv
          rw [rd.nil_inv]
          obtain ⟨a, vs, rfl, h1, h2⟩ := items_at s1 rx hx
          exact ⟨a, vs, rfl, h1, Gives.cell o3 s1 h2⟩
      · cases hd)
theorem py_dict0 : PEy X W (.Dict [] [] pos) sDict0 := PE_imp pe_dnewK fun σ H Q ⟨η, ρ, env, S, r, o⟩ p hp => o ρ _ (Ext.new hp) (r.st.new hp) _ (by
  unfold RD
  exact ⟨p, [], rfl, ⟨.inl upd_same, ref_fresh r.st hp⟩, rfl, .nil⟩)
theorem py_newD : PEy X W (.Dict [] [] pos) sNewD := PE_imp pe_dnewK fun σ H Q ⟨η, ρ, env, S, r, o⟩ p hp => o (ρ ++ [p]) _ (Ext.cell hp) (r.st.alloc hp ⟨[], upd_same, rfl, .nil⟩) _ (RD.newcell (p := p) (r.st.new (o := .dK []) hp))
/-- *e in a display, a call -/
theorem pay_star {p : Pos} (he : PEy X W e f) (hr : PAy X W es fa) (hs : starEach (.Starred e p :: es) X.env = (true, eval e X.env) :: starEach es X.env := by rfl) : PAy X W (.Starred e p :: es) (sStar f fa) :=
  PA_imp (StX.pa_star he hr hs) fun σ H Q ⟨η, ρ, env, S, r, o⟩ => tE_of r ((Out.bind o).imp (fun _ _ _ x => x) fun x S1 ρ1 H1 e1 s1 o1 r1 _ v rv => by
    cases hx : itemsOf S1 x with
    | none => rw [hx] at o1; exact o1.elim
    | some xs =>
      rw [hx] at o1
      obtain ⟨a, vs, rfl, h1, h2⟩ := items_at s1 rv hx
      exact ⟨a, vs, rfl, h1.symm, tA_of r1 ((Out.bind o1).imp (fun _ _ _ x => x) fun ys S2 ρ2 H2 e2 s2 o2 r2 x2 ws rws => o2 ρ2 H2 Ext.refl s2 _ ((h2.ext x2).append rws))⟩)
end
end Y

set_option maxHeartbeats 2000000
/-! t[::-1] of a tuple -/
namespace Y
open PySem PySem.Spec PyProof.Rows L2 HT
theorem filterMap_all {α β : Type} {f : α → Option β} {g : α → β} : ∀ {l : List α}, (∀ m ∈ l, f m = some (g m)) → l.filterMap f = l.map g
  | [], _ => rfl
  | x :: l, h => by
    rw [List.filterMap_cons, h x (by simp), List.map_cons, filterMap_all fun m hm => h m (by simp [hm])]
theorem revPick (xs : Array Value) : ((List.range xs.size).filterMap fun (m : Nat) => xs[(((xs.size : Int) - 1) + (m : Int) * (-1)).toNat]?) = xs.toList.reverse := by
  have e : (List.range xs.size).filterMap (fun (m : Nat) => xs[(((xs.size : Int) - 1) + (m : Int) * (-1)).toNat]?) = (List.range xs.size).map (fun m => xs.toList.reverse.getD m .none) := by
    refine filterMap_all fun m hm => ?_
    have hm : m < xs.size := List.mem_range.mp hm
    have e1 : (((xs.size : Int) - 1) + (m : Int) * (-1)).toNat = xs.size - 1 - m := by omega
    rw [e1]
    show _ = some _
    rw [List.getD_eq_getElem?_getD, List.getElem?_reverse (by simpa using hm)]
    have : xs.toList.length - 1 - m < xs.toList.length := by simp; omega
    rw [List.getElem?_eq_getElem this]
    simp
  rw [e]
  apply List.ext_getElem
  · simp
  · intro i h1 h2
    simp at h1
    simp [List.getD_eq_getElem?_getD, List.getElem?_reverse, h1]
section
variable {prog : Program} {w : World} {A : Around} {E : Value → Shared → Prop} {s : Shared}
theorem back_slice {c : Addr} {t : Tok} {n : Nat} {Q : Int × Int × Nat → Shared → Prop} (hs : s.heap.IsSliceOf c .none .none (.int (-1) t)) (h : Q ((n : Int) - 1, -1, n) s) : wpAny (model prog w) A (Builtin.Slice.sliceApplied (.ref c) (pure (n : Int))) Q E s := by
  obtain ⟨ob, h1, h2, h3⟩ := id hs
  unfold Builtin.Slice.sliceApplied Builtin.Slice.sliceFields
  refine wpAny_bind (wpAny_bind (wpAny_field h1 h3 (x := .none) rfl (wpAny_bind (wpAny_field h1 h3 (x := .none) rfl (wpAny_bind (wpAny_field h1 h3 (x := .int (-1) t) rfl (wpAny_pure ?_)))))))
  refine wpAny_bind (slicePart_int ?_)
  show wpAny _ _ (if ((-1 : Int) == 0) = true then _ else _) _ _ s
  rw [if_neg (by decide)]
  refine wpAny_bind (slicePart_none (wpAny_bind (slicePart_none (wpAny_bind (wpAny_pure ?_)))))
  have e : Builtin.Slice.slicePlaces ((n : Int) - 1) (-1) (-1) = n := by
    unfold Builtin.Slice.slicePlaces
    by_cases hn : n = 0
    · subst hn; decide
    · rw [if_neg (by decide), if_pos (by omega), show (-(-1) : Int) = 1 from rfl, Int.ediv_one]
      omega
  show wpAny _ _ (pure ((n : Int) - 1, (-1 : Int), Builtin.Slice.slicePlaces ((n : Int) - 1) (-1) (-1))) _ _ s
  rw [e]
  exact wpAny_pure h
theorem back_tuple {t c : Addr} {its : Array Value} {u : Tok} {Q : Value → Shared → Prop} (ht : IsTup s.heap t its) (hs : s.heap.IsSliceOf c .none .none (.int (-1) u))
    (h : Q (.ref s.heap.objs.size) { s with heap := s.heap.push { cls := .type "tuple", data := .seq its.toList.reverse.toArray } }) (hz : its.size ≤ sizeLine) : wpAny (model prog w) A (getItem (.ref t) (.ref c)) Q E s := by
  have hok : sizeOk (.seq its.toList.reverse.toArray) := by
    show its.toList.reverse.toArray.size ≤ sizeLine
    rw [List.size_toArray, List.length_reverse, Array.length_toList]
    exact hz
  obtain ⟨ob, h1, h2, h3⟩ := id hs
  have ty : s.TypeIs (.ref c) "slice" := ⟨ob, h1, h2⟩
  unfold getItem
  try with_reducible refine wpAny_holding ?_
  first | refine wpAny_bind (wpAny_pure ?_) | skip
  refine wpAny_bind (wpAny_sequenceKey ht.typeIs (by decide) (wpAny_bind ?_))
  refine wpAny_callSpecial?_slot (name := Str.ofString "__getitem__") ht.typeIs PyProof.Rows.slot_tuple_getitem (wpAny_call_entry PyProof.Rows.slot_tuple_getitem ht.typeIs entry_tuple_getitem ?_ (args_tuple_getitem _ _))
  show wpAny _ _ (Builtin.Tuple.tupleItemsOf (.ref t) >>= _) _ _ s
  refine wpAny_bind (tupleItemsOf_ ht (wpAny_bind (wpAny_typeOf ty ?_)))
  rw [if_pos (by decide)]
  refine wpAny_bind (back_slice (n := its.size) hs ?_)
  have no : ¬ ((((its.size : Int) - 1 : Int) == 0 && (-1 : Int) == 1 && its.size == its.size) = true) := by
    rw [show ((-1 : Int) == 1) = false from rfl, Bool.and_false, Bool.false_and]
    exact Bool.false_ne_true
  show wpAny _ _ (if (((its.size : Int) - 1 : Int) == 0 && (-1 : Int) == 1 && its.size == its.size) = true then _ else _) _ _ s
  rw [if_neg no, revPick]
  first
    | exact wpAny_bind (m := Builtin.Tuple.tupleExact _) (wpAny_newObj_type (wpAny_pure ⟨_, rfl, wpAny_pure h⟩) hok)
    | exact wpAny_bind (m := Builtin.Tuple.tupleExact _) (wpAny_newObj_type (wpAny_bind (wpAny_pure (wpAny_pure ⟨_, rfl, wpAny_pure h⟩))) hok)
    | exact wpAny_bind (wpAny_bind (m := Builtin.Tuple.tupleExact _) (wpAny_newObj_type (wpAny_pure (wpAny_pure ⟨_, rfl, wpAny_pure h⟩)) hok))
    | exact wpAny_bind (wpAny_bind (m := Builtin.Tuple.tupleExact _) (wpAny_newObj_type (wpAny_pure ⟨_, rfl, wpAny_pure h⟩) hok))
end
def tRevT (K : PySem.W.Frag) (te : TE) : TE := fun σ H Q => te σ H fun x H1 => ∃ a xs, x = .ref a ∧ SqT K H1 a xs ∧ ∀ p, H1 p = none → Q (.ref p) (upd H1 p (.tup xs.reverse))
theorem pe_revT {X : Cx} {e : Expr} {te : TE} {k : Nat} {p1 p2 p3 pos : Pos} (he : PE X e te) : PE X (.Subscript e (.Slice none none (some (.UnaryOp .USub (.Constant (.int 1) k p1) p2)) p3) pos) (tRevT X.K te) := by
  refine ⟨fun ps s σ H Q I h => Subscript_ (thn (he.run ps s σ H _ I h) fun v s1 ⟨x, H1, I1, r1, a, xs, ex, hx, q⟩ => ?_)⟩
  subst ex
  cases r1
  have step : PO X (some (.UnaryOp .USub (.Constant (.int 1) k p1) p2)) (tPart (tUn (rU fun i => .int (-i)) (tC (.int 1)))) := po_some (pe_un un_neg pe_int)
  refine wpAny_Slice (thn (po_none.run ps s1 σ H1 (fun o H2 => o = none ∧ H2 = H1) I1 ⟨rfl, rfl⟩) fun vl s2 ⟨l, H2, I2, pl, el, e2⟩ => ?_)
  subst el e2
  refine thn (po_none.run ps s2 σ H2 (fun o H3 => o = none ∧ H3 = H2) I2 ⟨rfl, rfl⟩) fun vu s3 ⟨u, H3, I3, pu, eu, e3⟩ => thn (step.run ps s3 σ H3 (fun o H4 => o = some (-1) ∧ H4 = H3) I3 ⟨1, rfl, -1, rfl, rfl, rfl⟩) fun vs s4 ⟨o, H4, I4, pq, eo, e4⟩ => ?_
  subst eu e3 eo e4
  cases pl
  cases pu
  cases pq with
  | int _ tk =>
    have I5 : Inv X ps σ H4 { s4 with heap := s4.heap.push { cls := .type "slice", data := .fields #[.none, .none, .int (-1) tk] } } := I4.kept (t' := s4.toks) fun b ob q => Heap.get?_push_of_some _ q
    obtain ⟨its, r, ht, hz⟩ := I5.tuple hx
    have hlen := r.length
    show wpAny (model X.prog X.w) X.A (subscriptTail e (.Slice none none (some (.UnaryOp .USub (.Constant (.int 1) k p1) p2)) p3) (.ref a) (.ref s4.heap.objs.size)) (EP X ps σ Q) X.xe { s4 with heap := s4.heap.push { cls := .type "slice", data := .fields #[.none, .none, .int (-1) tk] } }
    refine tail_any (ops := [.ref a, .ref s4.heap.objs.size]) ht.typeIs (PyProof.Rows.slot_tuple_getitem.lookup) ?_ (by with_unfolding_all rfl)
    refine back_tuple ht (Heap.IsSliceOf.new _ .none .none (.int (-1) tk)) ?_ (by rw [List.size_toArray]; omega)
    refine ⟨.ref _, _, I5.laid (t' := s4.toks) (o := .tup xs.reverse) (fun b ob q => Heap.get?_push_of_some _ q) (Nat.le_refl _) ?_, rfl, q _ (I5.hok.fresh (Nat.le_refl _))⟩
    exact ⟨by rw [List.length_reverse]; exact hz, _, by simpa using r.reverse, IsTup.new _ _⟩
/-- t[::-1] of a tuple -/
def hRevT : O1 := fun S d => match d with
  | .tup xs => some (.tup xs.reverse)
  | _ => none
theorem py_revT {X : Cx} {W : WX} {e : Expr} {f : SE} {k : Nat} {p1 p2 p3 pos : Pos} (he : PEy X W e f) : PEy X W (.Subscript e (.Slice none none (some (.UnaryOp .USub (.Constant (.int 1) k p1) p2)) p3) pos) (sUn hRevT f) :=
  PE_imp (pe_revT he) fun σ H Q ⟨η, ρ, env, S, r, o⟩ => tE_of r ((Out.bind o).imp (fun _ _ _ x => x) fun x S1 ρ1 H1 e1 s1 o1 r1 _ v rv => by
    obtain ⟨d, ed, k⟩ := o1.ofO
    have g : Gives ⟨X.K, X.mg, η⟩ ρ1 H1 S1 d Q := fun H' e' s' w rw => k ρ1 H' e' s' w rw
    unfold hRevT at ed
    split at ed
    · cases ed
      obtain ⟨a, vs, rfl, h1, h2⟩ := tup_at rv
      exact ⟨a, vs, rfl, h1, g.tup s1 h2.reverse⟩
    · cases ed)
end Y

set_option maxHeartbeats 2000000
/-! Layer 13: facts of the head, the end; more statements. -/
namespace Y
open PySem PySem.Spec PyProof.Rows L2

theorem Gd.blk {X : Cx} {W : WX} (G : Gd X W) {s : Shared} {H : Hp} {scope : Scope} {cenv : PySem.Env} {fp : List Addr} : Gd (X.blk s H scope cenv fp) W0 := ⟨G.calm, PassesOwn.never, takes_W0, G.nd⟩
/-- the def x stands in the module -/
def Here (K : PySem.W.Frag) (mg : Str → Option Value) (x : Str) (st : Stmt) (ps : List Str) : Prop := ∃ (f : Addr) (fd : FuncData), Fun K x x st f fd ∧ mg x = some (.ref f) ∧ PySem.W.keepIn K (.ref f) = true ∧ Binds K fd ps []
/-- a module's constant -/
def GK (K : PySem.W.Frag) (mg : Str → Option Value) (x : Str) (d : D) : Prop := ∃ v u, mg x = some u ∧ RelV v u ∧ ∀ η ρ H, RD ⟨K, mg, η⟩ ρ H d v
theorem GK.int {K : PySem.W.Frag} {mg : Str → Option Value} {x : Str} {i : Int} {t : Tok} (h : mg x = some (.int i t)) : GK K mg x (.int i) := ⟨.int i, _, h, ⟨t, rfl⟩, fun _ _ _ => int_mk⟩
theorem GK.str {K : PySem.W.Frag} {mg : Str → Option Value} {x y : Str} {t : Tok} (h : mg x = some (.str y t)) : GK K mg x (.str y) := ⟨.str y, _, h, ⟨t, rfl⟩, fun _ _ _ => str_mk⟩
/-- a constant pair of ints -/
theorem GK.pair {K : PySem.W.Frag} {mg : Str → Option Value} {x : Str} {a : Addr} {od : Option Addr} {sl : Array (Option Value)} {i j : Int} {t u : Tok} {n : Nat} (h : mg x = some (.ref a)) (l : K.lookup a = some ⟨.type "tuple", od, .seq #[.int i t, .int j u] n, sl⟩) : GK K mg x (.tup [.int i, .int j]) :=
  ⟨.ref a, _, h, rfl, fun _ _ _ => by
    unfold RD
    refine ⟨a, [.int i, .int j], rfl, .inr ⟨_, _, _, l, rfl, rfl, by show 2 ≤ sizeLine; decide, .cons ⟨t, rfl⟩ (.cons ⟨u, rfl⟩ .nil)⟩, .cons int_mk (.cons int_mk .nil)⟩⟩
section
variable {X : Cx} {W : WX}
theorem py_gk {x : Str} {d : D} {pos : Pos} (h : GK X.K X.mg x d) (hg : Gl X x := by rfl) (hd : (x == ("__debug__" : Str)) = false := by decide) : PEy X W (.Name x pos) (sC d) := by
  obtain ⟨v, u, h1, h2, h3⟩ := h
  exact py_c (pe_glob hg h1 h2 hd) h3
def sPar3 (i j l : Nat) (f : SA) : SS := fun env S => (f env S).bind fun ds S1 => match ds with
  | [x, y, z] => .ok (.nx (((env.set i (some x)).set j (some y)).set l (some z))) S1
  | _ => .stuck
/-- x op= e -/
def sAug (i : Nat) (h : O2) (f : SE) : SS := fun env S => match env[i]? with
  | some (some x) => (f env S).bind fun y S1 => (ofO S1 (h S1 x y)).bind fun d S2 => .ok (.nx (env.set i (some d))) S2
  | _ => .stuck
end
/-- the law's own promise -/
def spLaw (K : PySem.W.Frag) : Sp := fun vs H Q _ => ∃ (a : Addr) (ns : List Int), vs = [.ref a] ∧ SqL K H a (ns.map V.int) ∧ ns.length ≤ 63 ∧ ∀ H', Q (.bl true) H'
theorem law_end {P : Program} {w : World} {K : PySem.W.Frag} {mg : Str → Option Value} {base : Heap} {k : Nat} {x : Str} {F : Fn} {f : Addr} {fd : FuncData} {ps : List Str} (hm : mg x = some (.ref f)) (C : ∃ (f : Addr) (fd : FuncData), FnOk P w K mg base (L2.CX P w) k f fd ps (spOf K mg 1 F) ∧ mg x = some (.ref f))
    (hF : ∀ ns : List Int, ns.length ≤ 63 → F [.scr ns] [] = .ok (.bl true) []) : ∃ fd : FuncData, FnOk P w K mg base (L2.CX P w) k f fd ps (spLaw K) := by
  obtain ⟨f', fd, h1, h2⟩ := C
  have e := hm.symm.trans h2
  cases e
  refine ⟨fd, h1.imp fun vs H Q E h => ?_⟩
  obtain ⟨a, ns, rfl, hS, hl, q⟩ := h
  refine ⟨rfl, [], [], [], [.scr ns], ⟨rfl, List.nodup_nil, fun a h => by simp at h, fun a h => by simp at h, fun i a c h => by simp at h⟩, ?_, ?_⟩
  · refine .cons ?_ .nil
    unfold RD
    refine ⟨a, rfl, ?_⟩
    rcases hS with hS | hS
    · exact .inl ⟨hS, by simp, by simp⟩
    · exact .inr hS
  · rw [hF ns hl]
    intro ρ' H' _ _ v rv
    rw [bl_inv rv]
    exact q H'
end Y

set_option maxHeartbeats 2000000
/-! Layer 14: the end; more statements. -/
namespace Y
open PySem PySem.Spec PyProof.Rows L2
theorem law_end2 {P : Program} {w : World} {K : PySem.W.Frag} {mg : Str → Option Value} {base : Heap} {k : Nat} {F : Fn} {f : Addr} {fd : FuncData} {ps : List Str}
    (hF : ∀ ns : List Int, ns.length ≤ 63 → F [.scr ns] [] = .ok (.bl true) []) (ok : FnOk P w K mg base (L2.CX P w) k f fd ps (spOf K mg 1 F)) : FnOk P w K mg base (L2.CX P w) k f fd ps (spLaw K) := ok.imp fun vs H Q E h => by
  obtain ⟨a, ns, rfl, hS, hl, q⟩ := h
  refine ⟨rfl, [], [], [], [.scr ns], ⟨rfl, List.nodup_nil, fun a h => by simp at h, fun a h => by simp at h, fun i a c h => by simp at h⟩, ?_, ?_⟩
  · refine .cons ?_ .nil
    unfold RD
    refine ⟨a, rfl, ?_⟩
    rcases hS with hS | hS
    · exact .inl ⟨hS, by simp, by simp⟩
    · exact .inr hS
  · rw [hF ns hl]
    intro ρ' H' _ _ v rv
    rw [bl_inv rv]
    exact q H'
theorem law_noX {P : Program} (w : World) (H : Hp) (s : Shared) (e : Value) (s' : Shared) (h : L2.CX P w [] H s (fun _ _ _ => False) e s') : False := by
  obtain ⟨_, _, _, _, _, _, _, _, _, _, _, _, he⟩ := h
  exact he
section
variable {X : Cx} {W : WX}
theorem psy_par3 {i j l : Nat} {x y z : Str} {a b c : Expr} {fa : SA} {px py pz pt pos : Pos} {kt k2 pt2} (G : Gd X W) (ha : PAy X W [a, b, c] fa) (hi : X.N[i]? = some x := by rfl) (hj : X.N[j]? = some y := by rfl) (hl : X.N[l]? = some z := by rfl) (hij : i ≠ j := by decide) (hil : i ≠ l := by decide) (hjl : j ≠ l := by decide)
    (hx : X.env.scope.names.lookup x = some .local := by rfl) (hy : X.env.scope.names.lookup y = some .local := by rfl) (hz : X.env.scope.names.lookup z = some .local := by rfl)
    (hw : swappedStores [.Tuple [.Name x px, .Name y py, .Name z pz] kt pt] (.Tuple [a, b, c] k2 pt2) X.env = pure (some [x, y, z]) := by rfl)
    (hs : swapsWithSole [.Tuple [.Name x px, .Name y py, .Name z pz] kt pt] (.Tuple [a, b, c] k2 pt2) pos.line X.env = pure false := by rfl) :
    PSy X W (.Assign [.Tuple [.Name x px, .Name y py, .Name z pz] kt pt] (.Tuple [a, b, c] k2 pt2) pos) (sPar3 i j l fa) :=
  PS_imp (ps_par3 G.calm G.nd hi hj hl hij hil hjl hx hy hz ha hw hs) fun D σ H ⟨η, ρ, env, S, r, o⟩ => tA_of r ((Out.bind o).imp (fun _ _ _ x => x σ) fun ds S1 ρ1 H1 e1 s1 o1 r1 _ vs rv => by
    match ds, rv, o1 with
    | [x, y, z], rv, o1 =>
      obtain ⟨v, vs', rfl, rx, rv⟩ := rv.cons_inv
      obtain ⟨w, vs', rfl, ry, rv⟩ := rv.cons_inv
      obtain ⟨u, vs', rfl, rz, rv⟩ := rv.cons_inv
      rw [rv.nil_inv]
      exact ⟨v, w, u, rfl, o1 ρ1 H1 Ext.refl s1 _ (((r1.set i rx).set j ry).set l rz)⟩
    | [], _, o1 => exact o1.elim
    | [_], _, o1 => exact o1.elim
    | [_, _], _, o1 => exact o1.elim
    | _ :: _ :: _ :: _ :: _, _, o1 => exact o1.elim)
theorem ipy_add : PIp X .Add (r2 X.K X.mg fun S x y => match x, y with
    | .int i, .int j => some (.int (i + j))
    | _, _ => none) := by
  intro pins s σ H x y v u Q I rx ry ⟨η, ρ, S, dx, dy, d, st, rdx, rdy, e, g⟩
  dsimp only at e
  split at e
  · rename_i i j
    cases e
    exact ip_add pins s σ H x y v u Q I rx ry ⟨i, j, int_inv rdx, int_inv rdy, g.here st int_mk⟩
  · cases e
end
end Y
namespace Y
open PySem PySem.Spec PyProof.Rows L2
section
variable {P : Program} {w : World} {K : PySem.W.Frag} {mg : Str → Option Value} {base : Heap}
theorem call_p {x : Str} {st : Stmt} {N ps : List Str} {k np n : Nat} {g : SS} {F : Fn} (here : Here K mg x st ps) (Sc : FnScope N ps (defScope st)) (hF : F = mkP np n g) (hp : ps.length = np) (hn : N.length = n)
    (hb : ∀ (f : Addr) (cdv : Value) (A : Around) (outer : List PySem.Env) (s : Shared) (H : Hp) (E : XK), Room k (A.deeper (envOfC x (defScope st) s.heap.objs.size f cdv)) →
      Gd (cxOf (L2.CX P w) P w K mg base N x (defScope st) f cdv A outer s H E) (fun c d _ H => E c d H) →
      PSsy (cxOf (L2.CX P w) P w K mg base N x (defScope st) f cdv A outer s H E) (fun c d _ H => E c d H) (defBody st) g) : Callee P w K mg base (k + 1) x np F := by
  obtain ⟨f, fd, h0, h1, h2, h3⟩ := here
  subst hp hn hF
  exact ⟨f, fd, ps, rfl, fn_p h0 Sc (hb f), h1, h2, h3⟩
theorem call_y {x : Str} {st : Stmt} {N ps : List Str} {k np n : Nat} {g : SS} {F : Fn} (here : Here K mg x st ps) (Sc : FnScope N ps (defScope st)) (hF : F = mkFn np n g) (hp : ps.length = np) (hn : N.length = n)
    (hb : ∀ (f : Addr) (cdv : Value) (A : Around) (outer : List PySem.Env) (s : Shared) (H : Hp) (E : XK), Room k (A.deeper (envOfC x (defScope st) s.heap.objs.size f cdv)) →
      Gd (cxOf (L2.CX P w) P w K mg base N x (defScope st) f cdv A outer s H E) (fun c d _ H => E c d H) →
      PSsy (cxOf (L2.CX P w) P w K mg base N x (defScope st) f cdv A outer s H E) (fun c d _ H => E c d H) (defBody st) g) : Callee P w K mg base (k + 1) x np F := by
  obtain ⟨f, fd, h0, h1, h2, h3⟩ := here
  subst hp hn hF
  exact ⟨f, fd, ps, rfl, fn_y h0 Sc (hb f), h1, h2, h3⟩
theorem law_p {x : Str} {st : Stmt} {N : List Str} {k n : Nat} {g : SS} {F : Fn} {f : Addr} {fd : FuncData} {p : Str} (h0 : Fun K x x st f fd) (Sc : FnScope N [p] (defScope st)) (hF : F = mkP 1 n g) (hn : N.length = n) (law : ∀ ns : List Int, ns.length ≤ 63 → F [.scr ns] [] = .ok (.bl true) [])
    (hb : ∀ (f : Addr) (cdv : Value) (A : Around) (outer : List PySem.Env) (s : Shared) (H : Hp) (E : XK), Room k (A.deeper (envOfC x (defScope st) s.heap.objs.size f cdv)) →
      Gd (cxOf (L2.CX P w) P w K mg base N x (defScope st) f cdv A outer s H E) (fun c d _ H => E c d H) →
      PSsy (cxOf (L2.CX P w) P w K mg base N x (defScope st) f cdv A outer s H E) (fun c d _ H => E c d H) (defBody st) g) : FnOk P w K mg base (L2.CX P w) (k + 1) f fd [p] (spLaw K) := by
  subst hn hF
  exact law_end2 law (fn_p h0 Sc (hb f))
end
end Y

/-! Rounds: longest ways, rings; no program in sight. -/
namespace Rd

structure Ed where
  s : Nat
  t : Nat
  l : Int
  k : Int
deriving DecidableEq
def gn (P : Int × Int) (e : Ed) : Int := e.l * P.2 - e.k * P.1
/-- a solution -/
def Sol (es : List Ed) (P : Int × Int) (x : Nat → Int) : Prop := (∀ v, 0 ≤ x v) ∧ ∀ e ∈ es, x e.s + gn P e ≤ x e.t

/-! ### tables -/
def wAt : List (Nat × Nat) → Nat → Option Nat
  | [], _ => none
  | (a, b) :: r, k => if a = k then some b else wAt r k
def putW : List (Nat × Nat) → Nat → Nat → List (Nat × Nat)
  | [], k, v => [(k, v)]
  | (a, b) :: r, k, v => if a = k then (a, v) :: r else (a, b) :: putW r k v
theorem wAt_put : ∀ (w : List (Nat × Nat)) (k v j : Nat), wAt (putW w k v) j = if j = k then some v else wAt w j
  | [], k, v, j => by
    simp only [putW, wAt]
    by_cases h : k = j
    · simp [h]
    · rw [if_neg h, if_neg (Ne.symm h)]
  | (a, b) :: r, k, v, j => by
    unfold putW
    by_cases h : a = k
    · rw [if_pos h]
      subst h
      simp only [wAt]
      by_cases h2 : a = j
      · simp [h2]
      · rw [if_neg h2, if_neg (Ne.symm h2), if_neg h2]
    · rw [if_neg h]
      simp only [wAt]
      by_cases h2 : a = j
      · subst h2
        rw [if_pos rfl, if_neg h, if_pos rfl]
      · rw [if_neg h2, if_neg h2, wAt_put r k v j]
theorem putW_keys : ∀ (w : List (Nat × Nat)) (k v : Nat), (putW w k v).map (·.1) = if k ∈ w.map (·.1) then w.map (·.1) else w.map (·.1) ++ [k]
  | [], k, v => by simp [putW]
  | (a, b) :: r, k, v => by
    unfold putW
    by_cases h : a = k
    · rw [if_pos h]; simp [h]
    · rw [if_neg h]
      simp only [List.map_cons, putW_keys r k v, List.mem_cons]
      by_cases h2 : k ∈ r.map (·.1)
      · simp [h2]
      · simp [h2, Ne.symm h]
theorem wAt_none : ∀ {w : List (Nat × Nat)} {k : Nat}, wAt w k = none ↔ k ∉ w.map (·.1)
  | [], k => by simp [wAt]
  | (a, b) :: r, k => by
    unfold wAt
    by_cases h : a = k
    · simp [h]
    · rw [if_neg h, wAt_none]
      simp [Ne.symm h]
theorem putW_nodup {w : List (Nat × Nat)} {k v : Nat} (h : (w.map (·.1)).Nodup) : ((putW w k v).map (·.1)).Nodup := by
  rw [putW_keys]
  split
  · exact h
  · rename_i hk
    exact List.nodup_append.mpr ⟨h, by simp, fun a ha b hb => by
      rw [List.mem_singleton.mp hb]
      rintro rfl
      exact hk ha⟩

/-! ### passes -/
abbrev Sg := List Int × List (Nat × Nat) × Bool
def hAt (h : List Int) (v : Nat) : Int := h.getD v 0
def relax (P : Int × Int) (j : Nat) (e : Ed) (σ : Sg) : Sg :=
  if hAt σ.1 e.t < hAt σ.1 e.s + gn P e then (σ.1.set e.t (hAt σ.1 e.s + gn P e), putW σ.2.1 e.t j, true) else σ
def pass (P : Int × Int) : Nat → List Ed → Sg → Sg
  | _, [], σ => σ
  | j, e :: es, σ => pass P (j + 1) es (relax P j e σ)
def go (P : Int × Int) (es : List Ed) : Nat → List Int × List (Nat × Nat) → (List Int × List (Nat × Nat)) × Bool
  | 0, σ => (σ, false)
  | n + 1, σ =>
    let r := pass P 0 es (σ.1, σ.2, false)
    if r.2.2 = true then go P es n (r.1, r.2.1) else ((r.1, r.2.1), true)

structure Inv (es : List Ed) (P : Int × Int) (c j : Nat) (h : Nat → Int) (w : Nat → Option Nat) (τ : Nat → Nat) : Prop where
  nn : ∀ v, 0 ≤ h v
  z : ∀ v, w v = none → h v = 0 ∧ τ v = 0
  b : ∀ v i, w v = some i → ∃ e, es[i]? = some e ∧ e.t = v ∧ h v ≤ h e.s + gn P e ∧ (τ v ≤ τ e.s → h v < h e.s + gn P e) ∧ 0 < τ v ∧ (es.length < τ v → τ v < τ e.s + es.length)
  up : ∀ v, τ v ≤ c * es.length + j
  d1 : ∀ i e, i < j → es[i]? = some e → e.s ≠ e.t → τ e.s ≤ c * es.length + i + 1 → h e.s + gn P e ≤ h e.t
  d2 : ∀ i e, j ≤ i → 1 ≤ c → es[i]? = some e → e.s ≠ e.t → τ e.s + es.length ≤ c * es.length + i + 1 → h e.s + gn P e ≤ h e.t
  le : ∀ x, Sol es P x → ∀ v, h v ≤ x v
def fupd {α : Type} (f : Nat → α) (k : Nat) (a : α) : Nat → α := fun v => if v = k then a else f v
theorem fupd_same {α : Type} {f : Nat → α} {k : Nat} {a : α} : fupd f k a k = a := if_pos rfl
theorem fupd_ne {α : Type} {f : Nat → α} {k v : Nat} {a : α} (h : v ≠ k) : fupd f k a v = f v := if_neg h
section
variable {es : List Ed} {P : Int × Int} {c j : Nat} {h : Nat → Int} {w : Nat → Option Nat} {τ : Nat → Nat} {e : Ed}
theorem Inv.start : Inv es P 0 0 (fun _ => 0) (fun _ => none) (fun _ => 0) :=
  ⟨fun _ => Int.le_refl _, fun _ _ => ⟨rfl, rfl⟩, (fun _ _ h => nomatch h), fun _ => Nat.zero_le _, fun _ _ h => absurd h (Nat.not_lt_zero _), fun _ _ _ h => absurd h (by omega), fun x hx v => hx.1 v⟩
theorem Inv.keep (I : Inv es P c j h w τ) (he : es[j]? = some e) (hn : h e.s + gn P e ≤ h e.t) : Inv es P c (j + 1) h w τ := by
  refine ⟨I.nn, I.z, I.b, fun v => by have := I.up v; omega, fun i e' hi h1 h2 h3 => ?_, fun i e' hi h1 h2 h3 h4 => I.d2 i e' (by omega) h1 h2 h3 h4, I.le⟩
  by_cases hij : i = j
  · subst hij
    rw [he] at h1; cases h1
    exact hn
  · exact I.d1 i e' (by omega) h1 h2 h3
theorem Inv.raise (I : Inv es P c j h w τ) (he : es[j]? = some e) (hr : h e.t < h e.s + gn P e) :
    Inv es P c (j + 1) (fupd h e.t (h e.s + gn P e)) (fupd w e.t (some j)) (fupd τ e.t (c * es.length + j + 1)) := by
  have hj : j < es.length := (List.getElem?_eq_some_iff.mp he).1
  have mono : ∀ v, h v ≤ fupd h e.t (h e.s + gn P e) v := fun v => by
    by_cases hv : v = e.t
    · subst hv; rw [fupd_same]; omega
    · rw [fupd_ne hv]; omega
  refine ⟨fun v => Int.le_trans (I.nn v) (mono v), fun v hv => ?_, fun v i hv => ?_, fun v => ?_, fun i e' hi h1 h2 h3 => ?_, fun i e' hi h1 h2 h3 h4 => ?_, fun x hx v => ?_⟩
  · by_cases hvt : v = e.t
    · subst hvt; rw [fupd_same] at hv; cases hv
    · rw [fupd_ne hvt] at hv ⊢
      rw [fupd_ne hvt]
      exact I.z v hv
  · by_cases hvt : v = e.t
    · subst hvt
      rw [fupd_same] at hv
      cases hv
      refine ⟨e, he, rfl, ?_⟩
      rw [fupd_same, fupd_same]
      by_cases hs : e.s = e.t
      · rw [hs] at hr ⊢
        rw [fupd_same, fupd_same]
        refine ⟨by omega, fun _ => by omega, by omega, fun _ => by omega⟩
      · rw [fupd_ne hs, fupd_ne hs]
        have hu := I.up e.s
        refine ⟨Int.le_refl _, fun z => by omega, by omega, fun hM => ?_⟩
        have hc : 1 ≤ c := by
          rcases Nat.eq_zero_or_pos c with rfl | h1
          · rw [Nat.zero_mul] at hM; omega
          · exact h1
        by_cases hlt : c * es.length + j + 1 < τ e.s + es.length
        · exact hlt
        · have := I.d2 j e (Nat.le_refl _) hc he hs (by omega)
          omega
    · rw [fupd_ne hvt] at hv
      obtain ⟨e', q1, q2, q3, q4, q5, q6⟩ := I.b v i hv
      refine ⟨e', q1, q2, ?_⟩
      rw [fupd_ne hvt, fupd_ne hvt]
      by_cases hs : e'.s = e.t
      · rw [hs] at q3 q4 q6 ⊢
        rw [fupd_same, fupd_same]
        have hu := I.up v
        refine ⟨by omega, fun _ => by omega, q5, fun hM => by omega⟩
      · rw [fupd_ne hs, fupd_ne hs]
        exact ⟨q3, q4, q5, q6⟩
  · by_cases hv : v = e.t
    · subst hv; rw [fupd_same]; omega
    · rw [fupd_ne hv]; have := I.up v; omega
  · by_cases hij : i = j
    · subst hij
      rw [he] at h1; cases h1
      rw [fupd_ne h2, fupd_same]
      omega
    · by_cases hs : e'.s = e.t
      · rw [hs, fupd_same] at h3
        omega
      · rw [fupd_ne hs] at h3 ⊢
        exact Int.le_trans (I.d1 i e' (by omega) h1 h2 h3) (mono _)
  · have hi2 : i < es.length := (List.getElem?_eq_some_iff.mp h2).1
    by_cases hs : e'.s = e.t
    · rw [hs, fupd_same] at h4
      omega
    · rw [fupd_ne hs] at h4 ⊢
      exact Int.le_trans (I.d2 i e' (by omega) h1 h2 h3 h4) (mono _)
  · by_cases hv : v = e.t
    · subst hv
      rw [fupd_same]
      have h1 := hx.2 e (List.mem_of_getElem? he)
      have h2 := I.le x hx e.s
      omega
    · rw [fupd_ne hv]; exact I.le x hx v
theorem Inv.turn (I : Inv es P c es.length h w τ) : Inv es P (c + 1) 0 h w τ := by
  have e1 : (c + 1) * es.length = c * es.length + es.length := Nat.succ_mul _ _
  refine ⟨I.nn, I.z, I.b, fun v => by have := I.up v; omega, fun i e h1 => absurd h1 (Nat.not_lt_zero _), fun i e h1 h2 h3 h4 h5 => I.d1 i e (List.getElem?_eq_some_iff.mp h3).1 h3 h4 (by omega), I.le⟩
end

/-- the lists fit a number of tasks -/
structure Fit (many : Nat) (es : List Ed) (h : List Int) (w : List (Nat × Nat)) : Prop where
  len : h.length = many
  ed : ∀ e ∈ es, e.s < many ∧ e.t < many
  nd : (w.map (·.1)).Nodup
  ks : ∀ k ∈ w.map (·.1), k < many
theorem hAt_set {h : List Int} {k : Nat} {a : Int} (hk : k < h.length) : hAt (h.set k a) = fupd (hAt h) k a := by
  funext v
  show (h.set k a).getD v 0 = if v = k then a else h.getD v 0
  rw [List.getD_eq_getElem?_getD, List.getD_eq_getElem?_getD]
  by_cases hv : v = k
  · subst hv
    rw [List.getElem?_set_self hk, if_pos rfl]
    rfl
  · rw [List.getElem?_set_ne (Ne.symm hv), if_neg hv]
theorem wAt_fupd {w : List (Nat × Nat)} {k v : Nat} : wAt (putW w k v) = fupd (wAt w) k (some v) := by
  funext j
  rw [wAt_put]
  rfl
theorem Fit.put {many : Nat} {es : List Ed} {h : List Int} {w : List (Nat × Nat)} (F : Fit many es h w) {k v : Nat} {a : Int} (hk : k < many) : Fit many es (h.set k a) (putW w k v) :=
  ⟨by rw [List.length_set]; exact F.len, F.ed, putW_nodup F.nd, fun j hj => by
    rw [putW_keys] at hj
    split at hj
    · exact F.ks j hj
    · rcases List.mem_append.mp hj with hj | hj
      · exact F.ks j hj
      · rw [List.mem_singleton.mp hj]; exact hk⟩

theorem pass_inv {many : Nat} {es : List Ed} {P : Int × Int} {c : Nat} : ∀ (suf : List Ed) (j : Nat) (h : List Int) (w : List (Nat × Nat)) (f : Bool) (τ : Nat → Nat), (∀ i, suf[i]? = es[j + i]?) → j + suf.length = es.length → Fit many es h w →
    Inv es P c j (hAt h) (wAt w) τ → ∃ h' w' f' τ', pass P j suf (h, w, f) = (h', w', f') ∧ Fit many es h' w' ∧ Inv es P c es.length (hAt h') (wAt w') τ' ∧ (∀ v, τ v ≤ τ' v) ∧
      ((f' = f ∧ h' = h ∧ w' = w ∧ ∀ e ∈ suf, hAt h e.s + gn P e ≤ hAt h e.t) ∨ (f' = true ∧ ∃ v, c * es.length < τ' v))
  | [], j, h, w, f, τ, hs, hl, F, I => ⟨h, w, f, τ, rfl, F, by
      have : j = es.length := by simpa using hl
      rw [← this]; exact I, fun _ => Nat.le_refl _, .inl ⟨rfl, rfl, rfl, fun _ h => nomatch h⟩⟩
  | e :: suf, j, h, w, f, τ, hs, hl, F, I => by
    have he : es[j]? = some e := by
      have := hs 0
      simpa using this.symm
    have hs' : ∀ i, suf[i]? = es[j + 1 + i]? := fun i => by
      have := hs (i + 1)
      rw [List.getElem?_cons_succ] at this
      rw [this, Nat.add_assoc, Nat.add_comm 1 i]
    have hl' : j + 1 + suf.length = es.length := by rw [List.length_cons] at hl; omega
    have hb := F.ed e (List.mem_of_getElem? he)
    unfold pass relax
    dsimp only
    by_cases hr : hAt h e.t < hAt h e.s + gn P e
    · rw [if_pos hr]
      have I2 := I.raise he hr
      rw [← hAt_set (by rw [F.len]; exact hb.2), ← wAt_fupd] at I2
      obtain ⟨h', w', f', τ', q1, q2, q3, q4, q5⟩ := pass_inv suf (j + 1) _ _ true _ hs' hl' (F.put hb.2) I2
      refine ⟨h', w', f', τ', q1, q2, q3, fun v => Nat.le_trans ?_ (q4 v), .inr ?_⟩
      · unfold fupd
        split
        · have := I.up v; omega
        · exact Nat.le_refl _
      · rcases q5 with ⟨q5, _⟩ | q5
        · refine ⟨q5, e.t, ?_⟩
          have := q4 e.t
          rw [fupd_same] at this
          omega
        · exact q5
    · rw [if_neg hr]
      obtain ⟨h', w', f', τ', q1, q2, q3, q4, q5⟩ := pass_inv suf (j + 1) h w f τ hs' hl' F (I.keep he (by omega))
      refine ⟨h', w', f', τ', q1, q2, q3, q4, ?_⟩
      rcases q5 with ⟨q5, q6, q7, q8⟩ | q5
      · refine .inl ⟨q5, q6, q7, fun e' he' => ?_⟩
        rcases List.mem_cons.mp he' with rfl | he'
        · omega
        · exact q8 e' he'
      · exact .inr q5
/-- what a run of passes ends with -/
inductive Ends (many : Nat) (es : List Ed) (P : Int × Int) (n : Nat) : (List Int × List (Nat × Nat)) × Bool → Prop where
  | done {h : List Int} {w : List (Nat × Nat)} (F : Fit many es h w) (sol : Sol es P (hAt h)) (le : ∀ x, Sol es P x → ∀ v, hAt h v ≤ x v) (tie : ∀ v, v < many → hAt h v = 0 ∨ ∃ e ∈ es, e.t = v ∧ hAt h v = hAt h e.s + gn P e) : Ends many es P n ((h, w), true)
  | not {h : List Int} {w : List (Nat × Nat)} {τ : Nat → Nat} (F : Fit many es h w) (I : Inv es P n 0 (hAt h) (wAt w) τ) (r : n = 0 ∨ ∃ v, (n - 1) * es.length < τ v) : Ends many es P n ((h, w), false)
theorem go_ends {many : Nat} {es : List Ed} {P : Int × Int} : ∀ (n c : Nat) (h : List Int) (w : List (Nat × Nat)) (τ : Nat → Nat), Fit many es h w → Inv es P c 0 (hAt h) (wAt w) τ → (c = 0 ∨ ∃ v, (c - 1) * es.length < τ v) → Ends many es P (c + n) (go P es n (h, w))
  | 0, c, h, w, τ, F, I, r => .not F I r
  | n + 1, c, h, w, τ, F, I, r => by
    obtain ⟨h', w', f', τ', q1, q2, q3, q4, q5⟩ := pass_inv es 0 h w false τ (fun i => by rw [Nat.zero_add]) (by omega) F I
    unfold go
    dsimp only
    rw [q1]
    rcases q5 with ⟨rfl, rfl, rfl, q5⟩ | ⟨rfl, q5⟩
    · rw [if_neg (by simp)]
      have sol : Sol es P (hAt h') := ⟨I.nn, q5⟩
      refine .done F sol I.le fun v hv => ?_
      cases hw : wAt w' v with
      | none => exact .inl (I.z v hw).1
      | some i =>
        obtain ⟨e, p1, p2, p3, _⟩ := I.b v i hw
        have p4 := q5 e (List.mem_of_getElem? p1)
        rw [p2] at p4
        exact .inr ⟨e, List.mem_of_getElem? p1, p2, Int.le_antisymm p3 p4⟩
    · rw [if_pos rfl]
      have := go_ends n (c + 1) h' w' τ' q2 q3.turn (.inr (by simpa using q5))
      rwa [show c + 1 + n = c + (n + 1) by omega] at this
theorem go_start {many : Nat} {es : List Ed} {P : Int × Int} (n : Nat) (ed : ∀ e ∈ es, e.s < many ∧ e.t < many) : Ends many es P n (go P es n (List.replicate many 0, [])) := by
  have e0 : hAt (List.replicate many 0) = fun _ => 0 := by
    funext v
    unfold hAt
    rw [List.getD_eq_getElem?_getD, List.getElem?_replicate]
    split <;> rfl
  have := go_ends (many := many) (es := es) (P := P) n 0 (List.replicate many 0) [] (fun _ => 0) ⟨by simp, ed, by simp, fun k h => by simp at h⟩ (by rw [e0]; exact Inv.start) (.inl rfl)
  rwa [Nat.zero_add] at this

/-! ### chains -/
inductive Chain (es : List Ed) (w : Nat → Option Nat) : Nat → List (Nat × Nat) → Nat → Prop where
  | nil (v : Nat) : Chain es w v [] v
  | cons {v i u : Nat} {e : Ed} {r : List (Nat × Nat)} (h : w v = some i) (he : es[i]? = some e) (t : Chain es w e.s r u) : Chain es w v ((v, i) :: r) u
theorem Chain.snoc {es : List Ed} {w : Nat → Option Nat} : ∀ {r : List (Nat × Nat)} {v u i : Nat} {e : Ed}, Chain es w v r u → w u = some i → es[i]? = some e → Chain es w v (r ++ [(u, i)]) e.s
  | [], _, _, _, _, .nil _, h, he => .cons h he (.nil _)
  | _ :: r, _, _, _, _, .cons h1 h2 t, h, he => .cons h1 h2 (t.snoc h he)
theorem Chain.split {es : List Ed} {w : Nat → Option Nat} : ∀ {r1 r2 : List (Nat × Nat)} {v u x i : Nat}, Chain es w v (r1 ++ (x, i) :: r2) u → Chain es w v r1 x ∧ Chain es w x ((x, i) :: r2) u
  | [], r2, v, u, x, i, c => by
    cases c with
    | cons h he t => exact ⟨.nil _, .cons h he t⟩
  | a :: r1, r2, v, u, x, i, c => by
    cases c with
    | cons h he t =>
      obtain ⟨c1, c2⟩ := t.split
      exact ⟨.cons h he c1, c2⟩
def sumG (P : Int × Int) (es : List Ed) (is : List Nat) : Int := (is.map fun i => match es[i]? with
  | some e => gn P e
  | none => 0).sum
theorem Chain.gain {es : List Ed} {P : Int × Int} {c j : Nat} {h : Nat → Int} {w : Nat → Option Nat} {τ : Nat → Nat} (I : Inv es P c j h w τ) : ∀ {r : List (Nat × Nat)} {v u : Nat}, Chain es w v r u → r ≠ [] →
    h v ≤ h u + sumG P es (r.map (·.2)) ∧ (h v < h u + sumG P es (r.map (·.2)) ∨ τ u < τ v)
  | [], _, _, _, h => absurd rfl h
  | (v, i) :: r, _, u, .cons (e := e) hw he t, _ => by
    obtain ⟨e', q1, q2, q3, q4, _⟩ := I.b v i hw
    rw [he] at q1; cases q1
    have es1 : sumG P es (((v, i) :: r).map (·.2)) = gn P e + sumG P es (r.map (·.2)) := by
      unfold sumG
      rw [List.map_cons, List.map_cons, List.sum_cons]
      dsimp only
      rw [he]
    rw [es1]
    by_cases hr : r = []
    · subst hr
      cases t
      have e0 : sumG P es (([] : List (Nat × Nat)).map (·.2)) = 0 := rfl
      rw [e0]
      refine ⟨by omega, ?_⟩
      by_cases hl : τ v ≤ τ e.s
      · exact .inl (by have := q4 hl; omega)
      · exact .inr (by omega)
    · obtain ⟨g1, g2⟩ := t.gain I hr
      refine ⟨by omega, ?_⟩
      by_cases hl : τ v ≤ τ e.s
      · exact .inl (by have := q4 hl; omega)
      · rcases g2 with g2 | g2
        · exact .inl (by omega)
        · exact .inr (by omega)
theorem Chain.ring {es : List Ed} {P : Int × Int} {c j : Nat} {h : Nat → Int} {w : Nat → Option Nat} {τ : Nat → Nat} (I : Inv es P c j h w τ) {r : List (Nat × Nat)} {v : Nat} (k : Chain es w v r v) (hr : r ≠ []) : 0 < sumG P es (r.map (·.2)) := by
  obtain ⟨g1, g2⟩ := k.gain I hr
  rcases g2 with g2 | g2 <;> omega
/-- k steps back never leave the table -/
def stepB (es : List Ed) (w : Nat → Option Nat) (v : Nat) : Option Nat := (w v).bind fun i => (es[i]?).map (·.s)
def backN (es : List Ed) (w : Nat → Option Nat) : Nat → Nat → Option Nat
  | 0, v => if (w v).isSome then some v else none
  | n + 1, v => (stepB es w v).bind (backN es w n)
theorem long_back {es : List Ed} {P : Int × Int} {c j : Nat} {h : Nat → Int} {w : Nat → Option Nat} {τ : Nat → Nat} (I : Inv es P c j h w τ) (hM : 0 < es.length) : ∀ (k v : Nat), k * es.length < τ v → ∃ u, backN es w k v = some u
  | 0, v, hv => by
    unfold backN
    cases hw : w v with
    | none => have := (I.z v hw).2; omega
    | some i => exact ⟨v, rfl⟩
  | k + 1, v, hv => by
    rw [Nat.succ_mul] at hv
    cases hw : w v with
    | none => have := (I.z v hw).2; omega
    | some i =>
      obtain ⟨e, q1, q2, q3, q4, q5, q6⟩ := I.b v i hw
      have h1 : k * es.length < τ e.s := by
        have := q6 (by omega)
        omega
      obtain ⟨u, hu⟩ := long_back I hM k e.s h1
      refine ⟨u, ?_⟩
      unfold backN stepB
      rw [hw]
      simp only [Option.bind_some, q1, Option.map_some]
      exact hu
theorem backN_mono {es : List Ed} {w : Nat → Option Nat} : ∀ {n m v : Nat}, m ≤ n → (backN es w n v).isSome → (backN es w m v).isSome
  | 0, m, v, h, q => by
    have : m = 0 := by omega
    subst this; exact q
  | n + 1, 0, v, h, q => by
    unfold backN at q ⊢
    unfold stepB at q
    cases hw : w v with
    | none => rw [hw] at q; simp at q
    | some i => rfl
  | n + 1, m + 1, v, h, q => by
    unfold backN at q ⊢
    cases hs : stepB es w v with
    | none => rw [hs] at q; simp at q
    | some u =>
      rw [hs] at q
      exact backN_mono (by omega) q
end Rd

/-! Rounds: rings out of tables. -/
namespace Rd
theorem nodup_len : ∀ {l m : List Nat}, l.Nodup → (∀ a ∈ l, a ∈ m) → l.length ≤ m.length
  | [], _, _, _ => Nat.zero_le _
  | a :: l, m, hn, hs => by
    have h1 := List.nodup_cons.mp hn
    have ha := hs a (by simp)
    have h2 : l.length ≤ (m.erase a).length := nodup_len h1.2 fun b hb => (List.mem_erase_of_ne (by rintro rfl; exact h1.1 hb)).mpr (hs b (by simp [hb]))
    rw [List.length_erase_of_mem ha] at h2
    have : 0 < m.length := List.length_pos_of_mem ha
    rw [List.length_cons]
    omega
section
variable {es : List Ed} {w : Nat → Option Nat}
def rb (es : List Ed) (w : Nat → Option Nat) : Nat → Nat → List (Nat × Nat) → Option (List (Nat × Nat) × Nat)
  | 0, _, _ => none
  | n + 1, v, r => if v ∈ r.map (·.1) then some (r, v) else match w v with
    | none => none
    | some i => match es[i]? with
      | none => none
      | some e => rb es w n e.s (r ++ [(v, i)])
theorem back_here {n v : Nat} (h : (backN es w n v).isSome) : (w v).isSome := by
  have := backN_mono (m := 0) (Nat.zero_le _) h
  unfold backN at this
  cases hw : w v with
  | none => rw [hw] at this; simp at this
  | some i => rfl
theorem rb_ok {K : List Nat} (hK : ∀ v, (w v).isSome → v ∈ K) {v0 : Nat} : ∀ (n v : Nat) (r : List (Nat × Nat)), Chain es w v0 r v → (r.map (·.1)).Nodup → (∀ a ∈ r.map (·.1), a ∈ K) → K.length < r.length + n → (backN es w (K.length - r.length) v).isSome →
    ∃ r' u, rb es w n v r = some (r', u) ∧ Chain es w v0 r' u ∧ (r'.map (·.1)).Nodup ∧ u ∈ r'.map (·.1)
  | 0, v, r, c, nd, sub, hl, _ => by
    have := nodup_len nd sub
    rw [List.length_map] at this
    omega
  | n + 1, v, r, c, nd, sub, hl, hb => by
    unfold rb
    by_cases hv : v ∈ r.map (·.1)
    · rw [if_pos hv]
      exact ⟨r, v, rfl, c, nd, hv⟩
    · rw [if_neg hv]
      have hw := back_here hb
      have nd2 : ((r ++ [(v, 0)]).map (fun p : Nat × Nat => p.1)).Nodup := by
        rw [List.map_append]
        exact List.nodup_append.mpr ⟨nd, by simp, fun a ha b hb => by
          rw [List.mem_singleton.mp hb]
          rintro rfl
          exact hv ha⟩
      have sub2 : ∀ a ∈ (r ++ [(v, 0)]).map (fun p : Nat × Nat => p.1), a ∈ K := fun a ha => by
        rw [List.map_append] at ha
        rcases List.mem_append.mp ha with ha | ha
        · exact sub a ha
        · rw [List.mem_singleton.mp ha]; exact hK v hw
      have hlen := nodup_len nd2 sub2
      rw [List.length_map, List.length_append, List.length_singleton] at hlen
      obtain ⟨m, hm⟩ : ∃ m, K.length - r.length = m + 1 := ⟨K.length - r.length - 1, by omega⟩
      rw [hm] at hb
      unfold backN stepB at hb
      cases hi : w v with
      | none => rw [hi] at hb; simp at hb
      | some i =>
        rw [hi] at hb
        cases he : es[i]? with
        | none => rw [Option.bind_some, he] at hb; simp at hb
        | some e =>
          rw [Option.bind_some, he] at hb
          have hb2 : (backN es w m e.s).isSome := hb
          dsimp only
          rw [he]
          dsimp only
          have := rb_ok hK n e.s (r ++ [(v, i)]) (c.snoc hi he) (by rw [List.map_append] at nd2 ⊢; exact nd2) (fun a (ha : a ∈ (r ++ [(v, i)]).map (fun p : Nat × Nat => p.1)) => sub2 a (by rw [List.map_append] at ha ⊢; exact ha)) (by rw [List.length_append, List.length_singleton]; omega)
            (by rw [List.length_append, List.length_singleton, show K.length - (r.length + 1) = m by omega]; exact hb2)
          exact this
theorem closed_alive {Z : List Nat} (h : ∀ x ∈ Z, ∃ u ∈ Z, stepB es w x = some u) : ∀ (k : Nat) (x : Nat), x ∈ Z → (backN es w k x).isSome
  | 0, x, hx => by
    obtain ⟨u, _, hu⟩ := h x hx
    unfold backN
    unfold stepB at hu
    cases hw : w x with
    | none => rw [hw] at hu; cases hu
    | some i => rfl
  | k + 1, x, hx => by
    obtain ⟨u, hu, hs⟩ := h x hx
    unfold backN
    rw [hs]
    exact closed_alive h k u hu
theorem Chain.next : ∀ {r : List (Nat × Nat)} {v u : Nat}, Chain es w v r u → ∀ x ∈ r.map (·.1), ∃ y, stepB es w x = some y ∧ (y ∈ r.map (·.1) ∨ y = u)
  | [], _, _, _, x, hx => by simp at hx
  | (v, i) :: r, _, u, .cons (e := e) h he t, x, hx => by
    rw [List.map_cons] at hx
    rcases List.mem_cons.mp hx with rfl | hx
    · refine ⟨e.s, by unfold stepB; rw [h]; simp [he], ?_⟩
      cases t with
      | nil => exact .inr rfl
      | cons h2 he2 t2 => exact .inl (by simp)
    · obtain ⟨y, h1, h2⟩ := t.next x hx
      refine ⟨y, h1, ?_⟩
      rcases h2 with h2 | h2
      · exact .inl (by rw [List.map_cons]; exact List.mem_cons_of_mem _ h2)
      · exact .inr h2
theorem alive {K : List Nat} (hK : ∀ v, (w v).isSome → v ∈ K) {v : Nat} (h : (backN es w K.length v).isSome) : ∀ k, (backN es w k v).isSome := by
  obtain ⟨r, u, h1, h2, h3, h4⟩ := rb_ok hK (K.length + 1) v [] (.nil v) (by simp) (by simp) (by simp) (by simpa using h)
  intro k
  have cl : ∀ x ∈ r.map (·.1), ∃ y ∈ r.map (·.1), stepB es w x = some y := fun x hx => by
    obtain ⟨y, h5, h6⟩ := h2.next x hx
    refine ⟨y, ?_, h5⟩
    rcases h6 with h6 | h6
    · exact h6
    · rw [h6]; exact h4
  refine closed_alive cl k v ?_
  cases h2 with
  | nil => simp at h4
  | cons => simp
theorem alive_next : ∀ {n v u : Nat}, backN es w n v = some u → (∀ k, (backN es w k v).isSome) → ∀ k, (backN es w k u).isSome
  | 0, v, u, h, a, k => by
    unfold backN at h
    split at h
    · cases h; exact a k
    · cases h
  | n + 1, v, u, h, a, k => by
    unfold backN at h
    cases hs : stepB es w v with
    | none => rw [hs] at h; cases h
    | some x =>
      rw [hs] at h
      refine alive_next (n := n) (v := x) h (fun j => ?_) k
      have := a (j + 1)
      unfold backN at this
      rw [hs] at this
      exact this
/-- a ring of edges, by their places -/
structure IsRing (es : List Ed) (is : List Nat) (rs : List Ed) : Prop where
  at_ : is.map (es[·]?) = rs.map some
  ne : rs ≠ []
  nd : (rs.map (·.s)).Nodup
  cl : rs.map (·.t) = (rs.map (·.s)).tail ++ (rs.map (·.s)).take 1
theorem Chain.eds {P : Int × Int} {c j : Nat} {h : Nat → Int} {τ : Nat → Nat} (I : Inv es P c j h w τ) : ∀ {r : List (Nat × Nat)} {v u : Nat}, Chain es w v r u → ∃ rs : List Ed, (r.map (·.2)).map (es[·]?) = rs.map some ∧ rs.map (·.t) = r.map (·.1) ∧ v :: rs.map (·.s) = r.map (·.1) ++ [u]
  | [], _, _, .nil _ => ⟨[], rfl, rfl, rfl⟩
  | (v, i) :: r, _, u, .cons (e := e) hw he t => by
    obtain ⟨rs, h1, h2, h3⟩ := t.eds I
    obtain ⟨e', q1, q2, _⟩ := I.b v i hw
    rw [he] at q1; cases q1
    exact ⟨e :: rs, by simp only [List.map_cons, he, h1], by simp only [List.map_cons, h2, q2], by simp only [List.map_cons, h3, List.cons_append]⟩
theorem closed_ring {P : Int × Int} {c j : Nat} {h : Nat → Int} {τ : Nat → Nat} (I : Inv es P c j h w τ) {v i : Nat} {r : List (Nat × Nat)} (k : Chain es w v ((v, i) :: r) v) (nd : (((v, i) :: r).map (·.1)).Nodup) :
    ∃ rs, IsRing es (((v, i) :: r).map (·.2)).reverse rs ∧ 0 < sumG P es (((v, i) :: r).map (·.2)).reverse := by
  obtain ⟨rs, h1, h2, h3⟩ := k.eds I
  have h4 : rs.map (·.s) = r.map (·.1) ++ [v] := by
    rw [List.map_cons, List.cons_append] at h3
    exact (List.cons.inj h3).2
  have h5 : (rs.reverse.map (·.s)) = v :: (r.map (·.1)).reverse := by
    rw [List.map_reverse, h4, List.reverse_append]; rfl
  refine ⟨rs.reverse, ⟨?_, ?_, ?_, ?_⟩, ?_⟩
  · rw [List.map_reverse, h1, List.map_reverse]
  · intro z
    have : rs = [] := by simpa using z
    subst this
    simp at h4
  · rw [h5]
    rw [List.map_cons] at nd
    have := List.nodup_cons.mp nd
    exact List.nodup_cons.mpr ⟨by simpa using this.1, (List.reverse_perm _).nodup_iff.mpr this.2⟩
  · rw [h5, List.map_reverse, h2, List.map_cons, List.reverse_cons]
    rfl
  · have := k.ring I (by simp)
    unfold sumG at this ⊢
    rw [List.map_reverse, List.sum_reverse]
    exact this
end
end Rd

/-! Rounds: periods. -/
namespace Rd
def lsum (rs : List Ed) : Int := (rs.map (·.l)).sum
def ksum (rs : List Ed) : Int := (rs.map (·.k)).sum
theorem sum_perm {a b : List Int} (h : a.Perm b) : a.sum = b.sum := by
  induction h with
  | nil => rfl
  | cons x _ ih => rw [List.sum_cons, List.sum_cons, ih]
  | swap x y l => simp only [List.sum_cons]; omega
  | trans _ _ h1 h2 => rw [h1, h2]
theorem dvd_cop {k m n : Int} (h : k ∣ m * n) (g : Int.gcd k m = 1) : k ∣ n := by
  have h1 : k.natAbs ∣ n.natAbs * m.natAbs := by
    rw [Nat.mul_comm, ← Int.natAbs_mul]
    exact Int.natAbs_dvd_natAbs.mpr h
  have h2 : Nat.Coprime k.natAbs m.natAbs := g
  exact Int.natAbs_dvd_natAbs.mp (h2.dvd_of_dvd_mul_right h1)
/-- as much goes in as goes out -/
def Circ (es rs : List Ed) : Prop := (∀ e ∈ rs, e ∈ es) ∧ (rs.map (·.t)).Perm (rs.map (·.s))
theorem IsRing.circ {es : List Ed} {is : List Nat} {rs : List Ed} (r : IsRing es is rs) : Circ es rs := by
  refine ⟨fun e he => ?_, ?_⟩
  · have h1 : some e ∈ is.map (es[·]?) := by rw [r.at_]; exact List.mem_map.mpr ⟨e, he, rfl⟩
    obtain ⟨i, _, h2⟩ := List.mem_map.mp h1
    exact List.mem_of_getElem? h2
  · rw [r.cl]
    cases h : rs.map (·.s) with
    | nil => exact .refl _
    | cons a l =>
      show (l ++ [a]).Perm (a :: l)
      exact List.perm_append_singleton a l
theorem sumG_ring {es : List Ed} {is : List Nat} {rs : List Ed} (P : Int × Int) (r : is.map (es[·]?) = rs.map some) : sumG P es is = lsum rs * P.2 - ksum rs * P.1 := by
  unfold sumG lsum ksum
  induction is generalizing rs with
  | nil =>
    cases rs with
    | nil => simp
    | cons a l => simp at r
  | cons i is ih =>
    cases rs with
    | nil => simp at r
    | cons e rs =>
      simp only [List.map_cons, List.cons.injEq] at r
      have := ih r.2
      simp only [List.map_cons, List.sum_cons, r.1]
      rw [this]
      show gn P e + _ = _
      unfold gn
      simp only [Int.add_mul]
      omega
/-- times x / d keep the edges at the period P -/
def RF (es : List Ed) (P : Int × Int) : Prop := ∃ (d : Int) (x : Nat → Int), 0 < d ∧ (∀ v, 0 ≤ x v) ∧ ∀ e ∈ es, x e.s * P.2 + d * (e.l * P.2 - e.k * P.1) ≤ x e.t * P.2
theorem Sol.rf {es : List Ed} {P : Int × Int} {x : Nat → Int} (hq : 0 < P.2) (h : Sol es P x) : RF es P := ⟨P.2, x, hq, h.1, fun e he => by
  have h1 := h.2 e he
  unfold gn at h1
  have h2 := Int.mul_le_mul_of_nonneg_right h1 (Int.le_of_lt hq)
  rw [Int.add_mul] at h2
  rw [Int.mul_comm P.2]
  exact h2⟩
theorem ceil_mono {a b d : Int} (hd : 0 < d) (h : a ≤ b) : -((-a) / d) ≤ -((-b) / d) := by
  have := Int.ediv_le_ediv (c := d) hd (show -b ≤ -a by omega)
  omega
theorem RF.sol {es : List Ed} {P : Int × Int} (hq : 0 < P.2) (h : RF es P) : ∃ x, Sol es P x := by
  obtain ⟨d, x, hd, h0, h1⟩ := h
  refine ⟨fun v => -((-(x v * P.2)) / d), fun v => ?_, fun e he => ?_⟩
  · have h2 : 0 ≤ x v * P.2 := Int.mul_nonneg (h0 v) (Int.le_of_lt hq)
    have h3 := ceil_mono hd h2
    simpa using h3
  · have h2 := ceil_mono hd (h1 e he)
    have h3 : (-(x e.s * P.2 + d * (e.l * P.2 - e.k * P.1))) / d = (-(x e.s * P.2)) / d - (e.l * P.2 - e.k * P.1) := by
      rw [show -(x e.s * P.2 + d * (e.l * P.2 - e.k * P.1)) = -(x e.s * P.2) + d * (-(e.l * P.2 - e.k * P.1)) by rw [Int.mul_neg]; omega, Int.add_mul_ediv_left _ _ (by omega)]
      omega
    rw [h3] at h2
    unfold gn
    show -((-(x e.s * P.2)) / d) + (e.l * P.2 - e.k * P.1) ≤ -((-(x e.t * P.2)) / d)
    omega
theorem rf_sum {es : List Ed} {P : Int × Int} {d : Int} {x : Nat → Int} : ∀ {rs : List Ed}, (∀ e ∈ rs, e ∈ es) → (∀ e ∈ es, x e.s * P.2 + d * (e.l * P.2 - e.k * P.1) ≤ x e.t * P.2) →
    ((rs.map (·.s)).map x).sum * P.2 + d * (lsum rs * P.2 - ksum rs * P.1) ≤ ((rs.map (·.t)).map x).sum * P.2
  | [], _, _ => by simp [lsum, ksum]
  | e :: rs, hs, h => by
    have ih := rf_sum (rs := rs) (fun a ha => hs a (by simp [ha])) h
    have h1 := h e (hs e (by simp))
    unfold lsum ksum at ih ⊢
    simp only [List.map_cons, List.sum_cons, Int.add_mul]
    have e1 : d * (e.l * P.2 + (rs.map (·.l)).sum * P.2 - (e.k * P.1 + (rs.map (·.k)).sum * P.1)) = d * (e.l * P.2 - e.k * P.1) + d * ((rs.map (·.l)).sum * P.2 - (rs.map (·.k)).sum * P.1) := by
      rw [← Int.mul_add]
      congr 1
      omega
    rw [e1]
    omega
theorem RF.ring {es rs : List Ed} {P : Int × Int} (h : RF es P) (r : Circ es rs) : lsum rs * P.2 ≤ ksum rs * P.1 := by
  obtain ⟨d, x, hd, h0, h1⟩ := h
  have h2 := rf_sum r.1 h1
  have h3 : ((rs.map (·.t)).map x).sum = ((rs.map (·.s)).map x).sum := sum_perm (r.2.map x)
  rw [h3] at h2
  have h4 : d * (lsum rs * P.2 - ksum rs * P.1) ≤ 0 := by omega
  by_cases hc : 0 < lsum rs * P.2 - ksum rs * P.1
  · have := Int.mul_pos hd hc
    omega
  · omega
/-- P is the least period -/
structure Least (es : List Ed) (P : Int × Int) : Prop where
  q : 0 < P.2
  p : 0 ≤ P.1
  lo : Int.gcd P.1 P.2 = 1
  rf : RF es P
  tight : P = (0, 1) ∨ ∃ rs, Circ es rs ∧ 0 < ksum rs ∧ lsum rs * P.2 = ksum rs * P.1
def Never (es : List Ed) : Prop := ∃ rs, Circ es rs ∧ ksum rs = 0 ∧ 0 < lsum rs
theorem Never.no {es : List Ed} {P : Int × Int} (n : Never es) (hq : 0 < P.2) : ¬ RF es P := fun h => by
  obtain ⟨rs, h1, h2, h3⟩ := n
  have h4 := h.ring h1
  rw [h2, Int.zero_mul] at h4
  have := Int.mul_pos h3 hq
  omega
theorem Least.le {es es' : List Ed} {P P' : Int × Int} (h : Least es P) (hs : ∀ e ∈ es, e ∈ es') (hq : 0 < P'.2) (hp : 0 ≤ P'.1) (r : RF es' P') : P.1 * P'.2 ≤ P'.1 * P.2 := by
  rcases h.tight with rfl | ⟨rs, h1, h2, h3⟩
  · simp; exact hp
  · have h4 := r.ring (rs := rs) ⟨fun e he => hs e (h1.1 e he), h1.2⟩
    -- ksum * (p q') = lsum q q' ≤ ksum p' q
    have h5 : ksum rs * (P.1 * P'.2) ≤ ksum rs * (P'.1 * P.2) := by
      have h6 := Int.mul_le_mul_of_nonneg_right h4 (Int.le_of_lt h.q)
      have h7 : lsum rs * P'.2 * P.2 = ksum rs * (P.1 * P'.2) := by
        rw [Int.mul_assoc, Int.mul_comm P'.2, ← Int.mul_assoc, h3, Int.mul_assoc]
      rw [h7, Int.mul_assoc] at h6
      exact h6
    exact Int.le_of_mul_le_mul_left h5 h2
theorem low_unique {p q p' q' : Int} (hq : 0 < q) (hq' : 0 < q') (h : p * q' = p' * q) (g : Int.gcd p q = 1) (g' : Int.gcd p' q' = 1) : (p, q) = (p', q') := by
  have d1 : q ∣ q' := by
    have : q ∣ p * q' := ⟨p', by rw [h, Int.mul_comm]⟩
    exact dvd_cop this (by rw [Int.gcd_comm]; exact g)
  have d2 : q' ∣ q := by
    have : q' ∣ p' * q := ⟨p, by rw [← h, Int.mul_comm]⟩
    exact dvd_cop this (by rw [Int.gcd_comm]; exact g')
  have e : q = q' := Int.le_antisymm (Int.le_of_dvd hq' d1) (Int.le_of_dvd hq d2)
  subst e
  have : p = p' := Int.eq_of_mul_eq_mul_right (by omega) h
  rw [this]
theorem Least.same {es es' : List Ed} {P P' : Int × Int} (h : Least es P) (h' : Least es' P') (s : ∀ e, e ∈ es ↔ e ∈ es') : P = P' := by
  have a := h.le (fun e he => (s e).mp he) h'.q h'.p h'.rf
  have b := h'.le (fun e he => (s e).mpr he) h.q h.p h.rf
  exact low_unique h.q h'.q (by omega) h.lo h'.lo
theorem RF.mono {es es' : List Ed} {P P' : Int × Int} (h : RF es P) (hs : ∀ e ∈ es', e ∈ es) (hk : ∀ e ∈ es', 0 ≤ e.k) (hq : 0 < P.2) (hq' : 0 < P'.2) (hl : P.1 * P'.2 ≤ P'.1 * P.2) : RF es' P' := by
  obtain ⟨d, x, hd, h0, h1⟩ := h
  refine ⟨d, x, hd, h0, fun e he => ?_⟩
  have h2 := Int.mul_le_mul_of_nonneg_right (h1 e (hs e he)) (Int.le_of_lt hq')
  have h3 : d * e.k * (P.1 * P'.2) ≤ d * e.k * (P'.1 * P.2) := Int.mul_le_mul_of_nonneg_left hl (Int.mul_nonneg (Int.le_of_lt hd) (hk e he))
  refine Int.le_of_mul_le_mul_right (a := P.2) ?_ hq
  have e1 : (x e.s * P'.2 + d * (e.l * P'.2 - e.k * P'.1)) * P.2 = (x e.s + d * e.l) * (P.2 * P'.2) - d * e.k * (P'.1 * P.2) := by
    simp only [Int.add_mul, Int.mul_sub, Int.sub_mul]
    ac_nf
    omega
  have e2 : (x e.s * P.2 + d * (e.l * P.2 - e.k * P.1)) * P'.2 = (x e.s + d * e.l) * (P.2 * P'.2) - d * e.k * (P.1 * P'.2) := by
    simp only [Int.add_mul, Int.mul_sub, Int.sub_mul]
    ac_nf
    omega
  rw [e1]
  rw [e2] at h2
  have e3 : x e.t * P.2 * P'.2 = x e.t * P'.2 * P.2 := by ac_rfl
  omega
end Rd

/-! Rounds: fractions in lowest terms; how often a period can grow. -/
namespace Rd
def low (t b : Int) : Int × Int := (t / Int.gcd t b, b / Int.gcd t b)
section
variable {t b : Int}
theorem gcdP (hb : 0 < b) : (0 : Int) < (Int.gcd t b : Int) := by
  have : 0 < Int.gcd t b := Int.gcd_pos_of_ne_zero_right t (by omega)
  omega
theorem low_t : (low t b).1 * (Int.gcd t b : Int) = t := Int.ediv_mul_cancel (Int.gcd_dvd_left t b)
theorem low_b : (low t b).2 * (Int.gcd t b : Int) = b := Int.ediv_mul_cancel (Int.gcd_dvd_right t b)
theorem low_pos (hb : 0 < b) : 0 < (low t b).2 := by
  have h1 := low_b (t := t) (b := b)
  have h2 := gcdP (t := t) hb
  by_cases h : 0 < (low t b).2
  · exact h
  · have : (low t b).2 * (Int.gcd t b : Int) ≤ 0 * (Int.gcd t b : Int) := Int.mul_le_mul_of_nonneg_right (by omega) (by omega)
    omega
theorem low_cross (t b : Int) : t * (low t b).2 = (low t b).1 * b := by
  have h1 := low_t (t := t) (b := b)
  have h2 := low_b (t := t) (b := b)
  calc t * (low t b).2 = (low t b).1 * (Int.gcd t b : Int) * (low t b).2 := by rw [h1]
    _ = (low t b).1 * ((low t b).2 * (Int.gcd t b : Int)) := by ac_rfl
    _ = (low t b).1 * b := by rw [h2]
theorem low_gcd (hb : 0 < b) : Int.gcd (low t b).1 (low t b).2 = 1 := by
  have h2 := gcdP (t := t) hb
  have := Int.gcd_ediv_gcd_ediv_gcd (i := t) (j := b) (by omega)
  exact this
theorem low_le (hb : 0 < b) : (low t b).2 ≤ b := by
  have h1 := low_b (t := t) (b := b)
  have h2 := gcdP (t := t) hb
  have h3 := low_pos (t := t) hb
  have : (low t b).2 * 1 ≤ (low t b).2 * (Int.gcd t b : Int) := Int.mul_le_mul_of_nonneg_left (by omega) (by omega)
  omega
theorem low_nn (hb : 0 < b) (ht : 0 ≤ t) : 0 ≤ (low t b).1 ∧ (low t b).1 ≤ t := by
  have h1 := low_t (t := t) (b := b)
  have h2 := gcdP (t := t) hb
  have h3 : 0 ≤ (low t b).1 := Int.ediv_nonneg ht (by omega)
  have : (low t b).1 * 1 ≤ (low t b).1 * (Int.gcd t b : Int) := Int.mul_le_mul_of_nonneg_left (by omega) h3
  exact ⟨h3, by omega⟩
/-- the fraction in lowest terms is the only one -/
theorem low_is {p q : Int} (hb : 0 < b) (hq : 0 < q) (g : Int.gcd p q = 1) (h : t * q = p * b) : low t b = (p, q) := by
  have h1 := low_cross t b
  have h2 : (low t b).1 * q = p * (low t b).2 := by
    have e1 : b * ((low t b).1 * q) = b * (p * (low t b).2) := by
      calc b * ((low t b).1 * q) = ((low t b).1 * b) * q := by ac_rfl
        _ = t * (low t b).2 * q := by rw [h1]
        _ = (t * q) * (low t b).2 := by ac_rfl
        _ = p * b * (low t b).2 := by rw [h]
        _ = b * (p * (low t b).2) := by ac_rfl
    exact Int.eq_of_mul_eq_mul_left (by omega) e1
  exact low_unique (low_pos hb) hq h2 (low_gcd hb) g
end
theorem countP_lt {α : Type} {p q : α → Bool} : ∀ {l : List α}, (∀ x ∈ l, p x = true → q x = true) → (∃ x ∈ l, q x = true ∧ p x = false) → l.countP p < l.countP q
  | [], _, h => by obtain ⟨x, hx, _⟩ := h; cases hx
  | a :: l, h, hx => by
    have h2 : ∀ x ∈ l, p x = true → q x = true := fun x hx => h x (by simp [hx])
    have le : l.countP p ≤ l.countP q := List.countP_mono_left h2
    rw [List.countP_cons, List.countP_cons]
    obtain ⟨x, hx, q1, q2⟩ := hx
    rcases List.mem_cons.mp hx with rfl | hx
    · rw [q1, q2]; simp; omega
    · have := countP_lt h2 ⟨x, hx, q1, q2⟩
      have ha := h a (by simp)
      by_cases hp : p a = true
      · rw [if_pos hp, if_pos (ha hp)]; omega
      · rw [if_neg hp]; split <;> omega
def pairs : List (Int × Int) := (List.range 793).flatMap fun a : Nat => (List.range 72).map fun b : Nat => ((a : Int), (b : Int) + 1)
theorem pairs_mem {l t : Int} (h1 : 0 ≤ l) (h2 : l ≤ 792) (h3 : 1 ≤ t) (h4 : t ≤ 72) : (l, t) ∈ pairs := by
  refine List.mem_flatMap.mpr ⟨l.toNat, List.mem_range.mpr (by omega), List.mem_map.mpr ⟨(t - 1).toNat, List.mem_range.mpr (by omega), ?_⟩⟩
  rw [Int.toNat_of_nonneg h1, Int.toNat_of_nonneg (by omega)]
  congr 1
  omega
theorem pairs_len : pairs.length = 57096 := by
  unfold pairs
  simp only [List.length_flatMap, List.length_map, List.length_range]
  rw [List.map_const', List.sum_replicate_nat, List.length_range]
theorem pairs_pos {x : Int × Int} (h : x ∈ pairs) : 0 < x.2 := by
  obtain ⟨a, _, h2⟩ := List.mem_flatMap.mp h
  obtain ⟨b, _, rfl⟩ := List.mem_map.mp h2
  show (0 : Int) < ((b : Nat) : Int) + 1
  omega
def mu (P : Int × Int) : Nat := pairs.countP fun x => decide (P.1 * x.2 < x.1 * P.2)
theorem mu_le (P : Int × Int) : mu P ≤ 57096 := by
  rw [← pairs_len]
  exact List.countP_le_length
theorem mu_lt {P : Int × Int} {l t : Int} (hq : 0 < P.2) (h1 : 0 ≤ l) (h2 : l ≤ 792) (h3 : 1 ≤ t) (h4 : t ≤ 72) (h : t * P.1 < l * P.2) : mu (low l t) < mu P := by
  refine countP_lt (fun x hx hp => ?_) ⟨(l, t), pairs_mem h1 h2 h3 h4, ?_, ?_⟩
  · have hx0 := pairs_pos hx
    have hp : (low l t).1 * x.2 < x.1 * (low l t).2 := of_decide_eq_true hp
    apply decide_eq_true
    have c := low_cross l t
    have q' : 0 < (low l t).2 := low_pos (by omega)
    have k : 0 < t * (low l t).2 := Int.mul_pos (by omega) q'
    have a1 : P.1 * x.2 * (t * (low l t).2) < (low l t).1 * x.2 * (t * P.2) := by
      have s1 : t * P.1 * ((low l t).2 * x.2) < l * P.2 * ((low l t).2 * x.2) := Int.mul_lt_mul_of_pos_right h (Int.mul_pos q' hx0)
      have s2 : l * P.2 * ((low l t).2 * x.2) = (low l t).1 * x.2 * (t * P.2) := by
        calc l * P.2 * ((low l t).2 * x.2) = l * (low l t).2 * (P.2 * x.2) := by ac_rfl
          _ = (low l t).1 * t * (P.2 * x.2) := by rw [c]
          _ = (low l t).1 * x.2 * (t * P.2) := by ac_rfl
      have s3 : P.1 * x.2 * (t * (low l t).2) = t * P.1 * ((low l t).2 * x.2) := by ac_rfl
      omega
    have a2 : (low l t).1 * x.2 * (t * P.2) < x.1 * (low l t).2 * (t * P.2) := Int.mul_lt_mul_of_pos_right hp (Int.mul_pos (by omega) hq)
    have a3 : x.1 * (low l t).2 * (t * P.2) = x.1 * P.2 * (t * (low l t).2) := by ac_rfl
    exact Int.lt_of_mul_lt_mul_right (a := t * (low l t).2) (by omega) (by omega)
  · apply decide_eq_true
    show P.1 * t < l * P.2
    rw [Int.mul_comm P.1]; exact h
  · apply decide_eq_false
    show ¬ (low l t).1 * t < l * (low l t).2
    rw [low_cross l t]
    omega
theorem sum_le {es : List Ed} {f : Ed → Int} {m : Int} (hm : 0 ≤ m) : ∀ {rs : List Ed} {n : Nat}, (∀ e ∈ rs, 0 ≤ f e ∧ f e ≤ m) → rs.length ≤ n → 0 ≤ (rs.map f).sum ∧ (rs.map f).sum ≤ n * m
  | [], n, _, _ => ⟨Int.le_refl _, Int.mul_nonneg (by omega) hm⟩
  | e :: rs, n, h, hl => by
    have hl : rs.length + 1 ≤ n := hl
    obtain ⟨k, rfl⟩ : ∃ k, n = k + 1 := ⟨n - 1, by omega⟩
    have ih := sum_le (es := es) hm (rs := rs) (n := k) (fun a ha => h a (by simp [ha])) (by omega)
    have h1 := h e (by simp)
    rw [List.map_cons, List.sum_cons]
    have : ((k + 1 : Nat) : Int) * m = k * m + m := by rw [Int.natCast_add, Int.add_mul]; simp
    omega
end Rd

/-! Rounds: how high; what becomes of the least period. -/
namespace Rd
theorem hAt_set' (h : List Int) (k : Nat) (a : Int) (v : Nat) : hAt (h.set k a) v = a ∨ hAt (h.set k a) v = hAt h v := by
  by_cases hk : k < h.length
  · rw [hAt_set hk]
    by_cases hv : v = k
    · subst hv; exact .inl fupd_same
    · exact .inr (fupd_ne hv)
  · right
    rw [List.set_eq_of_length_le (by omega)]
theorem pass_bound {P : Int × Int} {G : Int} (hG : 0 ≤ G) : ∀ (suf : List Ed) (j : Nat) (σ : Sg) (N : Int), (∀ e ∈ suf, gn P e ≤ G) → (∀ v, hAt σ.1 v ≤ N) → ∀ v, hAt (pass P j suf σ).1 v ≤ N + suf.length * G
  | [], j, σ, N, _, h, v => by
    have := h v
    simp only [pass, List.length_nil]
    omega
  | e :: suf, j, σ, N, hg, h, v => by
    unfold pass
    have hb : ∀ v, hAt (relax P j e σ).1 v ≤ N + G := fun v => by
      have h1 := h v
      have h2 := h e.s
      have h3 := hg e (by simp)
      unfold relax
      split
      · rcases hAt_set' σ.1 e.t (hAt σ.1 e.s + gn P e) v with z | z
        · show hAt (σ.1.set e.t (hAt σ.1 e.s + gn P e)) v ≤ _
          omega
        · show hAt (σ.1.set e.t (hAt σ.1 e.s + gn P e)) v ≤ _
          omega
      · omega
    have := pass_bound hG suf (j + 1) (relax P j e σ) (N + G) (fun a ha => hg a (by simp [ha])) hb v
    rw [List.length_cons, Int.natCast_add, Int.add_mul]
    have e1 : ((1 : Nat) : Int) * G = G := by simp
    omega
theorem go_bound {P : Int × Int} {G : Int} {es : List Ed} (hG : 0 ≤ G) (hg : ∀ e ∈ es, gn P e ≤ G) : ∀ (n : Nat) (h : List Int) (w : List (Nat × Nat)) (N : Int), (∀ v, hAt h v ≤ N) → ∀ v, hAt (go P es n (h, w)).1.1 v ≤ N + n * (es.length * G)
  | 0, h, w, N, hb, v => by
    have := hb v
    simp only [go]
    omega
  | n + 1, h, w, N, hb, v => by
    have p := pass_bound hG es 0 (h, w, false) N hg hb
    have l : 0 ≤ (es.length : Int) * G := Int.mul_nonneg (by omega) hG
    have e0 : ((n + 1 : Nat) : Int) * (es.length * G) = n * (es.length * G) + es.length * G := by
      rw [Int.natCast_add, Int.add_mul]; simp
    have l2 : 0 ≤ (n : Int) * (es.length * G) := Int.mul_nonneg (by omega) l
    unfold go
    dsimp only
    split
    · have := go_bound hG hg n _ (pass P 0 es (h, w, false)).2.1 (N + es.length * G) p v
      omega
    · have := p v
      dsimp only
      omega
/-! ### what becomes of the least period -/
theorem circ_map {es : List Ed} {rs : List Ed} (f : Ed → Ed) (c : Circ es rs) (a b : Nat → Nat) (hs : ∀ e ∈ es, (f e).s = a e.s ∧ (f e).t = a e.t) : Circ (es.map f) (rs.map f) := by
  refine ⟨fun e he => ?_, ?_⟩
  · obtain ⟨x, hx, rfl⟩ := List.mem_map.mp he
    exact List.mem_map.mpr ⟨x, c.1 x hx, rfl⟩
  · have e1 : (rs.map f).map (·.t) = (rs.map (·.t)).map a := by
      rw [List.map_map, List.map_map]
      exact List.map_congr_left fun e he => (hs e (c.1 e he)).2
    have e2 : (rs.map f).map (·.s) = (rs.map (·.s)).map a := by
      rw [List.map_map, List.map_map]
      exact List.map_congr_left fun e he => (hs e (c.1 e he)).1
    rw [e1, e2]
    exact c.2.map a
theorem circ_back {es : List Ed} {rs : List Ed} (f : Ed → Ed) (c : Circ es rs) (hs : ∀ e, (f e).s = e.t ∧ (f e).t = e.s) : Circ (es.map f) (rs.map f) := by
  refine ⟨fun e he => ?_, ?_⟩
  · obtain ⟨x, hx, rfl⟩ := List.mem_map.mp he
    exact List.mem_map.mpr ⟨x, c.1 x hx, rfl⟩
  · have e1 : (rs.map f).map (·.t) = rs.map (·.s) := by
      rw [List.map_map]
      exact List.map_congr_left fun e _ => (hs e).2
    have e2 : (rs.map f).map (·.s) = rs.map (·.t) := by
      rw [List.map_map]
      exact List.map_congr_left fun e _ => (hs e).1
    rw [e1, e2]
    exact c.2.symm
theorem sum_scale {f : Ed → Ed} {g h : Ed → Int} {n : Int} (hf : ∀ e, h (f e) = g e * n) : ∀ rs : List Ed, ((rs.map f).map h).sum = (rs.map g).sum * n
  | [] => by simp
  | e :: rs => by
    have ih := sum_scale hf rs
    simp only [List.map_cons, List.sum_cons, ih, hf, Int.add_mul]
theorem sum_keep {f : Ed → Ed} {g : Ed → Int} (hf : ∀ e, g (f e) = g e) (rs : List Ed) : ((rs.map f).map g).sum = (rs.map g).sum := by
  rw [List.map_map]
  congr 1
  exact List.map_congr_left fun e _ => hf e
def longer (n : Int) (e : Ed) : Ed := { e with l := e.l * n }
def spread (n : Int) (e : Ed) : Ed := { e with k := e.k * n }
def turned (e : Ed) : Ed := { e with s := e.t, t := e.s }
def named (many : Nat) (e : Ed) : Ed := { e with s := many - 1 - e.s, t := many - 1 - e.t }
theorem Least.longer {es : List Ed} {P : Int × Int} {n : Int} (h : Least es P) (hn : 1 ≤ n) : Least (es.map (longer n)) (low (P.1 * n) P.2) := by
  have c := low_cross (P.1 * n) P.2
  have q0 := low_pos (t := P.1 * n) h.q
  refine ⟨q0, (low_nn h.q (Int.mul_nonneg h.p (by omega))).1, low_gcd h.q, ?_, ?_⟩
  · obtain ⟨d, x, hd, h0, h1⟩ := h.rf
    refine ⟨d, fun v => x v * n, hd, fun v => Int.mul_nonneg (h0 v) (by omega), fun e he => ?_⟩
    obtain ⟨e, hm, rfl⟩ := List.mem_map.mp he
    have h2 := Int.mul_le_mul_of_nonneg_right (h1 e hm) (show 0 ≤ n * (low (P.1 * n) P.2).2 from Int.mul_nonneg (by omega) (by omega))
    show x e.s * n * (low (P.1 * n) P.2).2 + d * (e.l * n * (low (P.1 * n) P.2).2 - e.k * (low (P.1 * n) P.2).1) ≤ x e.t * n * (low (P.1 * n) P.2).2
    refine Int.le_of_mul_le_mul_right (a := P.2) ?_ h.q
    generalize low (P.1 * n) P.2 = L at *
    have e1 : (x e.s * n * L.2 + d * (e.l * n * L.2 - e.k * L.1)) * P.2 = (x e.s * P.2 + d * (e.l * P.2 - e.k * P.1)) * (n * L.2) := by
      simp only [Int.add_mul, Int.mul_sub, Int.sub_mul]
      have a1 : x e.s * n * L.2 * P.2 = x e.s * P.2 * (n * L.2) := by ac_rfl
      have a2 : d * (e.l * n * L.2) * P.2 = d * (e.l * P.2) * (n * L.2) := by ac_rfl
      have a3 : d * (e.k * L.1) * P.2 = d * (e.k * P.1) * (n * L.2) := by
        calc d * (e.k * L.1) * P.2 = d * e.k * (L.1 * P.2) := by ac_rfl
          _ = d * e.k * (P.1 * n * L.2) := by rw [c]
          _ = _ := by ac_rfl
      omega
    have e2 : x e.t * n * L.2 * P.2 = x e.t * P.2 * (n * L.2) := by ac_rfl
    omega
  · rcases h.tight with rfl | ⟨rs, h1, h2, h3⟩
    · left
      simp [low]
    · refine .inr ⟨rs.map (Rd.longer n), circ_map (Rd.longer n) h1 id id fun e _ => ⟨rfl, rfl⟩, ?_, ?_⟩
      · unfold ksum
        rw [sum_keep (f := Rd.longer n) (g := (·.k)) fun e => rfl]
        exact h2
      · unfold lsum ksum at *
        rw [sum_keep (f := Rd.longer n) (g := (·.k)) (fun e => rfl), sum_scale (f := Rd.longer n) (h := (·.l)) (g := (·.l)) (n := n) (fun e => rfl)]
        refine Int.eq_of_mul_eq_mul_right (a := P.2) (by have := h.q; omega) ?_
        calc (rs.map (·.l)).sum * n * (low (P.1 * n) P.2).2 * P.2 = (rs.map (·.l)).sum * P.2 * (n * (low (P.1 * n) P.2).2) := by ac_rfl
          _ = (rs.map (·.k)).sum * (P.1 * n * (low (P.1 * n) P.2).2) := by rw [h3]; ac_rfl
          _ = (rs.map (·.k)).sum * ((low (P.1 * n) P.2).1 * P.2) := by rw [c]
          _ = _ := by ac_rfl
theorem Never.longer {es : List Ed} {n : Int} (h : Never es) (hn : 1 ≤ n) : Never (es.map (longer n)) := by
  obtain ⟨rs, h1, h2, h3⟩ := h
  refine ⟨rs.map (Rd.longer n), circ_map (Rd.longer n) h1 id id fun e _ => ⟨rfl, rfl⟩, ?_, ?_⟩
  · unfold ksum; rw [sum_keep (f := Rd.longer n) (g := (·.k)) fun e => rfl]; exact h2
  · unfold lsum; rw [sum_scale (f := Rd.longer n) (h := (·.l)) (g := (·.l)) (n := n) (fun e => rfl)]; exact Int.mul_pos h3 (by omega)
theorem Least.spread {es : List Ed} {P : Int × Int} {n : Int} (h : Least es P) (hn : 1 ≤ n) : Least (es.map (spread n)) (low P.1 (P.2 * n)) := by
  have hq : 0 < P.2 * n := Int.mul_pos h.q (by omega)
  have c := low_cross P.1 (P.2 * n)
  have q0 := low_pos (t := P.1) hq
  refine ⟨q0, (low_nn hq h.p).1, low_gcd hq, ?_, ?_⟩
  · obtain ⟨d, x, hd, h0, h1⟩ := h.rf
    refine ⟨d, x, hd, h0, fun e he => ?_⟩
    obtain ⟨e, hm, rfl⟩ := List.mem_map.mp he
    have h2 := Int.mul_le_mul_of_nonneg_right (h1 e hm) (show 0 ≤ n * (low P.1 (P.2 * n)).2 from Int.mul_nonneg (by omega) (by omega))
    show x e.s * (low P.1 (P.2 * n)).2 + d * (e.l * (low P.1 (P.2 * n)).2 - e.k * n * (low P.1 (P.2 * n)).1) ≤ x e.t * (low P.1 (P.2 * n)).2
    refine Int.le_of_mul_le_mul_right (a := P.2 * n) ?_ hq
    generalize low P.1 (P.2 * n) = L at *
    have e1 : (x e.s * L.2 + d * (e.l * L.2 - e.k * n * L.1)) * (P.2 * n) = (x e.s * P.2 + d * (e.l * P.2 - e.k * P.1)) * (n * L.2) := by
      simp only [Int.add_mul, Int.mul_sub, Int.sub_mul]
      have a1 : x e.s * L.2 * (P.2 * n) = x e.s * P.2 * (n * L.2) := by ac_rfl
      have a2 : d * (e.l * L.2) * (P.2 * n) = d * (e.l * P.2) * (n * L.2) := by ac_rfl
      have a3 : d * (e.k * n * L.1) * (P.2 * n) = d * (e.k * P.1) * (n * L.2) := by
        calc d * (e.k * n * L.1) * (P.2 * n) = d * e.k * n * (L.1 * (P.2 * n)) := by ac_rfl
          _ = d * e.k * n * (P.1 * L.2) := by rw [c]
          _ = _ := by ac_rfl
      omega
    have e2 : x e.t * L.2 * (P.2 * n) = x e.t * P.2 * (n * L.2) := by ac_rfl
    omega
  · rcases h.tight with rfl | ⟨rs, h1, h2, h3⟩
    · left
      have hn0 : (0 : Int) < 1 * n := by omega
      exact low_is hn0 (by decide) (by decide) (by simp)
    · refine .inr ⟨rs.map (Rd.spread n), circ_map (Rd.spread n) h1 id id fun e _ => ⟨rfl, rfl⟩, ?_, ?_⟩
      · unfold ksum
        rw [sum_scale (f := Rd.spread n) (h := (·.k)) (g := (·.k)) (n := n) (fun e => rfl)]
        exact Int.mul_pos h2 (by omega)
      · unfold lsum ksum at *
        rw [sum_keep (f := Rd.spread n) (g := (·.l)) (fun e => rfl), sum_scale (f := Rd.spread n) (h := (·.k)) (g := (·.k)) (n := n) (fun e => rfl)]
        refine Int.eq_of_mul_eq_mul_right (a := P.2) (by have := h.q; omega) ?_
        calc (rs.map (·.l)).sum * (low P.1 (P.2 * n)).2 * P.2 = (rs.map (·.l)).sum * P.2 * (low P.1 (P.2 * n)).2 := by ac_rfl
          _ = (rs.map (·.k)).sum * (P.1 * (low P.1 (P.2 * n)).2) := by rw [h3]; ac_rfl
          _ = (rs.map (·.k)).sum * ((low P.1 (P.2 * n)).1 * (P.2 * n)) := by rw [c]
          _ = _ := by ac_rfl
theorem Never.spread {es : List Ed} {n : Int} (h : Never es) : Never (es.map (spread n)) := by
  obtain ⟨rs, h1, h2, h3⟩ := h
  refine ⟨rs.map (Rd.spread n), circ_map (Rd.spread n) h1 id id fun e _ => ⟨rfl, rfl⟩, ?_, ?_⟩
  · unfold ksum at *; rw [sum_scale (f := Rd.spread n) (h := (·.k)) (g := (·.k)) (n := n) (fun e => rfl), h2]; simp
  · unfold lsum at *; rw [sum_keep (f := Rd.spread n) (g := (·.l)) fun e => rfl]; exact h3
/-- a bound over all times of the edges' ends -/
theorem top_of (es : List Ed) (x : Nat → Int) : ∃ X, ∀ e ∈ es, x e.s ≤ X ∧ x e.t ≤ X := by
  induction es with
  | nil => exact ⟨0, fun e h => nomatch h⟩
  | cons a es ih =>
    obtain ⟨X, h⟩ := ih
    refine ⟨max X (max (x a.s) (x a.t)), fun e he => ?_⟩
    rcases List.mem_cons.mp he with rfl | he
    · omega
    · have := h e he; omega
theorem Least.turned {es : List Ed} {P : Int × Int} (h : Least es P) : Least (es.map turned) P := by
  refine ⟨h.q, h.p, h.lo, ?_, ?_⟩
  · obtain ⟨d, x, hd, h0, h1⟩ := h.rf
    obtain ⟨X, hX⟩ := top_of es x
    refine ⟨d, fun v => max (X - x v) 0, hd, fun v => by show 0 ≤ max (X - x v) 0; omega, fun e he => ?_⟩
    obtain ⟨e, hm, rfl⟩ := List.mem_map.mp he
    have h2 := h1 e hm
    have h3 := hX e hm
    show max (X - x e.t) 0 * P.2 + d * (e.l * P.2 - e.k * P.1) ≤ max (X - x e.s) 0 * P.2
    rw [show max (X - x e.t) 0 = X - x e.t by omega, show max (X - x e.s) 0 = X - x e.s by omega, Int.sub_mul, Int.sub_mul]
    omega
  · rcases h.tight with h1 | ⟨rs, h1, h2, h3⟩
    · exact .inl h1
    · refine .inr ⟨rs.map Rd.turned, circ_back Rd.turned h1 fun e => ⟨rfl, rfl⟩, ?_, ?_⟩
      · unfold ksum at *; rw [sum_keep (f := Rd.turned) (g := (·.k)) fun e => rfl]; exact h2
      · unfold lsum ksum at *; rw [sum_keep (f := Rd.turned) (g := (·.l)) (fun e => rfl), sum_keep (f := Rd.turned) (g := (·.k)) (fun e => rfl)]; exact h3
theorem Never.turned {es : List Ed} (h : Never es) : Never (es.map turned) := by
  obtain ⟨rs, h1, h2, h3⟩ := h
  refine ⟨rs.map Rd.turned, circ_back Rd.turned h1 fun e => ⟨rfl, rfl⟩, ?_, ?_⟩
  · unfold ksum at *; rw [sum_keep (f := Rd.turned) (g := (·.k)) fun e => rfl]; exact h2
  · unfold lsum at *; rw [sum_keep (f := Rd.turned) (g := (·.l)) fun e => rfl]; exact h3
theorem Least.named {es : List Ed} {P : Int × Int} {many : Nat} (h : Least es P) (hb : ∀ e ∈ es, e.s < many ∧ e.t < many) : Least (es.map (named many)) P := by
  refine ⟨h.q, h.p, h.lo, ?_, ?_⟩
  · obtain ⟨d, x, hd, h0, h1⟩ := h.rf
    refine ⟨d, fun v => x (many - 1 - v), hd, fun v => h0 _, fun e he => ?_⟩
    obtain ⟨e, hm, rfl⟩ := List.mem_map.mp he
    have h3 := hb e hm
    show x (many - 1 - (many - 1 - e.s)) * P.2 + d * (e.l * P.2 - e.k * P.1) ≤ x (many - 1 - (many - 1 - e.t)) * P.2
    rw [show many - 1 - (many - 1 - e.s) = e.s by omega, show many - 1 - (many - 1 - e.t) = e.t by omega]
    exact h1 e hm
  · rcases h.tight with h1 | ⟨rs, h1, h2, h3⟩
    · exact .inl h1
    · refine .inr ⟨rs.map (Rd.named many), circ_map (Rd.named many) h1 (fun v => many - 1 - v) id fun e _ => ⟨rfl, rfl⟩, ?_, ?_⟩
      · unfold ksum at *; rw [sum_keep (f := Rd.named many) (g := (·.k)) fun e => rfl]; exact h2
      · unfold lsum ksum at *; rw [sum_keep (f := Rd.named many) (g := (·.l)) (fun e => rfl), sum_keep (f := Rd.named many) (g := (·.k)) (fun e => rfl)]; exact h3
theorem Never.named {es : List Ed} {many : Nat} (h : Never es) : Never (es.map (named many)) := by
  obtain ⟨rs, h1, h2, h3⟩ := h
  refine ⟨rs.map (Rd.named many), circ_map (Rd.named many) h1 (fun v => many - 1 - v) id fun e _ => ⟨rfl, rfl⟩, ?_, ?_⟩
  · unfold ksum at *; rw [sum_keep (f := Rd.named many) (g := (·.k)) fun e => rfl]; exact h2
  · unfold lsum at *; rw [sum_keep (f := Rd.named many) (g := (·.l)) fun e => rfl]; exact h3
theorem Never.sub {es es' : List Ed} (h : Never es) (s : ∀ e ∈ es, e ∈ es') : Never es' := by
  obtain ⟨rs, h1, h2⟩ := h
  exact ⟨rs, ⟨fun e he => s e (h1.1 e he), h1.2⟩, h2⟩
theorem Least.sub {es es' : List Ed} {P : Int × Int} (h : Least es P) (s : ∀ e, e ∈ es ↔ e ∈ es') : Least es' P := by
  refine ⟨h.q, h.p, h.lo, ?_, ?_⟩
  · obtain ⟨d, x, hd, h0, h1⟩ := h.rf
    exact ⟨d, x, hd, h0, fun e he => h1 e ((s e).mpr he)⟩
  · rcases h.tight with h1 | ⟨rs, h1, h2⟩
    · exact .inl h1
    · exact .inr ⟨rs, ⟨fun e he => (s e).mp (h1.1 e he), h1.2⟩, h2⟩
end Rd

set_option maxHeartbeats 2000000
namespace Y
open PySem PySem.Spec PyProof.Rows L2
def b_shared_of : SS := (sSeq (sPar 0 1 (sCons (sFn hAbs (sCons (sVar 0) sNil)) (sCons (sFn hAbs (sCons (sVar 1) sNil)) sNil)))
    (sSeq (sWhile 4000 (sTest (sOp hGt (sVar 1) (sC (.int 0)))) (sPar 0 1 (sCons (sVar 1) (sCons (sOp hMod (sVar 0) (sVar 1)) sNil))))
    (sRet (sVar 0))))
def f_shared_of : Fn := mkP 2 2 b_shared_of
theorem ar_shared_of : Arity 2 f_shared_of := mkP_ar _ _ _
def b_lowest : SS := (sSeq (sAsg (sIfE (sTest (sOp hGt (sVar 1) (sC (.int 0)))) (sCall f_shared_of (sCons (sVar 0) (sCons (sVar 1) sNil))) (sUn hNeg (sCall f_shared_of (sCons (sVar 0) (sCons (sVar 1) sNil))))) (gNm 2))
    (sRet (sTup (sCons (sOp hFdiv (sVar 0) (sVar 2)) (sCons (sOp hFdiv (sVar 1) (sVar 2)) sNil)))))
def f_lowest : Fn := mkP 2 3 b_lowest
theorem ar_lowest : Arity 2 f_lowest := mkP_ar _ _ _
def b_plus : SS := (sRet (sCall f_lowest (sCons (sOp hAdd (sOp hMul (sOp hIx (sVar 0) (sC (.int 0))) (sOp hIx (sVar 1) (sC (.int 1)))) (sOp hMul (sOp hIx (sVar 1) (sC (.int 0))) (sOp hIx (sVar 0) (sC (.int 1))))) (sCons (sOp hMul (sOp hIx (sVar 0) (sC (.int 1))) (sOp hIx (sVar 1) (sC (.int 1)))) sNil))))
def f_plus : Fn := mkP 2 2 b_plus
theorem ar_plus : Arity 2 f_plus := mkP_ar _ _ _
def b_times : SS := (sRet (sCall f_lowest (sCons (sOp hMul (sOp hIx (sVar 0) (sC (.int 0))) (sOp hIx (sVar 1) (sC (.int 0)))) (sCons (sOp hMul (sOp hIx (sVar 0) (sC (.int 1))) (sOp hIx (sVar 1) (sC (.int 1)))) sNil))))
def f_times : Fn := mkP 2 2 b_times
theorem ar_times : Arity 2 f_times := mkP_ar _ _ _
def b_is_under : SS := (sRet (sOp hLt (sOp hMul (sOp hIx (sVar 0) (sC (.int 0))) (sOp hIx (sVar 1) (sC (.int 1)))) (sOp hMul (sOp hIx (sVar 1) (sC (.int 0))) (sOp hIx (sVar 0) (sC (.int 1))))))
def f_is_under : Fn := mkP 2 2 b_is_under
theorem ar_is_under : Arity 2 f_is_under := mkP_ar _ _ _
def b_is_fraction : SS := (sSeq (sIf (sOrT (sNotT (sTest (sFn hIsi (sCons (sVar 0) (sCons (sC (.ty "tuple")) sNil))))) (sTest (sOp hNe (sFn hLen (sCons (sVar 0) sNil)) (sC (.int 2))))) (sRet (sC (.bl false))) sSkip)
    (sSeq (sIf (sNotT (sTest (sFn hAll (sCons (sLc [1] (sSeqI (sVar 0)) (gNm 1) sTrue (sAndV (sFn hIsi (sCons (sVar 1) (sCons (sC (.ty "int")) sNil))) (sNotV (sTest (sFn hIsi (sCons (sVar 1) (sCons (sC (.ty "bool")) sNil))))))) sNil)))) (sRet (sC (.bl false))) sSkip)
    (sRet (sAndV (sOp hGt (sOp hIx (sVar 0) (sC (.int 1))) (sC (.int 0))) (sOp hEq (sCall f_lowest (sCons (sOp hIx (sVar 0) (sC (.int 0))) (sCons (sOp hIx (sVar 0) (sC (.int 1))) sNil))) (sVar 0))))))
def f_is_fraction : Fn := mkP 1 2 b_is_fraction
theorem ar_is_fraction : Arity 1 f_is_fraction := mkP_ar _ _ _
def b_is_count_within : SS := (sRet (sAndV (sFn hIsi (sCons (sVar 0) (sCons (sC (.ty "int")) sNil))) (sAndV (sNotV (sTest (sFn hIsi (sCons (sVar 0) (sCons (sC (.ty "bool")) sNil))))) (sChain hLe hLe (sVar 1) (sVar 0) (sVar 2)))))
def f_is_count_within : Fn := mkP 3 3 b_is_count_within
theorem ar_is_count_within : Arity 3 f_is_count_within := mkP_ar _ _ _
def b_gain_of : SS := (sRet (sOp hSub (sOp hMul (sOp hIx (sVar 0) (sC (.int 2))) (sOp hIx (sVar 1) (sC (.int 1)))) (sOp hMul (sOp hIx (sVar 0) (sC (.int 3))) (sOp hIx (sVar 1) (sC (.int 0))))))
def f_gain_of : Fn := mkP 2 2 b_gain_of
theorem ar_gain_of : Arity 2 f_gain_of := mkP_ar _ _ _
def b_raised_once : SS := (sSeq (sAsg (sC (.bl false)) (gNm 4))
    (sSeq (sFor 100000 (sEnum (sCons (sVar 0) sNil)) (gTp 2 (gsCons (gNm 5) (gsCons (gNm 6) gsNil)))
    (sSeq (sAsg (sOp hAdd (sOp hIx (sVar 2) (sOp hIx (sVar 6) (sC (.int 0)))) (sCall f_gain_of (sCons (sVar 6) (sCons (sVar 1) sNil)))) (gNm 7))
    (sIf (sTest (sOp hGt (sVar 7) (sOp hIx (sVar 2) (sOp hIx (sVar 6) (sC (.int 1)))))) (sSeq (sAsg (sTup (sCons (sVar 7) (sCons (sVar 5) sNil))) (gTp 2 (gsCons (gSb (sVar 2) (sOp hIx (sVar 6) (sC (.int 1)))) (gsCons (gSb (sVar 3) (sOp hIx (sVar 6) (sC (.int 1)))) gsNil))))
    (sAsg (sC (.bl true)) (gNm 4))) sSkip)))
    (sRet (sVar 4))))
def f_raised_once : Fn := mkFn 4 8 b_raised_once
theorem ar_raised_once : Arity 4 f_raised_once := mkFn_ar _ _ _
def b_ring_behind : SS := (sSeq (sPar 3 4 (sCons (sNew sNil) (sCons (sNew sNil) sNil)))
    (sSeq (sWhile 4000 (sTest (sOp hNotIn (sVar 2) (sVar 3))) (sSeq (sDrop (sMt qLst mApp (sVar 3) (sCons (sVar 2) sNil)))
    (sSeq (sDrop (sMt qLst mApp (sVar 4) (sCons (sOp hIx (sVar 1) (sVar 2)) sNil)))
    (sAsg (sOp hIx (sOp hIx (sVar 0) (sOp hIx (sVar 1) (sVar 2))) (sC (.int 0))) (gNm 2)))))
    (sRet (sFn hTuple (sCons (sUn hRev (sCut (sVar 4) (sPart (sMt qLst mIndex (sVar 3) (sCons (sVar 2) sNil))) sNoPart)) sNil)))))
def f_ring_behind : Fn := mkFn 3 5 b_ring_behind
theorem ar_ring_behind : Arity 3 f_ring_behind := mkFn_ar _ _ _
def b_ring_if_closed : SS := (sSeq (sAsg (sVar 2) (gNm 3))
    (sSeq (sFor 100000 (sRng1 (sCons (sFn hLen (sCons (sVar 1) sNil)) sNil)) (gNm 4)
    (sSeq (sIf (sTest (sOp hNotIn (sVar 3) (sVar 1))) (sRet (sC .non)) sSkip)
    (sAsg (sOp hIx (sOp hIx (sVar 0) (sOp hIx (sVar 1) (sVar 3))) (sC (.int 0))) (gNm 3))))
    (sRet (sIfE (sTest (sOp hIn (sVar 3) (sVar 1))) (sCall f_ring_behind (sCons (sVar 0) (sCons (sVar 1) (sCons (sVar 3) sNil)))) (sC .non)))))
def f_ring_if_closed : Fn := mkFn 3 5 b_ring_if_closed
theorem ar_ring_if_closed : Arity 3 f_ring_if_closed := mkFn_ar _ _ _
def b_heights_or_ring : SS := (sSeq (sPar 3 4 (sCons (sCell (sOp hRep (sLst (sCons (sC (.int 0)) sNil)) (sVar 0))) (sCons sNewD sNil)))
    (sSeq (sFor 100000 (sRng1 (sCons (sOp hAdd (sVar 0) (sC (.int 1))) sNil)) (gNm 5)
    (sIf (sNotT (sTest (sCall f_raised_once (sCons (sVar 1) (sCons (sVar 2) (sCons (sVar 3) (sCons (sVar 4) sNil))))))) (sRet (sTup (sCons (sVar 3) (sCons (sC .non) sNil)))) sSkip))
    (sSeq (sFor 100000 (sSeqI (sFn hSortedD (sCons (sVar 4) sNil))) (gNm 6)
    (sSeq (sAsg (sCall f_ring_if_closed (sCons (sVar 1) (sCons (sVar 4) (sCons (sVar 6) sNil)))) (gNm 7))
    (sIf (sTest (sOp hNotIs (sVar 7) (sC .non))) (sRet (sTup (sCons (sC .non) (sCons (sVar 7) sNil)))) sSkip)))
    (sRet (sTup (sCons (sVar 3) (sCons (sC .non) sNil)))))))
def f_heights_or_ring : Fn := mkP 3 8 b_heights_or_ring
theorem ar_heights_or_ring : Arity 3 f_heights_or_ring := mkP_ar _ _ _
def b_numbers_of_ring : SS := (sRet (sTup (sCons (sFn hSum (sCons (sLc [2] (sSeqI (sVar 1)) (gNm 2) sTrue (sOp hIx (sOp hIx (sVar 0) (sVar 2)) (sC (.int 2)))) sNil)) (sCons (sFn hSum (sCons (sLc [2] (sSeqI (sVar 1)) (gNm 2) sTrue (sOp hIx (sOp hIx (sVar 0) (sVar 2)) (sC (.int 3)))) sNil)) sNil))))
def f_numbers_of_ring : Fn := mkP 2 3 b_numbers_of_ring
theorem ar_numbers_of_ring : Arity 2 f_numbers_of_ring := mkP_ar _ _ _
def b_told_period : SS := (sSeq (sPar 2 3 (sCons (sC (.tup [(.int 0), (.int 1)])) (sCons (sTup sNil) sNil)))
    (sSeq (sAsg (sCall f_heights_or_ring (sCons (sVar 0) (sCons (sVar 1) (sCons (sVar 2) sNil)))) (gTp 2 (gsCons (gNm 4) (gsCons (gNm 5) gsNil))))
    (sSeq (sWhile 100000 (sTest (sOp hNotIs (sVar 5) (sC .non))) (sSeq (sAsg (sCall f_numbers_of_ring (sCons (sVar 1) (sCons (sVar 5) sNil))) (gTp 2 (gsCons (gNm 6) (gsCons (gNm 7) gsNil))))
    (sSeq (sIf (sTest (sOp hEq (sVar 7) (sC (.int 0)))) (sRet (sTup (sCons (sC .non) (sCons (sC .non) (sCons (sVar 5) sNil))))) sSkip)
    (sSeq (sPar 2 3 (sCons (sCall f_lowest (sCons (sVar 6) (sCons (sVar 7) sNil))) (sCons (sVar 5) sNil)))
    (sAsg (sCall f_heights_or_ring (sCons (sVar 0) (sCons (sVar 1) (sCons (sVar 2) sNil)))) (gTp 2 (gsCons (gNm 4) (gsCons (gNm 5) gsNil))))))))
    (sRet (sTup (sCons (sVar 2) (sCons (sVar 4) (sCons (sVar 3) sNil))))))))
def f_told_period : Fn := mkP 2 8 b_told_period
theorem ar_told_period : Arity 2 f_told_period := mkP_ar _ _ _
def b_begins_by : SS := (sRet (sFn hTuple (sCons (sLc [2] (sSeqI (sVar 0)) (gNm 2) sTrue (sCall f_lowest (sCons (sVar 2) (sCons (sOp hIx (sVar 1) (sC (.int 1))) sNil)))) sNil)))
def f_begins_by : Fn := mkP 2 3 b_begins_by
theorem ar_begins_by : Arity 2 f_begins_by := mkP_ar _ _ _
def b_are_begins : SS := (sSeq (sIf (sOrT (sNotT (sTest (sFn hIsi (sCons (sVar 3) (sCons (sC (.ty "tuple")) sNil))))) (sOrT (sTest (sOp hNe (sFn hLen (sCons (sVar 3) sNil)) (sVar 0))) (sNotT (sTest (sFn hAll (sCons (sLc [9] (sSeqI (sVar 3)) (gNm 9) sTrue (sCall f_is_fraction (sCons (sVar 9) sNil))) sNil)))))) (sRet (sC (.bl false))) sSkip)
    (sSeq (sFor 100000 (sSeqI (sVar 1)) (gTp 4 (gsCons (gNm 4) (gsCons (gNm 5) (gsCons (gNm 6) (gsCons (gNm 7) gsNil)))))
    (sSeq (sAsg (sCall f_plus (sCons (sOp hIx (sVar 3) (sVar 5)) (sCons (sCall f_times (sCons (sTup (sCons (sVar 7) (sCons (sC (.int 1)) sNil))) (sCons (sVar 2) sNil))) sNil))) (gNm 8))
    (sIf (sTest (sCall f_is_under (sCons (sVar 8) (sCons (sCall f_plus (sCons (sOp hIx (sVar 3) (sVar 4)) (sCons (sTup (sCons (sVar 6) (sCons (sC (.int 1)) sNil))) sNil))) sNil)))) (sRet (sC (.bl false))) sSkip)))
    (sRet (sC (.bl true)))))
def f_are_begins : Fn := mkP 4 10 b_are_begins
theorem ar_are_begins : Arity 4 f_are_begins := mkP_ar _ _ _
def b_is_round_edge : SS := (sSeq (sIf (sOrT (sNotT (sTest (sFn hIsi (sCons (sVar 1) (sCons (sC (.ty "tuple")) sNil))))) (sTest (sOp hNe (sFn hLen (sCons (sVar 1) sNil)) (sC (.int 4))))) (sRet (sC (.bl false))) sSkip)
    (sSeq (sIf (sOrT (sNotT (sTest (sCall f_is_count_within (sCons (sOp hIx (sVar 1) (sC (.int 0))) (sCons (sC (.int 0)) (sCons (sOp hSub (sVar 0) (sC (.int 1))) sNil)))))) (sNotT (sTest (sCall f_is_count_within (sCons (sOp hIx (sVar 1) (sC (.int 1))) (sCons (sC (.int 0)) (sCons (sOp hSub (sVar 0) (sC (.int 1))) sNil))))))) (sRet (sC (.bl false))) sSkip)
    (sRet (sAndV (sCall f_is_count_within (sCons (sOp hIx (sVar 1) (sC (.int 2))) (sCons (sC (.int 0)) (sCons (sC (.int 99)) sNil)))) (sCall f_is_count_within (sCons (sOp hIx (sVar 1) (sC (.int 3))) (sCons (sC (.int 0)) (sCons (sC (.int 9)) sNil))))))))
def f_is_round_edge : Fn := mkP 2 2 b_is_round_edge
theorem ar_is_round_edge : Arity 2 f_is_round_edge := mkP_ar _ _ _
def b_require_edges : SS := (sSeq (sIf (sNotT (sTest (sCall f_is_count_within (sCons (sVar 0) (sCons (sC (.int 1)) (sCons (sC (.int 8)) sNil)))))) sStuck sSkip)
    (sSeq (sIf (sOrT (sNotT (sTest (sFn hIsi (sCons (sVar 1) (sCons (sC (.ty "tuple")) sNil))))) (sTest (sOp hGt (sFn hLen (sCons (sVar 1) sNil)) (sC (.int 20))))) sStuck sSkip)
    (sIf (sNotT (sTest (sFn hAll (sCons (sLc [2] (sSeqI (sVar 1)) (gNm 2) sTrue (sCall f_is_round_edge (sCons (sVar 0) (sCons (sVar 2) sNil)))) sNil)))) sStuck sSkip)))
def f_require_edges : Fn := mkP 2 3 b_require_edges
theorem ar_require_edges : Arity 2 f_require_edges := mkP_ar _ _ _
def b_require_period : SS := (sSeq (sDrop (sCall f_require_edges (sCons (sVar 0) (sCons (sVar 1) sNil))))
    (sIf (sOrT (sNotT (sTest (sCall f_is_fraction (sCons (sVar 2) sNil)))) (sTest (sOp hLt (sOp hIx (sVar 2) (sC (.int 0))) (sC (.int 0))))) sStuck sSkip))
def f_require_period : Fn := mkP 3 3 b_require_period
theorem ar_require_period : Arity 3 f_require_period := mkP_ar _ _ _
def b_is_begins : SS := (sSeq (sDrop (sCall f_require_period (sCons (sVar 0) (sCons (sVar 1) (sCons (sVar 2) sNil)))))
    (sRet (sCall f_are_begins (sCons (sVar 0) (sCons (sVar 1) (sCons (sVar 2) (sCons (sVar 3) sNil)))))))
def f_is_begins : Fn := mkP 4 4 b_is_begins
theorem ar_is_begins : Arity 4 f_is_begins := mkP_ar _ _ _
def b_first_begins : SS := (sSeq (sDrop (sCall f_require_period (sCons (sVar 0) (sCons (sVar 1) (sCons (sVar 2) sNil)))))
    (sSeq (sAsg (sCall f_heights_or_ring (sCons (sVar 0) (sCons (sVar 1) (sCons (sVar 2) sNil)))) (gTp 2 (gsCons (gNm 3) (gsCons (gNm 4) gsNil))))
    (sRet (sIfE (sTest (sOp hIs (sVar 4) (sC .non))) (sCall f_begins_by (sCons (sVar 3) (sCons (sVar 2) sNil))) (sC .non)))))
def f_first_begins : Fn := mkP 3 5 b_first_begins
theorem ar_first_begins : Arity 3 f_first_begins := mkP_ar _ _ _
def b_least_period : SS := (sSeq (sDrop (sCall f_require_edges (sCons (sVar 0) (sCons (sVar 1) sNil))))
    (sRet (sOp hIx (sCall f_told_period (sCons (sVar 0) (sCons (sVar 1) sNil))) (sC (.int 0)))))
def f_least_period : Fn := mkP 2 2 b_least_period
theorem ar_least_period : Arity 2 f_least_period := mkP_ar _ _ _
def b_least_integer_period : SS := (sSeq (sAsg (sCall f_least_period (sCons (sVar 0) (sCons (sVar 1) sNil))) (gNm 2))
    (sRet (sIfE (sTest (sOp hIs (sVar 2) (sC .non))) (sC .non) (sUn hNeg (sOp hFdiv (sUn hNeg (sOp hIx (sVar 2) (sC (.int 0)))) (sOp hIx (sVar 2) (sC (.int 1))))))))
def f_least_integer_period : Fn := mkP 2 3 b_least_integer_period
theorem ar_least_integer_period : Arity 2 f_least_integer_period := mkP_ar _ _ _
def b__law_crock : SS := (sSeq (sAsg (sIfE (sTest (sOp hLt (sVar 1) (sFn hLen (sCons (sVar 0) sNil)))) (sFn hInt (sCons (sOp hIx (sVar 0) (sVar 1)) sNil)) (sOp hAdd (sOp hMul (sC (.int 967)) (sVar 1)) (sC (.int 83)))) (gNm 2))
    (sSeq (sAsg (sOp hMod (sFn hInt (sCons (sFn hAbs (sCons (sVar 2) sNil)) sNil)) (sOp hPow (sOp hPow (sC (.int 10)) (sC (.int 58))) (sC (.int 5)))) (gNm 3))
    (sRet (sNew (sCons (sFn hMax2 (sCons (sC (.int 0)) (sCons (sOp hSub (sVar 3) (sOp hPow (sC (.int 10)) (sC (.int 17)))) sNil))) (sCons (sOp hAdd (sOp hAdd (sOp hAdd (sOp hMul (sOp hMod (sFn hInt (sCons (sVar 3) sNil)) (sC (.int 2305843009213693907))) (sC (.int 101))) (sOp hMul (sC (.int 1171)) (sVar 1))) (sOp hMul (sC (.int 43)) (sFn hInt (sCons (sOp hLt (sVar 2) (sC (.int 0))) sNil)))) (sC (.int 19))) (sCons (sC (.int 0)) sNil)))))))
def f__law_crock : Fn := mkFn 2 4 b__law_crock
theorem ar__law_crock : Arity 2 f__law_crock := mkFn_ar _ _ _
def b__law_ladle : SS := (sSeq (sIf (sTest (sOp hGt (sOp hIx (sVar 0) (sC (.int 0))) (sC (.int 0)))) (sSeq (sAsg (sOp hMod (sFn hInt (sCons (sOp hIx (sVar 0) (sC (.int 0))) sNil)) (sVar 1)) (gNm 2))
    (sSeq (sAsg (sOp hFdiv (sOp hIx (sVar 0) (sC (.int 0))) (sVar 1)) (gSb (sVar 0) (sC (.int 0))))
    (sRet (sVar 2)))) sSkip)
    (sSeq (sAsg (sOp hAdd (sOp hIx (sVar 0) (sC (.int 2))) (sC (.int 1))) (gSb (sVar 0) (sC (.int 2))))
    (sSeq (sAsg (sOp hMod (sFn hInt (sCons (sOp hAdd (sOp hIx (sVar 0) (sC (.int 1))) (sOp hMul (sC (.int 86028121)) (sOp hIx (sVar 0) (sC (.int 2))))) sNil)) (sC (.int 2305843009213693951))) (gNm 3))
    (sSeq (sAsg (sOp hAdd (sOp hMul (sOp hMod (sFn hInt (sCons (sOp hAdd (sOp hMul (sVar 3) (sVar 3)) (sOp hMul (sC (.int 271)) (sOp hIx (sVar 0) (sC (.int 2))))) sNil)) (sC (.int 2305843009213693921))) (sC (.int 5915587277))) (sVar 3)) (gNm 4))
    (sRet (sOp hMod (sFn hInt (sCons (sOp hFdiv (sVar 4) (sC (.int 65543))) sNil)) (sVar 1)))))))
def f__law_ladle : Fn := mkFn 2 5 b__law_ladle
theorem ar__law_ladle : Arity 2 f__law_ladle := mkFn_ar _ _ _
def b__law_pick_of : SS := (sRet (sOp hIx (sVar 1) (sCall f__law_ladle (sCons (sVar 0) (sCons (sFn hLen (sCons (sVar 1) sNil)) sNil)))))
def f__law_pick_of : Fn := mkFn 2 2 b__law_pick_of
theorem ar__law_pick_of : Arity 2 f__law_pick_of := mkFn_ar _ _ _
def b__law_edges : SS := (sSeq (sPar 3 4 (sCons (sNew sNil) (sCons (sCall f__law_pick_of (sCons (sVar 0) (sCons (sLst (sCons (sC (.int 1)) (sCons (sC (.int 2)) (sCons (sC (.int 3)) sNil)))) sNil))) sNil)))
    (sSeq (sFor 100000 (sRng1 (sCons (sCall f__law_ladle (sCons (sVar 0) (sCons (sOp hAdd (sVar 2) (sC (.int 1))) sNil))) sNil)) (gNm 5)
    (sSeq (sPar 6 7 (sCons (sCall f__law_ladle (sCons (sVar 0) (sCons (sVar 1) sNil))) (sCons (sCall f__law_ladle (sCons (sVar 0) (sCons (sVar 1) sNil))) sNil)))
    (sSeq (sAsg (sIfE (sTest (sOp hGt (sCall f__law_ladle (sCons (sVar 0) (sCons (sC (.int 3)) sNil))) (sC (.int 0)))) (sCall f__law_ladle (sCons (sVar 0) (sCons (sC (.int 3)) sNil))) (sC (.int 0))) (gNm 8))
    (sSeq (sIf (sAndT (sTest (sOp hGe (sVar 6) (sVar 7))) (sAndT (sTest (sOp hEq (sVar 8) (sC (.int 0)))) (sTest (sOp hGt (sCall f__law_ladle (sCons (sVar 0) (sCons (sC (.int 8)) sNil))) (sC (.int 0)))))) (sAsg (sVar 4) (gNm 8)) sSkip)
    (sDrop (sMt qLst mApp (sVar 3) (sCons (sTup (sCons (sVar 6) (sCons (sVar 7) (sCons (sCall f__law_ladle (sCons (sVar 0) (sCons (sC (.int 8)) sNil))) (sCons (sVar 8) sNil))))) sNil)))))))
    (sRet (sFn hTuple (sCons (sVar 3) sNil)))))
def f__law_edges : Fn := mkFn 3 9 b__law_edges
theorem ar__law_edges : Arity 3 f__law_edges := mkFn_ar _ _ _
def b__law_lowest : SS := (sSeq (sPar 2 3 (sCons (sFn hAbs (sCons (sVar 0) sNil)) (sCons (sVar 1) sNil)))
    (sSeq (sWhile 4000 (sTest (sOp hGt (sVar 3) (sC (.int 0)))) (sPar 2 3 (sCons (sVar 3) (sCons (sOp hMod (sFn hInt (sCons (sVar 2) sNil)) (sVar 3)) sNil))))
    (sRet (sTup (sCons (sOp hFdiv (sVar 0) (sVar 2)) (sCons (sOp hFdiv (sVar 1) (sVar 2)) sNil))))))
def f__law_lowest : Fn := mkP 2 4 b__law_lowest
theorem ar__law_lowest : Arity 2 f__law_lowest := mkP_ar _ _ _
def b__law_times : SS := (sRet (sIfE (sTest (sOp hIs (sVar 0) (sC .non))) (sC .non) (sCall f__law_lowest (sCons (sOp hMul (sOp hIx (sVar 0) (sC (.int 0))) (sVar 1)) (sCons (sOp hIx (sVar 0) (sC (.int 1))) sNil)))))
def f__law_times : Fn := mkP 2 2 b__law_times
theorem ar__law_times : Arity 2 f__law_times := mkP_ar _ _ _
def b__law_over : SS := (sSeq (sIf (sOrT (sTest (sOp hIs (sVar 0) (sC .non))) (sTest (sOp hIs (sVar 1) (sC .non)))) (sRet (sAndV (sOp hIs (sVar 0) (sC .non)) (sOp hNotIs (sVar 1) (sC .non)))) sSkip)
    (sRet (sOp hGt (sOp hMul (sOp hIx (sVar 0) (sC (.int 0))) (sOp hIx (sVar 1) (sC (.int 1)))) (sOp hMul (sOp hIx (sVar 1) (sC (.int 0))) (sOp hIx (sVar 0) (sC (.int 1)))))))
def f__law_over : Fn := mkP 2 2 b__law_over
theorem ar__law_over : Arity 2 f__law_over := mkP_ar _ _ _
def b__law_rounds_right : SS := (sSeq (sAsg (sCall f_first_begins (sCons (sVar 1) (sCons (sVar 2) (sCons (sVar 3) sNil)))) (gNm 4))
    (sSeq (sIf (sTest (sOp hIs (sVar 4) (sC .non))) (sRet (sC (.bl false))) sSkip)
    (sSeq (sFor 100000 (sSeqI (sVar 2)) (gTp 4 (gsCons (gNm 5) (gsCons (gNm 6) (gsCons (gNm 7) (gsCons (gNm 8) gsNil)))))
    (sFor 100000 (sRng1 (sCons (sC (.int 4)) sNil)) (gNm 9)
    (sSeq (sAsg (sOp hIx (sVar 4) (sVar 5)) (gTp 2 (gsCons (gNm 10) (gsCons (gNm 11) gsNil))))
    (sSeq (sAsg (sOp hIx (sVar 4) (sVar 6)) (gTp 2 (gsCons (gNm 12) (gsCons (gNm 13) gsNil))))
    (sSeq (sAsg (sVar 3) (gTp 2 (gsCons (gNm 14) (gsCons (gNm 15) gsNil))))
    (sSeq (sAsg (sCall f__law_lowest (sCons (sOp hAdd (sOp hAdd (sOp hMul (sVar 10) (sVar 15)) (sOp hMul (sOp hMul (sVar 9) (sVar 14)) (sVar 11))) (sOp hMul (sOp hMul (sVar 7) (sVar 11)) (sVar 15))) (sCons (sOp hMul (sVar 11) (sVar 15)) sNil))) (gNm 16))
    (sSeq (sAsg (sCall f__law_lowest (sCons (sOp hAdd (sOp hMul (sVar 12) (sVar 15)) (sOp hMul (sOp hMul (sOp hAdd (sVar 9) (sVar 8)) (sVar 14)) (sVar 13))) (sCons (sOp hMul (sVar 13) (sVar 15)) sNil))) (gNm 17))
    (sIf (sTest (sOp hLt (sOp hMul (sOp hIx (sVar 17) (sC (.int 0))) (sOp hIx (sVar 16) (sC (.int 1)))) (sOp hMul (sOp hIx (sVar 16) (sC (.int 0))) (sOp hIx (sVar 17) (sC (.int 1)))))) (sRet (sC (.bl false))) sSkip))))))))
    (sSeq (sFor 100000 (sRng1 (sCons (sVar 1) sNil)) (gNm 18)
    (sSeq (sAsg (sOp hIx (sVar 4) (sVar 18)) (gTp 2 (gsCons (gNm 12) (gsCons (gNm 13) gsNil))))
    (sSeq (sAsg (sIfE (sTest (sOp hEq (sVar 12) (sC (.int 0)))) (sNew (sCons (sC (.int 1)) sNil)) (sNew sNil)) (gNm 19))
    (sSeq (sFor 100000 (sSeqI (sVar 2)) (gTp 4 (gsCons (gNm 5) (gsCons (gNm 6) (gsCons (gNm 7) (gsCons (gNm 8) gsNil)))))
    (sSeq (sAsg (sOp hIx (sVar 4) (sVar 5)) (gTp 2 (gsCons (gNm 10) (gsCons (gNm 11) gsNil))))
    (sSeq (sAsg (sVar 3) (gTp 2 (gsCons (gNm 14) (gsCons (gNm 15) gsNil))))
    (sIf (sAndT (sTest (sOp hEq (sVar 6) (sVar 18))) (sTest (sOp hEq (sCall f__law_lowest (sCons (sOp hSub (sOp hMul (sOp hAdd (sVar 10) (sOp hMul (sVar 7) (sVar 11))) (sVar 15)) (sOp hMul (sOp hMul (sVar 8) (sVar 14)) (sVar 11))) (sCons (sOp hMul (sVar 11) (sVar 15)) sNil))) (sTup (sCons (sVar 12) (sCons (sVar 13) sNil)))))) (sDrop (sMt qLst mApp (sVar 19) (sCons (sC (.int 1)) sNil))) sSkip))))
    (sIf (sOrT (sTest (sOp hLt (sVar 12) (sC (.int 0)))) (sTest (sOp hEq (sVar 19) (sLst sNil)))) (sRet (sC (.bl false))) sSkip)))))
    (sRet (sC (.bl true)))))))
def f__law_rounds_right : Fn := mkFn 4 20 b__law_rounds_right
theorem ar__law_rounds_right : Arity 4 f__law_rounds_right := mkFn_ar _ _ _
def b__law_right : SS := (sSeq (sAsg (sOp hAdd (sC (.int 1)) (sCall f__law_ladle (sCons (sVar 0) (sCons (sC (.int 4)) sNil)))) (gNm 1))
    (sSeq (sAsg (sCall f__law_edges (sCons (sVar 0) (sCons (sVar 1) (sCons (sC (.int 6)) sNil)))) (gNm 2))
    (sSeq (sAsg (sTup (sCons (sCall f_least_period (sCons (sVar 1) (sCons (sVar 2) sNil))) (sCons (sOp hAdd (sC (.int 1)) (sCall f__law_ladle (sCons (sVar 0) (sCons (sC (.int 3)) sNil)))) sNil))) (gTp 2 (gsCons (gNm 3) (gsCons (gNm 4) gsNil))))
    (sSeq (sAsg (sFn hTuple (sCons (sLc [15, 16, 14, 18] (sSeqI (sVar 2)) (gTp 4 (gsCons (gNm 15) (gsCons (gNm 16) (gsCons (gNm 14) (gsCons (gNm 18) gsNil))))) sTrue (sTup (sCons (sVar 15) (sCons (sVar 16) (sCons (sOp hMul (sVar 14) (sVar 4)) (sCons (sVar 18) sNil)))))) sNil)) (gNm 5))
    (sSeq (sIf (sTest (sOp hNe (sCall f_least_period (sCons (sVar 1) (sCons (sVar 5) sNil))) (sCall f__law_times (sCons (sVar 3) (sCons (sVar 4) sNil))))) (sRet (sC (.bl false))) sSkip)
    (sSeq (sAsg (sFn hTuple (sCons (sLc [15, 16, 14, 18] (sSeqI (sVar 2)) (gTp 4 (gsCons (gNm 15) (gsCons (gNm 16) (gsCons (gNm 14) (gsCons (gNm 18) gsNil))))) sTrue (sTup (sCons (sVar 15) (sCons (sVar 16) (sCons (sVar 14) (sCons (sOp hMul (sVar 18) (sVar 4)) sNil)))))) sNil)) (gNm 6))
    (sSeq (sIf (sTest (sOp hNe (sCall f_least_period (sCons (sVar 1) (sCons (sVar 6) sNil))) (sIfE (sTest (sOp hIs (sVar 3) (sC .non))) (sC .non) (sCall f__law_lowest (sCons (sOp hIx (sVar 3) (sC (.int 0))) (sCons (sOp hMul (sOp hIx (sVar 3) (sC (.int 1))) (sVar 4)) sNil)))))) (sRet (sC (.bl false))) sSkip)
    (sSeq (sAsg (sFn hTuple (sCons (sLc [15, 16, 14, 18] (sSeqI (sVar 2)) (gTp 4 (gsCons (gNm 15) (gsCons (gNm 16) (gsCons (gNm 14) (gsCons (gNm 18) gsNil))))) sTrue (sTup (sCons (sVar 16) (sCons (sVar 15) (sCons (sVar 14) (sCons (sVar 18) sNil)))))) sNil)) (gNm 7))
    (sSeq (sIf (sOrT (sTest (sOp hNe (sCall f_least_period (sCons (sVar 1) (sCons (sVar 7) sNil))) (sVar 3))) (sTest (sOp hNe (sCall f_least_period (sCons (sVar 1) (sCons (sUn hRevT (sVar 2)) sNil))) (sVar 3)))) (sRet (sC (.bl false))) sSkip)
    (sSeq (sAsg (sFn hTuple (sCons (sLc [15, 16, 14, 18] (sSeqI (sVar 2)) (gTp 4 (gsCons (gNm 15) (gsCons (gNm 16) (gsCons (gNm 14) (gsCons (gNm 18) gsNil))))) sTrue (sTup (sCons (sOp hSub (sOp hSub (sVar 1) (sC (.int 1))) (sVar 15)) (sCons (sOp hSub (sOp hSub (sVar 1) (sC (.int 1))) (sVar 16)) (sCons (sVar 14) (sCons (sVar 18) sNil)))))) sNil)) (gNm 8))
    (sSeq (sIf (sOrT (sTest (sOp hNe (sCall f_least_period (sCons (sVar 1) (sCons (sVar 8) sNil))) (sVar 3))) (sTest (sOp hNe (sCall f_least_period (sCons (sOp hAdd (sVar 1) (sC (.int 1))) (sCons (sVar 2) sNil))) (sVar 3)))) (sRet (sC (.bl false))) sSkip)
    (sSeq (sFor 100000 (sRng1 (sCons (sFn hLen (sCons (sVar 2) sNil)) sNil)) (gNm 9)
    (sIf (sTest (sCall f__law_over (sCons (sCall f_least_period (sCons (sVar 1) (sCons (sOp hAdd (sCut (sVar 2) sNoPart (sPart (sVar 9))) (sCut (sVar 2) (sPart (sOp hAdd (sVar 9) (sC (.int 1)))) sNoPart)) sNil))) (sCons (sVar 3) sNil)))) (sRet (sC (.bl false))) sSkip))
    (sSeq (sIf (sTest (sOp hIs (sVar 3) (sC .non))) (sRet (sC (.bl true))) sSkip)
    (sSeq (sAsg (sCall f_least_integer_period (sCons (sVar 1) (sCons (sVar 2) sNil))) (gNm 10))
    (sSeq (sAsg (sCall f_first_begins (sCons (sVar 1) (sCons (sVar 2) (sCons (sTup (sCons (sVar 10) (sCons (sC (.int 1)) sNil))) sNil)))) (gNm 11))
    (sSeq (sIf (sOrT (sTest (sOp hIs (sVar 11) (sC .non))) (sTest (sOp hNe (sLc [17, 13] (sSeqI (sVar 11)) (gTp 2 (gsCons (gNm 17) (gsCons (gNm 13) gsNil))) (sTest (sOp hNe (sVar 13) (sC (.int 1)))) (sC (.int 1))) (sLst sNil)))) (sRet (sC (.bl false))) sSkip)
    (sSeq (sIf (sAndT (sTest (sOp hGt (sVar 10) (sC (.int 0)))) (sTest (sOp hNotIs (sCall f_first_begins (sCons (sVar 1) (sCons (sVar 2) (sCons (sTup (sCons (sOp hSub (sVar 10) (sC (.int 1))) (sCons (sC (.int 1)) sNil))) sNil)))) (sC .non)))) (sRet (sC (.bl false))) sSkip)
    (sSeq (sAsg (sFn hTuple (sCons (sLc [17, 13] (sSeqI (sVar 11)) (gTp 2 (gsCons (gNm 17) (gsCons (gNm 13) gsNil))) sTrue (sTup (sCons (sOp hAdd (sVar 17) (sC (.int 2))) (sCons (sC (.int 1)) sNil)))) sNil)) (gNm 12))
    (sSeq (sIf (sTest (sOp hNotIs (sCall f_is_begins (sCons (sVar 1) (sCons (sVar 2) (sCons (sTup (sCons (sVar 10) (sCons (sC (.int 1)) sNil))) (sCons (sVar 12) sNil))))) (sC (.bl true)))) (sRet (sC (.bl false))) sSkip)
    (sRet (sAndV (sCall f__law_rounds_right (sCons (sVar 0) (sCons (sVar 1) (sCons (sVar 2) (sCons (sVar 3) sNil))))) (sCall f__law_rounds_right (sCons (sVar 0) (sCons (sVar 1) (sCons (sVar 2) (sCons (sTup (sCons (sOp hAdd (sVar 10) (sC (.int 1))) (sCons (sC (.int 1)) sNil))) sNil))))))))))))))))))))))))))
def f__law_right : Fn := mkFn 1 19 b__law_right
theorem ar__law_right : Arity 1 f__law_right := mkFn_ar _ _ _
def b_law : SS := (sSeq (sFor 100000 (sRng1 (sCons (sFn hMax2 (sCons (sC (.int 1)) (sCons (sFn hMin2 (sCons (sC (.int 3)) (sCons (sFn hLen (sCons (sVar 0) sNil)) sNil))) sNil))) sNil)) (gNm 1)
    (sSeq (sAsg (sCall f__law_crock (sCons (sVar 0) (sCons (sVar 1) sNil))) (gNm 2))
    (sFor 100000 (sRng1 (sCons (sC (.int 4)) sNil)) (gNm 3)
    (sIf (sNotT (sTest (sCall f__law_right (sCons (sVar 2) sNil)))) (sRet (sC (.bl false))) sSkip))))
    (sSeq (sAsg (sTup (sCons (sTup (sCons (sC (.int 0)) (sCons (sC (.int 1)) (sCons (sC (.int 2)) (sCons (sC (.int 1)) sNil))))) (sCons (sTup (sCons (sC (.int 1)) (sCons (sC (.int 2)) (sCons (sC (.int 2)) (sCons (sC (.int 1)) sNil))))) (sCons (sTup (sCons (sC (.int 2)) (sCons (sC (.int 0)) (sCons (sC (.int 3)) (sCons (sC (.int 0)) sNil))))) (sCons (sTup (sCons (sC (.int 2)) (sCons (sC (.int 2)) (sCons (sC (.int 3)) (sCons (sC (.int 1)) sNil))))) sNil))))) (gNm 4))
    (sRet (sAndV (sOp hEq (sCall f_least_period (sCons (sC (.int 3)) (sCons (sVar 4) sNil))) (sTup (sCons (sC (.int 7)) (sCons (sC (.int 2)) sNil)))) (sOp hEq (sCall f_least_period (sCons (sC (.int 3)) (sCons (sTup (sCons (sTup (sCons (sC (.int 0)) (sCons (sC (.int 1)) (sCons (sC (.int 7)) (sCons (sC (.int 0)) sNil))))) (sCons (sTup (sCons (sC (.int 1)) (sCons (sC (.int 2)) (sCons (sC (.int 9)) (sCons (sC (.int 0)) sNil))))) sNil))) sNil))) (sTup (sCons (sC (.int 0)) (sCons (sC (.int 1)) sNil))))))))
def f_law : Fn := mkP 1 5 b_law
theorem ar_law : Arity 1 f_law := mkP_ar _ _ _
end Y

set_option maxHeartbeats 2000000
namespace Y
open PySem PySem.Spec PyProof.Rows L2 Rd

/-! ### running: small lemmas -/
theorem mkP_ok {np n : Nat} {g : SS} {ds : List D} {S S' : Store} {d d' : D} (hl : ds.length = np) (hr : D.noRefs ds = true) (hg : g (ds.map some ++ List.replicate (n - ds.length) none) [] = .ok (.ret d) S') (hf : fz 60 S' d = some d') : mkP np n g ds S = .ok d' S := by
  unfold mkP runP
  rw [if_pos ⟨hl, hr⟩, hg]
  dsimp only
  rw [hf]
theorem hAdd_int {S : Store} {i j : Int} : hAdd S (.int i) (.int j) = some (.int (i + j)) := rfl
theorem hSub_int {S : Store} {i j : Int} : hSub S (.int i) (.int j) = some (.int (i - j)) := rfl
theorem hNeg_int {S : Store} {i : Int} : hNeg S (.int i) = some (.int (-i)) := rfl
theorem hInt_int {S : Store} {i : Int} : hInt S [.int i] = some (.int i) := rfl
theorem hInt_bl {S : Store} {b : Bool} : hInt S [.bl b] = some (.int (if b then 1 else 0)) := rfl
theorem hAbs_int {S : Store} {i : Int} : hAbs S [.int i] = some (.int (if i < 0 then -i else i)) := rfl
theorem hMax2_int {S : Store} {i j : Int} : hMax2 S [.int i, .int j] = some (.int (if j > i then j else i)) := rfl
theorem hMin2_int {S : Store} {i j : Int} : hMin2 S [.int i, .int j] = some (.int (if j < i then j else i)) := rfl
theorem hGt_int {S : Store} {i j : Int} : hGt S (.int i) (.int j) = some (.bl (decide (j < i))) := rfl
theorem hLt_int {S : Store} {i j : Int} : hLt S (.int i) (.int j) = some (.bl (decide (i < j))) := rfl
theorem hLe_int {S : Store} {i j : Int} : hLe S (.int i) (.int j) = some (.bl (decide (i ≤ j))) := rfl
theorem hGe_int {S : Store} {i j : Int} : hGe S (.int i) (.int j) = some (.bl (decide (j ≤ i))) := rfl
theorem hIx_t0 {S : Store} {a : D} {xs : List D} : hIx S (.tup (a :: xs)) (.int 0) = some a := by
  simp [hIx, dictOf, itemsOf, atI, ixN]
theorem hIx_t1 {S : Store} {a b : D} {xs : List D} : hIx S (.tup (a :: b :: xs)) (.int 1) = some b := by
  simp only [hIx, dictOf, itemsOf, atI, ixN, List.length_cons, Option.bind_some]
  rw [if_pos (by decide), if_pos (by omega)]
  rfl
theorem hIx_t2 {S : Store} {a b c : D} {xs : List D} : hIx S (.tup (a :: b :: c :: xs)) (.int 2) = some c := by
  simp only [hIx, dictOf, itemsOf, atI, ixN, List.length_cons, Option.bind_some]
  rw [if_pos (by decide), if_pos (by omega)]
  rfl
theorem hIx_t3 {S : Store} {a b c d : D} {xs : List D} : hIx S (.tup (a :: b :: c :: d :: xs)) (.int 3) = some d := by
  simp only [hIx, dictOf, itemsOf, atI, ixN, List.length_cons, Option.bind_some]
  rw [if_pos (by decide), if_pos (by omega)]
  rfl
/-- of moderate size -/
def Mod (i : Int) : Prop := i.natAbs < 2 ^ 1000
theorem Mod.big {i : Int} (h : Mod i) : i.natAbs < big := Nat.lt_trans h (by rw [big_eq]; decide +kernel)
theorem mul_ok {S : Store} {i j : Int} (hi : Mod i) (hj : Mod j) : hMul S (.int i) (.int j) = some (.int (i * j)) := by
  simp only [hMul]
  rw [if_pos ⟨hi.big, hj.big⟩]
theorem mod_ok {S : Store} {i j : Int} (hj : 0 < j) : hMod S (.int i) (.int j) = some (.int (i % j)) := by
  simp only [hMod]
  rw [if_pos hj]
theorem fdiv_ok {S : Store} {i j : Int} (hj : 0 < j) (h : Mod j) : hFdiv S (.int i) (.int j) = some (.int (i / j)) := by
  simp only [hFdiv]
  rw [if_pos ⟨hj, h.big⟩]
theorem Mod.of {i : Int} {n : Nat} (h1 : -(n : Int) ≤ i) (h2 : i ≤ n) (hn : n < 2 ^ 1000 := by decide +kernel) : Mod i := by unfold Mod; omega

/-! ### fractions -/
abbrev dP (p : Int × Int) : D := .tup [.int p.1, .int p.2]
theorem gcd_loop : ∀ (k b n : Nat) (S : Store), b < 2 ^ k → 2 * k < n → ∀ a : Nat, wloop (sTest (sOp hGt (sVar 1) (sC (.int 0)))) (sPar 0 1 (sCons (sVar 1) (sCons (sOp hMod (sVar 0) (sVar 1)) sNil))) n [some (.int (a : Nat)), some (.int (b : Nat))] S = .ok (.nx [some (.int (Nat.gcd a b)), some (.int 0)]) S := by
  intro k
  induction k with
  | zero =>
    intro b n S hb hn a
    obtain ⟨n, rfl⟩ : ∃ m, n = m + 1 := ⟨n - 1, by omega⟩
    have : b = 0 := by omega
    subst this
    unfold wloop
    simp [sTest, sOp, sVar, sC, Res.bind, ofO, hCmp]
  | succ k ih =>
    intro b n S hb hn a
    obtain ⟨n, rfl⟩ : ∃ m, n = m + 2 := ⟨n - 2, by omega⟩
    unfold wloop
    by_cases h0 : b = 0
    · subst h0
      simp [sTest, sOp, sVar, sC, Res.bind, ofO, hCmp]
    · have hp : (0 : Int) < (b : Int) := by omega
      simp only [sSeq, sAsg, sIf, sIfE, sTest, sOp, sUn, sFn, sVar, sC, sCons, sNil, sTup, sLst, sNew, sNewD, sDict0, sCall, sRet, sRetN, sDrop, sPar, sPar3, sSkip, gNm, gTp, gsNil, gsCons, gSb, sAndT, sOrT, sNotT, sAndV, sOrV, sNotV, sChain, sTrue, Res.bind, Res.np, ofO, ofI, ofM, sMt, hAdd_int, hSub_int, hNeg_int, isB, hIs, hNotIs, List.getElem?_cons_zero, List.getElem?_cons_succ, List.set_cons_zero, List.set_cons_succ, if_true, if_false, decide_true, decide_false, Option.map_some, Option.map_none, Option.bind_some, Option.bind_none, Bool.false_eq_true, Bool.not_true, Bool.not_false, reduceIte, reduceCtorEq, List.length_cons, List.length_nil, List.map_cons, List.map_nil, List.replicate_zero, List.replicate_succ, Nat.reduceAdd, Nat.reduceSub, Nat.zero_add, Nat.add_zero, Nat.sub_self, List.cons_append, List.nil_append, Bool.true_and, Bool.and_true, Bool.and_false, Bool.false_and, Nat.reduceLeDiff, Nat.reduceEqDiff, forS_v, forS_c, hInt_int, hInt_bl, hAbs_int, hMax2_int, hMin2_int, hGt_int, hLt_int, hLe_int, hGe_int, hIx_t0, hIx_t1, hIx_t2, hIx_t3, mul_ok, mod_ok, fdiv_ok, hp, mod_ok hp]
      unfold wloop
      rw [show ((a : Int) % (b : Int)) = ((a % b : Nat) : Int) from rfl]
      by_cases h1 : a % b = 0
      · rw [h1]
        simp [sTest, sOp, sVar, sC, Res.bind, ofO, hCmp]
        rw [Nat.gcd_eq_right (Nat.dvd_of_mod_eq_zero h1)]
      · have hp1 : (0 : Int) < ((a % b : Nat) : Int) := by omega
        simp only [sSeq, sAsg, sIf, sIfE, sTest, sOp, sUn, sFn, sVar, sC, sCons, sNil, sTup, sLst, sNew, sNewD, sDict0, sCall, sRet, sRetN, sDrop, sPar, sPar3, sSkip, gNm, gTp, gsNil, gsCons, gSb, sAndT, sOrT, sNotT, sAndV, sOrV, sNotV, sChain, sTrue, Res.bind, Res.np, ofO, ofI, ofM, sMt, hAdd_int, hSub_int, hNeg_int, isB, hIs, hNotIs, List.getElem?_cons_zero, List.getElem?_cons_succ, List.set_cons_zero, List.set_cons_succ, if_true, if_false, decide_true, decide_false, Option.map_some, Option.map_none, Option.bind_some, Option.bind_none, Bool.false_eq_true, Bool.not_true, Bool.not_false, reduceIte, reduceCtorEq, List.length_cons, List.length_nil, List.map_cons, List.map_nil, List.replicate_zero, List.replicate_succ, Nat.reduceAdd, Nat.reduceSub, Nat.zero_add, Nat.add_zero, Nat.sub_self, List.cons_append, List.nil_append, Bool.true_and, Bool.and_true, Bool.and_false, Bool.false_and, Nat.reduceLeDiff, Nat.reduceEqDiff, forS_v, forS_c, hInt_int, hInt_bl, hAbs_int, hMax2_int, hMin2_int, hGt_int, hLt_int, hLe_int, hGe_int, hIx_t0, hIx_t1, hIx_t2, hIx_t3, mul_ok, mod_ok, fdiv_ok, hp1, mod_ok hp1]
        rw [show ((b : Int) % ((a % b : Nat) : Int)) = ((b % (a % b) : Nat) : Int) from rfl]
        have hlt : a % b < b := Nat.mod_lt _ (by omega)
        have hm : b % (a % b) < 2 ^ k := by
          have h2 : b % (a % b) < a % b := Nat.mod_lt _ (by omega)
          have h3 : b = a % b * (b / (a % b)) + b % (a % b) := (Nat.div_add_mod b (a % b)).symm
          have h4 : 1 ≤ b / (a % b) := (Nat.le_div_iff_mul_le (by omega)).mpr (by omega)
          have h5 : a % b * 1 ≤ a % b * (b / (a % b)) := Nat.mul_le_mul_left _ h4
          rw [Nat.pow_succ] at hb
          omega
        rw [ih _ _ S hm (by omega)]
        rw [show Nat.gcd (a % b) (b % (a % b)) = Nat.gcd a b by rw [Nat.gcd_comm (a % b), ← Nat.gcd_rec, ← Nat.gcd_rec, Nat.gcd_comm]]
theorem shared_ok {S : Store} {a b : Int} (hb : Mod b) : f_shared_of [.int a, .int b] S = .ok (.int (Int.gcd a b)) S := by
  refine mkP_ok rfl rfl (S' := []) (d := .int (Int.gcd a b)) ?_ rfl
  have e1 : ∀ i : Int, (if i < 0 then -i else i) = (i.natAbs : Int) := fun i => by split <;> omega
  simp only [b_shared_of, sWhile, sSeq, sAsg, sIf, sIfE, sTest, sOp, sUn, sFn, sVar, sC, sCons, sNil, sTup, sLst, sNew, sNewD, sDict0, sCall, sRet, sRetN, sDrop, sPar, sPar3, sSkip, gNm, gTp, gsNil, gsCons, gSb, sAndT, sOrT, sNotT, sAndV, sOrV, sNotV, sChain, sTrue, Res.bind, Res.np, ofO, ofI, ofM, sMt, hAdd_int, hSub_int, hNeg_int, isB, hIs, hNotIs, List.getElem?_cons_zero, List.getElem?_cons_succ, List.set_cons_zero, List.set_cons_succ, if_true, if_false, decide_true, decide_false, Option.map_some, Option.map_none, Option.bind_some, Option.bind_none, Bool.false_eq_true, Bool.not_true, Bool.not_false, reduceIte, reduceCtorEq, List.length_cons, List.length_nil, List.map_cons, List.map_nil, List.replicate_zero, List.replicate_succ, Nat.reduceAdd, Nat.reduceSub, Nat.zero_add, Nat.add_zero, Nat.sub_self, List.cons_append, List.nil_append, Bool.true_and, Bool.and_true, Bool.and_false, Bool.false_and, Nat.reduceLeDiff, Nat.reduceEqDiff, forS_v, forS_c, hInt_int, hInt_bl, hAbs_int, hMax2_int, hMin2_int, hGt_int, hLt_int, hLe_int, hGe_int, hIx_t0, hIx_t1, hIx_t2, hIx_t3, mul_ok, mod_ok, fdiv_ok, e1]
  rw [gcd_loop 1000 b.natAbs 4000 [] hb (by omega)]
  simp only [sSeq, sAsg, sIf, sIfE, sTest, sOp, sUn, sFn, sVar, sC, sCons, sNil, sTup, sLst, sNew, sNewD, sDict0, sCall, sRet, sRetN, sDrop, sPar, sPar3, sSkip, gNm, gTp, gsNil, gsCons, gSb, sAndT, sOrT, sNotT, sAndV, sOrV, sNotV, sChain, sTrue, Res.bind, Res.np, ofO, ofI, ofM, sMt, hAdd_int, hSub_int, hNeg_int, isB, hIs, hNotIs, List.getElem?_cons_zero, List.getElem?_cons_succ, List.set_cons_zero, List.set_cons_succ, if_true, if_false, decide_true, decide_false, Option.map_some, Option.map_none, Option.bind_some, Option.bind_none, Bool.false_eq_true, Bool.not_true, Bool.not_false, reduceIte, reduceCtorEq, List.length_cons, List.length_nil, List.map_cons, List.map_nil, List.replicate_zero, List.replicate_succ, Nat.reduceAdd, Nat.reduceSub, Nat.zero_add, Nat.add_zero, Nat.sub_self, List.cons_append, List.nil_append, Bool.true_and, Bool.and_true, Bool.and_false, Bool.false_and, Nat.reduceLeDiff, Nat.reduceEqDiff, forS_v, forS_c, hInt_int, hInt_bl, hAbs_int, hMax2_int, hMin2_int, hGt_int, hLt_int, hLe_int, hGe_int, hIx_t0, hIx_t1, hIx_t2, hIx_t3, mul_ok, mod_ok, fdiv_ok]
  rfl
theorem gcd_pos {t b : Int} (hb : 0 < b) : (0 : Int) < (Int.gcd t b : Int) := by
  have : 0 < Int.gcd t b := Int.gcd_pos_of_ne_zero_right t (by omega)
  omega
theorem gcd_le {t b : Int} (hb : 0 < b) : (Int.gcd t b : Int) ≤ b := Int.le_of_dvd hb (Int.gcd_dvd_right t b)
theorem lowest_ok {S : Store} {t b : Int} (hb : 0 < b) (h : Mod b) : f_lowest [.int t, .int b] S = .ok (dP (low t b)) S := by
  refine mkP_ok rfl rfl (S' := []) (d := dP (low t b)) ?_ rfl
  have g0 := gcd_pos (t := t) hb
  have g1 : Mod (Int.gcd t b : Int) := by
    have := gcd_le (t := t) hb
    unfold Mod at h ⊢
    omega
  simp only [b_lowest, sSeq, sAsg, sIf, sIfE, sTest, sOp, sUn, sFn, sVar, sC, sCons, sNil, sTup, sLst, sNew, sNewD, sDict0, sCall, sRet, sRetN, sDrop, sPar, sPar3, sSkip, gNm, gTp, gsNil, gsCons, gSb, sAndT, sOrT, sNotT, sAndV, sOrV, sNotV, sChain, sTrue, Res.bind, Res.np, ofO, ofI, ofM, sMt, hAdd_int, hSub_int, hNeg_int, isB, hIs, hNotIs, List.getElem?_cons_zero, List.getElem?_cons_succ, List.set_cons_zero, List.set_cons_succ, if_true, if_false, decide_true, decide_false, Option.map_some, Option.map_none, Option.bind_some, Option.bind_none, Bool.false_eq_true, Bool.not_true, Bool.not_false, reduceIte, reduceCtorEq, List.length_cons, List.length_nil, List.map_cons, List.map_nil, List.replicate_zero, List.replicate_succ, Nat.reduceAdd, Nat.reduceSub, Nat.zero_add, Nat.add_zero, Nat.sub_self, List.cons_append, List.nil_append, Bool.true_and, Bool.and_true, Bool.and_false, Bool.false_and, Nat.reduceLeDiff, Nat.reduceEqDiff, forS_v, forS_c, hInt_int, hInt_bl, hAbs_int, hMax2_int, hMin2_int, hGt_int, hLt_int, hLe_int, hGe_int, hIx_t0, hIx_t1, hIx_t2, hIx_t3, mul_ok, mod_ok, fdiv_ok, hb, shared_ok h, fdiv_ok g0 g1]
  rfl
end Y

set_option maxHeartbeats 2000000
namespace Y
open PySem PySem.Spec PyProof.Rows L2 Rd

/-! ### edges, heights, tables as data -/
abbrev dE (e : Ed) : D := .tup [.int (e.s : Nat), .int (e.t : Nat), .int e.l, .int e.k]
abbrev dEs (es : List Ed) : D := .tup (es.map dE)
abbrev cH (h : List Int) : Cell := .lst (h.map .int)
abbrev cW (w : List (Nat × Nat)) : Cell := .dict (w.map fun p => .inl (p.1 : Int)) (w.map fun p => .int (p.2 : Int))
structure Val (many : Nat) (es : List Ed) : Prop where
  m0 : 1 ≤ many
  m1 : many ≤ 8
  len : es.length ≤ 20
  ed : ∀ e ∈ es, e.s < many ∧ e.t < many
  lk : ∀ e ∈ es, 0 ≤ e.l ∧ e.l ≤ 99 ∧ 0 ≤ e.k ∧ e.k ≤ 9
/-- a period that is looked at -/
structure PB (P : Int × Int) : Prop where
  p0 : 0 ≤ P.1
  p1 : P.1 < 2 ^ 200
  q0 : 0 < P.2
  q1 : P.2 < 2 ^ 200
theorem PB.mp {P : Int × Int} (h : PB P) : Mod P.1 := by
  have := h.p0; have := h.p1
  have e : (2 : Nat) ^ 200 < 2 ^ 1000 := by decide +kernel
  have e2 : ((2 : Int) ^ 200) = ((2 ^ 200 : Nat) : Int) := by decide +kernel
  unfold Mod; omega
theorem PB.mq {P : Int × Int} (h : PB P) : Mod P.2 := by
  have := h.q0; have := h.q1
  have e : (2 : Nat) ^ 200 < 2 ^ 1000 := by decide +kernel
  have e2 : ((2 : Int) ^ 200) = ((2 ^ 200 : Nat) : Int) := by decide +kernel
  unfold Mod; omega
theorem atI_nat' {α : Type} {xs : List α} {i : Nat} {x : α} (h : xs[i]? = some x) : atI xs (i : Int) = some x := atI_nat h
theorem hIx_tupN {S : Store} {xs : List D} {i : Nat} {d : D} (h : xs[i]? = some d) : hIx S (.tup xs) (.int (i : Int)) = some d := by
  simp only [hIx, dictOf, itemsOf, Option.bind_some]
  exact atI_nat' h
theorem hIx_lstN {S : Store} {xs : List D} {i : Nat} {d : D} (h : xs[i]? = some d) : hIx S (.lst xs) (.int (i : Int)) = some d := by
  simp only [hIx, dictOf, itemsOf, Option.bind_some]
  exact atI_nat' h
theorem hIx_refN {S : Store} {c : Nat} {xs : List D} {i : Nat} {d : D} (hS : S[c]? = some (.lst xs)) (h : xs[i]? = some d) : hIx S (.ref c) (.int (i : Int)) = some d := by
  simp only [hIx, dictOf, itemsOf, hS, Option.bind_some]
  exact atI_nat' h
theorem look_w {v : Nat} : ∀ w : List (Nat × Nat), look (.inl (v : Int)) (w.map fun p => .inl (p.1 : Int)) (w.map fun p => .int (p.2 : Int)) = (wAt w v).map fun i => .int (i : Int)
  | [] => rfl
  | (a, b) :: r => by
    have ih := look_w (v := v) r
    unfold wAt
    simp only [List.map_cons, look] at ih ⊢
    by_cases h : a = v
    · subst h
      simp
    · rw [if_neg h, ← ih]
      have : ¬ ((Sum.inl (a : Int) : Key) = Sum.inl (v : Int)) := by
        intro z
        have := Sum.inl.inj z
        omega
      simp [this]
theorem hIx_w {S : Store} {c : Nat} {w : List (Nat × Nat)} {v i : Nat} (hS : S[c]? = some (cW w)) (h : wAt w v = some i) : hIx S (.ref c) (.int (v : Int)) = some (.int (i : Int)) := by
  simp only [hIx, dictOf, hS, keyOf, Option.bind_some, look_w, h, Option.map_some]
theorem hIn_w {S : Store} {c : Nat} {w : List (Nat × Nat)} {v : Nat} (hS : S[c]? = some (cW w)) : hIn S (.int (v : Int)) (.ref c) = some (.bl (wAt w v).isSome) := by
  simp only [hIn, dictOf, hS, keyOf, Option.map_some, look_w, Option.isSome_map]
theorem hNotIn_w {S : Store} {c : Nat} {w : List (Nat × Nat)} {v : Nat} (hS : S[c]? = some (cW w)) : hNotIn S (.int (v : Int)) (.ref c) = some (.bl (!(wAt w v).isSome)) := by
  simp only [hNotIn, hIn_w hS, Option.bind_some]
theorem hSet_l {S : Store} {c : Nat} {xs : List D} {v : Nat} {d : D} (hS : S[c]? = some (.lst xs)) (hv : v < xs.length) : hSet S (.ref c) (.int (v : Int)) d = some (S.set c (.lst (xs.set v d))) := by
  simp only [hSet, hS]
  unfold ixN
  rw [if_pos (by omega), if_pos (by omega)]
  simp
theorem putD_w {v i : Nat} : ∀ w : List (Nat × Nat), putD (w.map fun p => .inl (p.1 : Int)) (w.map fun p => .int (p.2 : Int)) (.inl (v : Int)) (.int (i : Int)) = ((putW w v i).map (fun p => .inl (p.1 : Int)), (putW w v i).map fun p => .int (p.2 : Int))
  | [] => rfl
  | (a, b) :: r => by
    have ih := putD_w (v := v) (i := i) r
    unfold putW
    simp only [List.map_cons, putD]
    by_cases h : a = v
    · subst h
      simp
    · have : ¬ ((Sum.inl (a : Int) : Key) = Sum.inl (v : Int)) := by
        intro z
        have := Sum.inl.inj z
        omega
      rw [if_neg this, if_neg h, ih]
      simp
theorem hSet_w {S : Store} {c : Nat} {w : List (Nat × Nat)} {v i : Nat} (hS : S[c]? = some (cW w)) (nd : (w.map (·.1)).Nodup) (hl : w.length < 1000000) : hSet S (.ref c) (.int (v : Int)) (.int (i : Int)) = some (S.set c (cW (putW w v i))) := by
  simp only [hSet, hS, keyOf, Option.bind_some]
  rw [if_pos, putD_w]
  refine ⟨?_, by simpa using hl⟩
  have : (w.map fun p => (Sum.inl (p.1 : Int) : Key)) = (w.map (fun p : Nat × Nat => p.1)).map fun a : Nat => (Sum.inl (a : Int) : Key) := by rw [List.map_map]; rfl
  rw [this]
  exact List.Pairwise.map _ (fun a b h z => h (by have := Sum.inl.inj z; omega)) nd

/-! ### raised_once -/
theorem gain_ok {S : Store} {e : Ed} {P : Int × Int} (h0 : 0 ≤ e.l ∧ e.l ≤ 99 ∧ 0 ≤ e.k ∧ e.k ≤ 9) (hP : PB P) : f_gain_of [dE e, dP P] S = .ok (.int (gn P e)) S := by
  refine mkP_ok rfl rfl (S' := []) (d := .int (gn P e)) ?_ rfl
  have ml : Mod e.l := .of (n := 99) (by omega) (by omega)
  have mk : Mod e.k := .of (n := 9) (by omega) (by omega)
  simp only [b_gain_of, sSeq, sAsg, sIf, sIfE, sTest, sOp, sUn, sFn, sVar, sC, sCons, sNil, sTup, sLst, sNew, sNewD, sDict0, sCall, sRet, sRetN, sDrop, sPar, sPar3, sSkip, gNm, gTp, gsNil, gsCons, gSb, sAndT, sOrT, sNotT, sAndV, sOrV, sNotV, sChain, sTrue, Res.bind, Res.np, ofO, ofI, ofM, sMt, hAdd_int, hSub_int, hNeg_int, isB, hIs, hNotIs, List.getElem?_cons_zero, List.getElem?_cons_succ, List.set_cons_zero, List.set_cons_succ, if_true, if_false, decide_true, decide_false, Option.map_some, Option.map_none, Option.bind_some, Option.bind_none, Bool.false_eq_true, Bool.not_true, Bool.not_false, reduceIte, reduceCtorEq, List.length_cons, List.length_nil, List.map_cons, List.map_nil, List.replicate_zero, List.replicate_succ, Nat.reduceAdd, Nat.reduceSub, Nat.zero_add, Nat.add_zero, Nat.sub_self, List.cons_append, List.nil_append, Bool.true_and, Bool.and_true, Bool.and_false, Bool.false_and, Nat.reduceLeDiff, Nat.reduceEqDiff, forS_v, forS_c, hInt_int, hInt_bl, hAbs_int, hMax2_int, hMin2_int, hGt_int, hLt_int, hLe_int, hGe_int, hIx_t0, hIx_t1, hIx_t2, hIx_t3, mul_ok, mod_ok, fdiv_ok, mul_ok ml hP.mq, mul_ok mk hP.mp]
  rfl
abbrev tgE : SG := gTp 2 (gsCons (gNm 5) (gsCons (gNm 6) gsNil))
abbrev bdE : SS := (sSeq (sAsg (sOp hAdd (sOp hIx (sVar 2) (sOp hIx (sVar 6) (sC (.int 0)))) (sCall f_gain_of (sCons (sVar 6) (sCons (sVar 1) sNil)))) (gNm 7))
    (sIf (sTest (sOp hGt (sVar 7) (sOp hIx (sVar 2) (sOp hIx (sVar 6) (sC (.int 1)))))) (sSeq (sAsg (sTup (sCons (sVar 7) (sCons (sVar 5) sNil))) (gTp 2 (gsCons (gSb (sVar 2) (sOp hIx (sVar 6) (sC (.int 1)))) (gsCons (gSb (sVar 3) (sOp hIx (sVar 6) (sC (.int 1)))) gsNil))))
    (sAsg (sC (.bl true)) (gNm 4))) sSkip))
theorem h_get {h : List Int} {v : Nat} (hv : v < h.length) : (h.map D.int)[v]? = some (.int (hAt h v)) := by
  rw [List.getElem?_map, List.getElem?_eq_getElem hv]
  unfold hAt
  rw [List.getD_eq_getElem?_getD, List.getElem?_eq_getElem hv]
  rfl
theorem raised_loop {many : Nat} {P : Int × Int} (hP : PB P) {a0 : D} : ∀ (suf : List Ed) (j : Nat) (h : List Int) (w : List (Nat × Nat)) (f : Bool) (x5 x6 x7 : Option D), (∀ e ∈ suf, 0 ≤ e.l ∧ e.l ≤ 99 ∧ 0 ≤ e.k ∧ e.k ≤ 9) → (∀ e ∈ suf, e.s < many ∧ e.t < many) → h.length = many →
    (w.map (fun p : Nat × Nat => p.1)).Nodup → (∀ k ∈ w.map (fun p : Nat × Nat => p.1), k < many) → many ≤ 8 →
    ∃ y5 y6 y7, forV tgE bdE (enumD (j : Int) (suf.map dE)) [some a0, some (dP P), some (.ref 0), some (.ref 1), some (.bl f), x5, x6, x7] [cH h, cW w] =
      .ok (.nx [some a0, some (dP P), some (.ref 0), some (.ref 1), some (.bl (pass P j suf (h, w, f)).2.2), y5, y6, y7]) [cH (pass P j suf (h, w, f)).1, cW (pass P j suf (h, w, f)).2.1]
  | [], j, h, w, f, x5, x6, x7, _, _, _, _, _, _ => ⟨x5, x6, x7, rfl⟩
  | e :: suf, j, h, w, f, x5, x6, x7, hl, hb, hlen, nd, ks, hm => by
    have hb1 := hb e (by simp)
    have i1 : hIx [cH h, cW w] (.ref 0) (.int (e.s : Int)) = some (.int (hAt h e.s)) := hIx_refN rfl (h_get (by omega))
    have i2 : hIx [cH h, cW w] (.ref 0) (.int (e.t : Int)) = some (.int (hAt h e.t)) := hIx_refN rfl (h_get (by omega))
    have i3 : hSet [cH h, cW w] (.ref 0) (.int (e.t : Int)) (.int (hAt h e.s + gn P e)) = some [cH (h.set e.t (hAt h e.s + gn P e)), cW w] := by
      rw [hSet_l (xs := h.map .int) rfl (by simpa using (by omega : e.t < h.length))]
      simp [cH, List.map_set]
    have wl : w.length < 1000000 := by
      have := nodup_len nd (m := List.range many) fun a ha => List.mem_range.mpr (ks a ha)
      simp at this
      omega
    have i4 : ∀ h' : List Int, hSet [cH h', cW w] (.ref 1) (.int (e.t : Int)) (.int (j : Int)) = some [cH h', cW (putW w e.t j)] := fun h' => by
      rw [hSet_w (w := w) rfl nd wl]
      rfl
    have rec_ := fun h' w' f' y5 y6 y7 => raised_loop (a0 := a0) hP suf (j + 1) h' w' f' y5 y6 y7 (fun a ha => hl a (by simp [ha])) (fun a ha => hb a (by simp [ha]))
    rw [List.map_cons, enumD]
    unfold forV
    unfold pass relax
    by_cases hr : hAt h e.t < hAt h e.s + gn P e
    · simp only [sSeq, sAsg, sIf, sIfE, sTest, sOp, sUn, sFn, sVar, sC, sCons, sNil, sTup, sLst, sNew, sNewD, sDict0, sCall, sRet, sRetN, sDrop, sPar, sPar3, sSkip, gNm, gTp, gsNil, gsCons, gSb, sAndT, sOrT, sNotT, sAndV, sOrV, sNotV, sChain, sTrue, Res.bind, Res.np, ofO, ofI, ofM, sMt, hAdd_int, hSub_int, hNeg_int, isB, hIs, hNotIs, List.getElem?_cons_zero, List.getElem?_cons_succ, List.set_cons_zero, List.set_cons_succ, if_true, if_false, decide_true, decide_false, Option.map_some, Option.map_none, Option.bind_some, Option.bind_none, Bool.false_eq_true, Bool.not_true, Bool.not_false, reduceIte, reduceCtorEq, List.length_cons, List.length_nil, List.map_cons, List.map_nil, List.replicate_zero, List.replicate_succ, Nat.reduceAdd, Nat.reduceSub, Nat.zero_add, Nat.add_zero, Nat.sub_self, List.cons_append, List.nil_append, Bool.true_and, Bool.and_true, Bool.and_false, Bool.false_and, Nat.reduceLeDiff, Nat.reduceEqDiff, forS_v, forS_c, hInt_int, hInt_bl, hAbs_int, hMax2_int, hMin2_int, hGt_int, hLt_int, hLe_int, hGe_int, hIx_t0, hIx_t1, hIx_t2, hIx_t3, mul_ok, mod_ok, fdiv_ok, tgE, bdE, gain_ok (hl e (by simp)) hP, i1, i2, i3, i4, hr]
      have := rec_ (h.set e.t (hAt h e.s + gn P e)) (putW w e.t j) true (some (.int j)) (some (dE e)) (some (.int (hAt h e.s + gn P e))) (by rw [List.length_set]; exact hlen) (putW_nodup nd) (fun k hk => by
        rw [putW_keys] at hk
        split at hk
        · exact ks k hk
        · rcases List.mem_append.mp hk with hk | hk
          · exact ks k hk
          · rw [List.mem_singleton.mp hk]; exact hb1.2) hm
      exact this
    · simp only [sSeq, sAsg, sIf, sIfE, sTest, sOp, sUn, sFn, sVar, sC, sCons, sNil, sTup, sLst, sNew, sNewD, sDict0, sCall, sRet, sRetN, sDrop, sPar, sPar3, sSkip, gNm, gTp, gsNil, gsCons, gSb, sAndT, sOrT, sNotT, sAndV, sOrV, sNotV, sChain, sTrue, Res.bind, Res.np, ofO, ofI, ofM, sMt, hAdd_int, hSub_int, hNeg_int, isB, hIs, hNotIs, List.getElem?_cons_zero, List.getElem?_cons_succ, List.set_cons_zero, List.set_cons_succ, if_true, if_false, decide_true, decide_false, Option.map_some, Option.map_none, Option.bind_some, Option.bind_none, Bool.false_eq_true, Bool.not_true, Bool.not_false, reduceIte, reduceCtorEq, List.length_cons, List.length_nil, List.map_cons, List.map_nil, List.replicate_zero, List.replicate_succ, Nat.reduceAdd, Nat.reduceSub, Nat.zero_add, Nat.add_zero, Nat.sub_self, List.cons_append, List.nil_append, Bool.true_and, Bool.and_true, Bool.and_false, Bool.false_and, Nat.reduceLeDiff, Nat.reduceEqDiff, forS_v, forS_c, hInt_int, hInt_bl, hAbs_int, hMax2_int, hMin2_int, hGt_int, hLt_int, hLe_int, hGe_int, hIx_t0, hIx_t1, hIx_t2, hIx_t3, mul_ok, mod_ok, fdiv_ok, tgE, bdE, gain_ok (hl e (by simp)) hP, i1, i2, hr]
      exact rec_ h w f (some (.int j)) (some (dE e)) (some (.int (hAt h e.s + gn P e))) hlen nd ks hm
end Y

set_option maxHeartbeats 2000000
namespace Y
open PySem PySem.Spec PyProof.Rows L2 Rd
/-- a mutating def's run -/
theorem mkFn_ok {np n : Nat} {g : SS} {ds : List D} {S S' : Store} {d : D} (hl : ds.length = np) (hg : g (ds.map some ++ List.replicate (n - ds.length) none) S = .ok (.ret d) S') : mkFn np n g ds S = .ok d S' := by
  unfold mkFn
  rw [if_pos hl, hg]
  rfl
theorem mkFn_nx {np n : Nat} {g : SS} {ds : List D} {S S' : Store} {env : Env} (hl : ds.length = np) (hg : g (ds.map some ++ List.replicate (n - ds.length) none) S = .ok (.nx env) S') : mkFn np n g ds S = .ok .non S' := by
  unfold mkFn
  rw [if_pos hl, hg]
  rfl
theorem raised_ok {many : Nat} {es : List Ed} {P : Int × Int} {h : List Int} {w : List (Nat × Nat)} (V : Val many es) (hP : PB P) (F : Fit many es h w) :
    f_raised_once [dEs es, dP P, .ref 0, .ref 1] [cH h, cW w] = .ok (.bl (pass P 0 es (h, w, false)).2.2) [cH (pass P 0 es (h, w, false)).1, cW (pass P 0 es (h, w, false)).2.1] := by
  obtain ⟨y5, y6, y7, q⟩ := raised_loop hP (a0 := dEs es) es 0 h w false none none none V.lk V.ed F.len F.nd F.ks V.m1
  refine mkFn_ok rfl ?_
  simp only [b_raised_once, sFor, sEnum, enumOf, sSeq, sAsg, sIf, sIfE, sTest, sOp, sUn, sFn, sVar, sC, sCons, sNil, sTup, sLst, sNew, sNewD, sDict0, sCall, sRet, sRetN, sDrop, sPar, sPar3, sSkip, gNm, gTp, gsNil, gsCons, gSb, sAndT, sOrT, sNotT, sAndV, sOrV, sNotV, sChain, sTrue, Res.bind, Res.np, ofO, ofI, ofM, sMt, hAdd_int, hSub_int, hNeg_int, isB, hIs, hNotIs, List.getElem?_cons_zero, List.getElem?_cons_succ, List.set_cons_zero, List.set_cons_succ, if_true, if_false, decide_true, decide_false, Option.map_some, Option.map_none, Option.bind_some, Option.bind_none, Bool.false_eq_true, Bool.not_true, Bool.not_false, reduceIte, reduceCtorEq, List.length_cons, List.length_nil, List.map_cons, List.map_nil, List.replicate_zero, List.replicate_succ, Nat.reduceAdd, Nat.reduceSub, Nat.zero_add, Nat.add_zero, Nat.sub_self, List.cons_append, List.nil_append, Bool.true_and, Bool.and_true, Bool.and_false, Bool.false_and, Nat.reduceLeDiff, Nat.reduceEqDiff, forS_v, forS_c, hInt_int, hInt_bl, hAbs_int, hMax2_int, hMin2_int, hGt_int, hLt_int, hLe_int, hGe_int, hIx_t0, hIx_t1, hIx_t2, hIx_t3, mul_ok, mod_ok, fdiv_ok]
  have q' := q
  erw [q']
  simp only [sSeq, sAsg, sIf, sIfE, sTest, sOp, sUn, sFn, sVar, sC, sCons, sNil, sTup, sLst, sNew, sNewD, sDict0, sCall, sRet, sRetN, sDrop, sPar, sPar3, sSkip, gNm, gTp, gsNil, gsCons, gSb, sAndT, sOrT, sNotT, sAndV, sOrV, sNotV, sChain, sTrue, Res.bind, Res.np, ofO, ofI, ofM, sMt, hAdd_int, hSub_int, hNeg_int, isB, hIs, hNotIs, List.getElem?_cons_zero, List.getElem?_cons_succ, List.set_cons_zero, List.set_cons_succ, if_true, if_false, decide_true, decide_false, Option.map_some, Option.map_none, Option.bind_some, Option.bind_none, Bool.false_eq_true, Bool.not_true, Bool.not_false, reduceIte, reduceCtorEq, List.length_cons, List.length_nil, List.map_cons, List.map_nil, List.replicate_zero, List.replicate_succ, Nat.reduceAdd, Nat.reduceSub, Nat.zero_add, Nat.add_zero, Nat.sub_self, List.cons_append, List.nil_append, Bool.true_and, Bool.and_true, Bool.and_false, Bool.false_and, Nat.reduceLeDiff, Nat.reduceEqDiff, forS_v, forS_c, hInt_int, hInt_bl, hAbs_int, hMax2_int, hMin2_int, hGt_int, hLt_int, hLe_int, hGe_int, hIx_t0, hIx_t1, hIx_t2, hIx_t3, mul_ok, mod_ok, fdiv_ok]
/-! ### rings out of tables -/
theorem dEs_get {es : List Ed} {i : Nat} {e : Ed} {S : Store} (h : es[i]? = some e) : hIx S (dEs es) (.int (i : Int)) = some (dE e) := hIx_tupN (by rw [List.getElem?_map, h]; rfl)
abbrev natsD (xs : List Nat) : List D := xs.map fun k : Nat => D.int (k : Int)
abbrev cN (xs : List Nat) : Cell := .lst (natsD xs)
theorem eqF_nat (a b : Nat) : eqF (.int (a : Int)) (.int (b : Int)) = some (decide (a = b)) := by
  simp only [eqF]
  congr 1
  rw [decide_eq_decide]
  omega
theorem inF_nats (v : Nat) : ∀ xs : List Nat, inF (.int (v : Int)) (natsD xs) = some (decide (v ∈ xs))
  | [] => rfl
  | x :: xs => by
    have ih := inF_nats v xs
    simp only [natsD, List.map_cons, inF] at ih ⊢
    rw [ih, eqF_nat]
    by_cases h : x = v
    · simp [h]
    · simp [h, Ne.symm h]
theorem hNotIn_nats {S : Store} {c v : Nat} {xs : List Nat} (hS : S[c]? = some (cN xs)) : hNotIn S (.int (v : Int)) (.ref c) = some (.bl (!decide (v ∈ xs))) := by
  simp only [hNotIn, hIn, dictOf, hS, itemsOf, isFlat, if_true, inF_nats, Option.map_some, Option.bind_some]
theorem hIn_nats {S : Store} {c v : Nat} {xs : List Nat} (hS : S[c]? = some (cN xs)) : hIn S (.int (v : Int)) (.ref c) = some (.bl (decide (v ∈ xs))) := by
  simp only [hIn, dictOf, hS, itemsOf, isFlat, if_true, inF_nats, Option.map_some]
theorem mApp_l {S : Store} {c : Nat} {xs : List D} {d : D} (hS : S[c]? = some (.lst xs)) (hl : xs.length < 1000000) : mApp S (.ref c) [d] = some (.non, S.set c (.lst (xs ++ [d]))) := by
  simp only [mApp, cellL, hS, hl, if_true]
theorem qLst_l {S : Store} {c : Nat} {xs : List D} (hS : S[c]? = some (.lst xs)) : qLst S (.ref c) = true := by
  simp only [qLst, lstOf, hS]; rfl
theorem lstOf_l {S : Store} {c : Nat} {xs : List D} (hS : S[c]? = some (.lst xs)) : lstOf S (.ref c) = some xs := by
  simp only [lstOf, hS]
theorem idxF_nats {v : Nat} : ∀ {xs ys : List Nat}, v ∉ xs → idxF (.int (v : Int)) (natsD (xs ++ v :: ys)) = some xs.length
  | [], ys, _ => by simp [idxF, eqF_nat]
  | x :: xs, ys, h => by
    have h1 : ¬ x = v := fun z => h (by simp [z])
    have ih := idxF_nats (ys := ys) (fun z => h (List.mem_cons_of_mem _ z) : v ∉ xs)
    simp only [natsD, List.cons_append, List.map_cons, idxF, eqF_nat, h1, decide_false] at ih ⊢
    rw [ih]
    rfl
theorem flat_nats : ∀ xs : List Nat, (natsD xs).all isFlat = true
  | [] => rfl
  | _ :: xs => by simp only [natsD, List.map_cons, List.all_cons, isFlat, Bool.true_and]; exact flat_nats xs
theorem mIndex_nats {S : Store} {c v : Nat} {xs ys : List Nat} (hS : S[c]? = some (cN (xs ++ v :: ys))) (h : v ∉ xs) : mIndex S (.ref c) [.int (v : Int)] = some (.int (xs.length : Int), S) := by
  simp only [mIndex, lstOf, hS, isFlat, flat_nats, true_and, if_true, idxF_nats h]
  rfl
abbrev cdR : ST := (sTest (sOp hNotIn (sVar 2) (sVar 3)))
abbrev bdR : SS := (sSeq (sDrop (sMt qLst mApp (sVar 3) (sCons (sVar 2) sNil)))
    (sSeq (sDrop (sMt qLst mApp (sVar 4) (sCons (sOp hIx (sVar 1) (sVar 2)) sNil)))
    (sAsg (sOp hIx (sOp hIx (sVar 0) (sOp hIx (sVar 1) (sVar 2))) (sC (.int 0))) (gNm 2))))
theorem behind_loop {es : List Ed} {w : List (Nat × Nat)} {h : List Int} : ∀ (n v : Nat) (r r' : List (Nat × Nat)) (u m : Nat), rb es (wAt w) n v r = some (r', u) → n ≤ m → r.length + n ≤ 1000 →
    wloop cdR bdR m [some (dEs es), some (.ref 1), some (.int (v : Int)), some (.ref 2), some (.ref 3)] [cH h, cW w, cN (r.map (·.1)), cN (r.map (·.2))] =
      .ok (.nx [some (dEs es), some (.ref 1), some (.int (u : Int)), some (.ref 2), some (.ref 3)]) [cH h, cW w, cN (r'.map (·.1)), cN (r'.map (·.2))]
  | 0, v, r, r', u, m, hr, _, _ => by cases hr
  | n + 1, v, r, r', u, m, hr, hm, hl => by
    obtain ⟨m, rfl⟩ : ∃ k, m = k + 1 := ⟨m - 1, by omega⟩
    unfold rb at hr
    have i0 : hNotIn [cH h, cW w, cN (r.map (·.1)), cN (r.map (·.2))] (.int (v : Int)) (.ref 2) = some (.bl (!decide (v ∈ r.map (·.1)))) := hNotIn_nats rfl
    by_cases hv : v ∈ r.map (·.1)
    · rw [if_pos hv] at hr
      cases hr
      unfold wloop
      simp only [sSeq, sAsg, sIf, sIfE, sTest, sOp, sUn, sFn, sVar, sC, sCons, sNil, sTup, sLst, sNew, sNewD, sDict0, sCall, sRet, sRetN, sDrop, sPar, sPar3, sSkip, gNm, gTp, gsNil, gsCons, gSb, sAndT, sOrT, sNotT, sAndV, sOrV, sNotV, sChain, sTrue, Res.bind, Res.np, ofO, ofI, ofM, sMt, hAdd_int, hSub_int, hNeg_int, isB, hIs, hNotIs, List.getElem?_cons_zero, List.getElem?_cons_succ, List.set_cons_zero, List.set_cons_succ, if_true, if_false, decide_true, decide_false, Option.map_some, Option.map_none, Option.bind_some, Option.bind_none, Bool.false_eq_true, Bool.not_true, Bool.not_false, reduceIte, reduceCtorEq, List.length_cons, List.length_nil, List.map_cons, List.map_nil, List.replicate_zero, List.replicate_succ, Nat.reduceAdd, Nat.reduceSub, Nat.zero_add, Nat.add_zero, Nat.sub_self, List.cons_append, List.nil_append, Bool.true_and, Bool.and_true, Bool.and_false, Bool.false_and, Nat.reduceLeDiff, Nat.reduceEqDiff, forS_v, forS_c, hInt_int, hInt_bl, hAbs_int, hMax2_int, hMin2_int, hGt_int, hLt_int, hLe_int, hGe_int, hIx_t0, hIx_t1, hIx_t2, hIx_t3, mul_ok, mod_ok, fdiv_ok, cdR, i0, hv]
    · rw [if_neg hv] at hr
      cases hw : wAt w v with
      | none => rw [hw] at hr; cases hr
      | some i =>
        rw [hw] at hr
        dsimp only at hr
        cases he : es[i]? with
        | none => rw [he] at hr; cases hr
        | some e =>
          rw [he] at hr
          have ih := behind_loop (h := h) n e.s (r ++ [(v, i)]) r' u m hr (by omega) (by rw [List.length_append, List.length_singleton]; omega)
          unfold wloop
          have i1 : mApp [cH h, cW w, cN (r.map (·.1)), cN (r.map (·.2))] (.ref 2) [.int (v : Int)] = some (.non, [cH h, cW w, cN ((r ++ [(v, i)]).map (·.1)), cN (r.map (·.2))]) := by
            rw [mApp_l (xs := natsD (r.map (·.1))) rfl (by simp [natsD]; omega)]
            simp [cN, natsD]
          have i2 : mApp [cH h, cW w, cN ((r ++ [(v, i)]).map (·.1)), cN (r.map (·.2))] (.ref 3) [.int (i : Int)] = some (.non, [cH h, cW w, cN ((r ++ [(v, i)]).map (·.1)), cN ((r ++ [(v, i)]).map (·.2))]) := by
            rw [mApp_l (xs := natsD (r.map (·.2))) rfl (by simp [natsD]; omega)]
            simp [cN, natsD]
          have i3 : ∀ c2 c3, hIx [cH h, cW w, c2, c3] (.ref 1) (.int (v : Int)) = some (.int (i : Int)) := fun c2 c3 => hIx_w rfl hw
          have i4 : ∀ S : Store, hIx S (dEs es) (.int (i : Int)) = some (dE e) := fun S => dEs_get he
          have i5 : qLst [cH h, cW w, cN (r.map (·.1)), cN (r.map (·.2))] (.ref 2) = true := qLst_l rfl
          have i6 : qLst [cH h, cW w, cN ((r ++ [(v, i)]).map (·.1)), cN (r.map (·.2))] (.ref 3) = true := qLst_l rfl
          simp only [sSeq, sAsg, sIf, sIfE, sTest, sOp, sUn, sFn, sVar, sC, sCons, sNil, sTup, sLst, sNew, sNewD, sDict0, sCall, sRet, sRetN, sDrop, sPar, sPar3, sSkip, gNm, gTp, gsNil, gsCons, gSb, sAndT, sOrT, sNotT, sAndV, sOrV, sNotV, sChain, sTrue, Res.bind, Res.np, ofO, ofI, ofM, sMt, hAdd_int, hSub_int, hNeg_int, isB, hIs, hNotIs, List.getElem?_cons_zero, List.getElem?_cons_succ, List.set_cons_zero, List.set_cons_succ, if_true, if_false, decide_true, decide_false, Option.map_some, Option.map_none, Option.bind_some, Option.bind_none, Bool.false_eq_true, Bool.not_true, Bool.not_false, reduceIte, reduceCtorEq, List.length_cons, List.length_nil, List.map_cons, List.map_nil, List.replicate_zero, List.replicate_succ, Nat.reduceAdd, Nat.reduceSub, Nat.zero_add, Nat.add_zero, Nat.sub_self, List.cons_append, List.nil_append, Bool.true_and, Bool.and_true, Bool.and_false, Bool.false_and, Nat.reduceLeDiff, Nat.reduceEqDiff, forS_v, forS_c, hInt_int, hInt_bl, hAbs_int, hMax2_int, hMin2_int, hGt_int, hLt_int, hLe_int, hGe_int, hIx_t0, hIx_t1, hIx_t2, hIx_t3, mul_ok, mod_ok, fdiv_ok, cdR, bdR, i0, hv, i1, i2, i3, i4, i5, i6]
          exact ih
end Y

set_option maxHeartbeats 2000000
namespace Y
open PySem PySem.Spec PyProof.Rows L2 Rd
theorem cutD_from {xs : List D} {k : Nat} : cutD xs (some (k : Int)) none = xs.drop k := by
  unfold cutD
  rw [show HT.sIx xs.length 0 (some (k : Int)) = min k xs.length from HT.sIx_nat xs.length 0 k, HT.sIx_none]
  by_cases h : k ≤ xs.length
  · rw [Nat.min_eq_left h]
    exact List.take_of_length_le (by simp)
  · rw [Nat.min_eq_right (by omega), List.drop_of_length_le (Nat.le_refl _), List.drop_of_length_le (by omega)]
    simp
theorem hCut_from {S : Store} {c k : Nat} {xs : List D} (hS : S[c]? = some (.lst xs)) : hCut S (.ref c) (some (k : Int)) none = some (.lst (xs.drop k)) := by
  simp only [hCut, lstOf_l hS, Option.map_some, cutD_from]
theorem hTuple_l {S : Store} {xs : List D} : hTuple S [.lst xs] = some (.tup xs) := by
  simp only [hTuple, one1, lstOf, Option.map_some]
theorem hRev_l {S : Store} {xs : List D} : hRev S (.lst xs) = some (.lst xs.reverse) := by
  simp only [hRev, lstOf, Option.map_some]
theorem behind_ok {es : List Ed} {w : List (Nat × Nat)} {h : List Int} {v u i : Nat} {r1 r2 : List (Nat × Nat)} {n : Nat} (hr : rb es (wAt w) n v [] = some (r1 ++ (u, i) :: r2, u)) (hn : n ≤ 1000) (hu : u ∉ r1.map (fun p : Nat × Nat => p.1)) :
    ∃ S', f_ring_behind [dEs es, .ref 1, .int (v : Int)] [cH h, cW w] = .ok (.tup (natsD (((u, i) :: r2).map (fun p : Nat × Nat => p.2)).reverse)) S' := by
  have lp := behind_loop (h := h) n v [] _ u 4000 hr (by omega) (by simp; omega)
  have e1 : (r1 ++ (u, i) :: r2).map (fun p : Nat × Nat => p.1) = r1.map (fun p : Nat × Nat => p.1) ++ u :: r2.map (fun p : Nat × Nat => p.1) := by simp
  have e2 : (natsD ((r1 ++ (u, i) :: r2).map (fun p : Nat × Nat => p.2))).drop (r1.map (fun p : Nat × Nat => p.1)).length = natsD (((u, i) :: r2).map (fun p : Nat × Nat => p.2)) := by
    simp [natsD]
  have i1 : ∀ c0 c1 c3 : Cell, mIndex [c0, c1, cN ((r1 ++ (u, i) :: r2).map (fun p : Nat × Nat => p.1)), c3] (.ref 2) [.int (u : Int)] = some (.int ((r1.map (fun p : Nat × Nat => p.1)).length : Int), [c0, c1, cN ((r1 ++ (u, i) :: r2).map (fun p : Nat × Nat => p.1)), c3]) := fun c0 c1 c3 => by
    rw [e1]
    exact mIndex_nats rfl hu
  have i2 : ∀ c0 c1 c3 : Cell, qLst [c0, c1, cN ((r1 ++ (u, i) :: r2).map (fun p : Nat × Nat => p.1)), c3] (.ref 2) = true := fun _ _ _ => qLst_l rfl
  have i3 : ∀ c0 c1 c2 : Cell, hCut [c0, c1, c2, cN ((r1 ++ (u, i) :: r2).map (fun p : Nat × Nat => p.2))] (.ref 3) (some ((r1.map (fun p : Nat × Nat => p.1)).length : Int)) none = some (.lst (natsD (((u, i) :: r2).map (fun p : Nat × Nat => p.2)))) := fun _ _ _ => by
    rw [hCut_from (xs := natsD ((r1 ++ (u, i) :: r2).map (fun p : Nat × Nat => p.2))) rfl, e2]
  refine ⟨_, mkFn_ok rfl (S' := [cH h, cW w, cN ((r1 ++ (u, i) :: r2).map (fun p : Nat × Nat => p.1)), cN ((r1 ++ (u, i) :: r2).map (fun p : Nat × Nat => p.2))]) ?_⟩
  simp only [b_ring_behind, sWhile, sSeq, sAsg, sIf, sIfE, sTest, sOp, sUn, sFn, sVar, sC, sCons, sNil, sTup, sLst, sNew, sNewD, sDict0, sCall, sRet, sRetN, sDrop, sPar, sPar3, sSkip, gNm, gTp, gsNil, gsCons, gSb, sAndT, sOrT, sNotT, sAndV, sOrV, sNotV, sChain, sTrue, Res.bind, Res.np, ofO, ofI, ofM, sMt, hAdd_int, hSub_int, hNeg_int, isB, hIs, hNotIs, List.getElem?_cons_zero, List.getElem?_cons_succ, List.set_cons_zero, List.set_cons_succ, if_true, if_false, decide_true, decide_false, Option.map_some, Option.map_none, Option.bind_some, Option.bind_none, Bool.false_eq_true, Bool.not_true, Bool.not_false, reduceIte, reduceCtorEq, List.length_cons, List.length_nil, List.map_cons, List.map_nil, List.replicate_zero, List.replicate_succ, Nat.reduceAdd, Nat.reduceSub, Nat.zero_add, Nat.add_zero, Nat.sub_self, List.cons_append, List.nil_append, Bool.true_and, Bool.and_true, Bool.and_false, Bool.false_and, Nat.reduceLeDiff, Nat.reduceEqDiff, forS_v, forS_c, hInt_int, hInt_bl, hAbs_int, hMax2_int, hMin2_int, hGt_int, hLt_int, hLe_int, hGe_int, hIx_t0, hIx_t1, hIx_t2, hIx_t3, mul_ok, mod_ok, fdiv_ok]
  erw [lp]
  simp only [sCut, sPart, sNoPart, sSeq, sAsg, sIf, sIfE, sTest, sOp, sUn, sFn, sVar, sC, sCons, sNil, sTup, sLst, sNew, sNewD, sDict0, sCall, sRet, sRetN, sDrop, sPar, sPar3, sSkip, gNm, gTp, gsNil, gsCons, gSb, sAndT, sOrT, sNotT, sAndV, sOrV, sNotV, sChain, sTrue, Res.bind, Res.np, ofO, ofI, ofM, sMt, hAdd_int, hSub_int, hNeg_int, isB, hIs, hNotIs, List.getElem?_cons_zero, List.getElem?_cons_succ, List.set_cons_zero, List.set_cons_succ, if_true, if_false, decide_true, decide_false, Option.map_some, Option.map_none, Option.bind_some, Option.bind_none, Bool.false_eq_true, Bool.not_true, Bool.not_false, reduceIte, reduceCtorEq, List.length_cons, List.length_nil, List.map_cons, List.map_nil, List.replicate_zero, List.replicate_succ, Nat.reduceAdd, Nat.reduceSub, Nat.zero_add, Nat.add_zero, Nat.sub_self, List.cons_append, List.nil_append, Bool.true_and, Bool.and_true, Bool.and_false, Bool.false_and, Nat.reduceLeDiff, Nat.reduceEqDiff, forS_v, forS_c, hInt_int, hInt_bl, hAbs_int, hMax2_int, hMin2_int, hGt_int, hLt_int, hLe_int, hGe_int, hIx_t0, hIx_t1, hIx_t2, hIx_t3, mul_ok, mod_ok, fdiv_ok, i1, i2, i3, hRev_l, hTuple_l]
  simp only [natsD, List.map_reverse, List.map_cons]
/-! ### ring_if_closed -/
abbrev bdC : SS := (sSeq (sIf (sTest (sOp hNotIn (sVar 3) (sVar 1))) (sRet (sC .non)) sSkip)
    (sAsg (sOp hIx (sOp hIx (sVar 0) (sOp hIx (sVar 1) (sVar 3))) (sC (.int 0))) (gNm 3)))
abbrev finC : SS := (sRet (sIfE (sTest (sOp hIn (sVar 3) (sVar 1))) (sCall f_ring_behind (sCons (sVar 0) (sCons (sVar 1) (sCons (sVar 3) sNil)))) (sC .non)))
theorem closed_loop {es : List Ed} {w : List (Nat × Nat)} {h : List Int} {a2 : D} (hw : ∀ v i, wAt w v = some i → ∃ e, es[i]? = some e) : ∀ (ds : List D) (v : Nat) (x : Option D),
    ((forV (gNm 4) bdC ds [some (dEs es), some (.ref 1), some a2, some (.int (v : Int)), x] [cH h, cW w]).bind fun fl S1 => match fl with
      | .nx env1 => finC env1 S1
      | fl => .ok fl S1) = match backN es (wAt w) ds.length v with
        | none => .ok (.ret .non) [cH h, cW w]
        | some u => (f_ring_behind [dEs es, .ref 1, .int (u : Int)] [cH h, cW w]).bind fun d S1 => .ok (.ret d) S1
  | [], v, x => by
    have i1 : hIn [cH h, cW w] (.int (v : Int)) (.ref 1) = some (.bl (wAt w v).isSome) := hIn_w rfl
    unfold forV
    simp only [List.length_nil, backN]
    cases hv : wAt w v with
    | none =>
      rw [hv] at i1
      simp only [finC, sSeq, sAsg, sIf, sIfE, sTest, sOp, sUn, sFn, sVar, sC, sCons, sNil, sTup, sLst, sNew, sNewD, sDict0, sCall, sRet, sRetN, sDrop, sPar, sPar3, sSkip, gNm, gTp, gsNil, gsCons, gSb, sAndT, sOrT, sNotT, sAndV, sOrV, sNotV, sChain, sTrue, Res.bind, Res.np, ofO, ofI, ofM, sMt, hAdd_int, hSub_int, hNeg_int, isB, hIs, hNotIs, List.getElem?_cons_zero, List.getElem?_cons_succ, List.set_cons_zero, List.set_cons_succ, if_true, if_false, decide_true, decide_false, Option.map_some, Option.map_none, Option.bind_some, Option.bind_none, Bool.false_eq_true, Bool.not_true, Bool.not_false, reduceIte, reduceCtorEq, List.length_cons, List.length_nil, List.map_cons, List.map_nil, List.replicate_zero, List.replicate_succ, Nat.reduceAdd, Nat.reduceSub, Nat.zero_add, Nat.add_zero, Nat.sub_self, List.cons_append, List.nil_append, Bool.true_and, Bool.and_true, Bool.and_false, Bool.false_and, Nat.reduceLeDiff, Nat.reduceEqDiff, forS_v, forS_c, hInt_int, hInt_bl, hAbs_int, hMax2_int, hMin2_int, hGt_int, hLt_int, hLe_int, hGe_int, hIx_t0, hIx_t1, hIx_t2, hIx_t3, mul_ok, mod_ok, fdiv_ok, i1, Option.isSome_none]
    | some i =>
      rw [hv] at i1
      simp only [finC, sRet, sIfE, sTest, sOp, sVar, sCall, sCons, sNil, Res.bind, ofO, List.getElem?_cons_zero, List.getElem?_cons_succ, i1, Option.isSome_some, if_true]
  | d :: ds, v, x => by
    have i1 : hNotIn [cH h, cW w] (.int (v : Int)) (.ref 1) = some (.bl (!(wAt w v).isSome)) := hNotIn_w rfl
    have ih := fun u => closed_loop (h := h) (a2 := a2) hw ds u (some d)
    unfold forV
    rw [List.length_cons]
    unfold backN stepB
    cases hv : wAt w v with
    | none =>
      rw [hv] at i1
      simp only [bdC, sSeq, sAsg, sIf, sIfE, sTest, sOp, sUn, sFn, sVar, sC, sCons, sNil, sTup, sLst, sNew, sNewD, sDict0, sCall, sRet, sRetN, sDrop, sPar, sPar3, sSkip, gNm, gTp, gsNil, gsCons, gSb, sAndT, sOrT, sNotT, sAndV, sOrV, sNotV, sChain, sTrue, Res.bind, Res.np, ofO, ofI, ofM, sMt, hAdd_int, hSub_int, hNeg_int, isB, hIs, hNotIs, List.getElem?_cons_zero, List.getElem?_cons_succ, List.set_cons_zero, List.set_cons_succ, if_true, if_false, decide_true, decide_false, Option.map_some, Option.map_none, Option.bind_some, Option.bind_none, Bool.false_eq_true, Bool.not_true, Bool.not_false, reduceIte, reduceCtorEq, List.length_cons, List.length_nil, List.map_cons, List.map_nil, List.replicate_zero, List.replicate_succ, Nat.reduceAdd, Nat.reduceSub, Nat.zero_add, Nat.add_zero, Nat.sub_self, List.cons_append, List.nil_append, Bool.true_and, Bool.and_true, Bool.and_false, Bool.false_and, Nat.reduceLeDiff, Nat.reduceEqDiff, forS_v, forS_c, hInt_int, hInt_bl, hAbs_int, hMax2_int, hMin2_int, hGt_int, hLt_int, hLe_int, hGe_int, hIx_t0, hIx_t1, hIx_t2, hIx_t3, mul_ok, mod_ok, fdiv_ok, i1, Option.isSome_none]
    | some i =>
      rw [hv] at i1
      obtain ⟨e, he⟩ := hw v i hv
      have i2 : hIx [cH h, cW w] (.ref 1) (.int (v : Int)) = some (.int (i : Int)) := hIx_w rfl hv
      have i3 : ∀ S : Store, hIx S (dEs es) (.int (i : Int)) = some (dE e) := fun S => dEs_get he
      have ih2 := ih e.s
      simp only [bdC, sSeq, sAsg, sIf, sIfE, sTest, sOp, sUn, sFn, sVar, sC, sCons, sNil, sTup, sLst, sNew, sNewD, sDict0, sCall, sRet, sRetN, sDrop, sPar, sPar3, sSkip, gNm, gTp, gsNil, gsCons, gSb, sAndT, sOrT, sNotT, sAndV, sOrV, sNotV, sChain, sTrue, Res.bind, Res.np, ofO, ofI, ofM, sMt, hAdd_int, hSub_int, hNeg_int, isB, hIs, hNotIs, List.getElem?_cons_zero, List.getElem?_cons_succ, List.set_cons_zero, List.set_cons_succ, if_true, if_false, decide_true, decide_false, Option.map_some, Option.map_none, Option.bind_some, Option.bind_none, Bool.false_eq_true, Bool.not_true, Bool.not_false, reduceIte, reduceCtorEq, List.length_cons, List.length_nil, List.map_cons, List.map_nil, List.replicate_zero, List.replicate_succ, Nat.reduceAdd, Nat.reduceSub, Nat.zero_add, Nat.add_zero, Nat.sub_self, List.cons_append, List.nil_append, Bool.true_and, Bool.and_true, Bool.and_false, Bool.false_and, Nat.reduceLeDiff, Nat.reduceEqDiff, forS_v, forS_c, hInt_int, hInt_bl, hAbs_int, hMax2_int, hMin2_int, hGt_int, hLt_int, hLe_int, hGe_int, hIx_t0, hIx_t1, hIx_t2, hIx_t3, mul_ok, mod_ok, fdiv_ok, i1, i2, i3, he, Option.isSome_some] at ih2 ⊢
      exact ih2
theorem closed_run {es : List Ed} {w : List (Nat × Nat)} {h : List Int} {v : Nat} {d : D} {S' : Store} (i1 : hLen [cH h, cW w] [.ref 1] = some (.int (w.length : Int))) (i2 : range1 [.int (w.length : Int)] = some (.vals (intsD 0 w.length)))
    (q : ((forV (gNm 4) bdC (intsD 0 w.length) [some (dEs es), some (.ref 1), some (.int (v : Int)), some (.int (v : Int)), none] [cH h, cW w]).bind fun fl S1 => match fl with
      | .nx env1 => finC env1 S1
      | fl => .ok fl S1) = .ok (.ret d) S') : f_ring_if_closed [dEs es, .ref 1, .int (v : Int)] [cH h, cW w] = .ok d S' := by
  refine mkFn_ok rfl ?_
  refine Eq.trans ?_ q
  simp only [b_ring_if_closed, sFor, forS_v, sRng1, sSeq, sAsg, sVar, sFn, sCons, sNil, gNm, Res.bind, ofO, ofI, List.map_cons, List.map_nil, List.length_cons, List.length_nil, List.replicate_succ, List.replicate_zero, Nat.reduceAdd, Nat.reduceSub, Nat.zero_add, List.cons_append, List.nil_append, List.getElem?_cons_zero, List.getElem?_cons_succ, List.set_cons_zero, List.set_cons_succ, i1, i2]
  all_goals rfl
theorem closed_ok {many : Nat} {es : List Ed} {P : Int × Int} {c j : Nat} {w : List (Nat × Nat)} {h : List Int} {τ : Nat → Nat} (I : Inv es P c j (hAt h) (wAt w) τ) (F : Fit many es h w) (hm : many ≤ 8) (v : Nat) :
    (backN es (wAt w) w.length v = none ∧ f_ring_if_closed [dEs es, .ref 1, .int (v : Int)] [cH h, cW w] = .ok .non [cH h, cW w]) ∨
      ∃ is rs S', f_ring_if_closed [dEs es, .ref 1, .int (v : Int)] [cH h, cW w] = .ok (.tup (natsD is)) S' ∧ IsRing es is rs ∧ 0 < sumG P es is := by
  have wl : w.length ≤ 8 := by
    have := nodup_len F.nd (m := List.range many) fun a ha => List.mem_range.mpr (F.ks a ha)
    simp at this
    omega
  have hK : ∀ x, (wAt w x).isSome → x ∈ w.map (fun p : Nat × Nat => p.1) := fun x hx => by
    by_cases hin : x ∈ w.map (fun p : Nat × Nat => p.1)
    · exact hin
    · rw [wAt_none.mpr hin] at hx; cases hx
  have lp := closed_loop (h := h) (a2 := .int (v : Int)) (fun x i hx => by obtain ⟨e, he, _⟩ := I.b x i hx; exact ⟨e, he⟩) (intsD 0 w.length) v none
  have hl : (intsD 0 w.length).length = w.length := by simp [intsD]
  have i1 : hLen [cH h, cW w] [.ref 1] = some (.int (w.length : Int)) := by
    simp [hLen, one1]
  have i2 : range1 [.int (w.length : Int)] = some (.vals (intsD 0 w.length)) := by
    simp only [range1]
    rw [if_pos (by omega)]
    simp
  rw [hl] at lp
  have run := fun d S' q => closed_run (es := es) (h := h) (w := w) (v := v) (d := d) (S' := S') i1 i2 q
  cases hb : backN es (wAt w) w.length v with
  | none =>
    rw [hb] at lp
    exact .inl ⟨rfl, run _ _ lp⟩
  | some u =>
    rw [hb] at lp
    right
    have al := alive hK (v := v) (by rw [List.length_map, hb]; rfl)
    have al2 := alive_next hb al
    obtain ⟨r', u', q1, q2, q3, q4⟩ := rb_ok hK (w.length + 1) u [] (.nil u) (by simp) (by simp) (by simp) (al2 _)
    obtain ⟨p, hp, ep⟩ := List.mem_map.mp q4
    obtain ⟨r1, r2, e1⟩ := List.append_of_mem hp
    obtain ⟨u0, i⟩ := p
    have ep : u0 = u' := ep
    subst ep
    subst e1
    have hu : u0 ∉ r1.map (fun p : Nat × Nat => p.1) := fun z => by
      rw [List.map_append, List.map_cons] at q3
      exact (List.nodup_append.mp q3).2.2 u0 z u0 (by simp) rfl
    obtain ⟨c1, c2⟩ := q2.split
    have nd2 : (((u0, i) :: r2).map (fun p : Nat × Nat => p.1)).Nodup := by
      rw [List.map_append] at q3
      exact (List.nodup_append.mp q3).2.1
    obtain ⟨rs, g1, g2⟩ := closed_ring I c2 nd2
    obtain ⟨S', b⟩ := behind_ok (h := h) q1 (by omega) hu
    dsimp only at lp
    rw [b] at lp
    exact ⟨_, rs, S', run _ _ lp, g1, g2⟩
end Y

set_option maxHeartbeats 2000000
namespace Y
open PySem PySem.Spec PyProof.Rows L2 Rd
theorem dEs_noRef (es : List Ed) : D.noRef (dEs es) = true := by
  unfold D.noRef
  induction es with
  | nil => rfl
  | cons e es ih => simp only [List.map_cons, D.noRefs, D.noRef, ih, Bool.true_and]
theorem fz_list {n : Nat} {S : Store} : ∀ {xs : List D}, (∀ x ∈ xs, fz n S x = some x) → mapO (fz n S) xs = some xs
  | [], _ => rfl
  | x :: xs, h => by
    unfold mapO
    rw [h x (by simp), fz_list fun y hy => h y (by simp [hy])]
theorem fz_ints {n : Nat} {S : Store} (xs : List Int) : mapO (fz (n + 1) S) (xs.map D.int) = some (xs.map D.int) := fz_list fun x hx => by
  obtain ⟨i, _, rfl⟩ := List.mem_map.mp hx
  rfl
theorem fz_nats {n : Nat} {S : Store} (xs : List Nat) : mapO (fz (n + 1) S) (natsD xs) = some (natsD xs) := fz_list fun x hx => by
  obtain ⟨i, _, rfl⟩ := List.mem_map.mp hx
  rfl
theorem fz_tup {n : Nat} {S : Store} {xs : List D} : fz (n + 1) S (.tup xs) = (mapO (fz n S) xs).map .tup := rfl
theorem fz_refL {n i : Nat} {S : Store} {xs : List D} (h : S[i]? = some (.lst xs)) : fz (n + 1) S (.ref i) = (mapO (fz n S) xs).map .lst := by
  unfold fz
  simp only [h]
theorem fz_non {n : Nat} {S : Store} : fz (n + 1) S .non = some .non := rfl
theorem fz_int {n : Nat} {S : Store} {i : Int} : fz (n + 1) S (.int i) = some (.int i) := rfl
theorem fz_bl {n : Nat} {S : Store} {i : Bool} : fz (n + 1) S (.bl i) = some (.bl i) := rfl
theorem fz_str {n : Nat} {S : Store} {i : Str} : fz (n + 1) S (.str i) = some (.str i) := rfl
theorem fz_lst {n : Nat} {S : Store} {xs : List D} : fz (n + 1) S (.lst xs) = (mapO (fz n S) xs).map .lst := rfl
theorem mapO_nil {α β : Type} {f : α → Option β} : mapO f [] = some [] := rfl
theorem mapO_cons {α β : Type} {f : α → Option β} {x : α} {xs : List α} : mapO f (x :: xs) = match f x, mapO f xs with
  | some y, some ys => some (y :: ys)
  | _, _ => none := rfl
/-! ### heights_or_ring -/
abbrev bdG : SS := (sIf (sNotT (sTest (sCall f_raised_once (sCons (sVar 1) (sCons (sVar 2) (sCons (sVar 3) (sCons (sVar 4) sNil))))))) (sRet (sTup (sCons (sVar 3) (sCons (sC .non) sNil)))) sSkip)
abbrev evG (many : Nat) (es : List Ed) (P : Int × Int) (x5 : Option D) : Env := [some (.int (many : Int)), some (dEs es), some (dP P), some (.ref 0), some (.ref 1), x5, none, none]
theorem go_loop {many : Nat} {es : List Ed} {P : Int × Int} (V : Val many es) (hP : PB P) : ∀ (ds : List D) (c : Nat) (h : List Int) (w : List (Nat × Nat)) (τ : Nat → Nat) (x5 : Option D), Fit many es h w → Inv es P c 0 (hAt h) (wAt w) τ →
    ∃ y5, forV (gNm 5) bdG ds (evG many es P x5) [cH h, cW w] = match go P es ds.length (h, w) with
      | ((h', w'), true) => .ok (.ret (.tup [.ref 0, .non])) [cH h', cW w']
      | ((h', w'), false) => .ok (.nx (evG many es P y5)) [cH h', cW w']
  | [], c, h, w, τ, x5, F, I => ⟨x5, rfl⟩
  | d :: ds, c, h, w, τ, x5, F, I => by
    obtain ⟨h', w', f', τ', q1, q2, q3, q4, q5⟩ := pass_inv es 0 h w false τ (fun i => by rw [Nat.zero_add]) (by omega) F I
    have ro := raised_ok V hP F
    rw [q1] at ro
    unfold forV
    rw [List.length_cons]
    unfold go
    dsimp only
    rw [q1]
    cases f' with
    | true =>
      obtain ⟨y5, ih⟩ := go_loop V hP ds (c + 1) h' w' τ' (some d) q2 q3.turn
      refine ⟨y5, ?_⟩
      simp only [evG, bdG, sSeq, sAsg, sIf, sIfE, sTest, sOp, sUn, sFn, sVar, sC, sCons, sNil, sTup, sLst, sNew, sNewD, sDict0, sCall, sRet, sRetN, sDrop, sPar, sPar3, sSkip, gNm, gTp, gsNil, gsCons, gSb, sAndT, sOrT, sNotT, sAndV, sOrV, sNotV, sChain, sTrue, Res.bind, Res.np, ofO, ofI, ofM, sMt, hAdd_int, hSub_int, hNeg_int, isB, hIs, hNotIs, List.getElem?_cons_zero, List.getElem?_cons_succ, List.set_cons_zero, List.set_cons_succ, if_true, if_false, decide_true, decide_false, Option.map_some, Option.map_none, Option.bind_some, Option.bind_none, Bool.false_eq_true, Bool.not_true, Bool.not_false, reduceIte, reduceCtorEq, List.length_cons, List.length_nil, List.map_cons, List.map_nil, List.replicate_zero, List.replicate_succ, Nat.reduceAdd, Nat.reduceSub, Nat.zero_add, Nat.add_zero, Nat.sub_self, List.cons_append, List.nil_append, Bool.true_and, Bool.and_true, Bool.and_false, Bool.false_and, Nat.reduceLeDiff, Nat.reduceEqDiff, forS_v, forS_c, hInt_int, hInt_bl, hAbs_int, hMax2_int, hMin2_int, hGt_int, hLt_int, hLe_int, hGe_int, hIx_t0, hIx_t1, hIx_t2, hIx_t3, mul_ok, mod_ok, fdiv_ok, ro] at ih ⊢
      exact ih
    | false =>
      refine ⟨none, ?_⟩
      simp only [evG, bdG, sSeq, sAsg, sIf, sIfE, sTest, sOp, sUn, sFn, sVar, sC, sCons, sNil, sTup, sLst, sNew, sNewD, sDict0, sCall, sRet, sRetN, sDrop, sPar, sPar3, sSkip, gNm, gTp, gsNil, gsCons, gSb, sAndT, sOrT, sNotT, sAndV, sOrV, sNotV, sChain, sTrue, Res.bind, Res.np, ofO, ofI, ofM, sMt, hAdd_int, hSub_int, hNeg_int, isB, hIs, hNotIs, List.getElem?_cons_zero, List.getElem?_cons_succ, List.set_cons_zero, List.set_cons_succ, if_true, if_false, decide_true, decide_false, Option.map_some, Option.map_none, Option.bind_some, Option.bind_none, Bool.false_eq_true, Bool.not_true, Bool.not_false, reduceIte, reduceCtorEq, List.length_cons, List.length_nil, List.map_cons, List.map_nil, List.replicate_zero, List.replicate_succ, Nat.reduceAdd, Nat.reduceSub, Nat.zero_add, Nat.add_zero, Nat.sub_self, List.cons_append, List.nil_append, Bool.true_and, Bool.and_true, Bool.and_false, Bool.false_and, Nat.reduceLeDiff, Nat.reduceEqDiff, forS_v, forS_c, hInt_int, hInt_bl, hAbs_int, hMax2_int, hMin2_int, hGt_int, hLt_int, hLe_int, hGe_int, hIx_t0, hIx_t1, hIx_t2, hIx_t3, mul_ok, mod_ok, fdiv_ok, ro]
abbrev bdH : SS := (sSeq (sAsg (sCall f_ring_if_closed (sCons (sVar 1) (sCons (sVar 4) (sCons (sVar 6) sNil)))) (gNm 7))
    (sIf (sTest (sOp hNotIs (sVar 7) (sC .non))) (sRet (sTup (sCons (sC .non) (sCons (sVar 7) sNil)))) sSkip))
theorem find_loop {many : Nat} {es : List Ed} {P : Int × Int} {c j : Nat} {w : List (Nat × Nat)} {h : List Int} {τ : Nat → Nat} (I : Inv es P c j (hAt h) (wAt w) τ) (F : Fit many es h w) (hm : many ≤ 8) {a0 a2 : Option D} {x5 : Option D} : ∀ (ts : List Nat) (x6 x7 : Option D), (∃ t ∈ ts, (backN es (wAt w) w.length t).isSome) →
    ∃ is rs S', forV (gNm 6) bdH (natsD ts) [a0, some (dEs es), a2, some (.ref 0), some (.ref 1), x5, x6, x7] [cH h, cW w] = .ok (.ret (.tup [.non, .tup (natsD is)])) S' ∧ IsRing es is rs ∧ 0 < sumG P es is
  | [], _, _, ht => by obtain ⟨t, ht, _⟩ := ht; cases ht
  | v :: ts, x6, x7, ht => by
    show ∃ is rs S', forV (gNm 6) bdH (.int (v : Int) :: natsD ts) _ _ = _ ∧ _
    unfold forV
    rcases closed_ok I F hm v with ⟨hn, q⟩ | ⟨is, rs, S', q, r1, r2⟩
    · have ht2 : ∃ t ∈ ts, (backN es (wAt w) w.length t).isSome := by
        obtain ⟨t, ht, hs⟩ := ht
        rcases List.mem_cons.mp ht with rfl | ht
        · rw [hn] at hs; cases hs
        · exact ⟨t, ht, hs⟩
      obtain ⟨is, rs, S', q2, r⟩ := find_loop I F hm (a0 := a0) (a2 := a2) (x5 := x5) ts (some (.int (v : Int))) (some .non) ht2
      refine ⟨is, rs, S', ?_, r⟩
      simp only [bdH, sSeq, sAsg, sIf, sIfE, sTest, sOp, sUn, sFn, sVar, sC, sCons, sNil, sTup, sLst, sNew, sNewD, sDict0, sCall, sRet, sRetN, sDrop, sPar, sPar3, sSkip, gNm, gTp, gsNil, gsCons, gSb, sAndT, sOrT, sNotT, sAndV, sOrV, sNotV, sChain, sTrue, Res.bind, Res.np, ofO, ofI, ofM, sMt, hAdd_int, hSub_int, hNeg_int, isB, hIs, hNotIs, List.getElem?_cons_zero, List.getElem?_cons_succ, List.set_cons_zero, List.set_cons_succ, if_true, if_false, decide_true, decide_false, Option.map_some, Option.map_none, Option.bind_some, Option.bind_none, Bool.false_eq_true, Bool.not_true, Bool.not_false, reduceIte, reduceCtorEq, List.length_cons, List.length_nil, List.map_cons, List.map_nil, List.replicate_zero, List.replicate_succ, Nat.reduceAdd, Nat.reduceSub, Nat.zero_add, Nat.add_zero, Nat.sub_self, List.cons_append, List.nil_append, Bool.true_and, Bool.and_true, Bool.and_false, Bool.false_and, Nat.reduceLeDiff, Nat.reduceEqDiff, forS_v, forS_c, hInt_int, hInt_bl, hAbs_int, hMax2_int, hMin2_int, hGt_int, hLt_int, hLe_int, hGe_int, hIx_t0, hIx_t1, hIx_t2, hIx_t3, mul_ok, mod_ok, fdiv_ok, q] at q2 ⊢
      exact q2
    · refine ⟨is, rs, S', ?_, r1, r2⟩
      simp only [bdH, sSeq, sAsg, sIf, sIfE, sTest, sOp, sUn, sFn, sVar, sC, sCons, sNil, sTup, sLst, sNew, sNewD, sDict0, sCall, sRet, sRetN, sDrop, sPar, sPar3, sSkip, gNm, gTp, gsNil, gsCons, gSb, sAndT, sOrT, sNotT, sAndV, sOrV, sNotV, sChain, sTrue, Res.bind, Res.np, ofO, ofI, ofM, sMt, hAdd_int, hSub_int, hNeg_int, isB, hIs, hNotIs, List.getElem?_cons_zero, List.getElem?_cons_succ, List.set_cons_zero, List.set_cons_succ, if_true, if_false, decide_true, decide_false, Option.map_some, Option.map_none, Option.bind_some, Option.bind_none, Bool.false_eq_true, Bool.not_true, Bool.not_false, reduceIte, reduceCtorEq, List.length_cons, List.length_nil, List.map_cons, List.map_nil, List.replicate_zero, List.replicate_succ, Nat.reduceAdd, Nat.reduceSub, Nat.zero_add, Nat.add_zero, Nat.sub_self, List.cons_append, List.nil_append, Bool.true_and, Bool.and_true, Bool.and_false, Bool.false_and, Nat.reduceLeDiff, Nat.reduceEqDiff, forS_v, forS_c, hInt_int, hInt_bl, hAbs_int, hMax2_int, hMin2_int, hGt_int, hLt_int, hLe_int, hGe_int, hIx_t0, hIx_t1, hIx_t2, hIx_t3, mul_ok, mod_ok, fdiv_ok, q]
theorem mapO_natInts : ∀ xs : List Nat, mapO oKey (xs.map fun k : Nat => (Sum.inl (k : Int) : Key)) = some (xs.map fun k : Nat => (k : Int))
  | [] => rfl
  | x :: xs => by
    have ih := mapO_natInts xs
    simp only [List.map_cons, mapO, oKey, ih]
theorem sortI_nats (xs : List Nat) : ∃ ts : List Nat, sortI (xs.map fun k : Nat => (k : Int)) = ts.map (fun k : Nat => (k : Int)) ∧ ts.Perm xs := by
  have hp := sortI_perm (xs.map fun k : Nat => (k : Int))
  generalize sortI (xs.map fun k : Nat => (k : Int)) = l at hp
  induction xs generalizing l with
  | nil => rw [List.map_nil] at hp; exact ⟨[], hp.eq_nil, .refl _⟩
  | cons x xs ih =>
    have hx : (x : Int) ∈ l := hp.mem_iff.mpr (by simp)
    obtain ⟨l1, l2, rfl⟩ := List.append_of_mem hx
    have h2 : (l1 ++ l2).Perm (xs.map fun k : Nat => (k : Int)) := by
      have h3 : ((x : Int) :: (l1 ++ l2)).Perm ((x : Int) :: xs.map fun k : Nat => (k : Int)) := (List.perm_middle.symm).trans hp
      exact (List.perm_cons _).mp h3
    obtain ⟨ts, h3, h4⟩ := ih _ h2
    have h5 : l1.length ≤ ts.length := by
      have := congrArg List.length h3
      simp at this
      omega
    refine ⟨ts.take l1.length ++ x :: ts.drop l1.length, ?_, ?_⟩
    · have e1 : l1 = (ts.take l1.length).map fun k : Nat => (k : Int) := by
        rw [List.map_take, ← h3]; simp
      have e2 : l2 = (ts.drop l1.length).map fun k : Nat => (k : Int) := by
        rw [List.map_drop, ← h3]; simp
      rw [List.map_append, List.map_cons, ← e1, ← e2]
    · refine List.perm_middle.trans ((List.perm_cons _).mpr ?_)
      rw [List.take_append_drop]
      exact h4
theorem sorted_w {S : Store} {c : Nat} {w : List (Nat × Nat)} (hS : S[c]? = some (cW w)) (hl : w.length < 64) : ∃ ts : List Nat, hSortedD S [.ref c] = some (.lst (natsD ts)) ∧ ts.Perm (w.map fun p : Nat × Nat => p.1) := by
  obtain ⟨ts, h1, h2⟩ := sortI_nats (w.map fun p : Nat × Nat => p.1)
  refine ⟨ts, ?_, h2⟩
  have e1 : (w.map fun p => (Sum.inl (p.1 : Int) : Key)) = (w.map (fun p : Nat × Nat => p.1)).map fun k : Nat => (Sum.inl (k : Int) : Key) := by rw [List.map_map]; rfl
  simp only [hSortedD, one1, dictOf, hS, Option.bind_some, e1, mapO_natInts]
  rw [if_pos (by simpa using hl), h1]
  simp [natsD]
theorem gn_le {many : Nat} {es : List Ed} {P : Int × Int} (V : Val many es) (hP : PB P) : ∀ e ∈ es, gn P e ≤ 99 * 2 ^ 200 := fun e he => by
  have h := V.lk e he
  have a := Int.mul_le_mul_of_nonneg_right h.2.1 (Int.le_of_lt hP.q0)
  have b := Int.mul_nonneg h.2.2.1 hP.p0
  have c := hP.q1
  unfold gn
  omega
theorem hr_ok {many : Nat} {es : List Ed} {P : Int × Int} {S : Store} (V : Val many es) (hP : PB P) :
    (∃ h, f_heights_or_ring [.int (many : Int), dEs es, dP P] S = .ok (.tup [.lst (h.map .int), .non]) S ∧ h.length = many ∧ Sol es P (hAt h) ∧ (∀ x, Sol es P x → ∀ v, hAt h v ≤ x v) ∧ (∀ v, v < many → hAt h v = 0 ∨ ∃ e ∈ es, e.t = v ∧ hAt h v = hAt h e.s + gn P e) ∧ ∀ v, hAt h v < 2 ^ 220) ∨
    ∃ is rs, f_heights_or_ring [.int (many : Int), dEs es, dP P] S = .ok (.tup [.non, .tup (natsD is)]) S ∧ IsRing es is rs ∧ 0 < sumG P es is := by
  have nr : D.noRefs [.int (many : Int), dEs es, dP P] = true := by
    simp only [D.noRefs, dEs_noRef, Bool.true_and, Bool.and_true]
    rfl
  have F0 : Fit many es (List.replicate many 0) [] := ⟨by simp, V.ed, by simp, fun k h => by simp at h⟩
  have I0 : Inv es P 0 0 (hAt (List.replicate many 0)) (wAt []) (fun _ => 0) := by
    have e0 : hAt (List.replicate many 0) = fun _ => 0 := by
      funext v
      unfold hAt
      rw [List.getD_eq_getElem?_getD, List.getElem?_replicate]
      split <;> rfl
    rw [e0]
    exact Inv.start
  have hl : (intsD 0 (many + 1)).length = many + 1 := by simp [intsD]
  obtain ⟨y5, lp⟩ := go_loop V hP (intsD 0 (many + 1)) 0 _ _ _ none F0 I0
  rw [hl] at lp
  have i1 : ∀ S : Store, hRep S (.lst [.int 0]) (.int (many : Int)) = some (.lst ((List.replicate many (0 : Int)).map .int)) := fun S => by
    have := V.m1
    simp only [hRep, lstOf]
    rw [if_pos ⟨by omega, by omega, by decide⟩]
    simp [reps]
  have i2 : range1 [.int ((many : Int) + 1)] = some (.vals (intsD 0 (many + 1))) := by
    have := V.m1
    simp only [range1]
    rw [if_pos (by omega), show ((many : Int) + 1).toNat = many + 1 by omega]
  have en := go_start (many := many) (P := P) (many + 1) V.ed
  generalize hg : go P es (many + 1) (List.replicate many 0, []) = res at en lp
  cases en with
  | @done h w F sol le tie =>
    refine .inl ⟨h, mkP_ok rfl nr (S' := [cH h, cW w]) (d := .tup [.ref 0, .non]) ?_ ?_, F.len, sol, le, tie, fun v => ?_⟩
    · dsimp only at lp
      simp only [b_heights_or_ring, sFor, sRng1, sCell, sSeq, sAsg, sIf, sIfE, sTest, sOp, sUn, sFn, sVar, sC, sCons, sNil, sTup, sLst, sNew, sNewD, sDict0, sCall, sRet, sRetN, sDrop, sPar, sPar3, sSkip, gNm, gTp, gsNil, gsCons, gSb, sAndT, sOrT, sNotT, sAndV, sOrV, sNotV, sChain, sTrue, Res.bind, Res.np, ofO, ofI, ofM, sMt, hAdd_int, hSub_int, hNeg_int, isB, hIs, hNotIs, List.getElem?_cons_zero, List.getElem?_cons_succ, List.set_cons_zero, List.set_cons_succ, if_true, if_false, decide_true, decide_false, Option.map_some, Option.map_none, Option.bind_some, Option.bind_none, Bool.false_eq_true, Bool.not_true, Bool.not_false, reduceIte, reduceCtorEq, List.length_cons, List.length_nil, List.map_cons, List.map_nil, List.replicate_zero, List.replicate_succ, Nat.reduceAdd, Nat.reduceSub, Nat.zero_add, Nat.add_zero, Nat.sub_self, List.cons_append, List.nil_append, Bool.true_and, Bool.and_true, Bool.and_false, Bool.false_and, Nat.reduceLeDiff, Nat.reduceEqDiff, forS_v, forS_c, hInt_int, hInt_bl, hAbs_int, hMax2_int, hMin2_int, hGt_int, hLt_int, hLe_int, hGe_int, hIx_t0, hIx_t1, hIx_t2, hIx_t3, mul_ok, mod_ok, fdiv_ok, i1, i2]
      simp only [evG] at lp
      erw [lp]
    · have e : fz 59 [cH h, cW w] (.ref 0) = some (.lst (h.map .int)) := by
        rw [fz_refL (xs := h.map .int) rfl, fz_ints]
        rfl
      simp only [fz_tup, mapO_cons, mapO_nil, fz_non, e, Option.map_some]
    · have e220 : (180 * (99 * 2 ^ 200) : Int) < 2 ^ 220 := by decide +kernel
      have g0 : (0 : Int) ≤ 99 * 2 ^ 200 := by decide +kernel
      have z : ∀ v, hAt (List.replicate many 0) v ≤ 0 := fun v => by
        unfold hAt
        rw [List.getD_eq_getElem?_getD, List.getElem?_replicate]
        split <;> simp
      have gb := go_bound (P := P) (es := es) g0 (gn_le V hP) (many + 1) (List.replicate many 0) [] 0 z v
      rw [hg] at gb
      dsimp only at gb
      have l1 : ((many + 1 : Nat) : Int) * (es.length * (99 * 2 ^ 200)) ≤ 9 * (20 * (99 * 2 ^ 200)) := by
        have := V.m1
        have := V.len
        have a : (es.length : Int) * (99 * 2 ^ 200) ≤ 20 * (99 * 2 ^ 200) := Int.mul_le_mul_of_nonneg_right (by omega) g0
        have b : ((many + 1 : Nat) : Int) * (es.length * (99 * 2 ^ 200)) ≤ ((many + 1 : Nat) : Int) * (20 * (99 * 2 ^ 200)) := Int.mul_le_mul_of_nonneg_left a (by omega)
        have c : ((many + 1 : Nat) : Int) * (20 * (99 * 2 ^ 200)) ≤ 9 * (20 * (99 * 2 ^ 200)) := Int.mul_le_mul_of_nonneg_right (by omega) (by decide +kernel)
        exact Int.le_trans b c
      omega
  | @not h w τ F I r =>
    right
    have wl : w.length ≤ 8 := by
      have := nodup_len F.nd (m := List.range many) fun a ha => List.mem_range.mpr (F.ks a ha)
      have := V.m1
      simp at *
      omega
    obtain ⟨ts, s1, s2⟩ := sorted_w (S := [cH h, cW w]) (c := 1) (w := w) rfl (by omega)
    have ex : ∃ t ∈ ts, (backN es (wAt w) w.length t).isSome := by
      rcases r with r | ⟨v, hv⟩
      · omega
      · rw [Nat.add_sub_cancel] at hv
        have hM : 0 < es.length := by
          rcases Nat.eq_zero_or_pos es.length with z | z
          · exfalso
            have h0 := I.up v
            rw [z] at hv h0
            simp at hv h0
            omega
          · exact z
        obtain ⟨u, hu⟩ := long_back I hM many v hv
        have wm : w.length ≤ many := by
          have := nodup_len F.nd (m := List.range many) fun a ha => List.mem_range.mpr (F.ks a ha)
          simpa using this
        have hb : (backN es (wAt w) w.length v).isSome := backN_mono wm (by rw [hu]; rfl)
        refine ⟨v, ?_, hb⟩
        have := back_here hb
        rw [s2.mem_iff]
        by_cases hin : v ∈ w.map (fun p : Nat × Nat => p.1)
        · exact hin
        · rw [wAt_none.mpr hin] at this; cases this
    obtain ⟨is, rs, S', q, r1, r2⟩ := find_loop I F V.m1 (a0 := some (.int (many : Int))) (a2 := some (dP P)) (x5 := y5) ts none none ex
    refine ⟨is, rs, mkP_ok rfl nr (S' := S') (d := .tup [.non, .tup (natsD is)]) ?_ ?_, r1, r2⟩
    · dsimp only at lp
      simp only [b_heights_or_ring, sFor, sRng1, sCell, sSeq, sAsg, sIf, sIfE, sTest, sOp, sUn, sFn, sVar, sC, sCons, sNil, sTup, sLst, sNew, sNewD, sDict0, sCall, sRet, sRetN, sDrop, sPar, sPar3, sSkip, gNm, gTp, gsNil, gsCons, gSb, sAndT, sOrT, sNotT, sAndV, sOrV, sNotV, sChain, sTrue, Res.bind, Res.np, ofO, ofI, ofM, sMt, hAdd_int, hSub_int, hNeg_int, isB, hIs, hNotIs, List.getElem?_cons_zero, List.getElem?_cons_succ, List.set_cons_zero, List.set_cons_succ, if_true, if_false, decide_true, decide_false, Option.map_some, Option.map_none, Option.bind_some, Option.bind_none, Bool.false_eq_true, Bool.not_true, Bool.not_false, reduceIte, reduceCtorEq, List.length_cons, List.length_nil, List.map_cons, List.map_nil, List.replicate_zero, List.replicate_succ, Nat.reduceAdd, Nat.reduceSub, Nat.zero_add, Nat.add_zero, Nat.sub_self, List.cons_append, List.nil_append, Bool.true_and, Bool.and_true, Bool.and_false, Bool.false_and, Nat.reduceLeDiff, Nat.reduceEqDiff, forS_v, forS_c, hInt_int, hInt_bl, hAbs_int, hMax2_int, hMin2_int, hGt_int, hLt_int, hLe_int, hGe_int, hIx_t0, hIx_t1, hIx_t2, hIx_t3, mul_ok, mod_ok, fdiv_ok, i1, i2]
      simp only [evG] at lp
      erw [lp]
      simp only [sFor, sSeqI, srcOf, sSeq, sAsg, sIf, sIfE, sTest, sOp, sUn, sFn, sVar, sC, sCons, sNil, sTup, sLst, sNew, sNewD, sDict0, sCall, sRet, sRetN, sDrop, sPar, sPar3, sSkip, gNm, gTp, gsNil, gsCons, gSb, sAndT, sOrT, sNotT, sAndV, sOrV, sNotV, sChain, sTrue, Res.bind, Res.np, ofO, ofI, ofM, sMt, hAdd_int, hSub_int, hNeg_int, isB, hIs, hNotIs, List.getElem?_cons_zero, List.getElem?_cons_succ, List.set_cons_zero, List.set_cons_succ, if_true, if_false, decide_true, decide_false, Option.map_some, Option.map_none, Option.bind_some, Option.bind_none, Bool.false_eq_true, Bool.not_true, Bool.not_false, reduceIte, reduceCtorEq, List.length_cons, List.length_nil, List.map_cons, List.map_nil, List.replicate_zero, List.replicate_succ, Nat.reduceAdd, Nat.reduceSub, Nat.zero_add, Nat.add_zero, Nat.sub_self, List.cons_append, List.nil_append, Bool.true_and, Bool.and_true, Bool.and_false, Bool.false_and, Nat.reduceLeDiff, Nat.reduceEqDiff, forS_v, forS_c, hInt_int, hInt_bl, hAbs_int, hMax2_int, hMin2_int, hGt_int, hLt_int, hLe_int, hGe_int, hIx_t0, hIx_t1, hIx_t2, hIx_t3, mul_ok, mod_ok, fdiv_ok, s1]
      erw [q]
    · simp only [fz_tup, mapO_cons, mapO_nil, fz_non, fz_nats, Option.map_some]
end Y

set_option maxHeartbeats 2000000
namespace Y
open PySem PySem.Spec PyProof.Rows L2 Rd
theorem compV_map {e : SE} {env0 : Env} {j : Nat} {S : Store} {f : D → D} : ∀ {ds : List D}, (∀ d ∈ ds, e (env0.set j (some d)) S = .ok (f d) S) → compV (gNm j) sTrue e env0 ds S = .ok (ds.map f) S
  | [], _ => rfl
  | d :: ds, h => by
    have ih := compV_map (e := e) (env0 := env0) (j := j) (S := S) (f := f) (ds := ds) fun x hx => h x (by simp [hx])
    unfold compV
    simp only [gNm, Res.np, Res.bind, sTrue, h d (by simp), ih, if_true, List.map_cons]
theorem sLc_map {vs : List Nat} {s : SI} {e : SE} {env : Env} {j : Nat} {S : Store} {ds : List D} (f : D → D) (hs : s env S = .ok (.vals ds) S) (hl : ds.length ≤ 1000000) (h : ∀ d ∈ ds, e ((wipeE env vs).set j (some d)) S = .ok (f d) S) :
    sLc vs s (gNm j) sTrue e env S = .ok (.lst (ds.map f)) S := by
  simp only [sLc, sComp, hs, Res.bind, hl, if_true, compV_map h]
theorem mapO_ofInts : ∀ xs : List Int, mapO oInt (xs.map D.int) = some xs
  | [] => rfl
  | x :: xs => by
    have ih := mapO_ofInts xs
    simp only [List.map_cons, mapO, oInt, ih]
theorem mapO_ofBls : ∀ xs : List Bool, mapO oBl (xs.map D.bl) = some xs
  | [] => rfl
  | x :: xs => by
    have ih := mapO_ofBls xs
    simp only [List.map_cons, mapO, oBl, ih]
theorem hSum_l {S : Store} {xs : List Int} : hSum S [.lst (xs.map .int)] = some (.int xs.sum) := by
  simp only [hSum, one1, lstOf, Option.bind_some, mapO_ofInts, Option.map_some]
theorem hAll_l {S : Store} {xs : List Bool} : hAll S [.lst (xs.map .bl)] = some (.bl (xs.all id)) := by
  simp only [hAll, one1, lstOf, Option.bind_some, mapO_ofBls, Option.map_some]
theorem hEq_int {S : Store} {i j : Int} : hEq S (.int i) (.int j) = some (.bl (decide (i = j))) := by
  have e : ∀ i : Int, toPD 40 S (.int i) = some (.int i) := fun i => rfl
  simp only [hEq, e]
  congr 2
theorem hNe_int {S : Store} {i j : Int} : hNe S (.int i) (.int j) = some (.bl (!decide (i = j))) := by
  have e : ∀ i : Int, toPD 40 S (.int i) = some (.int i) := fun i => rfl
  simp only [hNe, e]
  congr 2
/-! ### numbers_of_ring -/
theorem ring_at {es : List Ed} {is : List Nat} {rs : List Ed} (h : is.map (es[·]?) = rs.map some) : ∀ i ∈ is, ∃ e ∈ rs, es[i]? = some e := fun i hi => by
  have : es[i]? ∈ rs.map some := by rw [← h]; exact List.mem_map.mpr ⟨i, hi, rfl⟩
  obtain ⟨e, h1, h2⟩ := List.mem_map.mp this
  exact ⟨e, h1, h2.symm⟩
theorem ring_sum {es : List Ed} (f : Ed → Int) : ∀ {is : List Nat} {rs : List Ed}, is.map (es[·]?) = rs.map some → (is.map fun i => match es[i]? with
    | some e => f e
    | none => 0) = rs.map f
  | [], [], _ => rfl
  | [], _ :: _, h => by simp at h
  | _ :: _, [], h => by simp at h
  | i :: is, e :: rs, h => by
    simp only [List.map_cons, List.cons.injEq] at h
    have ih := ring_sum f h.2
    simp only [List.map_cons, ih, h.1]
theorem numbers_ok {es : List Ed} {is : List Nat} {rs : List Ed} {S : Store} (h : is.map (es[·]?) = rs.map some) (hl : is.length ≤ 1000000) : f_numbers_of_ring [dEs es, .tup (natsD is)] S = .ok (.tup [.int (lsum rs), .int (ksum rs)]) S := by
  have nr : D.noRefs [dEs es, .tup (natsD is)] = true := by
    have e1 : D.noRef (.tup (natsD is)) = true := by
      unfold D.noRef
      clear h hl
      induction is with
      | nil => rfl
      | cons i is ih => simp only [natsD, List.map_cons, D.noRefs, D.noRef, Bool.true_and] at ih ⊢; exact ih
    simp only [D.noRefs, dEs_noRef, e1, Bool.true_and, Bool.and_true]
  refine mkP_ok rfl nr (S' := []) (d := .tup [.int (lsum rs), .int (ksum rs)]) ?_ rfl
  have pick : ∀ (k : Int) (g : Ed → Int), (∀ e S, hIx S (dE e) (.int k) = some (.int (g e))) → sLc [2] (sSeqI (sVar 1)) (gNm 2) sTrue (sOp hIx (sOp hIx (sVar 0) (sVar 2)) (sC (.int k))) [some (dEs es), some (.tup (natsD is)), none] [] = .ok (.lst ((rs.map g).map .int)) [] := fun k g hg => by
    have q := sLc_map (vs := [2]) (s := sSeqI (sVar 1)) (e := sOp hIx (sOp hIx (sVar 0) (sVar 2)) (sC (.int k))) (env := [some (dEs es), some (.tup (natsD is)), none]) (j := 2) (S := []) (ds := natsD is) (fun d => match d with
      | .int i => match es[i.toNat]? with
        | some e => .int (g e)
        | none => .int 0
      | _ => .int 0) rfl (by simpa [natsD] using hl) (fun d hd => by
        obtain ⟨i, hi, rfl⟩ := List.mem_map.mp hd
        obtain ⟨e, _, he⟩ := ring_at h i hi
        have i1 : ∀ S : Store, hIx S (dEs es) (.int (i : Int)) = some (dE e) := fun S => dEs_get he
        simp only [wipeE, sSeq, sAsg, sIf, sIfE, sTest, sOp, sUn, sFn, sVar, sC, sCons, sNil, sTup, sLst, sNew, sNewD, sDict0, sCall, sRet, sRetN, sDrop, sPar, sPar3, sSkip, gNm, gTp, gsNil, gsCons, gSb, sAndT, sOrT, sNotT, sAndV, sOrV, sNotV, sChain, sTrue, Res.bind, Res.np, ofO, ofI, ofM, sMt, hAdd_int, hSub_int, hNeg_int, isB, hIs, hNotIs, List.getElem?_cons_zero, List.getElem?_cons_succ, List.set_cons_zero, List.set_cons_succ, if_true, if_false, decide_true, decide_false, Option.map_some, Option.map_none, Option.bind_some, Option.bind_none, Bool.false_eq_true, Bool.not_true, Bool.not_false, reduceIte, reduceCtorEq, List.length_cons, List.length_nil, List.map_cons, List.map_nil, List.replicate_zero, List.replicate_succ, Nat.reduceAdd, Nat.reduceSub, Nat.zero_add, Nat.add_zero, Nat.sub_self, List.cons_append, List.nil_append, Bool.true_and, Bool.and_true, Bool.and_false, Bool.false_and, Nat.reduceLeDiff, Nat.reduceEqDiff, forS_v, forS_c, hInt_int, hInt_bl, hAbs_int, hMax2_int, hMin2_int, hGt_int, hLt_int, hLe_int, hGe_int, hIx_t0, hIx_t1, hIx_t2, hIx_t3, mul_ok, mod_ok, fdiv_ok, i1, hg, Int.toNat_natCast, he])
    rw [q, ← ring_sum g h]
    simp only [natsD, List.map_map]
    congr 3
    funext i
    simp only [Function.comp, Int.toNat_natCast]
    cases es[i]? <;> rfl
  have p2 := pick 2 (·.l) fun e S => hIx_t2
  have p3 := pick 3 (·.k) fun e S => hIx_t3
  simp only [b_numbers_of_ring, sSeq, sAsg, sIf, sIfE, sTest, sOp, sUn, sFn, sVar, sC, sCons, sNil, sTup, sLst, sNew, sNewD, sDict0, sCall, sRet, sRetN, sDrop, sPar, sPar3, sSkip, gNm, gTp, gsNil, gsCons, gSb, sAndT, sOrT, sNotT, sAndV, sOrV, sNotV, sChain, sTrue, Res.bind, Res.np, ofO, ofI, ofM, sMt, hAdd_int, hSub_int, hNeg_int, isB, hIs, hNotIs, List.getElem?_cons_zero, List.getElem?_cons_succ, List.set_cons_zero, List.set_cons_succ, if_true, if_false, decide_true, decide_false, Option.map_some, Option.map_none, Option.bind_some, Option.bind_none, Bool.false_eq_true, Bool.not_true, Bool.not_false, reduceIte, reduceCtorEq, List.length_cons, List.length_nil, List.map_cons, List.map_nil, List.replicate_zero, List.replicate_succ, Nat.reduceAdd, Nat.reduceSub, Nat.zero_add, Nat.add_zero, Nat.sub_self, List.cons_append, List.nil_append, Bool.true_and, Bool.and_true, Bool.and_false, Bool.false_and, Nat.reduceLeDiff, Nat.reduceEqDiff, forS_v, forS_c, hInt_int, hInt_bl, hAbs_int, hMax2_int, hMin2_int, hGt_int, hLt_int, hLe_int, hGe_int, hIx_t0, hIx_t1, hIx_t2, hIx_t3, mul_ok, mod_ok, fdiv_ok]
  erw [p2]
  simp only [sSeq, sAsg, sIf, sIfE, sTest, sOp, sUn, sFn, sVar, sC, sCons, sNil, sTup, sLst, sNew, sNewD, sDict0, sCall, sRet, sRetN, sDrop, sPar, sPar3, sSkip, gNm, gTp, gsNil, gsCons, gSb, sAndT, sOrT, sNotT, sAndV, sOrV, sNotV, sChain, sTrue, Res.bind, Res.np, ofO, ofI, ofM, sMt, hAdd_int, hSub_int, hNeg_int, isB, hIs, hNotIs, List.getElem?_cons_zero, List.getElem?_cons_succ, List.set_cons_zero, List.set_cons_succ, if_true, if_false, decide_true, decide_false, Option.map_some, Option.map_none, Option.bind_some, Option.bind_none, Bool.false_eq_true, Bool.not_true, Bool.not_false, reduceIte, reduceCtorEq, List.length_cons, List.length_nil, List.map_cons, List.map_nil, List.replicate_zero, List.replicate_succ, Nat.reduceAdd, Nat.reduceSub, Nat.zero_add, Nat.add_zero, Nat.sub_self, List.cons_append, List.nil_append, Bool.true_and, Bool.and_true, Bool.and_false, Bool.false_and, Nat.reduceLeDiff, Nat.reduceEqDiff, forS_v, forS_c, hInt_int, hInt_bl, hAbs_int, hMax2_int, hMin2_int, hGt_int, hLt_int, hLe_int, hGe_int, hIx_t0, hIx_t1, hIx_t2, hIx_t3, mul_ok, mod_ok, fdiv_ok]
  erw [hSum_l]
  simp only [sSeq, sAsg, sIf, sIfE, sTest, sOp, sUn, sFn, sVar, sC, sCons, sNil, sTup, sLst, sNew, sNewD, sDict0, sCall, sRet, sRetN, sDrop, sPar, sPar3, sSkip, gNm, gTp, gsNil, gsCons, gSb, sAndT, sOrT, sNotT, sAndV, sOrV, sNotV, sChain, sTrue, Res.bind, Res.np, ofO, ofI, ofM, sMt, hAdd_int, hSub_int, hNeg_int, isB, hIs, hNotIs, List.getElem?_cons_zero, List.getElem?_cons_succ, List.set_cons_zero, List.set_cons_succ, if_true, if_false, decide_true, decide_false, Option.map_some, Option.map_none, Option.bind_some, Option.bind_none, Bool.false_eq_true, Bool.not_true, Bool.not_false, reduceIte, reduceCtorEq, List.length_cons, List.length_nil, List.map_cons, List.map_nil, List.replicate_zero, List.replicate_succ, Nat.reduceAdd, Nat.reduceSub, Nat.zero_add, Nat.add_zero, Nat.sub_self, List.cons_append, List.nil_append, Bool.true_and, Bool.and_true, Bool.and_false, Bool.false_and, Nat.reduceLeDiff, Nat.reduceEqDiff, forS_v, forS_c, hInt_int, hInt_bl, hAbs_int, hMax2_int, hMin2_int, hGt_int, hLt_int, hLe_int, hGe_int, hIx_t0, hIx_t1, hIx_t2, hIx_t3, mul_ok, mod_ok, fdiv_ok]
  erw [p3]
  simp only [sSeq, sAsg, sIf, sIfE, sTest, sOp, sUn, sFn, sVar, sC, sCons, sNil, sTup, sLst, sNew, sNewD, sDict0, sCall, sRet, sRetN, sDrop, sPar, sPar3, sSkip, gNm, gTp, gsNil, gsCons, gSb, sAndT, sOrT, sNotT, sAndV, sOrV, sNotV, sChain, sTrue, Res.bind, Res.np, ofO, ofI, ofM, sMt, hAdd_int, hSub_int, hNeg_int, isB, hIs, hNotIs, List.getElem?_cons_zero, List.getElem?_cons_succ, List.set_cons_zero, List.set_cons_succ, if_true, if_false, decide_true, decide_false, Option.map_some, Option.map_none, Option.bind_some, Option.bind_none, Bool.false_eq_true, Bool.not_true, Bool.not_false, reduceIte, reduceCtorEq, List.length_cons, List.length_nil, List.map_cons, List.map_nil, List.replicate_zero, List.replicate_succ, Nat.reduceAdd, Nat.reduceSub, Nat.zero_add, Nat.add_zero, Nat.sub_self, List.cons_append, List.nil_append, Bool.true_and, Bool.and_true, Bool.and_false, Bool.false_and, Nat.reduceLeDiff, Nat.reduceEqDiff, forS_v, forS_c, hInt_int, hInt_bl, hAbs_int, hMax2_int, hMin2_int, hGt_int, hLt_int, hLe_int, hGe_int, hIx_t0, hIx_t1, hIx_t2, hIx_t3, mul_ok, mod_ok, fdiv_ok]
  erw [hSum_l]
  rfl
end Y

set_option maxHeartbeats 2000000
namespace Y
open PySem PySem.Spec PyProof.Rows L2 Rd
structure Hts (many : Nat) (es : List Ed) (P : Int × Int) (h : List Int) : Prop where
  len : h.length = many
  sol : Sol es P (hAt h)
  le : ∀ x, Sol es P x → ∀ v, hAt h v ≤ x v
  tie : ∀ v, v < many → hAt h v = 0 ∨ ∃ e ∈ es, e.t = v ∧ hAt h v = hAt h e.s + gn P e
  bd : ∀ v, hAt h v < 2 ^ 220
/-- what told_period tells -/
inductive Told (many : Nat) (es : List Ed) : D → Prop where
  | never {is : List Nat} {rs : List Ed} (r : IsRing es is rs) (k : ksum rs = 0) (l : 0 < lsum rs) : Told many es (.tup [.non, .non, .tup (natsD is)])
  | least {P : Int × Int} {h : List Int} {is : List Nat} (b : PB P) (g : Int.gcd P.1 P.2 = 1) (H : Hts many es P h) (t : (P = (0, 1) ∧ is = []) ∨ ∃ rs, IsRing es is rs ∧ 0 < ksum rs ∧ low (lsum rs) (ksum rs) = P) : Told many es (.tup [dP P, .lst (h.map .int), .tup (natsD is)])
theorem ring_len {many : Nat} {es : List Ed} {is : List Nat} {rs : List Ed} (V : Val many es) (r : IsRing es is rs) : rs.length ≤ 8 := by
  have h1 := nodup_len r.nd (m := List.range many) fun a ha => by
    obtain ⟨e, he, rfl⟩ := List.mem_map.mp ha
    exact List.mem_range.mpr (V.ed e (r.circ.1 e he)).1
  simp at h1
  have := V.m1
  omega
theorem ring_bounds {many : Nat} {es : List Ed} {is : List Nat} {rs : List Ed} (V : Val many es) (r : IsRing es is rs) : 0 ≤ lsum rs ∧ lsum rs ≤ 792 ∧ 0 ≤ ksum rs ∧ ksum rs ≤ 72 := by
  have hl := ring_len V r
  have h1 := sum_le (es := es) (f := (·.l)) (m := 99) (by decide) (rs := rs) (n := 8) (fun e he => by have := V.lk e (r.circ.1 e he); exact ⟨this.1, this.2.1⟩) hl
  have h2 := sum_le (es := es) (f := (·.k)) (m := 9) (by decide) (rs := rs) (n := 8) (fun e he => by have := V.lk e (r.circ.1 e he); exact ⟨this.2.2.1, this.2.2.2⟩) hl
  unfold lsum ksum
  simp at h1 h2
  omega
abbrev cdT : ST := (sTest (sOp hNotIs (sVar 5) (sC .non)))
abbrev bdT : SS := (sSeq (sAsg (sCall f_numbers_of_ring (sCons (sVar 1) (sCons (sVar 5) sNil))) (gTp 2 (gsCons (gNm 6) (gsCons (gNm 7) gsNil))))
    (sSeq (sIf (sTest (sOp hEq (sVar 7) (sC (.int 0)))) (sRet (sTup (sCons (sC .non) (sCons (sC .non) (sCons (sVar 5) sNil))))) sSkip)
    (sSeq (sPar 2 3 (sCons (sCall f_lowest (sCons (sVar 6) (sCons (sVar 7) sNil))) (sCons (sVar 5) sNil)))
    (sAsg (sCall f_heights_or_ring (sCons (sVar 0) (sCons (sVar 1) (sCons (sVar 2) sNil)))) (gTp 2 (gsCons (gNm 4) (gsCons (gNm 5) gsNil)))))))
abbrev fnT : SS := (sRet (sTup (sCons (sVar 2) (sCons (sVar 4) (sCons (sVar 3) sNil)))))
theorem told_loop {many : Nat} {es : List Ed} (V : Val many es) : ∀ (n : Nat) (P : Int × Int) (is : List Nat) (hd fd : D) (x6 x7 : Option D), PB P → Int.gcd P.1 P.2 = 1 → ((P = (0, 1) ∧ is = []) ∨ ∃ rs, IsRing es is rs ∧ 0 < ksum rs ∧ low (lsum rs) (ksum rs) = P) →
    f_heights_or_ring [.int (many : Int), dEs es, dP P] [] = .ok (.tup [hd, fd]) [] → mu P < n →
    ∃ d, ((wloop cdT bdT n [some (.int (many : Int)), some (dEs es), some (dP P), some (.tup (natsD is)), some hd, some fd, x6, x7] []).bind fun fl S1 => match fl with
      | .nx env1 => fnT env1 S1
      | fl => .ok fl S1) = .ok (.ret d) [] ∧ Told many es d
  | 0, _, _, _, _, _, _, _, _, _, _, h => absurd h (Nat.not_lt_zero _)
  | n + 1, P, is, hd, fd, x6, x7, hP, hg, ht, hr, hn => by
    unfold wloop
    rcases hr_ok (S := []) V hP with ⟨h, q, H⟩ | ⟨is', rs, q, r, g⟩
    · rw [hr] at q
      cases q
      refine ⟨_, ?_, .least hP hg ⟨H.1, H.2.1, H.2.2.1, H.2.2.2.1, H.2.2.2.2⟩ ht⟩
      simp only [cdT, fnT, sSeq, sAsg, sIf, sIfE, sTest, sOp, sUn, sFn, sVar, sC, sCons, sNil, sTup, sLst, sNew, sNewD, sDict0, sCall, sRet, sRetN, sDrop, sPar, sPar3, sSkip, gNm, gTp, gsNil, gsCons, gSb, sAndT, sOrT, sNotT, sAndV, sOrV, sNotV, sChain, sTrue, Res.bind, Res.np, ofO, ofI, ofM, sMt, hAdd_int, hSub_int, hNeg_int, isB, hIs, hNotIs, List.getElem?_cons_zero, List.getElem?_cons_succ, List.set_cons_zero, List.set_cons_succ, if_true, if_false, decide_true, decide_false, Option.map_some, Option.map_none, Option.bind_some, Option.bind_none, Bool.false_eq_true, Bool.not_true, Bool.not_false, reduceIte, reduceCtorEq, List.length_cons, List.length_nil, List.map_cons, List.map_nil, List.replicate_zero, List.replicate_succ, Nat.reduceAdd, Nat.reduceSub, Nat.zero_add, Nat.add_zero, Nat.sub_self, List.cons_append, List.nil_append, Bool.true_and, Bool.and_true, Bool.and_false, Bool.false_and, Nat.reduceLeDiff, Nat.reduceEqDiff, forS_v, forS_c, hInt_int, hInt_bl, hAbs_int, hMax2_int, hMin2_int, hGt_int, hLt_int, hLe_int, hGe_int, hIx_t0, hIx_t1, hIx_t2, hIx_t3, mul_ok, mod_ok, fdiv_ok]
    · rw [hr] at q
      cases q
      have rb := ring_bounds V r
      have rl := ring_len V r
      have il : is'.length ≤ 1000000 := by
        have := congrArg List.length r.at_
        simp at this
        omega
      have nb := fun S => numbers_ok (S := S) r.at_ il
      rw [sumG_ring P r.at_] at g
      by_cases hk : ksum rs = 0
      · refine ⟨.tup [.non, .non, .tup (natsD is')], ?_, .never r hk ?_⟩
        · simp only [cdT, bdT, sSeq, sAsg, sIf, sIfE, sTest, sOp, sUn, sFn, sVar, sC, sCons, sNil, sTup, sLst, sNew, sNewD, sDict0, sCall, sRet, sRetN, sDrop, sPar, sPar3, sSkip, gNm, gTp, gsNil, gsCons, gSb, sAndT, sOrT, sNotT, sAndV, sOrV, sNotV, sChain, sTrue, Res.bind, Res.np, ofO, ofI, ofM, sMt, hAdd_int, hSub_int, hNeg_int, isB, hIs, hNotIs, List.getElem?_cons_zero, List.getElem?_cons_succ, List.set_cons_zero, List.set_cons_succ, if_true, if_false, decide_true, decide_false, Option.map_some, Option.map_none, Option.bind_some, Option.bind_none, Bool.false_eq_true, Bool.not_true, Bool.not_false, reduceIte, reduceCtorEq, List.length_cons, List.length_nil, List.map_cons, List.map_nil, List.replicate_zero, List.replicate_succ, Nat.reduceAdd, Nat.reduceSub, Nat.zero_add, Nat.add_zero, Nat.sub_self, List.cons_append, List.nil_append, Bool.true_and, Bool.and_true, Bool.and_false, Bool.false_and, Nat.reduceLeDiff, Nat.reduceEqDiff, forS_v, forS_c, hInt_int, hInt_bl, hAbs_int, hMax2_int, hMin2_int, hGt_int, hLt_int, hLe_int, hGe_int, hIx_t0, hIx_t1, hIx_t2, hIx_t3, mul_ok, mod_ok, fdiv_ok, nb, hEq_int, hk]
        · rw [hk, Int.zero_mul, Int.sub_zero] at g
          by_cases hl : 0 < lsum rs
          · exact hl
          · have : lsum rs * P.2 ≤ 0 * P.2 := Int.mul_le_mul_of_nonneg_right (by omega) (by have := hP.q0; omega)
            omega
      · have hk1 : 0 < ksum rs := by omega
        have lo1 := low_nn (t := lsum rs) hk1 (by omega)
        have lo2 := low_le (t := lsum rs) hk1
        have e200 : (792 : Int) < 2 ^ 200 := by decide +kernel
        have hP' : PB (low (lsum rs) (ksum rs)) := ⟨lo1.1, by omega, low_pos hk1, by omega⟩
        have lw := fun S => lowest_ok (S := S) (t := lsum rs) hk1 (.of (n := 72) (by omega) (by omega))
        have hmu : mu (low (lsum rs) (ksum rs)) < mu P := mu_lt hP.q0 (by omega) (by omega) (by omega) (by omega) (by omega)
        obtain ⟨hd', fd', hr'⟩ : ∃ hd' fd', f_heights_or_ring [.int (many : Int), dEs es, dP (low (lsum rs) (ksum rs))] [] = .ok (.tup [hd', fd']) [] := by
          rcases hr_ok (S := []) V hP' with ⟨h, q, _⟩ | ⟨is', rs, q, _⟩
          · exact ⟨_, _, q⟩
          · exact ⟨_, _, q⟩
        obtain ⟨d, ih, T⟩ := told_loop V n _ is' hd' fd' (some (.int (lsum rs))) (some (.int (ksum rs))) hP' (low_gcd hk1) (.inr ⟨rs, r, hk1, rfl⟩) hr' (by omega)
        refine ⟨d, ?_, T⟩
        simp only [cdT, bdT, sSeq, sAsg, sIf, sIfE, sTest, sOp, sUn, sFn, sVar, sC, sCons, sNil, sTup, sLst, sNew, sNewD, sDict0, sCall, sRet, sRetN, sDrop, sPar, sPar3, sSkip, gNm, gTp, gsNil, gsCons, gSb, sAndT, sOrT, sNotT, sAndV, sOrV, sNotV, sChain, sTrue, Res.bind, Res.np, ofO, ofI, ofM, sMt, hAdd_int, hSub_int, hNeg_int, isB, hIs, hNotIs, List.getElem?_cons_zero, List.getElem?_cons_succ, List.set_cons_zero, List.set_cons_succ, if_true, if_false, decide_true, decide_false, Option.map_some, Option.map_none, Option.bind_some, Option.bind_none, Bool.false_eq_true, Bool.not_true, Bool.not_false, reduceIte, reduceCtorEq, List.length_cons, List.length_nil, List.map_cons, List.map_nil, List.replicate_zero, List.replicate_succ, Nat.reduceAdd, Nat.reduceSub, Nat.zero_add, Nat.add_zero, Nat.sub_self, List.cons_append, List.nil_append, Bool.true_and, Bool.and_true, Bool.and_false, Bool.false_and, Nat.reduceLeDiff, Nat.reduceEqDiff, forS_v, forS_c, hInt_int, hInt_bl, hAbs_int, hMax2_int, hMin2_int, hGt_int, hLt_int, hLe_int, hGe_int, hIx_t0, hIx_t1, hIx_t2, hIx_t3, mul_ok, mod_ok, fdiv_ok, nb, hEq_int, hk, lw, hr']
        exact ih
theorem Told.fz {many : Nat} {es : List Ed} {d : D} (T : Told many es d) : fz 60 [] d = some d := by
  cases T with
  | never r k l => simp only [fz_tup, mapO_cons, mapO_nil, fz_non, fz_nats, Option.map_some]
  | least b g H t => simp only [fz_tup, fz_lst, mapO_cons, mapO_nil, fz_int, fz_nats, fz_ints, Option.map_some]
theorem told_ok {many : Nat} {es : List Ed} {S : Store} (V : Val many es) : ∃ d, f_told_period [.int (many : Int), dEs es] S = .ok d S ∧ Told many es d := by
  have nr : D.noRefs [.int (many : Int), dEs es] = true := by
    simp only [D.noRefs, dEs_noRef, Bool.true_and, Bool.and_true]
    rfl
  have hP : PB (0, 1) := ⟨by decide, by decide +kernel, by decide, by decide +kernel⟩
  obtain ⟨hd, fd, hr⟩ : ∃ hd fd, f_heights_or_ring [.int (many : Int), dEs es, dP (0, 1)] [] = .ok (.tup [hd, fd]) [] := by
    rcases hr_ok (S := []) V hP with ⟨h, q, _⟩ | ⟨is', rs, q, _⟩
    · exact ⟨_, _, q⟩
    · exact ⟨_, _, q⟩
  have m0 := mu_le (0, 1)
  obtain ⟨d, lp, T⟩ := told_loop V 100000 (0, 1) [] hd fd none none hP (by decide) (.inl ⟨rfl, rfl⟩) hr (by omega)
  refine ⟨d, mkP_ok rfl nr (S' := []) ?_ T.fz, T⟩
  refine Eq.trans ?_ lp
  simp only [b_told_period, sWhile, sSeq, sAsg, sIf, sIfE, sTest, sOp, sUn, sFn, sVar, sC, sCons, sNil, sTup, sLst, sNew, sNewD, sDict0, sCall, sRet, sRetN, sDrop, sPar, sPar3, sSkip, gNm, gTp, gsNil, gsCons, gSb, sAndT, sOrT, sNotT, sAndV, sOrV, sNotV, sChain, sTrue, Res.bind, Res.np, ofO, ofI, ofM, sMt, hAdd_int, hSub_int, hNeg_int, isB, hIs, hNotIs, List.getElem?_cons_zero, List.getElem?_cons_succ, List.set_cons_zero, List.set_cons_succ, if_true, if_false, decide_true, decide_false, Option.map_some, Option.map_none, Option.bind_some, Option.bind_none, Bool.false_eq_true, Bool.not_true, Bool.not_false, reduceIte, reduceCtorEq, List.length_cons, List.length_nil, List.map_cons, List.map_nil, List.replicate_zero, List.replicate_succ, Nat.reduceAdd, Nat.reduceSub, Nat.zero_add, Nat.add_zero, Nat.sub_self, List.cons_append, List.nil_append, Bool.true_and, Bool.and_true, Bool.and_false, Bool.false_and, Nat.reduceLeDiff, Nat.reduceEqDiff, forS_v, forS_c, hInt_int, hInt_bl, hAbs_int, hMax2_int, hMin2_int, hGt_int, hLt_int, hLe_int, hGe_int, hIx_t0, hIx_t1, hIx_t2, hIx_t3, mul_ok, mod_ok, fdiv_ok, hr]
  all_goals rfl
theorem Told.is {many : Nat} {es : List Ed} {d : D} (V : Val many es) (T : Told many es d) : (Never es ∧ ∃ is, d = .tup [.non, .non, .tup (natsD is)]) ∨ ∃ P h is, Least es P ∧ PB P ∧ P.1 ≤ 792 ∧ Hts many es P h ∧ d = .tup [dP P, .lst (h.map .int), .tup (natsD is)] := by
  cases T with
  | never r k l => exact .inl ⟨⟨_, r.circ, k, l⟩, _, rfl⟩
  | @least P h is b g H t =>
    refine .inr ⟨P, h, is, ⟨b.q0, b.p0, g, H.sol.rf b.q0, ?_⟩, b, ?_, H, rfl⟩
    · rcases t with ⟨t, _⟩ | ⟨rs, r, hk, e⟩
      · exact .inl t
      · refine .inr ⟨rs, r.circ, hk, ?_⟩
        rw [← e, low_cross, Int.mul_comm]
    · rcases t with ⟨rfl, _⟩ | ⟨rs, r, hk, e⟩
      · decide
      · have rb := ring_bounds V r
        have := low_nn (t := lsum rs) hk rb.1
        rw [e] at this
        omega
end Y

set_option maxHeartbeats 2000000
namespace Y
open PySem PySem.Spec PyProof.Rows L2 Rd
theorem mkP_d {np n : Nat} {g : SS} {ds : List D} {S S' : Store} {d : D} (hl : ds.length = np) (hr : D.noRefs ds = true) (hf : fz 60 S' d = some d) (hg : g (ds.map some ++ List.replicate (n - ds.length) none) [] = .ok (.ret d) S') : mkP np n g ds S = .ok d S := mkP_ok hl hr hg hf
theorem isi_int_int {S : Store} {i : Int} : hIsi S [.int i, .ty "int"] = some (.bl true) := by simp [hIsi, two2, typD, isaD]
theorem isi_int_bool {S : Store} {i : Int} : hIsi S [.int i, .ty "bool"] = some (.bl false) := by simp [hIsi, two2, typD, isaD]
theorem isi_tup {S : Store} {xs : List D} : hIsi S [.tup xs, .ty "tuple"] = some (.bl true) := by simp [hIsi, two2, typD, isaD]
theorem len_tup {S : Store} {xs : List D} : hLen S [.tup xs] = some (.int (xs.length : Int)) := by simp [hLen, one1, itemsOf]
theorem eq_dP {S : Store} {P Q : Int × Int} : hEq S (dP P) (dP Q) = some (.bl (decide (P = Q))) := by
  have e : ∀ P : Int × Int, toPD 40 S (dP P) = some (.tuple [.int P.1, .int P.2]) := fun i => rfl
  simp only [hEq, e]
  congr 2
  have : PyData.eqv (.tuple [.int P.1, .int P.2]) (.tuple [.int Q.1, .int Q.2]) = (decide (P.1 = Q.1) && decide (P.2 = Q.2)) := by
    simp only [PyData.eqv, PyData.eqvAll, Bool.and_true]
    rfl
  rw [this]
  obtain ⟨a, b⟩ := P
  obtain ⟨c, d⟩ := Q
  simp
theorem within_ok {S : Store} {v l h : Int} : f_is_count_within [.int v, .int l, .int h] S = .ok (.bl (decide (l ≤ v) && decide (v ≤ h))) S := by
  refine mkP_d rfl rfl (S' := []) rfl ?_
  by_cases h1 : l ≤ v
  · simp only [b_is_count_within, sSeq, sAsg, sIf, sIfE, sTest, sOp, sUn, sFn, sVar, sC, sCons, sNil, sTup, sLst, sNew, sNewD, sDict0, sCall, sRet, sRetN, sDrop, sPar, sPar3, sSkip, gNm, gTp, gsNil, gsCons, gSb, sAndT, sOrT, sNotT, sAndV, sOrV, sNotV, sChain, sTrue, Res.bind, Res.np, ofO, ofI, ofM, sMt, hAdd_int, hSub_int, hNeg_int, isB, hIs, hNotIs, List.getElem?_cons_zero, List.getElem?_cons_succ, List.set_cons_zero, List.set_cons_succ, if_true, if_false, decide_true, decide_false, Option.map_some, Option.map_none, Option.bind_some, Option.bind_none, Bool.false_eq_true, Bool.not_true, Bool.not_false, reduceIte, reduceCtorEq, List.length_cons, List.length_nil, List.map_cons, List.map_nil, List.replicate_zero, List.replicate_succ, Nat.reduceAdd, Nat.reduceSub, Nat.zero_add, Nat.add_zero, Nat.sub_self, List.cons_append, List.nil_append, Bool.true_and, Bool.and_true, Bool.and_false, Bool.false_and, Nat.reduceLeDiff, Nat.reduceEqDiff, forS_v, forS_c, hInt_int, hInt_bl, hAbs_int, hMax2_int, hMin2_int, hGt_int, hLt_int, hLe_int, hGe_int, hIx_t0, hIx_t1, hIx_t2, hIx_t3, mul_ok, mod_ok, fdiv_ok, isi_int_int, isi_int_bool, h1]
  · simp only [b_is_count_within, sSeq, sAsg, sIf, sIfE, sTest, sOp, sUn, sFn, sVar, sC, sCons, sNil, sTup, sLst, sNew, sNewD, sDict0, sCall, sRet, sRetN, sDrop, sPar, sPar3, sSkip, gNm, gTp, gsNil, gsCons, gSb, sAndT, sOrT, sNotT, sAndV, sOrV, sNotV, sChain, sTrue, Res.bind, Res.np, ofO, ofI, ofM, sMt, hAdd_int, hSub_int, hNeg_int, isB, hIs, hNotIs, List.getElem?_cons_zero, List.getElem?_cons_succ, List.set_cons_zero, List.set_cons_succ, if_true, if_false, decide_true, decide_false, Option.map_some, Option.map_none, Option.bind_some, Option.bind_none, Bool.false_eq_true, Bool.not_true, Bool.not_false, reduceIte, reduceCtorEq, List.length_cons, List.length_nil, List.map_cons, List.map_nil, List.replicate_zero, List.replicate_succ, Nat.reduceAdd, Nat.reduceSub, Nat.zero_add, Nat.add_zero, Nat.sub_self, List.cons_append, List.nil_append, Bool.true_and, Bool.and_true, Bool.and_false, Bool.false_and, Nat.reduceLeDiff, Nat.reduceEqDiff, forS_v, forS_c, hInt_int, hInt_bl, hAbs_int, hMax2_int, hMin2_int, hGt_int, hLt_int, hLe_int, hGe_int, hIx_t0, hIx_t1, hIx_t2, hIx_t3, mul_ok, mod_ok, fdiv_ok, isi_int_int, isi_int_bool, h1]
/-- moderate numbers -/
def B (n : Nat) (i : Int) : Prop := i.natAbs < 2 ^ n
theorem B.mod {n : Nat} {i : Int} (h : B n i) (hn : n ≤ 1000 := by decide) : Mod i := Nat.lt_of_lt_of_le h (Nat.pow_le_pow_right (by decide) hn)
theorem B.mul {m n : Nat} {i j : Int} (h : B m i) (k : B n j) : B (m + n) (i * j) := by
  unfold B at *
  rw [Int.natAbs_mul, Nat.pow_add]
  exact Nat.mul_lt_mul'' h k
theorem B.up {m n : Nat} {i : Int} (h : B m i) (hn : m ≤ n) : B n i := Nat.lt_of_lt_of_le h (Nat.pow_le_pow_right (by decide) hn)
theorem B.add {n : Nat} {i j : Int} (h : B n i) (k : B n j) : B (n + 1) (i + j) := by
  unfold B at *
  rw [Nat.pow_succ]
  omega
theorem low_abs {t b : Int} (hb : 0 < b) : (low t b).1.natAbs ≤ t.natAbs ∧ (low t b).2.natAbs ≤ b.natAbs := by
  have h1 := low_t (t := t) (b := b)
  have g := gcdP (t := t) hb
  have p := low_pos (t := t) hb
  have l := low_le (t := t) hb
  refine ⟨?_, by omega⟩
  have h2 : (low t b).1.natAbs * (Int.gcd t b) = t.natAbs := by
    have := congrArg Int.natAbs h1
    rw [Int.natAbs_mul] at this
    simpa using this
  have : (low t b).1.natAbs * 1 ≤ (low t b).1.natAbs * (Int.gcd t b) := Nat.mul_le_mul_left _ (by omega)
  omega
theorem B.low1 {n : Nat} {t b : Int} (hb : 0 < b) (h : B n t) : B n (low t b).1 := Nat.lt_of_le_of_lt (low_abs hb).1 h
theorem B.low2 {n : Nat} {t b : Int} (hb : 0 < b) (h : B n b) : B n (low t b).2 := Nat.lt_of_le_of_lt (low_abs hb).2 h
theorem lowest_okB {S : Store} {t b : Int} {n : Nat} (hb : 0 < b) (h : B n b) (hn : n ≤ 1000 := by decide) : f_lowest [.int t, .int b] S = .ok (dP (low t b)) S := lowest_ok hb (h.mod hn)
theorem fraction_ok {S : Store} {p : Int × Int} (hb : 0 < p.2) (h : Mod p.2) : f_is_fraction [dP p] S = .ok (.bl (decide (low p.1 p.2 = p))) S := by
  refine mkP_d rfl rfl (S' := []) rfl ?_
  have lc := sLc_map (vs := [1]) (s := sSeqI (sVar 0)) (e := (sAndV (sFn hIsi (sCons (sVar 1) (sCons (sC (.ty "int")) sNil))) (sNotV (sTest (sFn hIsi (sCons (sVar 1) (sCons (sC (.ty "bool")) sNil))))))) (env := [some (dP p), none]) (j := 1) (S := []) (ds := [.int p.1, .int p.2]) (fun _ => .bl true) rfl (by simp) (fun d hd => by
    have : d = .int p.1 ∨ d = .int p.2 := by simpa using hd
    rcases this with rfl | rfl <;> simp only [wipeE, sSeq, sAsg, sIf, sIfE, sTest, sOp, sUn, sFn, sVar, sC, sCons, sNil, sTup, sLst, sNew, sNewD, sDict0, sCall, sRet, sRetN, sDrop, sPar, sPar3, sSkip, gNm, gTp, gsNil, gsCons, gSb, sAndT, sOrT, sNotT, sAndV, sOrV, sNotV, sChain, sTrue, Res.bind, Res.np, ofO, ofI, ofM, sMt, hAdd_int, hSub_int, hNeg_int, isB, hIs, hNotIs, List.getElem?_cons_zero, List.getElem?_cons_succ, List.set_cons_zero, List.set_cons_succ, if_true, if_false, decide_true, decide_false, Option.map_some, Option.map_none, Option.bind_some, Option.bind_none, Bool.false_eq_true, Bool.not_true, Bool.not_false, reduceIte, reduceCtorEq, List.length_cons, List.length_nil, List.map_cons, List.map_nil, List.replicate_zero, List.replicate_succ, Nat.reduceAdd, Nat.reduceSub, Nat.zero_add, Nat.add_zero, Nat.sub_self, List.cons_append, List.nil_append, Bool.true_and, Bool.and_true, Bool.and_false, Bool.false_and, Nat.reduceLeDiff, Nat.reduceEqDiff, forS_v, forS_c, hInt_int, hInt_bl, hAbs_int, hMax2_int, hMin2_int, hGt_int, hLt_int, hLe_int, hGe_int, hIx_t0, hIx_t1, hIx_t2, hIx_t3, mul_ok, mod_ok, fdiv_ok, isi_int_int, isi_int_bool])
  have lw := fun S => lowest_ok (S := S) (t := p.1) hb h
  simp only [b_is_fraction, sSeq, sAsg, sIf, sIfE, sTest, sOp, sUn, sFn, sVar, sC, sCons, sNil, sTup, sLst, sNew, sNewD, sDict0, sCall, sRet, sRetN, sDrop, sPar, sPar3, sSkip, gNm, gTp, gsNil, gsCons, gSb, sAndT, sOrT, sNotT, sAndV, sOrV, sNotV, sChain, sTrue, Res.bind, Res.np, ofO, ofI, ofM, sMt, hAdd_int, hSub_int, hNeg_int, isB, hIs, hNotIs, List.getElem?_cons_zero, List.getElem?_cons_succ, List.set_cons_zero, List.set_cons_succ, if_true, if_false, decide_true, decide_false, Option.map_some, Option.map_none, Option.bind_some, Option.bind_none, Bool.false_eq_true, Bool.not_true, Bool.not_false, reduceIte, reduceCtorEq, List.length_cons, List.length_nil, List.map_cons, List.map_nil, List.replicate_zero, List.replicate_succ, Nat.reduceAdd, Nat.reduceSub, Nat.zero_add, Nat.add_zero, Nat.sub_self, List.cons_append, List.nil_append, Bool.true_and, Bool.and_true, Bool.and_false, Bool.false_and, Nat.reduceLeDiff, Nat.reduceEqDiff, forS_v, forS_c, hInt_int, hInt_bl, hAbs_int, hMax2_int, hMin2_int, hGt_int, hLt_int, hLe_int, hGe_int, hIx_t0, hIx_t1, hIx_t2, hIx_t3, mul_ok, mod_ok, fdiv_ok, isi_tup, len_tup, hNe_int]
  rw [show decide (((0 + 1 + 1 : Nat) : Int) = 2) = true from by decide]
  simp only [sSeq, sAsg, sIf, sIfE, sTest, sOp, sUn, sFn, sVar, sC, sCons, sNil, sTup, sLst, sNew, sNewD, sDict0, sCall, sRet, sRetN, sDrop, sPar, sPar3, sSkip, gNm, gTp, gsNil, gsCons, gSb, sAndT, sOrT, sNotT, sAndV, sOrV, sNotV, sChain, sTrue, Res.bind, Res.np, ofO, ofI, ofM, sMt, hAdd_int, hSub_int, hNeg_int, isB, hIs, hNotIs, List.getElem?_cons_zero, List.getElem?_cons_succ, List.set_cons_zero, List.set_cons_succ, if_true, if_false, decide_true, decide_false, Option.map_some, Option.map_none, Option.bind_some, Option.bind_none, Bool.false_eq_true, Bool.not_true, Bool.not_false, reduceIte, reduceCtorEq, List.length_cons, List.length_nil, List.map_cons, List.map_nil, List.replicate_zero, List.replicate_succ, Nat.reduceAdd, Nat.reduceSub, Nat.zero_add, Nat.add_zero, Nat.sub_self, List.cons_append, List.nil_append, Bool.true_and, Bool.and_true, Bool.and_false, Bool.false_and, Nat.reduceLeDiff, Nat.reduceEqDiff, forS_v, forS_c, hInt_int, hInt_bl, hAbs_int, hMax2_int, hMin2_int, hGt_int, hLt_int, hLe_int, hGe_int, hIx_t0, hIx_t1, hIx_t2, hIx_t3, mul_ok, mod_ok, fdiv_ok]
  erw [lc]
  have ha : hAll [] [.lst [.bl true, .bl true]] = some (.bl true) := hAll_l (xs := [true, true])
  simp only [sSeq, sAsg, sIf, sIfE, sTest, sOp, sUn, sFn, sVar, sC, sCons, sNil, sTup, sLst, sNew, sNewD, sDict0, sCall, sRet, sRetN, sDrop, sPar, sPar3, sSkip, gNm, gTp, gsNil, gsCons, gSb, sAndT, sOrT, sNotT, sAndV, sOrV, sNotV, sChain, sTrue, Res.bind, Res.np, ofO, ofI, ofM, sMt, hAdd_int, hSub_int, hNeg_int, isB, hIs, hNotIs, List.getElem?_cons_zero, List.getElem?_cons_succ, List.set_cons_zero, List.set_cons_succ, if_true, if_false, decide_true, decide_false, Option.map_some, Option.map_none, Option.bind_some, Option.bind_none, Bool.false_eq_true, Bool.not_true, Bool.not_false, reduceIte, reduceCtorEq, List.length_cons, List.length_nil, List.map_cons, List.map_nil, List.replicate_zero, List.replicate_succ, Nat.reduceAdd, Nat.reduceSub, Nat.zero_add, Nat.add_zero, Nat.sub_self, List.cons_append, List.nil_append, Bool.true_and, Bool.and_true, Bool.and_false, Bool.false_and, Nat.reduceLeDiff, Nat.reduceEqDiff, forS_v, forS_c, hInt_int, hInt_bl, hAbs_int, hMax2_int, hMin2_int, hGt_int, hLt_int, hLe_int, hGe_int, hIx_t0, hIx_t1, hIx_t2, hIx_t3, mul_ok, mod_ok, fdiv_ok, ha, hb, lw, eq_dP]
theorem plus_ok {S : Store} {x y : Int × Int} (hx : 0 < x.2) (hy : 0 < y.2) (bx : B 400 x.1 ∧ B 400 x.2) (by_ : B 400 y.1 ∧ B 400 y.2) : f_plus [dP x, dP y] S = .ok (dP (low (x.1 * y.2 + y.1 * x.2) (x.2 * y.2))) S := by
  refine mkP_d rfl rfl (S' := []) rfl ?_
  have lw := fun S => lowest_okB (S := S) (t := x.1 * y.2 + y.1 * x.2) (Int.mul_pos hx hy) (bx.2.mul by_.2)
  simp only [b_plus, sSeq, sAsg, sIf, sIfE, sTest, sOp, sUn, sFn, sVar, sC, sCons, sNil, sTup, sLst, sNew, sNewD, sDict0, sCall, sRet, sRetN, sDrop, sPar, sPar3, sSkip, gNm, gTp, gsNil, gsCons, gSb, sAndT, sOrT, sNotT, sAndV, sOrV, sNotV, sChain, sTrue, Res.bind, Res.np, ofO, ofI, ofM, sMt, hAdd_int, hSub_int, hNeg_int, isB, hIs, hNotIs, List.getElem?_cons_zero, List.getElem?_cons_succ, List.set_cons_zero, List.set_cons_succ, if_true, if_false, decide_true, decide_false, Option.map_some, Option.map_none, Option.bind_some, Option.bind_none, Bool.false_eq_true, Bool.not_true, Bool.not_false, reduceIte, reduceCtorEq, List.length_cons, List.length_nil, List.map_cons, List.map_nil, List.replicate_zero, List.replicate_succ, Nat.reduceAdd, Nat.reduceSub, Nat.zero_add, Nat.add_zero, Nat.sub_self, List.cons_append, List.nil_append, Bool.true_and, Bool.and_true, Bool.and_false, Bool.false_and, Nat.reduceLeDiff, Nat.reduceEqDiff, forS_v, forS_c, hInt_int, hInt_bl, hAbs_int, hMax2_int, hMin2_int, hGt_int, hLt_int, hLe_int, hGe_int, hIx_t0, hIx_t1, hIx_t2, hIx_t3, mul_ok, mod_ok, fdiv_ok, mul_ok bx.1.mod by_.2.mod, mul_ok by_.1.mod bx.2.mod, mul_ok bx.2.mod by_.2.mod, lw]
theorem times_ok {S : Store} {x y : Int × Int} (hx : 0 < x.2) (hy : 0 < y.2) (bx : B 400 x.1 ∧ B 400 x.2) (by_ : B 400 y.1 ∧ B 400 y.2) : f_times [dP x, dP y] S = .ok (dP (low (x.1 * y.1) (x.2 * y.2))) S := by
  refine mkP_d rfl rfl (S' := []) rfl ?_
  have lw := fun S => lowest_okB (S := S) (t := x.1 * y.1) (Int.mul_pos hx hy) (bx.2.mul by_.2)
  simp only [b_times, sSeq, sAsg, sIf, sIfE, sTest, sOp, sUn, sFn, sVar, sC, sCons, sNil, sTup, sLst, sNew, sNewD, sDict0, sCall, sRet, sRetN, sDrop, sPar, sPar3, sSkip, gNm, gTp, gsNil, gsCons, gSb, sAndT, sOrT, sNotT, sAndV, sOrV, sNotV, sChain, sTrue, Res.bind, Res.np, ofO, ofI, ofM, sMt, hAdd_int, hSub_int, hNeg_int, isB, hIs, hNotIs, List.getElem?_cons_zero, List.getElem?_cons_succ, List.set_cons_zero, List.set_cons_succ, if_true, if_false, decide_true, decide_false, Option.map_some, Option.map_none, Option.bind_some, Option.bind_none, Bool.false_eq_true, Bool.not_true, Bool.not_false, reduceIte, reduceCtorEq, List.length_cons, List.length_nil, List.map_cons, List.map_nil, List.replicate_zero, List.replicate_succ, Nat.reduceAdd, Nat.reduceSub, Nat.zero_add, Nat.add_zero, Nat.sub_self, List.cons_append, List.nil_append, Bool.true_and, Bool.and_true, Bool.and_false, Bool.false_and, Nat.reduceLeDiff, Nat.reduceEqDiff, forS_v, forS_c, hInt_int, hInt_bl, hAbs_int, hMax2_int, hMin2_int, hGt_int, hLt_int, hLe_int, hGe_int, hIx_t0, hIx_t1, hIx_t2, hIx_t3, mul_ok, mod_ok, fdiv_ok, mul_ok bx.1.mod by_.1.mod, mul_ok bx.2.mod by_.2.mod, lw]
theorem under_ok {S : Store} {x y : Int × Int} (bx : B 900 x.1 ∧ B 900 x.2) (by_ : B 900 y.1 ∧ B 900 y.2) : f_is_under [dP x, dP y] S = .ok (.bl (decide (x.1 * y.2 < y.1 * x.2))) S := by
  refine mkP_d rfl rfl (S' := []) rfl ?_
  simp only [b_is_under, sSeq, sAsg, sIf, sIfE, sTest, sOp, sUn, sFn, sVar, sC, sCons, sNil, sTup, sLst, sNew, sNewD, sDict0, sCall, sRet, sRetN, sDrop, sPar, sPar3, sSkip, gNm, gTp, gsNil, gsCons, gSb, sAndT, sOrT, sNotT, sAndV, sOrV, sNotV, sChain, sTrue, Res.bind, Res.np, ofO, ofI, ofM, sMt, hAdd_int, hSub_int, hNeg_int, isB, hIs, hNotIs, List.getElem?_cons_zero, List.getElem?_cons_succ, List.set_cons_zero, List.set_cons_succ, if_true, if_false, decide_true, decide_false, Option.map_some, Option.map_none, Option.bind_some, Option.bind_none, Bool.false_eq_true, Bool.not_true, Bool.not_false, reduceIte, reduceCtorEq, List.length_cons, List.length_nil, List.map_cons, List.map_nil, List.replicate_zero, List.replicate_succ, Nat.reduceAdd, Nat.reduceSub, Nat.zero_add, Nat.add_zero, Nat.sub_self, List.cons_append, List.nil_append, Bool.true_and, Bool.and_true, Bool.and_false, Bool.false_and, Nat.reduceLeDiff, Nat.reduceEqDiff, forS_v, forS_c, hInt_int, hInt_bl, hAbs_int, hMax2_int, hMin2_int, hGt_int, hLt_int, hLe_int, hGe_int, hIx_t0, hIx_t1, hIx_t2, hIx_t3, mul_ok, mod_ok, fdiv_ok, mul_ok bx.1.mod by_.2.mod, mul_ok by_.1.mod bx.2.mod]
theorem low_lt {t b e f : Int} (hb : 0 < b) : (low t b).1 * e < f * (low t b).2 ↔ t * e < f * b := by
  have g := gcdP (t := t) hb
  have h1 := low_t (t := t) (b := b)
  have h2 := low_b (t := t) (b := b)
  have e1 : t * e = (low t b).1 * e * (Int.gcd t b : Int) := by
    calc t * e = (low t b).1 * (Int.gcd t b : Int) * e := by rw [h1]
      _ = _ := by ac_rfl
  have e2 : f * b = f * (low t b).2 * (Int.gcd t b : Int) := by
    calc f * b = f * ((low t b).2 * (Int.gcd t b : Int)) := by rw [h2]
      _ = _ := by ac_rfl
  rw [e1, e2]
  exact ⟨fun h => Int.mul_lt_mul_of_pos_right h g, fun h => Int.lt_of_mul_lt_mul_right h (Int.le_of_lt g)⟩
theorem low_lt2 {t b e f : Int} (hb : 0 < b) : e * (low t b).2 < (low t b).1 * f ↔ e * b < t * f := by
  have g := gcdP (t := t) hb
  have h1 := low_t (t := t) (b := b)
  have h2 := low_b (t := t) (b := b)
  have e1 : t * f = (low t b).1 * f * (Int.gcd t b : Int) := by
    calc t * f = (low t b).1 * (Int.gcd t b : Int) * f := by rw [h1]
      _ = _ := by ac_rfl
  have e2 : e * b = e * (low t b).2 * (Int.gcd t b : Int) := by
    calc e * b = e * ((low t b).2 * (Int.gcd t b : Int)) := by rw [h2]
      _ = _ := by ac_rfl
  rw [e1, e2]
  exact ⟨fun h => Int.mul_lt_mul_of_pos_right h g, fun h => Int.lt_of_mul_lt_mul_right h (Int.le_of_lt g)⟩
end Y

set_option maxHeartbeats 2000000
namespace Y
open PySem PySem.Spec PyProof.Rows L2 Rd
/-! ### what is asked of arguments -/
theorem sLc_const {vs : List Nat} {s : SI} {e : SE} {env : Env} {j : Nat} {S : Store} {ds : List D} (d0 : D) (hs : s env S = .ok (.vals ds) S) (hl : ds.length ≤ 1000000) (h : ∀ d ∈ ds, e ((wipeE env vs).set j (some d)) S = .ok d0 S) :
    sLc vs s (gNm j) sTrue e env S = .ok (.lst (List.replicate ds.length d0)) S := by
  rw [sLc_map (fun _ => d0) hs hl h, List.map_const']
theorem hAll_true {S : Store} {n : Nat} : hAll S [.lst (List.replicate n (.bl true))] = some (.bl true) := by
  have := hAll_l (S := S) (xs := List.replicate n true)
  rw [List.map_replicate] at this
  rw [this]
  simp
theorem edge_ok {many : Nat} {e : Ed} {S : Store} (h : e.s < many ∧ e.t < many) (k : 0 ≤ e.l ∧ e.l ≤ 99 ∧ 0 ≤ e.k ∧ e.k ≤ 9) : f_is_round_edge [.int (many : Int), dE e] S = .ok (.bl true) S := by
  refine mkP_d rfl rfl (S' := []) rfl ?_
  have w1 : ∀ S : Store, f_is_count_within [.int (e.s : Int), .int 0, .int ((many : Int) - 1)] S = .ok (.bl true) S := fun S => by rw [within_ok, decide_eq_true (by omega), decide_eq_true (by omega)]; rfl
  have w2 : ∀ S : Store, f_is_count_within [.int (e.t : Int), .int 0, .int ((many : Int) - 1)] S = .ok (.bl true) S := fun S => by rw [within_ok, decide_eq_true (by omega), decide_eq_true (by omega)]; rfl
  have w3 : ∀ S : Store, f_is_count_within [.int e.l, .int 0, .int 99] S = .ok (.bl true) S := fun S => by rw [within_ok, decide_eq_true (by omega), decide_eq_true (by omega)]; rfl
  have w4 : ∀ S : Store, f_is_count_within [.int e.k, .int 0, .int 9] S = .ok (.bl true) S := fun S => by rw [within_ok, decide_eq_true (by omega), decide_eq_true (by omega)]; rfl
  simp only [b_is_round_edge, sSeq, sAsg, sIf, sIfE, sTest, sOp, sUn, sFn, sVar, sC, sCons, sNil, sTup, sLst, sNew, sNewD, sDict0, sCall, sRet, sRetN, sDrop, sPar, sPar3, sSkip, gNm, gTp, gsNil, gsCons, gSb, sAndT, sOrT, sNotT, sAndV, sOrV, sNotV, sChain, sTrue, Res.bind, Res.np, ofO, ofI, ofM, sMt, hAdd_int, hSub_int, hNeg_int, isB, hIs, hNotIs, List.getElem?_cons_zero, List.getElem?_cons_succ, List.set_cons_zero, List.set_cons_succ, if_true, if_false, decide_true, decide_false, Option.map_some, Option.map_none, Option.bind_some, Option.bind_none, Bool.false_eq_true, Bool.not_true, Bool.not_false, reduceIte, reduceCtorEq, List.length_cons, List.length_nil, List.map_cons, List.map_nil, List.replicate_zero, List.replicate_succ, Nat.reduceAdd, Nat.reduceSub, Nat.zero_add, Nat.add_zero, Nat.sub_self, List.cons_append, List.nil_append, Bool.true_and, Bool.and_true, Bool.and_false, Bool.false_and, Nat.reduceLeDiff, Nat.reduceEqDiff, forS_v, forS_c, hInt_int, hInt_bl, hAbs_int, hMax2_int, hMin2_int, hGt_int, hLt_int, hLe_int, hGe_int, hIx_t0, hIx_t1, hIx_t2, hIx_t3, mul_ok, mod_ok, fdiv_ok, isi_tup, len_tup, hNe_int]
  rw [show decide (((0 + 1 + 1 + 1 + 1 : Nat) : Int) = 4) = true from by decide]
  simp only [sSeq, sAsg, sIf, sIfE, sTest, sOp, sUn, sFn, sVar, sC, sCons, sNil, sTup, sLst, sNew, sNewD, sDict0, sCall, sRet, sRetN, sDrop, sPar, sPar3, sSkip, gNm, gTp, gsNil, gsCons, gSb, sAndT, sOrT, sNotT, sAndV, sOrV, sNotV, sChain, sTrue, Res.bind, Res.np, ofO, ofI, ofM, sMt, hAdd_int, hSub_int, hNeg_int, isB, hIs, hNotIs, List.getElem?_cons_zero, List.getElem?_cons_succ, List.set_cons_zero, List.set_cons_succ, if_true, if_false, decide_true, decide_false, Option.map_some, Option.map_none, Option.bind_some, Option.bind_none, Bool.false_eq_true, Bool.not_true, Bool.not_false, reduceIte, reduceCtorEq, List.length_cons, List.length_nil, List.map_cons, List.map_nil, List.replicate_zero, List.replicate_succ, Nat.reduceAdd, Nat.reduceSub, Nat.zero_add, Nat.add_zero, Nat.sub_self, List.cons_append, List.nil_append, Bool.true_and, Bool.and_true, Bool.and_false, Bool.false_and, Nat.reduceLeDiff, Nat.reduceEqDiff, forS_v, forS_c, hInt_int, hInt_bl, hAbs_int, hMax2_int, hMin2_int, hGt_int, hLt_int, hLe_int, hGe_int, hIx_t0, hIx_t1, hIx_t2, hIx_t3, mul_ok, mod_ok, fdiv_ok, w1, w2, w3, w4]
theorem edges_ok {many : Nat} {es : List Ed} {S : Store} (V : Val many es) : f_require_edges [.int (many : Int), dEs es] S = .ok .non S := by
  have nr : D.noRefs [.int (many : Int), dEs es] = true := by
    simp only [D.noRefs, dEs_noRef, Bool.true_and, Bool.and_true]
    rfl
  have w1 : ∀ S : Store, f_is_count_within [.int (many : Int), .int 1, .int 8] S = .ok (.bl true) S := fun S => by
    have := V.m0
    have := V.m1
    rw [within_ok, decide_eq_true (by omega), decide_eq_true (by omega)]; rfl
  have lc := sLc_const (vs := [2]) (s := sSeqI (sVar 1)) (e := (sCall f_is_round_edge (sCons (sVar 0) (sCons (sVar 2) sNil)))) (env := [some (.int (many : Int)), some (dEs es), none]) (j := 2) (S := []) (ds := es.map dE) (.bl true) rfl (by have := V.len; simp; omega) (fun d hd => by
    obtain ⟨e, he, rfl⟩ := List.mem_map.mp hd
    simp only [wipeE, sSeq, sAsg, sIf, sIfE, sTest, sOp, sUn, sFn, sVar, sC, sCons, sNil, sTup, sLst, sNew, sNewD, sDict0, sCall, sRet, sRetN, sDrop, sPar, sPar3, sSkip, gNm, gTp, gsNil, gsCons, gSb, sAndT, sOrT, sNotT, sAndV, sOrV, sNotV, sChain, sTrue, Res.bind, Res.np, ofO, ofI, ofM, sMt, hAdd_int, hSub_int, hNeg_int, isB, hIs, hNotIs, List.getElem?_cons_zero, List.getElem?_cons_succ, List.set_cons_zero, List.set_cons_succ, if_true, if_false, decide_true, decide_false, Option.map_some, Option.map_none, Option.bind_some, Option.bind_none, Bool.false_eq_true, Bool.not_true, Bool.not_false, reduceIte, reduceCtorEq, List.length_cons, List.length_nil, List.map_cons, List.map_nil, List.replicate_zero, List.replicate_succ, Nat.reduceAdd, Nat.reduceSub, Nat.zero_add, Nat.add_zero, Nat.sub_self, List.cons_append, List.nil_append, Bool.true_and, Bool.and_true, Bool.and_false, Bool.false_and, Nat.reduceLeDiff, Nat.reduceEqDiff, forS_v, forS_c, hInt_int, hInt_bl, hAbs_int, hMax2_int, hMin2_int, hGt_int, hLt_int, hLe_int, hGe_int, hIx_t0, hIx_t1, hIx_t2, hIx_t3, mul_ok, mod_ok, fdiv_ok, edge_ok (V.ed e he) (V.lk e he)])
  have hg : ((20 : Int) < ((es.map dE).length : Int)) = False := by
    have := V.len
    simp; omega
  unfold f_require_edges mkP runP
  rw [if_pos ⟨rfl, nr⟩]
  simp only [b_require_edges, sSeq, sAsg, sIf, sIfE, sTest, sOp, sUn, sFn, sVar, sC, sCons, sNil, sTup, sLst, sNew, sNewD, sDict0, sCall, sRet, sRetN, sDrop, sPar, sPar3, sSkip, gNm, gTp, gsNil, gsCons, gSb, sAndT, sOrT, sNotT, sAndV, sOrV, sNotV, sChain, sTrue, Res.bind, Res.np, ofO, ofI, ofM, sMt, hAdd_int, hSub_int, hNeg_int, isB, hIs, hNotIs, List.getElem?_cons_zero, List.getElem?_cons_succ, List.set_cons_zero, List.set_cons_succ, if_true, if_false, decide_true, decide_false, Option.map_some, Option.map_none, Option.bind_some, Option.bind_none, Bool.false_eq_true, Bool.not_true, Bool.not_false, reduceIte, reduceCtorEq, List.length_cons, List.length_nil, List.map_cons, List.map_nil, List.replicate_zero, List.replicate_succ, Nat.reduceAdd, Nat.reduceSub, Nat.zero_add, Nat.add_zero, Nat.sub_self, List.cons_append, List.nil_append, Bool.true_and, Bool.and_true, Bool.and_false, Bool.false_and, Nat.reduceLeDiff, Nat.reduceEqDiff, forS_v, forS_c, hInt_int, hInt_bl, hAbs_int, hMax2_int, hMin2_int, hGt_int, hLt_int, hLe_int, hGe_int, hIx_t0, hIx_t1, hIx_t2, hIx_t3, mul_ok, mod_ok, fdiv_ok, w1, isi_tup, len_tup, hg]
  erw [lc]
  simp only [sSeq, sAsg, sIf, sIfE, sTest, sOp, sUn, sFn, sVar, sC, sCons, sNil, sTup, sLst, sNew, sNewD, sDict0, sCall, sRet, sRetN, sDrop, sPar, sPar3, sSkip, gNm, gTp, gsNil, gsCons, gSb, sAndT, sOrT, sNotT, sAndV, sOrV, sNotV, sChain, sTrue, Res.bind, Res.np, ofO, ofI, ofM, sMt, hAdd_int, hSub_int, hNeg_int, isB, hIs, hNotIs, List.getElem?_cons_zero, List.getElem?_cons_succ, List.set_cons_zero, List.set_cons_succ, if_true, if_false, decide_true, decide_false, Option.map_some, Option.map_none, Option.bind_some, Option.bind_none, Bool.false_eq_true, Bool.not_true, Bool.not_false, reduceIte, reduceCtorEq, List.length_cons, List.length_nil, List.map_cons, List.map_nil, List.replicate_zero, List.replicate_succ, Nat.reduceAdd, Nat.reduceSub, Nat.zero_add, Nat.add_zero, Nat.sub_self, List.cons_append, List.nil_append, Bool.true_and, Bool.and_true, Bool.and_false, Bool.false_and, Nat.reduceLeDiff, Nat.reduceEqDiff, forS_v, forS_c, hInt_int, hInt_bl, hAbs_int, hMax2_int, hMin2_int, hGt_int, hLt_int, hLe_int, hGe_int, hIx_t0, hIx_t1, hIx_t2, hIx_t3, mul_ok, mod_ok, fdiv_ok, hAll_true]
theorem dP_pos {p : Int × Int} : D.noRef (dP p) = true := rfl
theorem period_ok {many : Nat} {es : List Ed} {P : Int × Int} {S : Store} (V : Val many es) (hP : PB P) (g : Int.gcd P.1 P.2 = 1) : f_require_period [.int (many : Int), dEs es, dP P] S = .ok .non S := by
  have nr : D.noRefs [.int (many : Int), dEs es, dP P] = true := by
    simp only [D.noRefs, dEs_noRef, dP_pos, Bool.true_and, Bool.and_true]
    rfl
  have fr := fun S => fraction_ok (S := S) hP.q0 hP.mq
  have lw : low P.1 P.2 = P := low_is hP.q0 hP.q0 g rfl
  have hn : (P.1 < 0) = False := by have := hP.p0; simp; omega
  unfold f_require_period mkP runP
  rw [if_pos ⟨rfl, nr⟩]
  simp only [b_require_period, sSeq, sAsg, sIf, sIfE, sTest, sOp, sUn, sFn, sVar, sC, sCons, sNil, sTup, sLst, sNew, sNewD, sDict0, sCall, sRet, sRetN, sDrop, sPar, sPar3, sSkip, gNm, gTp, gsNil, gsCons, gSb, sAndT, sOrT, sNotT, sAndV, sOrV, sNotV, sChain, sTrue, Res.bind, Res.np, ofO, ofI, ofM, sMt, hAdd_int, hSub_int, hNeg_int, isB, hIs, hNotIs, List.getElem?_cons_zero, List.getElem?_cons_succ, List.set_cons_zero, List.set_cons_succ, if_true, if_false, decide_true, decide_false, Option.map_some, Option.map_none, Option.bind_some, Option.bind_none, Bool.false_eq_true, Bool.not_true, Bool.not_false, reduceIte, reduceCtorEq, List.length_cons, List.length_nil, List.map_cons, List.map_nil, List.replicate_zero, List.replicate_succ, Nat.reduceAdd, Nat.reduceSub, Nat.zero_add, Nat.add_zero, Nat.sub_self, List.cons_append, List.nil_append, Bool.true_and, Bool.and_true, Bool.and_false, Bool.false_and, Nat.reduceLeDiff, Nat.reduceEqDiff, forS_v, forS_c, hInt_int, hInt_bl, hAbs_int, hMax2_int, hMin2_int, hGt_int, hLt_int, hLe_int, hGe_int, hIx_t0, hIx_t1, hIx_t2, hIx_t3, mul_ok, mod_ok, fdiv_ok, edges_ok V, fr, lw, hn]
/-! ### begins -/
abbrev dBs (bs : List (Int × Int)) : D := .tup (bs.map dP)
theorem begins_ok {h : List Int} {P : Int × Int} {S : Store} (hq : 0 < P.2) (hm : Mod P.2) (hl : h.length ≤ 1000000) : f_begins_by [.lst (h.map .int), dP P] S = .ok (dBs (h.map fun v => low v P.2)) S := by
  have nr : D.noRefs [.lst (h.map D.int), dP P] = true := by
    have e : D.noRef (.lst (h.map D.int)) = true := by
      unfold D.noRef
      clear hl
      induction h with
      | nil => rfl
      | cons v h ih => simp only [List.map_cons, D.noRefs, D.noRef, Bool.true_and] at ih ⊢; exact ih
    simp only [D.noRefs, e, dP_pos, Bool.true_and, Bool.and_true]
  have lc := sLc_map (vs := [2]) (s := sSeqI (sVar 0)) (e := (sCall f_lowest (sCons (sVar 2) (sCons (sOp hIx (sVar 1) (sC (.int 1))) sNil)))) (env := [some (.lst (h.map .int)), some (dP P), none]) (j := 2) (S := []) (ds := h.map .int) (fun d => match d with
    | .int i => dP (low i P.2)
    | d => d) rfl (by simpa using hl) (fun d hd => by
      obtain ⟨i, hi, rfl⟩ := List.mem_map.mp hd
      simp only [wipeE, sSeq, sAsg, sIf, sIfE, sTest, sOp, sUn, sFn, sVar, sC, sCons, sNil, sTup, sLst, sNew, sNewD, sDict0, sCall, sRet, sRetN, sDrop, sPar, sPar3, sSkip, gNm, gTp, gsNil, gsCons, gSb, sAndT, sOrT, sNotT, sAndV, sOrV, sNotV, sChain, sTrue, Res.bind, Res.np, ofO, ofI, ofM, sMt, hAdd_int, hSub_int, hNeg_int, isB, hIs, hNotIs, List.getElem?_cons_zero, List.getElem?_cons_succ, List.set_cons_zero, List.set_cons_succ, if_true, if_false, decide_true, decide_false, Option.map_some, Option.map_none, Option.bind_some, Option.bind_none, Bool.false_eq_true, Bool.not_true, Bool.not_false, reduceIte, reduceCtorEq, List.length_cons, List.length_nil, List.map_cons, List.map_nil, List.replicate_zero, List.replicate_succ, Nat.reduceAdd, Nat.reduceSub, Nat.zero_add, Nat.add_zero, Nat.sub_self, List.cons_append, List.nil_append, Bool.true_and, Bool.and_true, Bool.and_false, Bool.false_and, Nat.reduceLeDiff, Nat.reduceEqDiff, forS_v, forS_c, hInt_int, hInt_bl, hAbs_int, hMax2_int, hMin2_int, hGt_int, hLt_int, hLe_int, hGe_int, hIx_t0, hIx_t1, hIx_t2, hIx_t3, mul_ok, mod_ok, fdiv_ok, lowest_ok hq hm])
  have fzB : fz 60 [] (dBs (h.map fun v => low v P.2)) = some (dBs (h.map fun v => low v P.2)) := by
    rw [fz_tup, fz_list fun x hx => ?_]
    · rfl
    · obtain ⟨p, _, rfl⟩ := List.mem_map.mp hx
      rfl
  refine mkP_d rfl nr (S' := []) fzB ?_
  simp only [b_begins_by, sSeq, sAsg, sIf, sIfE, sTest, sOp, sUn, sFn, sVar, sC, sCons, sNil, sTup, sLst, sNew, sNewD, sDict0, sCall, sRet, sRetN, sDrop, sPar, sPar3, sSkip, gNm, gTp, gsNil, gsCons, gSb, sAndT, sOrT, sNotT, sAndV, sOrV, sNotV, sChain, sTrue, Res.bind, Res.np, ofO, ofI, ofM, sMt, hAdd_int, hSub_int, hNeg_int, isB, hIs, hNotIs, List.getElem?_cons_zero, List.getElem?_cons_succ, List.set_cons_zero, List.set_cons_succ, if_true, if_false, decide_true, decide_false, Option.map_some, Option.map_none, Option.bind_some, Option.bind_none, Bool.false_eq_true, Bool.not_true, Bool.not_false, reduceIte, reduceCtorEq, List.length_cons, List.length_nil, List.map_cons, List.map_nil, List.replicate_zero, List.replicate_succ, Nat.reduceAdd, Nat.reduceSub, Nat.zero_add, Nat.add_zero, Nat.sub_self, List.cons_append, List.nil_append, Bool.true_and, Bool.and_true, Bool.and_false, Bool.false_and, Nat.reduceLeDiff, Nat.reduceEqDiff, forS_v, forS_c, hInt_int, hInt_bl, hAbs_int, hMax2_int, hMin2_int, hGt_int, hLt_int, hLe_int, hGe_int, hIx_t0, hIx_t1, hIx_t2, hIx_t3, mul_ok, mod_ok, fdiv_ok]
  erw [lc]
  simp only [sSeq, sAsg, sIf, sIfE, sTest, sOp, sUn, sFn, sVar, sC, sCons, sNil, sTup, sLst, sNew, sNewD, sDict0, sCall, sRet, sRetN, sDrop, sPar, sPar3, sSkip, gNm, gTp, gsNil, gsCons, gSb, sAndT, sOrT, sNotT, sAndV, sOrV, sNotV, sChain, sTrue, Res.bind, Res.np, ofO, ofI, ofM, sMt, hAdd_int, hSub_int, hNeg_int, isB, hIs, hNotIs, List.getElem?_cons_zero, List.getElem?_cons_succ, List.set_cons_zero, List.set_cons_succ, if_true, if_false, decide_true, decide_false, Option.map_some, Option.map_none, Option.bind_some, Option.bind_none, Bool.false_eq_true, Bool.not_true, Bool.not_false, reduceIte, reduceCtorEq, List.length_cons, List.length_nil, List.map_cons, List.map_nil, List.replicate_zero, List.replicate_succ, Nat.reduceAdd, Nat.reduceSub, Nat.zero_add, Nat.add_zero, Nat.sub_self, List.cons_append, List.nil_append, Bool.true_and, Bool.and_true, Bool.and_false, Bool.false_and, Nat.reduceLeDiff, Nat.reduceEqDiff, forS_v, forS_c, hInt_int, hInt_bl, hAbs_int, hMax2_int, hMin2_int, hGt_int, hLt_int, hLe_int, hGe_int, hIx_t0, hIx_t1, hIx_t2, hIx_t3, mul_ok, mod_ok, fdiv_ok, hTuple_l]
  simp only [dBs, List.map_map]
  rfl
/-- e is kept by begins at the period P -/
def Kept (P : Int × Int) (bs : List (Int × Int)) (e : Ed) : Prop := ∀ a b, bs[e.s]? = some a → bs[e.t]? = some b → (a.1 + e.l * a.2) * (b.2 * P.2) ≤ (b.1 * P.2 + e.k * P.1 * b.2) * a.2
instance {P bs e} : Decidable (Kept P bs e) := by
  unfold Kept
  cases h1 : bs[e.s]? with
  | none => exact isTrue fun a b h => nomatch h
  | some a =>
    cases h2 : bs[e.t]? with
    | none => exact isTrue fun a b _ h => nomatch h
    | some b =>
      by_cases h : (a.1 + e.l * a.2) * (b.2 * P.2) ≤ (b.1 * P.2 + e.k * P.1 * b.2) * a.2
      · exact isTrue fun a' b' h3 h4 => by cases h3; cases h4; exact h
      · exact isFalse fun z => h (z a b rfl rfl)
structure Bok (bs : List (Int × Int)) : Prop where
  pos : ∀ b ∈ bs, 0 < b.2
  big : ∀ b ∈ bs, B 230 b.1 ∧ B 230 b.2
theorem PB.b1 {P : Int × Int} (h : PB P) : B 210 P.1 ∧ B 210 P.2 := by
  have e2 : ((2 : Int) ^ 200) = ((2 ^ 200 : Nat) : Int) := by decide +kernel
  have e3 : (2 : Nat) ^ 200 < 2 ^ 210 := by decide +kernel
  have := h.p0; have := h.p1; have := h.q0; have := h.q1
  unfold B
  omega
theorem small_B {i : Int} {n : Nat} (h : 0 ≤ i ∧ i ≤ 99) (hn : 7 ≤ n) : B n i := by
  have : (2 : Nat) ^ 7 ≤ 2 ^ n := Nat.pow_le_pow_right (by decide) hn
  have e : (2 : Nat) ^ 7 = 128 := by decide
  unfold B
  omega
abbrev tgB : SG := (gTp 4 (gsCons (gNm 4) (gsCons (gNm 5) (gsCons (gNm 6) (gsCons (gNm 7) gsNil)))))
abbrev bdB : SS := (sSeq (sAsg (sCall f_plus (sCons (sOp hIx (sVar 3) (sVar 5)) (sCons (sCall f_times (sCons (sTup (sCons (sVar 7) (sCons (sC (.int 1)) sNil))) (sCons (sVar 2) sNil))) sNil))) (gNm 8))
    (sIf (sTest (sCall f_is_under (sCons (sVar 8) (sCons (sCall f_plus (sCons (sOp hIx (sVar 3) (sVar 4)) (sCons (sTup (sCons (sVar 6) (sCons (sC (.int 1)) sNil))) sNil))) sNil)))) (sRet (sC (.bl false))) sSkip))
theorem late_early {a b P : Int × Int} {l k : Int} (ha : 0 < a.2) (hb : 0 < b.2) (hq : 0 < P.2) :
    (low (b.1 * (low (k * P.1) (1 * P.2)).2 + (low (k * P.1) (1 * P.2)).1 * b.2) (b.2 * (low (k * P.1) (1 * P.2)).2)).1 * (low (a.1 * 1 + l * a.2) (a.2 * 1)).2 < (low (a.1 * 1 + l * a.2) (a.2 * 1)).1 * (low (b.1 * (low (k * P.1) (1 * P.2)).2 + (low (k * P.1) (1 * P.2)).1 * b.2) (b.2 * (low (k * P.1) (1 * P.2)).2)).2 ↔
    ¬ (a.1 + l * a.2) * (b.2 * P.2) ≤ (b.1 * P.2 + k * P.1 * b.2) * a.2 := by
  have hq1 : 0 < 1 * P.2 := by omega
  have y0 := low_pos (t := k * P.1) hq1
  have c := low_cross (k * P.1) (1 * P.2)
  generalize hx : low (k * P.1) (1 * P.2) = x at *
  rw [low_lt (Int.mul_pos hb y0), low_lt2 (by omega)]
  rw [Int.mul_one, Int.mul_one, Int.not_le]
  rw [Int.one_mul] at c
  have e1 : (b.1 * x.2 + x.1 * b.2) * a.2 * P.2 = (b.1 * P.2 + k * P.1 * b.2) * a.2 * x.2 := by
    simp only [Int.add_mul]
    have : x.1 * b.2 * a.2 * P.2 = k * P.1 * b.2 * a.2 * x.2 := by
      calc x.1 * b.2 * a.2 * P.2 = (x.1 * P.2) * (b.2 * a.2) := by ac_rfl
        _ = k * P.1 * x.2 * (b.2 * a.2) := by rw [c]
        _ = _ := by ac_rfl
    rw [this]
    have : b.1 * x.2 * a.2 * P.2 = b.1 * P.2 * a.2 * x.2 := by ac_rfl
    omega
  have e2 : (a.1 + l * a.2) * (b.2 * x.2) * P.2 = (a.1 + l * a.2) * (b.2 * P.2) * x.2 := by ac_rfl
  constructor
  · intro h
    have := Int.mul_lt_mul_of_pos_right h hq
    rw [e1, e2] at this
    exact Int.lt_of_mul_lt_mul_right this (Int.le_of_lt y0)
  · intro h
    have := Int.mul_lt_mul_of_pos_right h y0
    rw [← e1, ← e2] at this
    exact Int.lt_of_mul_lt_mul_right this (Int.le_of_lt hq)
theorem begins_loop {many : Nat} {P : Int × Int} {bs : List (Int × Int)} (hP : PB P) (hB : Bok bs) (hl : bs.length = many) {a0 a1 : Option D} : ∀ (suf : List Ed) (x4 x5 x6 x7 x8 x9 : Option D), (∀ e ∈ suf, e.s < many ∧ e.t < many) → (∀ e ∈ suf, 0 ≤ e.l ∧ e.l ≤ 99 ∧ 0 ≤ e.k ∧ e.k ≤ 9) →
    ((forV tgB bdB (suf.map dE) [a0, a1, some (dP P), some (dBs bs), x4, x5, x6, x7, x8, x9] []).bind fun fl S1 => match fl with
      | .nx env1 => sRet (sC (.bl true)) env1 S1
      | fl => .ok fl S1) = .ok (.ret (.bl (decide (∀ e ∈ suf, Kept P bs e)))) []
  | [], x4, x5, x6, x7, x8, x9, _, _ => by simp [forV, Res.bind, sRet, sC]
  | e :: suf, x4, x5, x6, x7, x8, x9, he, hk => by
    have he1 := he e (by simp)
    have hk1 := hk e (by simp)
    obtain ⟨a, ha⟩ : ∃ a, bs[e.s]? = some a := ⟨_, List.getElem?_eq_getElem (by omega)⟩
    obtain ⟨b, hb⟩ : ∃ b, bs[e.t]? = some b := ⟨_, List.getElem?_eq_getElem (by omega)⟩
    have ma := List.mem_of_getElem? ha
    have mb := List.mem_of_getElem? hb
    have pa := hB.pos a ma
    have pb := hB.pos b mb
    have ba := hB.big a ma
    have bb := hB.big b mb
    have bP := hP.b1
    have hq := hP.q0
    have hq1 : 0 < 1 * P.2 := by omega
    have B1 : B 100 1 := by unfold B; decide
    have t1 := fun S => times_ok (S := S) (x := (e.k, 1)) (y := P) Int.one_pos hq ⟨small_B (by omega) (by decide), B1.up (by decide)⟩ ⟨bP.1.up (by decide), bP.2.up (by decide)⟩
    have x1 : B 310 (low (e.k * P.1) (1 * P.2)).1 := ((small_B (n := 100) (by omega) (by decide)).mul bP.1).low1 hq1
    have x2 : B 310 (low (e.k * P.1) (1 * P.2)).2 := (B1.mul bP.2).low2 hq1
    have xp := low_pos (t := e.k * P.1) hq1
    have t2 := fun S => plus_ok (S := S) (x := b) (y := low (e.k * P.1) (1 * P.2)) pb xp ⟨bb.1.up (by decide), bb.2.up (by decide)⟩ ⟨x1.up (by decide), x2.up (by decide)⟩
    have t3 := fun S => plus_ok (S := S) (x := a) (y := (e.l, 1)) pa Int.one_pos ⟨ba.1.up (by decide), ba.2.up (by decide)⟩ ⟨small_B (by omega) (by decide), B1.up (by decide)⟩
    have L1 : B 541 (b.1 * (low (e.k * P.1) (1 * P.2)).2 + (low (e.k * P.1) (1 * P.2)).1 * b.2) := (bb.1.mul x2).add ((x1.mul bb.2).up (by decide))
    have L2_ : B 540 (b.2 * (low (e.k * P.1) (1 * P.2)).2) := bb.2.mul x2
    have L3 : B 331 (a.1 * 1 + e.l * a.2) := (ba.1.mul B1).add (((small_B (n := 100) (by omega) (by decide)).mul ba.2).up (by decide))
    have L4 : B 330 (a.2 * 1) := ba.2.mul B1
    have t4 := fun S => under_ok (S := S) (x := low (b.1 * (low (e.k * P.1) (1 * P.2)).2 + (low (e.k * P.1) (1 * P.2)).1 * b.2) (b.2 * (low (e.k * P.1) (1 * P.2)).2)) (y := low (a.1 * 1 + e.l * a.2) (a.2 * 1))
      ⟨(L1.low1 (Int.mul_pos pb xp)).up (by decide), (L2_.low2 (Int.mul_pos pb xp)).up (by decide)⟩ ⟨(L3.low1 (by omega)).up (by decide), (L4.low2 (by omega)).up (by decide)⟩
    have i1 : ∀ S : Store, hIx S (dBs bs) (.int (e.t : Int)) = some (dP b) := fun S => hIx_tupN (by rw [List.getElem?_map, hb]; rfl)
    have i2 : ∀ S : Store, hIx S (dBs bs) (.int (e.s : Int)) = some (dP a) := fun S => hIx_tupN (by rw [List.getElem?_map, ha]; rfl)
    have kk : Kept P bs e ↔ (a.1 + e.l * a.2) * (b.2 * P.2) ≤ (b.1 * P.2 + e.k * P.1 * b.2) * a.2 := ⟨fun h => h a b ha hb, fun h a' b' h1 h2 => by
      rw [ha] at h1; rw [hb] at h2; cases h1; cases h2; exact h⟩
    have un := late_early (a := a) (b := b) (P := P) (l := e.l) (k := e.k) pa pb hq
    rw [← kk] at un
    rw [List.map_cons]
    unfold forV
    by_cases hK : Kept P bs e
    · have ih := begins_loop hP hB hl (a0 := a0) (a1 := a1) suf (some (.int (e.s : Int))) (some (.int (e.t : Int))) (some (.int e.l)) (some (.int e.k)) (some (dP (low (b.1 * (low (e.k * P.1) (1 * P.2)).2 + (low (e.k * P.1) (1 * P.2)).1 * b.2) (b.2 * (low (e.k * P.1) (1 * P.2)).2)))) x9 (fun a ha => he a (by simp [ha])) (fun a ha => hk a (by simp [ha]))
      have un2 := decide_eq_false (fun z => un.mp z hK)
      simp only [tgB, bdB, sSeq, sAsg, sIf, sIfE, sTest, sOp, sUn, sFn, sVar, sC, sCons, sNil, sTup, sLst, sNew, sNewD, sDict0, sCall, sRet, sRetN, sDrop, sPar, sPar3, sSkip, gNm, gTp, gsNil, gsCons, gSb, sAndT, sOrT, sNotT, sAndV, sOrV, sNotV, sChain, sTrue, Res.bind, Res.np, ofO, ofI, ofM, sMt, hAdd_int, hSub_int, hNeg_int, isB, hIs, hNotIs, List.getElem?_cons_zero, List.getElem?_cons_succ, List.set_cons_zero, List.set_cons_succ, if_true, if_false, decide_true, decide_false, Option.map_some, Option.map_none, Option.bind_some, Option.bind_none, Bool.false_eq_true, Bool.not_true, Bool.not_false, reduceIte, reduceCtorEq, List.length_cons, List.length_nil, List.map_cons, List.map_nil, List.replicate_zero, List.replicate_succ, Nat.reduceAdd, Nat.reduceSub, Nat.zero_add, Nat.add_zero, Nat.sub_self, List.cons_append, List.nil_append, Bool.true_and, Bool.and_true, Bool.and_false, Bool.false_and, Nat.reduceLeDiff, Nat.reduceEqDiff, forS_v, forS_c, hInt_int, hInt_bl, hAbs_int, hMax2_int, hMin2_int, hGt_int, hLt_int, hLe_int, hGe_int, hIx_t0, hIx_t1, hIx_t2, hIx_t3, mul_ok, mod_ok, fdiv_ok, i1, i2, t1, t2, t3, t4, un2] at ih ⊢
      rw [ih]
      simp [hK]
    · have un2 := decide_eq_true (un.mpr hK)
      simp only [tgB, bdB, sSeq, sAsg, sIf, sIfE, sTest, sOp, sUn, sFn, sVar, sC, sCons, sNil, sTup, sLst, sNew, sNewD, sDict0, sCall, sRet, sRetN, sDrop, sPar, sPar3, sSkip, gNm, gTp, gsNil, gsCons, gSb, sAndT, sOrT, sNotT, sAndV, sOrV, sNotV, sChain, sTrue, Res.bind, Res.np, ofO, ofI, ofM, sMt, hAdd_int, hSub_int, hNeg_int, isB, hIs, hNotIs, List.getElem?_cons_zero, List.getElem?_cons_succ, List.set_cons_zero, List.set_cons_succ, if_true, if_false, decide_true, decide_false, Option.map_some, Option.map_none, Option.bind_some, Option.bind_none, Bool.false_eq_true, Bool.not_true, Bool.not_false, reduceIte, reduceCtorEq, List.length_cons, List.length_nil, List.map_cons, List.map_nil, List.replicate_zero, List.replicate_succ, Nat.reduceAdd, Nat.reduceSub, Nat.zero_add, Nat.add_zero, Nat.sub_self, List.cons_append, List.nil_append, Bool.true_and, Bool.and_true, Bool.and_false, Bool.false_and, Nat.reduceLeDiff, Nat.reduceEqDiff, forS_v, forS_c, hInt_int, hInt_bl, hAbs_int, hMax2_int, hMin2_int, hGt_int, hLt_int, hLe_int, hGe_int, hIx_t0, hIx_t1, hIx_t2, hIx_t3, mul_ok, mod_ok, fdiv_ok, i1, i2, t1, t2, t3, t4, un2]
      simp [hK]
end Y

set_option maxHeartbeats 2000000
namespace Y
open PySem PySem.Spec PyProof.Rows L2 Rd
theorem dBs_noRef (bs : List (Int × Int)) : D.noRef (dBs bs) = true := by
  unfold D.noRef
  induction bs with
  | nil => rfl
  | cons b bs ih => simp only [List.map_cons, D.noRefs, D.noRef, ih, Bool.true_and]
theorem fz_dBs {S : Store} (bs : List (Int × Int)) : fz 60 S (dBs bs) = some (dBs bs) := by
  rw [fz_tup, fz_list fun x hx => ?_]
  · rfl
  · obtain ⟨p, _, rfl⟩ := List.mem_map.mp hx
    rfl
theorem are_ok {many : Nat} {es : List Ed} {P : Int × Int} {bs : List (Int × Int)} {S : Store} (V : Val many es) (hP : PB P) (hB : Bok bs) (hl : bs.length = many) (hlow : ∀ b ∈ bs, low b.1 b.2 = b) :
    f_are_begins [.int (many : Int), dEs es, dP P, dBs bs] S = .ok (.bl (decide (∀ e ∈ es, Kept P bs e))) S := by
  have nr : D.noRefs [.int (many : Int), dEs es, dP P, dBs bs] = true := by
    simp only [D.noRefs, dEs_noRef, dP_pos, dBs_noRef, Bool.true_and, Bool.and_true]
    rfl
  have lc := sLc_const (vs := [9]) (s := sSeqI (sVar 3)) (e := (sCall f_is_fraction (sCons (sVar 9) sNil))) (env := [some (.int (many : Int)), some (dEs es), some (dP P), some (dBs bs), none, none, none, none, none, none]) (j := 9) (S := []) (ds := bs.map dP) (.bl true) rfl (by have := V.m1; simp; omega) (fun d hd => by
    obtain ⟨b, hb, rfl⟩ := List.mem_map.mp hd
    have fr := fun S => fraction_ok (S := S) (hB.pos b hb) ((hB.big b hb).2.mod)
    simp only [wipeE, sSeq, sAsg, sIf, sIfE, sTest, sOp, sUn, sFn, sVar, sC, sCons, sNil, sTup, sLst, sNew, sNewD, sDict0, sCall, sRet, sRetN, sDrop, sPar, sPar3, sSkip, gNm, gTp, gsNil, gsCons, gSb, sAndT, sOrT, sNotT, sAndV, sOrV, sNotV, sChain, sTrue, Res.bind, Res.np, ofO, ofI, ofM, sMt, hAdd_int, hSub_int, hNeg_int, isB, hIs, hNotIs, List.getElem?_cons_zero, List.getElem?_cons_succ, List.set_cons_zero, List.set_cons_succ, if_true, if_false, decide_true, decide_false, Option.map_some, Option.map_none, Option.bind_some, Option.bind_none, Bool.false_eq_true, Bool.not_true, Bool.not_false, reduceIte, reduceCtorEq, List.length_cons, List.length_nil, List.map_cons, List.map_nil, List.replicate_zero, List.replicate_succ, Nat.reduceAdd, Nat.reduceSub, Nat.zero_add, Nat.add_zero, Nat.sub_self, List.cons_append, List.nil_append, Bool.true_and, Bool.and_true, Bool.and_false, Bool.false_and, Nat.reduceLeDiff, Nat.reduceEqDiff, forS_v, forS_c, hInt_int, hInt_bl, hAbs_int, hMax2_int, hMin2_int, hGt_int, hLt_int, hLe_int, hGe_int, hIx_t0, hIx_t1, hIx_t2, hIx_t3, mul_ok, mod_ok, fdiv_ok, fr, hlow b hb])
  have lp := begins_loop hP hB hl (a0 := some (.int (many : Int))) (a1 := some (dEs es)) es none none none none none none V.ed V.lk
  refine mkP_d rfl nr (S' := []) rfl ?_
  refine Eq.trans ?_ lp
  simp only [b_are_begins, sFor, sSeqI, srcOf, sSeq, sAsg, sIf, sIfE, sTest, sOp, sUn, sFn, sVar, sC, sCons, sNil, sTup, sLst, sNew, sNewD, sDict0, sCall, sRet, sRetN, sDrop, sPar, sPar3, sSkip, gNm, gTp, gsNil, gsCons, gSb, sAndT, sOrT, sNotT, sAndV, sOrV, sNotV, sChain, sTrue, Res.bind, Res.np, ofO, ofI, ofM, sMt, hAdd_int, hSub_int, hNeg_int, isB, hIs, hNotIs, List.getElem?_cons_zero, List.getElem?_cons_succ, List.set_cons_zero, List.set_cons_succ, if_true, if_false, decide_true, decide_false, Option.map_some, Option.map_none, Option.bind_some, Option.bind_none, Bool.false_eq_true, Bool.not_true, Bool.not_false, reduceIte, reduceCtorEq, List.length_cons, List.length_nil, List.map_cons, List.map_nil, List.replicate_zero, List.replicate_succ, Nat.reduceAdd, Nat.reduceSub, Nat.zero_add, Nat.add_zero, Nat.sub_self, List.cons_append, List.nil_append, Bool.true_and, Bool.and_true, Bool.and_false, Bool.false_and, Nat.reduceLeDiff, Nat.reduceEqDiff, forS_v, forS_c, hInt_int, hInt_bl, hAbs_int, hMax2_int, hMin2_int, hGt_int, hLt_int, hLe_int, hGe_int, hIx_t0, hIx_t1, hIx_t2, hIx_t3, mul_ok, mod_ok, fdiv_ok, isi_tup, len_tup, hNe_int, List.length_map, hl]
  erw [lc]
  simp only [sFor, sSeqI, srcOf, sSeq, sAsg, sIf, sIfE, sTest, sOp, sUn, sFn, sVar, sC, sCons, sNil, sTup, sLst, sNew, sNewD, sDict0, sCall, sRet, sRetN, sDrop, sPar, sPar3, sSkip, gNm, gTp, gsNil, gsCons, gSb, sAndT, sOrT, sNotT, sAndV, sOrV, sNotV, sChain, sTrue, Res.bind, Res.np, ofO, ofI, ofM, sMt, hAdd_int, hSub_int, hNeg_int, isB, hIs, hNotIs, List.getElem?_cons_zero, List.getElem?_cons_succ, List.set_cons_zero, List.set_cons_succ, if_true, if_false, decide_true, decide_false, Option.map_some, Option.map_none, Option.bind_some, Option.bind_none, Bool.false_eq_true, Bool.not_true, Bool.not_false, reduceIte, reduceCtorEq, List.length_cons, List.length_nil, List.map_cons, List.map_nil, List.replicate_zero, List.replicate_succ, Nat.reduceAdd, Nat.reduceSub, Nat.zero_add, Nat.add_zero, Nat.sub_self, List.cons_append, List.nil_append, Bool.true_and, Bool.and_true, Bool.and_false, Bool.false_and, Nat.reduceLeDiff, Nat.reduceEqDiff, forS_v, forS_c, hInt_int, hInt_bl, hAbs_int, hMax2_int, hMin2_int, hGt_int, hLt_int, hLe_int, hGe_int, hIx_t0, hIx_t1, hIx_t2, hIx_t3, mul_ok, mod_ok, fdiv_ok, hAll_true]
  all_goals rfl
theorem is_begins_ok {many : Nat} {es : List Ed} {P : Int × Int} {bs : List (Int × Int)} {S : Store} (V : Val many es) (hP : PB P) (g : Int.gcd P.1 P.2 = 1) (hB : Bok bs) (hl : bs.length = many) (hlow : ∀ b ∈ bs, low b.1 b.2 = b) :
    f_is_begins [.int (many : Int), dEs es, dP P, dBs bs] S = .ok (.bl (decide (∀ e ∈ es, Kept P bs e))) S := by
  have nr : D.noRefs [.int (many : Int), dEs es, dP P, dBs bs] = true := by
    simp only [D.noRefs, dEs_noRef, dP_pos, dBs_noRef, Bool.true_and, Bool.and_true]
    rfl
  refine mkP_d rfl nr (S' := []) rfl ?_
  simp only [b_is_begins, sSeq, sAsg, sIf, sIfE, sTest, sOp, sUn, sFn, sVar, sC, sCons, sNil, sTup, sLst, sNew, sNewD, sDict0, sCall, sRet, sRetN, sDrop, sPar, sPar3, sSkip, gNm, gTp, gsNil, gsCons, gSb, sAndT, sOrT, sNotT, sAndV, sOrV, sNotV, sChain, sTrue, Res.bind, Res.np, ofO, ofI, ofM, sMt, hAdd_int, hSub_int, hNeg_int, isB, hIs, hNotIs, List.getElem?_cons_zero, List.getElem?_cons_succ, List.set_cons_zero, List.set_cons_succ, if_true, if_false, decide_true, decide_false, Option.map_some, Option.map_none, Option.bind_some, Option.bind_none, Bool.false_eq_true, Bool.not_true, Bool.not_false, reduceIte, reduceCtorEq, List.length_cons, List.length_nil, List.map_cons, List.map_nil, List.replicate_zero, List.replicate_succ, Nat.reduceAdd, Nat.reduceSub, Nat.zero_add, Nat.add_zero, Nat.sub_self, List.cons_append, List.nil_append, Bool.true_and, Bool.and_true, Bool.and_false, Bool.false_and, Nat.reduceLeDiff, Nat.reduceEqDiff, forS_v, forS_c, hInt_int, hInt_bl, hAbs_int, hMax2_int, hMin2_int, hGt_int, hLt_int, hLe_int, hGe_int, hIx_t0, hIx_t1, hIx_t2, hIx_t3, mul_ok, mod_ok, fdiv_ok, period_ok V hP g, are_ok V hP hB hl hlow]
/-- the first begins, or none -/
theorem first_ok {many : Nat} {es : List Ed} {P : Int × Int} {S : Store} (V : Val many es) (hP : PB P) (g : Int.gcd P.1 P.2 = 1) :
    (∃ h, f_first_begins [.int (many : Int), dEs es, dP P] S = .ok (dBs (h.map fun v => low v P.2)) S ∧ Hts many es P h) ∨ (f_first_begins [.int (many : Int), dEs es, dP P] S = .ok .non S ∧ ¬ RF es P) := by
  have nr : D.noRefs [.int (many : Int), dEs es, dP P] = true := by
    simp only [D.noRefs, dEs_noRef, dP_pos, Bool.true_and, Bool.and_true]
    rfl
  rcases hr_ok (S := []) V hP with ⟨h, q, H⟩ | ⟨is, rs, q, r, hg⟩
  · refine .inl ⟨h, mkP_d rfl nr (S' := []) (fz_dBs _) ?_, ⟨H.1, H.2.1, H.2.2.1, H.2.2.2.1, H.2.2.2.2⟩⟩
    have bo := fun S => begins_ok (S := S) (h := h) (P := P) hP.q0 hP.mq (by have := V.m1; omega)
    simp only [b_first_begins, sSeq, sAsg, sIf, sIfE, sTest, sOp, sUn, sFn, sVar, sC, sCons, sNil, sTup, sLst, sNew, sNewD, sDict0, sCall, sRet, sRetN, sDrop, sPar, sPar3, sSkip, gNm, gTp, gsNil, gsCons, gSb, sAndT, sOrT, sNotT, sAndV, sOrV, sNotV, sChain, sTrue, Res.bind, Res.np, ofO, ofI, ofM, sMt, hAdd_int, hSub_int, hNeg_int, isB, hIs, hNotIs, List.getElem?_cons_zero, List.getElem?_cons_succ, List.set_cons_zero, List.set_cons_succ, if_true, if_false, decide_true, decide_false, Option.map_some, Option.map_none, Option.bind_some, Option.bind_none, Bool.false_eq_true, Bool.not_true, Bool.not_false, reduceIte, reduceCtorEq, List.length_cons, List.length_nil, List.map_cons, List.map_nil, List.replicate_zero, List.replicate_succ, Nat.reduceAdd, Nat.reduceSub, Nat.zero_add, Nat.add_zero, Nat.sub_self, List.cons_append, List.nil_append, Bool.true_and, Bool.and_true, Bool.and_false, Bool.false_and, Nat.reduceLeDiff, Nat.reduceEqDiff, forS_v, forS_c, hInt_int, hInt_bl, hAbs_int, hMax2_int, hMin2_int, hGt_int, hLt_int, hLe_int, hGe_int, hIx_t0, hIx_t1, hIx_t2, hIx_t3, mul_ok, mod_ok, fdiv_ok, period_ok V hP g, q, bo]
  · refine .inr ⟨mkP_d rfl nr (S' := []) rfl ?_, fun rf => ?_⟩
    · simp only [b_first_begins, sSeq, sAsg, sIf, sIfE, sTest, sOp, sUn, sFn, sVar, sC, sCons, sNil, sTup, sLst, sNew, sNewD, sDict0, sCall, sRet, sRetN, sDrop, sPar, sPar3, sSkip, gNm, gTp, gsNil, gsCons, gSb, sAndT, sOrT, sNotT, sAndV, sOrV, sNotV, sChain, sTrue, Res.bind, Res.np, ofO, ofI, ofM, sMt, hAdd_int, hSub_int, hNeg_int, isB, hIs, hNotIs, List.getElem?_cons_zero, List.getElem?_cons_succ, List.set_cons_zero, List.set_cons_succ, if_true, if_false, decide_true, decide_false, Option.map_some, Option.map_none, Option.bind_some, Option.bind_none, Bool.false_eq_true, Bool.not_true, Bool.not_false, reduceIte, reduceCtorEq, List.length_cons, List.length_nil, List.map_cons, List.map_nil, List.replicate_zero, List.replicate_succ, Nat.reduceAdd, Nat.reduceSub, Nat.zero_add, Nat.add_zero, Nat.sub_self, List.cons_append, List.nil_append, Bool.true_and, Bool.and_true, Bool.and_false, Bool.false_and, Nat.reduceLeDiff, Nat.reduceEqDiff, forS_v, forS_c, hInt_int, hInt_bl, hAbs_int, hMax2_int, hMin2_int, hGt_int, hLt_int, hLe_int, hGe_int, hIx_t0, hIx_t1, hIx_t2, hIx_t3, mul_ok, mod_ok, fdiv_ok, period_ok V hP g, q]
    · have := rf.ring r.circ
      rw [sumG_ring P r.at_] at hg
      omega
theorem least_ok {many : Nat} {es : List Ed} {S : Store} (V : Val many es) : (f_least_period [.int (many : Int), dEs es] S = .ok .non S ∧ Never es) ∨ ∃ P, f_least_period [.int (many : Int), dEs es] S = .ok (dP P) S ∧ Least es P ∧ PB P ∧ P.1 ≤ 792 := by
  have nr : D.noRefs [.int (many : Int), dEs es] = true := by
    simp only [D.noRefs, dEs_noRef, Bool.true_and, Bool.and_true]
    rfl
  obtain ⟨d, q, T⟩ := told_ok (S := []) V
  rcases T.is V with ⟨n, is, rfl⟩ | ⟨P, h, is, L, b, p7, H, rfl⟩
  · refine .inl ⟨mkP_d rfl nr (S' := []) rfl ?_, n⟩
    simp only [b_least_period, sSeq, sAsg, sIf, sIfE, sTest, sOp, sUn, sFn, sVar, sC, sCons, sNil, sTup, sLst, sNew, sNewD, sDict0, sCall, sRet, sRetN, sDrop, sPar, sPar3, sSkip, gNm, gTp, gsNil, gsCons, gSb, sAndT, sOrT, sNotT, sAndV, sOrV, sNotV, sChain, sTrue, Res.bind, Res.np, ofO, ofI, ofM, sMt, hAdd_int, hSub_int, hNeg_int, isB, hIs, hNotIs, List.getElem?_cons_zero, List.getElem?_cons_succ, List.set_cons_zero, List.set_cons_succ, if_true, if_false, decide_true, decide_false, Option.map_some, Option.map_none, Option.bind_some, Option.bind_none, Bool.false_eq_true, Bool.not_true, Bool.not_false, reduceIte, reduceCtorEq, List.length_cons, List.length_nil, List.map_cons, List.map_nil, List.replicate_zero, List.replicate_succ, Nat.reduceAdd, Nat.reduceSub, Nat.zero_add, Nat.add_zero, Nat.sub_self, List.cons_append, List.nil_append, Bool.true_and, Bool.and_true, Bool.and_false, Bool.false_and, Nat.reduceLeDiff, Nat.reduceEqDiff, forS_v, forS_c, hInt_int, hInt_bl, hAbs_int, hMax2_int, hMin2_int, hGt_int, hLt_int, hLe_int, hGe_int, hIx_t0, hIx_t1, hIx_t2, hIx_t3, mul_ok, mod_ok, fdiv_ok, edges_ok V, q]
  · refine .inr ⟨P, mkP_d rfl nr (S' := []) rfl ?_, L, b, p7⟩
    simp only [b_least_period, sSeq, sAsg, sIf, sIfE, sTest, sOp, sUn, sFn, sVar, sC, sCons, sNil, sTup, sLst, sNew, sNewD, sDict0, sCall, sRet, sRetN, sDrop, sPar, sPar3, sSkip, gNm, gTp, gsNil, gsCons, gSb, sAndT, sOrT, sNotT, sAndV, sOrV, sNotV, sChain, sTrue, Res.bind, Res.np, ofO, ofI, ofM, sMt, hAdd_int, hSub_int, hNeg_int, isB, hIs, hNotIs, List.getElem?_cons_zero, List.getElem?_cons_succ, List.set_cons_zero, List.set_cons_succ, if_true, if_false, decide_true, decide_false, Option.map_some, Option.map_none, Option.bind_some, Option.bind_none, Bool.false_eq_true, Bool.not_true, Bool.not_false, reduceIte, reduceCtorEq, List.length_cons, List.length_nil, List.map_cons, List.map_nil, List.replicate_zero, List.replicate_succ, Nat.reduceAdd, Nat.reduceSub, Nat.zero_add, Nat.add_zero, Nat.sub_self, List.cons_append, List.nil_append, Bool.true_and, Bool.and_true, Bool.and_false, Bool.false_and, Nat.reduceLeDiff, Nat.reduceEqDiff, forS_v, forS_c, hInt_int, hInt_bl, hAbs_int, hMax2_int, hMin2_int, hGt_int, hLt_int, hLe_int, hGe_int, hIx_t0, hIx_t1, hIx_t2, hIx_t3, mul_ok, mod_ok, fdiv_ok, edges_ok V, q]
theorem integer_ok {many : Nat} {es : List Ed} {S : Store} (V : Val many es) {P : Int × Int} (h : ∀ S, f_least_period [.int (many : Int), dEs es] S = .ok (dP P) S) (b : PB P) : f_least_integer_period [.int (many : Int), dEs es] S = .ok (.int (-(-P.1 / P.2))) S := by
  have nr : D.noRefs [.int (many : Int), dEs es] = true := by
    simp only [D.noRefs, dEs_noRef, Bool.true_and, Bool.and_true]
    rfl
  refine mkP_d rfl nr (S' := []) rfl ?_
  simp only [b_least_integer_period, sSeq, sAsg, sIf, sIfE, sTest, sOp, sUn, sFn, sVar, sC, sCons, sNil, sTup, sLst, sNew, sNewD, sDict0, sCall, sRet, sRetN, sDrop, sPar, sPar3, sSkip, gNm, gTp, gsNil, gsCons, gSb, sAndT, sOrT, sNotT, sAndV, sOrV, sNotV, sChain, sTrue, Res.bind, Res.np, ofO, ofI, ofM, sMt, hAdd_int, hSub_int, hNeg_int, isB, hIs, hNotIs, List.getElem?_cons_zero, List.getElem?_cons_succ, List.set_cons_zero, List.set_cons_succ, if_true, if_false, decide_true, decide_false, Option.map_some, Option.map_none, Option.bind_some, Option.bind_none, Bool.false_eq_true, Bool.not_true, Bool.not_false, reduceIte, reduceCtorEq, List.length_cons, List.length_nil, List.map_cons, List.map_nil, List.replicate_zero, List.replicate_succ, Nat.reduceAdd, Nat.reduceSub, Nat.zero_add, Nat.add_zero, Nat.sub_self, List.cons_append, List.nil_append, Bool.true_and, Bool.and_true, Bool.and_false, Bool.false_and, Nat.reduceLeDiff, Nat.reduceEqDiff, forS_v, forS_c, hInt_int, hInt_bl, hAbs_int, hMax2_int, hMin2_int, hGt_int, hLt_int, hLe_int, hGe_int, hIx_t0, hIx_t1, hIx_t2, hIx_t3, mul_ok, mod_ok, fdiv_ok, h, fdiv_ok b.q0 b.mq]
end Y

set_option maxHeartbeats 2000000
namespace Y
open PySem PySem.Spec PyProof.Rows L2 Rd
/-! ### draws -/
theorem hIx_r0 {S : Store} {c : Nat} {x : D} {xs : List D} (h : S[c]? = some (.lst (x :: xs))) : hIx S (.ref c) (.int 0) = some x := by
  have := hIx_refN (i := 0) h (d := x) rfl
  exact this
theorem hIx_r1 {S : Store} {c : Nat} {x y : D} {xs : List D} (h : S[c]? = some (.lst (x :: y :: xs))) : hIx S (.ref c) (.int 1) = some y := by
  have := hIx_refN (i := 1) h (d := y) rfl
  exact this
theorem hIx_r2 {S : Store} {c : Nat} {x y z : D} {xs : List D} (h : S[c]? = some (.lst (x :: y :: z :: xs))) : hIx S (.ref c) (.int 2) = some z := by
  have := hIx_refN (i := 2) h (d := z) rfl
  exact this
theorem hSet_r0 {S : Store} {c : Nat} {x d : D} {xs : List D} (h : S[c]? = some (.lst (x :: xs))) : hSet S (.ref c) (.int 0) d = some (S.set c (.lst (d :: xs))) := by
  have := hSet_l (v := 0) (d := d) h (by simp)
  exact this
theorem hSet_r2 {S : Store} {c : Nat} {x y z d : D} {xs : List D} (h : S[c]? = some (.lst (x :: y :: z :: xs))) : hSet S (.ref c) (.int 2) d = some (S.set c (.lst (x :: y :: d :: xs))) := by
  have := hSet_l (v := 2) (d := d) h (by simp)
  exact this
/-- only the cell c may differ, cells may be added -/
structure Same (c : Nat) (S S' : Store) : Prop where
  len : S.length ≤ S'.length
  els : ∀ i, i < S.length → i ≠ c → S'[i]? = S[i]?
theorem Same.refl {c : Nat} {S : Store} : Same c S S := ⟨Nat.le_refl _, fun _ _ _ => rfl⟩
theorem Same.trans {c : Nat} {S S' S'' : Store} (a : Same c S S') (b : Same c S' S'') : Same c S S'' := ⟨Nat.le_trans a.len b.len, fun i h n => (b.els i (Nat.lt_of_lt_of_le h a.len) n).trans (a.els i h n)⟩
theorem Same.set {c : Nat} {S : Store} {x : Cell} : Same c S (S.set c x) := ⟨by simp, fun i _ n => List.getElem?_set_ne (Ne.symm n)⟩
/-- the draws' cell -/
structure Crk (S : Store) (c K : Nat) : Prop where
  ex : ∃ a b n : Nat, S[c]? = some (.lst [.int (a : Int), .int (b : Int), .int (n : Int)]) ∧ a < 2 ^ 970 ∧ b < 2 ^ 100 ∧ n ≤ K
theorem Crk.lt {S : Store} {c K : Nat} (h : Crk S c K) : c < S.length := by
  obtain ⟨a, b, n, h, _⟩ := h.ex
  exact (List.getElem?_eq_some_iff.mp h).1
theorem Crk.mono {S : Store} {c K K' : Nat} (h : Crk S c K) (hK : K ≤ K') : Crk S c K' := by
  obtain ⟨a, b, n, h, h1, h2, h3⟩ := h.ex
  exact ⟨a, b, n, h, h1, h2, by omega⟩
theorem Crk.app {S : Store} {c K : Nat} (h : Crk S c K) {x : List Cell} : Crk (S ++ x) c K := by
  have hc := h.lt
  obtain ⟨a, b, n, h, h1, h2, h3⟩ := h.ex
  exact ⟨a, b, n, by rw [List.getElem?_append_left hc]; exact h, h1, h2, h3⟩
theorem Crk.other {S : Store} {c K i : Nat} (h : Crk S c K) (hi : i ≠ c) {x : Cell} : Crk (S.set i x) c K := by
  obtain ⟨a, b, n, h, h1, h2, h3⟩ := h.ex
  exact ⟨a, b, n, by rw [List.getElem?_set_ne hi]; exact h, h1, h2, h3⟩
theorem modN {a : Nat} (h : a < 2 ^ 1000) : Mod (a : Int) := h
theorem pow_up {m n : Nat} (h : m ≤ n) : 2 ^ m ≤ 2 ^ n := Nat.pow_le_pow_right (by decide) h
theorem ladle_ok {S : Store} {c K total : Nat} (h : Crk S c K) (hK : K < 2 ^ 100) (h1 : 1 ≤ total) (h2 : total ≤ 1000000) :
    ∃ (t : Nat) (S' : Store), f__law_ladle [.ref c, .int (total : Int)] S = .ok (.int (t : Int)) S' ∧ t < total ∧ Crk S' c (K + 1) ∧ Same c S S' := by
  have hc := h.lt
  obtain ⟨a, b, n, e, ha, hb, hn⟩ := h.ex
  have tp : (0 : Int) < (total : Int) := by omega
  have p100 : (2 : Nat) ^ 100 ≤ 2 ^ 1000 := pow_up (by decide)
  have p20 : (1000000 : Nat) < 2 ^ 100 := by decide +kernel
  have tm : Mod (total : Int) := modN (by omega)
  by_cases h0 : a = 0
  · subst h0
    have z : ((0 : Int) < ((0 : Nat) : Int)) = False := by simp
    have s1 : (S.set c (.lst [.int ((0 : Nat) : Int), .int (b : Int), .int ((n : Int) + 1)]))[c]? = some (.lst [.int ((0 : Nat) : Int), .int (b : Int), .int ((n : Int) + 1)]) := List.getElem?_set_self hc
    have m1 : Mod ((n : Int) + 1) := modN (a := n + 1) (by omega)
    have k1 : Mod 86028121 := .of (n := 86028121) (by decide) (by decide)
    have k2 : Mod 271 := .of (n := 271) (by decide) (by decide)
    have k3 : Mod 5915587277 := .of (n := 5915587277) (by decide) (by decide)
    have k4 : Mod 65543 := .of (n := 65543) (by decide) (by decide)
    have q1 : (0 : Int) < 2305843009213693951 := by decide
    have q2 : (0 : Int) < 2305843009213693921 := by decide
    have q3 : (0 : Int) < 65543 := by decide
    have r1 := fun x : Int => Int.emod_nonneg x (show (2305843009213693951 : Int) ≠ 0 by decide)
    have r2 := fun x : Int => Int.emod_lt_of_pos x q1
    have r3 := fun x : Int => Int.emod_nonneg x (show (2305843009213693921 : Int) ≠ 0 by decide)
    have r4 := fun x : Int => Int.emod_lt_of_pos x q2
    have mo : ∀ x : Int, Mod (x % 2305843009213693951) := fun x => .of (n := 2305843009213693951) (by have := r1 x; omega) (by have := r2 x; omega)
    have mo2 : ∀ x : Int, Mod (x % 2305843009213693921) := fun x => .of (n := 2305843009213693921) (by have := r3 x; omega) (by have := r4 x; omega)
    obtain ⟨one, hone⟩ : ∃ one : Int, one = ((b : Int) + 86028121 * ((n : Int) + 1)) % 2305843009213693951 := ⟨_, rfl⟩
    obtain ⟨two, htwo⟩ : ∃ two : Int, two = (one * one + 271 * ((n : Int) + 1)) % 2305843009213693921 * 5915587277 + one := ⟨_, rfl⟩
    have mone : Mod one := by rw [hone]; exact mo _
    have f1 := Int.emod_nonneg (two / 65543) (show (total : Int) ≠ 0 by omega)
    have f2 := Int.emod_lt_of_pos (two / 65543) tp
    refine ⟨((two / 65543) % (total : Int)).toNat, S.set c (.lst [.int ((0 : Nat) : Int), .int (b : Int), .int ((n : Int) + 1)]), ?_, by omega, ⟨0, b, n + 1, s1, by decide +kernel, hb, by omega⟩, .set⟩
    rw [Int.toNat_of_nonneg f1]
    refine mkFn_ok rfl ?_
    simp only [b__law_ladle, sSeq, sAsg, sIf, sIfE, sTest, sOp, sUn, sFn, sVar, sC, sCons, sNil, sTup, sLst, sNew, sNewD, sDict0, sCall, sRet, sRetN, sDrop, sPar, sPar3, sSkip, gNm, gTp, gsNil, gsCons, gSb, sAndT, sOrT, sNotT, sAndV, sOrV, sNotV, sChain, sTrue, Res.bind, Res.np, ofO, ofI, ofM, sMt, hAdd_int, hSub_int, hNeg_int, isB, hIs, hNotIs, List.getElem?_cons_zero, List.getElem?_cons_succ, List.set_cons_zero, List.set_cons_succ, if_true, if_false, decide_true, decide_false, Option.map_some, Option.map_none, Option.bind_some, Option.bind_none, Bool.false_eq_true, Bool.not_true, Bool.not_false, reduceIte, reduceCtorEq, List.length_cons, List.length_nil, List.map_cons, List.map_nil, List.replicate_zero, List.replicate_succ, Nat.reduceAdd, Nat.reduceSub, Nat.zero_add, Nat.add_zero, Nat.sub_self, List.cons_append, List.nil_append, Bool.true_and, Bool.and_true, Bool.and_false, Bool.false_and, Nat.reduceLeDiff, Nat.reduceEqDiff, forS_v, forS_c, hInt_int, hInt_bl, hAbs_int, hMax2_int, hMin2_int, hGt_int, hLt_int, hLe_int, hGe_int, hIx_t0, hIx_t1, hIx_t2, hIx_t3, mul_ok, mod_ok, fdiv_ok, hIx_r0 e, z, hIx_r2 e, hSet_r2 e, hIx_r1 s1, hIx_r2 s1, mul_ok k1 m1, mod_ok q1, ← hone, mul_ok mone mone, mul_ok k2 m1, mod_ok q2, mul_ok (mo2 _) k3, ← htwo, fdiv_ok q3 k4, mod_ok tp]
  · have ap : (0 : Int) < (a : Int) := by omega
    have hm : ((a : Int) % (total : Int)) = ((a % total : Nat) : Int) := rfl
    have hd : ((a : Int) / (total : Int)) = ((a / total : Nat) : Int) := rfl
    have s1 : (S.set c (.lst [.int ((a / total : Nat) : Int), .int (b : Int), .int (n : Int)]))[c]? = some (.lst [.int ((a / total : Nat) : Int), .int (b : Int), .int (n : Int)]) := List.getElem?_set_self hc
    refine ⟨a % total, S.set c (.lst [.int ((a / total : Nat) : Int), .int (b : Int), .int (n : Int)]), ?_, Nat.mod_lt _ h1, ⟨a / total, b, n, s1, Nat.lt_of_le_of_lt (Nat.div_le_self _ _) ha, hb, by omega⟩, .set⟩
    refine mkFn_ok rfl ?_
    simp only [b__law_ladle, sSeq, sAsg, sIf, sIfE, sTest, sOp, sUn, sFn, sVar, sC, sCons, sNil, sTup, sLst, sNew, sNewD, sDict0, sCall, sRet, sRetN, sDrop, sPar, sPar3, sSkip, gNm, gTp, gsNil, gsCons, gSb, sAndT, sOrT, sNotT, sAndV, sOrV, sNotV, sChain, sTrue, Res.bind, Res.np, ofO, ofI, ofM, sMt, hAdd_int, hSub_int, hNeg_int, isB, hIs, hNotIs, List.getElem?_cons_zero, List.getElem?_cons_succ, List.set_cons_zero, List.set_cons_succ, if_true, if_false, decide_true, decide_false, Option.map_some, Option.map_none, Option.bind_some, Option.bind_none, Bool.false_eq_true, Bool.not_true, Bool.not_false, reduceIte, reduceCtorEq, List.length_cons, List.length_nil, List.map_cons, List.map_nil, List.replicate_zero, List.replicate_succ, Nat.reduceAdd, Nat.reduceSub, Nat.zero_add, Nat.add_zero, Nat.sub_self, List.cons_append, List.nil_append, Bool.true_and, Bool.and_true, Bool.and_false, Bool.false_and, Nat.reduceLeDiff, Nat.reduceEqDiff, forS_v, forS_c, hInt_int, hInt_bl, hAbs_int, hMax2_int, hMin2_int, hGt_int, hLt_int, hLe_int, hGe_int, hIx_t0, hIx_t1, hIx_t2, hIx_t3, mul_ok, mod_ok, fdiv_ok, hIx_r0 e, ap, mod_ok tp, fdiv_ok tp tm, hSet_r0 e, hm, hd]
theorem pick_ok {S : Store} {c K : Nat} {xs : List D} (h : Crk S c K) (hK : K < 2 ^ 100) (h1 : xs ≠ []) (h2 : xs.length ≤ 1000000) :
    ∃ (x : D) (S' : Store), f__law_pick_of [.ref c, .lst xs] S = .ok x S' ∧ x ∈ xs ∧ Crk S' c (K + 1) ∧ Same c S S' := by
  obtain ⟨t, S', q1, q2, q3, q4⟩ := ladle_ok h hK (total := xs.length) (List.length_pos_iff.mpr h1) h2
  refine ⟨xs[t], S', mkFn_ok rfl ?_, List.getElem_mem q2, q3, q4⟩
  have i1 : ∀ S : Store, hLen S [.lst xs] = some (.int (xs.length : Int)) := fun S => by simp [hLen, one1, itemsOf]
  have i2 : ∀ S : Store, hIx S (.lst xs) (.int (t : Int)) = some xs[t] := fun S => hIx_lstN (List.getElem?_eq_getElem q2)
  simp only [b__law_pick_of, sSeq, sAsg, sIf, sIfE, sTest, sOp, sUn, sFn, sVar, sC, sCons, sNil, sTup, sLst, sNew, sNewD, sDict0, sCall, sRet, sRetN, sDrop, sPar, sPar3, sSkip, gNm, gTp, gsNil, gsCons, gSb, sAndT, sOrT, sNotT, sAndV, sOrV, sNotV, sChain, sTrue, Res.bind, Res.np, ofO, ofI, ofM, sMt, hAdd_int, hSub_int, hNeg_int, isB, hIs, hNotIs, List.getElem?_cons_zero, List.getElem?_cons_succ, List.set_cons_zero, List.set_cons_succ, if_true, if_false, decide_true, decide_false, Option.map_some, Option.map_none, Option.bind_some, Option.bind_none, Bool.false_eq_true, Bool.not_true, Bool.not_false, reduceIte, reduceCtorEq, List.length_cons, List.length_nil, List.map_cons, List.map_nil, List.replicate_zero, List.replicate_succ, Nat.reduceAdd, Nat.reduceSub, Nat.zero_add, Nat.add_zero, Nat.sub_self, List.cons_append, List.nil_append, Bool.true_and, Bool.and_true, Bool.and_false, Bool.false_and, Nat.reduceLeDiff, Nat.reduceEqDiff, forS_v, forS_c, hInt_int, hInt_bl, hAbs_int, hMax2_int, hMin2_int, hGt_int, hLt_int, hLe_int, hGe_int, hIx_t0, hIx_t1, hIx_t2, hIx_t3, mul_ok, mod_ok, fdiv_ok, i1, q1, i2]
theorem pow58 {S : Store} : hPow S (.int 10) (.int 58) = some (.int ((10 ^ 58 : Nat) : Int)) := by
  simp only [hPow]
  rw [if_pos ⟨by decide, by decide, by decide, lt_big (by decide +kernel)⟩]
  congr 2
theorem pow17 {S : Store} : hPow S (.int 10) (.int 17) = some (.int ((10 ^ 17 : Nat) : Int)) := by
  simp only [hPow]
  rw [if_pos ⟨by decide, by decide, by decide, lt_big (by decide +kernel)⟩]
  congr 2
def p290 : Nat := (10 ^ 58) ^ 5
theorem p290_lt : p290 < 2 ^ 970 := by decide +kernel
theorem p290_pos : 0 < p290 := by decide +kernel
theorem pow290 {S : Store} : hPow S (.int ((10 ^ 58 : Nat) : Int)) (.int 5) = some (.int (p290 : Int)) := by
  have h1 : (1 : Int) < ((10 ^ 58 : Nat) : Int) := by decide +kernel
  have h2 : (((10 ^ 58 : Nat) : Int)).natAbs < big := lt_big (by decide +kernel)
  simp only [hPow]
  rw [if_pos ⟨by decide, by decide, h1, h2⟩]
  congr 2
theorem crock_ok {S : Store} {ns : List Int} {i : Nat} (hi : i ≤ 100) : ∃ S', f__law_crock [.scr ns, .int (i : Int)] S = .ok (.ref S.length) S' ∧ Crk S' S.length 0 ∧ S'.length = S.length + 1 ∧ Same S.length S S' := by
  have mi : Mod (i : Int) := .of (n := 100) (by omega) (by omega)
  have k1 : Mod 967 := .of (n := 967) (by decide) (by decide)
  have k2 : Mod 101 := .of (n := 101) (by decide) (by decide)
  have k3 : Mod 1171 := .of (n := 1171) (by decide) (by decide)
  have k4 : Mod 43 := .of (n := 43) (by decide) (by decide)
  have q0 : (0 : Int) < (p290 : Int) := by have := p290_pos; omega
  have q1 : (0 : Int) < 2305843009213693907 := by decide
  obtain ⟨cell, hcell⟩ : ∃ cell : Int, cell = (if h : i < ns.length then ns[i] else 967 * (i : Int) + 83) := ⟨_, rfl⟩
  obtain ⟨great, hgreat⟩ : ∃ great : Int, great = (if cell < 0 then -cell else cell) % (p290 : Int) := ⟨_, rfl⟩
  have g0 : 0 ≤ great := by rw [hgreat]; exact Int.emod_nonneg _ (by omega)
  have g1 : great < (p290 : Int) := by rw [hgreat]; exact Int.emod_lt_of_pos _ q0
  obtain ⟨rest, hrest⟩ : ∃ rest : Int, rest = great % 2305843009213693907 := ⟨_, rfl⟩
  have r0 : 0 ≤ rest := by rw [hrest]; exact Int.emod_nonneg _ (by decide)
  have r1 : rest < 2305843009213693907 := by rw [hrest]; exact Int.emod_lt_of_pos _ q1
  have mr : Mod rest := .of (n := 2305843009213693907) (by omega) (by omega)
  obtain ⟨sg, hsg, hsg2⟩ : ∃ sg : Int, sg = (if decide (cell < 0) = true then 1 else 0) ∧ (sg = 0 ∨ sg = 1) := ⟨_, rfl, by split <;> simp⟩
  have ms : Mod sg := .of (n := 1) (by omega) (by omega)
  have run : f__law_crock [.scr ns, .int (i : Int)] S = .ok (.ref S.length) (S ++ [.lst [.int (if great - ((10 ^ 17 : Nat) : Int) > 0 then great - ((10 ^ 17 : Nat) : Int) else 0), .int (rest * 101 + 1171 * (i : Int) + 43 * sg + 19), .int 0]]) := by
    refine mkFn_ok rfl ?_
    have i1 : hLen S [.scr ns] = some (.int (ns.length : Int)) := by simp [hLen, one1]
    by_cases hl : i < ns.length
    · rw [dif_pos hl] at hcell
      have i2 : hIx S (.scr ns) (.int (i : Int)) = some (.int cell) := by
        simp only [hIx, dictOf]
        rw [atI_nat' (List.getElem?_eq_getElem hl), hcell]
        rfl
      have i3 : ((i : Int) < (ns.length : Int)) = True := by simp; omega
      simp only [b__law_crock, sSeq, sAsg, sIf, sIfE, sTest, sOp, sUn, sFn, sVar, sC, sCons, sNil, sTup, sLst, sNew, sNewD, sDict0, sCall, sRet, sRetN, sDrop, sPar, sPar3, sSkip, gNm, gTp, gsNil, gsCons, gSb, sAndT, sOrT, sNotT, sAndV, sOrV, sNotV, sChain, sTrue, Res.bind, Res.np, ofO, ofI, ofM, sMt, hAdd_int, hSub_int, hNeg_int, isB, hIs, hNotIs, List.getElem?_cons_zero, List.getElem?_cons_succ, List.set_cons_zero, List.set_cons_succ, if_true, if_false, decide_true, decide_false, Option.map_some, Option.map_none, Option.bind_some, Option.bind_none, Bool.false_eq_true, Bool.not_true, Bool.not_false, reduceIte, reduceCtorEq, List.length_cons, List.length_nil, List.map_cons, List.map_nil, List.replicate_zero, List.replicate_succ, Nat.reduceAdd, Nat.reduceSub, Nat.zero_add, Nat.add_zero, Nat.sub_self, List.cons_append, List.nil_append, Bool.true_and, Bool.and_true, Bool.and_false, Bool.false_and, Nat.reduceLeDiff, Nat.reduceEqDiff, forS_v, forS_c, hInt_int, hInt_bl, hAbs_int, hMax2_int, hMin2_int, hGt_int, hLt_int, hLe_int, hGe_int, hIx_t0, hIx_t1, hIx_t2, hIx_t3, mul_ok, mod_ok, fdiv_ok, i1, i2, i3, pow58, pow290, pow17, mod_ok q0, mod_ok q1, ← hgreat, ← hrest, ← hsg, mul_ok mr k2, mul_ok k3 mi, mul_ok k4 ms]
    · rw [dif_neg hl] at hcell
      have i3 : ((i : Int) < (ns.length : Int)) = False := by simp; omega
      simp only [b__law_crock, sSeq, sAsg, sIf, sIfE, sTest, sOp, sUn, sFn, sVar, sC, sCons, sNil, sTup, sLst, sNew, sNewD, sDict0, sCall, sRet, sRetN, sDrop, sPar, sPar3, sSkip, gNm, gTp, gsNil, gsCons, gSb, sAndT, sOrT, sNotT, sAndV, sOrV, sNotV, sChain, sTrue, Res.bind, Res.np, ofO, ofI, ofM, sMt, hAdd_int, hSub_int, hNeg_int, isB, hIs, hNotIs, List.getElem?_cons_zero, List.getElem?_cons_succ, List.set_cons_zero, List.set_cons_succ, if_true, if_false, decide_true, decide_false, Option.map_some, Option.map_none, Option.bind_some, Option.bind_none, Bool.false_eq_true, Bool.not_true, Bool.not_false, reduceIte, reduceCtorEq, List.length_cons, List.length_nil, List.map_cons, List.map_nil, List.replicate_zero, List.replicate_succ, Nat.reduceAdd, Nat.reduceSub, Nat.zero_add, Nat.add_zero, Nat.sub_self, List.cons_append, List.nil_append, Bool.true_and, Bool.and_true, Bool.and_false, Bool.false_and, Nat.reduceLeDiff, Nat.reduceEqDiff, forS_v, forS_c, hInt_int, hInt_bl, hAbs_int, hMax2_int, hMin2_int, hGt_int, hLt_int, hLe_int, hGe_int, hIx_t0, hIx_t1, hIx_t2, hIx_t3, mul_ok, mod_ok, fdiv_ok, i1, i3, mul_ok k1 mi, ← hcell, pow58, pow290, pow17, mod_ok q0, mod_ok q1, ← hgreat, ← hrest, ← hsg, mul_ok mr k2, mul_ok k3 mi, mul_ok k4 ms]
  refine ⟨_, run, ?_, by simp, ⟨by simp, fun j hj _ => List.getElem?_append_left hj⟩⟩
  have pl := p290_lt
  have e100 : (2305843009213693907 * 101 + 1171 * 100 + 43 + 19 : Nat) < 2 ^ 100 := by decide +kernel
  refine ⟨(if great - ((10 ^ 17 : Nat) : Int) > 0 then great - ((10 ^ 17 : Nat) : Int) else 0).toNat, (rest * 101 + 1171 * (i : Int) + 43 * sg + 19).toNat, 0, ?_, ?_, ?_, Nat.le_refl _⟩
  · rw [List.getElem?_append_right (Nat.le_refl _), Nat.sub_self, Int.toNat_of_nonneg (by split <;> omega), Int.toNat_of_nonneg (by omega)]
    rfl
  · split <;> omega
  · omega
/-! ### drawn edges -/
abbrev cE (es : List Ed) : Cell := .lst (es.map dE)
structure Drawn (many : Nat) (es : List Ed) : Prop where
  ed : ∀ e ∈ es, e.s < many ∧ e.t < many
  lk : ∀ e ∈ es, 0 ≤ e.l ∧ e.l ≤ 7 ∧ 0 ≤ e.k ∧ e.k ≤ 3
end Y

set_option maxHeartbeats 2000000
namespace Y
open PySem PySem.Spec PyProof.Rows L2 Rd
abbrev ldl (n : Int) : SE := (sCall f__law_ladle (sCons (sVar 0) (sCons (sC (.int n)) sNil)))
theorem ldl_ok {S : Store} {c K n : Nat} {env : Env} (h : Crk S c K) (hK : K < 2 ^ 100) (h1 : 1 ≤ n) (h2 : n ≤ 1000000) : ∃ (t : Nat) (S' : Store), ldl (n : Int) (some (.ref c) :: env) S = .ok (.int (t : Int)) S' ∧ t < n ∧ Crk S' c (K + 1) ∧ Same c S S' := by
  obtain ⟨t, S', q, r⟩ := ladle_ok h hK h1 h2
  exact ⟨t, S', by simp only [ldl, sSeq, sAsg, sIf, sIfE, sTest, sOp, sUn, sFn, sVar, sC, sCons, sNil, sTup, sLst, sNew, sNewD, sDict0, sCall, sRet, sRetN, sDrop, sPar, sPar3, sSkip, gNm, gTp, gsNil, gsCons, gSb, sAndT, sOrT, sNotT, sAndV, sOrV, sNotV, sChain, sTrue, Res.bind, Res.np, ofO, ofI, ofM, sMt, hAdd_int, hSub_int, hNeg_int, isB, hIs, hNotIs, List.getElem?_cons_zero, List.getElem?_cons_succ, List.set_cons_zero, List.set_cons_succ, if_true, if_false, decide_true, decide_false, Option.map_some, Option.map_none, Option.bind_some, Option.bind_none, Bool.false_eq_true, Bool.not_true, Bool.not_false, reduceIte, reduceCtorEq, List.length_cons, List.length_nil, List.map_cons, List.map_nil, List.replicate_zero, List.replicate_succ, Nat.reduceAdd, Nat.reduceSub, Nat.zero_add, Nat.add_zero, Nat.sub_self, List.cons_append, List.nil_append, Bool.true_and, Bool.and_true, Bool.and_false, Bool.false_and, Nat.reduceLeDiff, Nat.reduceEqDiff, forS_v, forS_c, hInt_int, hInt_bl, hAbs_int, hMax2_int, hMin2_int, hGt_int, hLt_int, hLe_int, hGe_int, hIx_t0, hIx_t1, hIx_t2, hIx_t3, mul_ok, mod_ok, fdiv_ok, q], r⟩
theorem turns_ok {S : Store} {c K : Nat} {env : Env} (h : Crk S c K) (hK : K + 10 < 2 ^ 100) :
    ∃ (k : Nat) (S' : Store), sIfE (sTest (sOp hGt (ldl 3) (sC (.int 0)))) (ldl 3) (sC (.int 0)) (some (.ref c) :: env) S = .ok (.int (k : Int)) S' ∧ k ≤ 2 ∧ Crk S' c (K + 2) ∧ Same c S S' := by
  obtain ⟨t, S1, q1, q2, q3, q4⟩ := ldl_ok (n := 3) (env := env) h (by omega) (by decide) (by decide)
  have q1 : ldl 3 (some (.ref c) :: env) S = .ok (.int (t : Int)) S1 := q1
  by_cases ht : t = 0
  · subst ht
    refine ⟨0, S1, ?_, by decide, q3.mono (by omega), q4⟩
    simp only [sIfE, sTest, sOp, q1, Res.bind, sC, ofO, hGt_int]
    rfl
  · obtain ⟨u, S2, r1, r2, r3, r4⟩ := ldl_ok (n := 3) (env := env) q3 (by omega) (by decide) (by decide)
    have r1 : ldl 3 (some (.ref c) :: env) S1 = .ok (.int (u : Int)) S2 := r1
    refine ⟨u, S2, ?_, by omega, r3, q4.trans r4⟩
    have p : ((0 : Int) < (t : Int)) = True := by simp; omega
    simp only [sIfE, sTest, sOp, q1, Res.bind, sC, ofO, hGt_int, p, decide_true, if_true, r1]
abbrev bdD : SS := (sSeq (sPar 6 7 (sCons (sCall f__law_ladle (sCons (sVar 0) (sCons (sVar 1) sNil))) (sCons (sCall f__law_ladle (sCons (sVar 0) (sCons (sVar 1) sNil))) sNil)))
    (sSeq (sAsg (sIfE (sTest (sOp hGt (sCall f__law_ladle (sCons (sVar 0) (sCons (sC (.int 3)) sNil))) (sC (.int 0)))) (sCall f__law_ladle (sCons (sVar 0) (sCons (sC (.int 3)) sNil))) (sC (.int 0))) (gNm 8))
    (sSeq (sIf (sAndT (sTest (sOp hGe (sVar 6) (sVar 7))) (sAndT (sTest (sOp hEq (sVar 8) (sC (.int 0)))) (sTest (sOp hGt (sCall f__law_ladle (sCons (sVar 0) (sCons (sC (.int 8)) sNil))) (sC (.int 0)))))) (sAsg (sVar 4) (gNm 8)) sSkip)
    (sDrop (sMt qLst mApp (sVar 3) (sCons (sTup (sCons (sVar 6) (sCons (sVar 7) (sCons (sCall f__law_ladle (sCons (sVar 0) (sCons (sC (.int 8)) sNil))) (sCons (sVar 8) sNil))))) sNil))))))
abbrev evD (c many most f turned : Nat) (x5 x6 x7 x8 : Option D) : Env := [some (.ref c), some (.int (many : Int)), some (.int (most : Int)), some (.ref f), some (.int (turned : Int)), x5, x6, x7, x8]
theorem swap_ok {S : Store} {c K many most f turned s t k : Nat} {x5 : Option D} (h : Crk S c K) (hK : K + 10 < 2 ^ 100) (ht : 1 ≤ turned ∧ turned ≤ 3) (hk : k ≤ 2) :
    ∃ (k' : Nat) (S' : Store), sIf (sAndT (sTest (sOp hGe (sVar 6) (sVar 7))) (sAndT (sTest (sOp hEq (sVar 8) (sC (.int 0)))) (sTest (sOp hGt (sCall f__law_ladle (sCons (sVar 0) (sCons (sC (.int 8)) sNil))) (sC (.int 0)))))) (sAsg (sVar 4) (gNm 8)) sSkip (evD c many most f turned x5 (some (.int (s : Int))) (some (.int (t : Int))) (some (.int (k : Int)))) S = .ok (.nx (evD c many most f turned x5 (some (.int (s : Int))) (some (.int (t : Int))) (some (.int (k' : Int))))) S' ∧ k' ≤ 3 ∧ Crk S' c (K + 1) ∧ Same c S S' := by
  by_cases h1 : (t : Int) ≤ (s : Int)
  · by_cases h2 : (k : Int) = 0
    · obtain ⟨u, S1, q1, q2, q3, q4⟩ := ladle_ok h (total := 8) (by omega) (by decide) (by decide)
      have q1 : f__law_ladle [.ref c, .int 8] S = .ok (.int (u : Int)) S1 := q1
      by_cases h3 : (0 : Int) < (u : Int)
      · refine ⟨turned, S1, ?_, ht.2, q3, q4⟩
        simp only [sSeq, sAsg, sIf, sIfE, sTest, sOp, sUn, sFn, sVar, sC, sCons, sNil, sTup, sLst, sNew, sNewD, sDict0, sCall, sRet, sRetN, sDrop, sPar, sPar3, sSkip, gNm, gTp, gsNil, gsCons, gSb, sAndT, sOrT, sNotT, sAndV, sOrV, sNotV, sChain, sTrue, Res.bind, Res.np, ofO, ofI, ofM, sMt, hAdd_int, hSub_int, hNeg_int, isB, hIs, hNotIs, List.getElem?_cons_zero, List.getElem?_cons_succ, List.set_cons_zero, List.set_cons_succ, if_true, if_false, decide_true, decide_false, Option.map_some, Option.map_none, Option.bind_some, Option.bind_none, Bool.false_eq_true, Bool.not_true, Bool.not_false, reduceIte, reduceCtorEq, List.length_cons, List.length_nil, List.map_cons, List.map_nil, List.replicate_zero, List.replicate_succ, Nat.reduceAdd, Nat.reduceSub, Nat.zero_add, Nat.add_zero, Nat.sub_self, List.cons_append, List.nil_append, Bool.true_and, Bool.and_true, Bool.and_false, Bool.false_and, Nat.reduceLeDiff, Nat.reduceEqDiff, forS_v, forS_c, hInt_int, hInt_bl, hAbs_int, hMax2_int, hMin2_int, hGt_int, hLt_int, hLe_int, hGe_int, hIx_t0, hIx_t1, hIx_t2, hIx_t3, mul_ok, mod_ok, fdiv_ok, h1, hEq_int, h2, q1, h3]
      · refine ⟨k, S1, ?_, by omega, q3, q4⟩
        simp only [sSeq, sAsg, sIf, sIfE, sTest, sOp, sUn, sFn, sVar, sC, sCons, sNil, sTup, sLst, sNew, sNewD, sDict0, sCall, sRet, sRetN, sDrop, sPar, sPar3, sSkip, gNm, gTp, gsNil, gsCons, gSb, sAndT, sOrT, sNotT, sAndV, sOrV, sNotV, sChain, sTrue, Res.bind, Res.np, ofO, ofI, ofM, sMt, hAdd_int, hSub_int, hNeg_int, isB, hIs, hNotIs, List.getElem?_cons_zero, List.getElem?_cons_succ, List.set_cons_zero, List.set_cons_succ, if_true, if_false, decide_true, decide_false, Option.map_some, Option.map_none, Option.bind_some, Option.bind_none, Bool.false_eq_true, Bool.not_true, Bool.not_false, reduceIte, reduceCtorEq, List.length_cons, List.length_nil, List.map_cons, List.map_nil, List.replicate_zero, List.replicate_succ, Nat.reduceAdd, Nat.reduceSub, Nat.zero_add, Nat.add_zero, Nat.sub_self, List.cons_append, List.nil_append, Bool.true_and, Bool.and_true, Bool.and_false, Bool.false_and, Nat.reduceLeDiff, Nat.reduceEqDiff, forS_v, forS_c, hInt_int, hInt_bl, hAbs_int, hMax2_int, hMin2_int, hGt_int, hLt_int, hLe_int, hGe_int, hIx_t0, hIx_t1, hIx_t2, hIx_t3, mul_ok, mod_ok, fdiv_ok, h1, hEq_int, h2, q1, h3]
    · refine ⟨k, S, ?_, by omega, h.mono (by omega), .refl⟩
      simp only [sSeq, sAsg, sIf, sIfE, sTest, sOp, sUn, sFn, sVar, sC, sCons, sNil, sTup, sLst, sNew, sNewD, sDict0, sCall, sRet, sRetN, sDrop, sPar, sPar3, sSkip, gNm, gTp, gsNil, gsCons, gSb, sAndT, sOrT, sNotT, sAndV, sOrV, sNotV, sChain, sTrue, Res.bind, Res.np, ofO, ofI, ofM, sMt, hAdd_int, hSub_int, hNeg_int, isB, hIs, hNotIs, List.getElem?_cons_zero, List.getElem?_cons_succ, List.set_cons_zero, List.set_cons_succ, if_true, if_false, decide_true, decide_false, Option.map_some, Option.map_none, Option.bind_some, Option.bind_none, Bool.false_eq_true, Bool.not_true, Bool.not_false, reduceIte, reduceCtorEq, List.length_cons, List.length_nil, List.map_cons, List.map_nil, List.replicate_zero, List.replicate_succ, Nat.reduceAdd, Nat.reduceSub, Nat.zero_add, Nat.add_zero, Nat.sub_self, List.cons_append, List.nil_append, Bool.true_and, Bool.and_true, Bool.and_false, Bool.false_and, Nat.reduceLeDiff, Nat.reduceEqDiff, forS_v, forS_c, hInt_int, hInt_bl, hAbs_int, hMax2_int, hMin2_int, hGt_int, hLt_int, hLe_int, hGe_int, hIx_t0, hIx_t1, hIx_t2, hIx_t3, mul_ok, mod_ok, fdiv_ok, h1, hEq_int, h2]
  · refine ⟨k, S, ?_, by omega, h.mono (by omega), .refl⟩
    simp only [sSeq, sAsg, sIf, sIfE, sTest, sOp, sUn, sFn, sVar, sC, sCons, sNil, sTup, sLst, sNew, sNewD, sDict0, sCall, sRet, sRetN, sDrop, sPar, sPar3, sSkip, gNm, gTp, gsNil, gsCons, gSb, sAndT, sOrT, sNotT, sAndV, sOrV, sNotV, sChain, sTrue, Res.bind, Res.np, ofO, ofI, ofM, sMt, hAdd_int, hSub_int, hNeg_int, isB, hIs, hNotIs, List.getElem?_cons_zero, List.getElem?_cons_succ, List.set_cons_zero, List.set_cons_succ, if_true, if_false, decide_true, decide_false, Option.map_some, Option.map_none, Option.bind_some, Option.bind_none, Bool.false_eq_true, Bool.not_true, Bool.not_false, reduceIte, reduceCtorEq, List.length_cons, List.length_nil, List.map_cons, List.map_nil, List.replicate_zero, List.replicate_succ, Nat.reduceAdd, Nat.reduceSub, Nat.zero_add, Nat.add_zero, Nat.sub_self, List.cons_append, List.nil_append, Bool.true_and, Bool.and_true, Bool.and_false, Bool.false_and, Nat.reduceLeDiff, Nat.reduceEqDiff, forS_v, forS_c, hInt_int, hInt_bl, hAbs_int, hMax2_int, hMin2_int, hGt_int, hLt_int, hLe_int, hGe_int, hIx_t0, hIx_t1, hIx_t2, hIx_t3, mul_ok, mod_ok, fdiv_ok, h1]
theorem edge_draw {S : Store} {c K many most f turned : Nat} {es : List Ed} {x5 x6 x7 x8 : Option D} (h : Crk S c K) (hK : K + 20 < 2 ^ 100) (hm : 1 ≤ many ∧ many ≤ 8) (ht : 1 ≤ turned ∧ turned ≤ 3) (hf : S[f]? = some (cE es)) (hfc : f ≠ c) (hl : es.length < 1000) :
    ∃ (e : Ed) (S' : Store) (y6 y7 y8 : Option D), bdD (evD c many most f turned x5 x6 x7 x8) S = .ok (.nx (evD c many most f turned x5 y6 y7 y8)) S' ∧ Crk S' c (K + 10) ∧ S'[f]? = some (cE (es ++ [e])) ∧ S.length ≤ S'.length ∧ (∀ i, i < S.length → i ≠ c → i ≠ f → S'[i]? = S[i]?) ∧ e.s < many ∧ e.t < many ∧ 0 ≤ e.l ∧ e.l ≤ 7 ∧ 0 ≤ e.k ∧ e.k ≤ 3 := by
  have fl := (List.getElem?_eq_some_iff.mp hf).1
  obtain ⟨s, S1, a1, a2, a3, a4⟩ := ladle_ok h (total := many) (by omega) hm.1 (by omega)
  obtain ⟨t, S2, b1, b2, b3, b4⟩ := ladle_ok a3 (total := many) (by omega) hm.1 (by omega)
  obtain ⟨k, S3, c1, c2, c3, c4⟩ := turns_ok (env := [some (.int (many : Int)), some (.int (most : Int)), some (.ref f), some (.int (turned : Int)), x5, some (.int (s : Int)), some (.int (t : Int)), x8]) b3 (by omega)
  obtain ⟨k', S4, d1, d2, d3, d4⟩ := swap_ok (many := many) (most := most) (f := f) (s := s) (t := t) (x5 := x5) c3 (by omega) ht c2
  obtain ⟨l, S5, e1, e2, e3, e4⟩ := ladle_ok d3 (total := 8) (by omega) (by decide) (by decide)
  have e1 : f__law_ladle [.ref c, .int 8] S4 = .ok (.int (l : Int)) S5 := e1
  have sm := (((a4.trans b4).trans c4).trans d4).trans e4
  have f5 : S5[f]? = some (cE es) := by rw [sm.els f fl hfc]; exact hf
  have f4 : S4[f]? = some (cE es) := by rw [(((a4.trans b4).trans c4).trans d4).els f fl hfc]; exact hf
  have ap : ∀ d : D, mApp S5 (.ref f) [d] = some (.non, S5.set f (.lst (es.map dE ++ [d]))) := fun d => mApp_l f5 (by simp; omega)
  have ql : qLst S4 (.ref f) = true := qLst_l f4
  refine ⟨⟨s, t, l, k'⟩, S5.set f (cE (es ++ [⟨s, t, l, k'⟩])), some (.int (s : Int)), some (.int (t : Int)), some (.int (k' : Int)), ?_, (e3.mono (by omega)).other hfc, ?_, ?_, ?_, a2, b2, by simp, by simp; omega, by simp, by simp; omega⟩
  · have hb : ∀ env, sSeq (sAsg (sIfE (sTest (sOp hGt (sCall f__law_ladle (sCons (sVar 0) (sCons (sC (.int 3)) sNil))) (sC (.int 0)))) (sCall f__law_ladle (sCons (sVar 0) (sCons (sC (.int 3)) sNil))) (sC (.int 0))) (gNm 8)) env = sSeq (sAsg (sIfE (sTest (sOp hGt (ldl 3) (sC (.int 0)))) (ldl 3) (sC (.int 0))) (gNm 8)) env := fun _ => rfl
    simp only [bdD, hb, evD]
    simp only [sSeq, sAsg, sPar, sCons, sNil, sCall, sVar, Res.bind, List.getElem?_cons_zero, List.getElem?_cons_succ, a1, b1, List.set_cons_zero, List.set_cons_succ]
    simp only [evD] at d1
    rw [c1]
    simp only [gNm, Res.bind, List.set_cons_zero, List.set_cons_succ]
    rw [d1]
    simp only [sSeq, sAsg, sIf, sIfE, sTest, sOp, sUn, sFn, sVar, sC, sCons, sNil, sTup, sLst, sNew, sNewD, sDict0, sCall, sRet, sRetN, sDrop, sPar, sPar3, sSkip, gNm, gTp, gsNil, gsCons, gSb, sAndT, sOrT, sNotT, sAndV, sOrV, sNotV, sChain, sTrue, Res.bind, Res.np, ofO, ofI, ofM, sMt, hAdd_int, hSub_int, hNeg_int, isB, hIs, hNotIs, List.getElem?_cons_zero, List.getElem?_cons_succ, List.set_cons_zero, List.set_cons_succ, if_true, if_false, decide_true, decide_false, Option.map_some, Option.map_none, Option.bind_some, Option.bind_none, Bool.false_eq_true, Bool.not_true, Bool.not_false, reduceIte, reduceCtorEq, List.length_cons, List.length_nil, List.map_cons, List.map_nil, List.replicate_zero, List.replicate_succ, Nat.reduceAdd, Nat.reduceSub, Nat.zero_add, Nat.add_zero, Nat.sub_self, List.cons_append, List.nil_append, Bool.true_and, Bool.and_true, Bool.and_false, Bool.false_and, Nat.reduceLeDiff, Nat.reduceEqDiff, forS_v, forS_c, hInt_int, hInt_bl, hAbs_int, hMax2_int, hMin2_int, hGt_int, hLt_int, hLe_int, hGe_int, hIx_t0, hIx_t1, hIx_t2, hIx_t3, mul_ok, mod_ok, fdiv_ok, ql, e1, ap]
    simp [cE]
  · rw [List.getElem?_set_self (Nat.lt_of_lt_of_le fl sm.len)]
  · rw [List.length_set]; exact sm.len
  · intro i hi h1 h2
    rw [List.getElem?_set_ne (Ne.symm h2)]
    exact sm.els i hi h1
theorem edges_loop {c many most f turned : Nat} (hm : 1 ≤ many ∧ many ≤ 8) (ht : 1 ≤ turned ∧ turned ≤ 3) (hfc : f ≠ c) : ∀ (ds : List D) (S : Store) (K : Nat) (es : List Ed) (x5 x6 x7 x8 : Option D), Crk S c K → K + 10 * ds.length + 20 < 2 ^ 100 → S[f]? = some (cE es) → es.length + ds.length < 900 → Drawn many es →
    ∃ (es' : List Ed) (S' : Store) (y5 y6 y7 y8 : Option D), forV (gNm 5) bdD ds (evD c many most f turned x5 x6 x7 x8) S = .ok (.nx (evD c many most f turned y5 y6 y7 y8)) S' ∧ Crk S' c (K + 10 * ds.length) ∧ S'[f]? = some (cE es') ∧ es'.length = es.length + ds.length ∧ S.length ≤ S'.length ∧ (∀ i, i < S.length → i ≠ c → i ≠ f → S'[i]? = S[i]?) ∧ Drawn many es'
  | [], S, K, es, x5, x6, x7, x8, h, hK, hf, hl, hd => ⟨es, S, x5, x6, x7, x8, rfl, h, hf, rfl, Nat.le_refl _, fun _ _ _ _ => rfl, hd⟩
  | d :: ds, S, K, es, x5, x6, x7, x8, h, hK, hf, hl, hd => by
    rw [List.length_cons] at hK hl
    obtain ⟨e, S1, y6, y7, y8, q1, q2, q3, q4, q5, r1, r2, r3, r4, r5, r6⟩ := edge_draw (most := most) (x5 := some d) (x6 := x6) (x7 := x7) (x8 := x8) h (by omega) hm ht hf hfc (by omega)
    have hd2 : Drawn many (es ++ [e]) := ⟨fun a ha => by
        rcases List.mem_append.mp ha with ha | ha
        · exact hd.ed a ha
        · rw [List.mem_singleton.mp ha]; exact ⟨r1, r2⟩, fun a ha => by
        rcases List.mem_append.mp ha with ha | ha
        · exact hd.lk a ha
        · rw [List.mem_singleton.mp ha]; exact ⟨r3, r4, r5, r6⟩⟩
    obtain ⟨es', S2, z5, z6, z7, z8, p1, p2, p3, p4, p5, p6, p7⟩ := edges_loop hm ht hfc ds S1 (K + 10) (es ++ [e]) (some d) y6 y7 y8 q2 (by omega) q3 (by rw [List.length_append, List.length_singleton]; omega) hd2
    refine ⟨es', S2, z5, z6, z7, z8, ?_, p2.mono (by rw [List.length_cons]; omega), p3, by rw [p4, List.length_append, List.length_singleton, List.length_cons]; omega, Nat.le_trans q4 p5, fun i hi h1 h2 => (p6 i (by omega) h1 h2).trans (q5 i hi h1 h2), p7⟩
    unfold forV
    simp only [evD, gNm, Res.bind, List.set_cons_zero, List.set_cons_succ] at q1 p1 ⊢
    rw [q1]
    exact p1
theorem edges_drawn {S : Store} {c K many most : Nat} (h : Crk S c K) (hK : K + 1000 < 2 ^ 100) (hm : 1 ≤ many ∧ many ≤ 8) (hmost : most ≤ 20) :
    ∃ (es : List Ed) (S' : Store), f__law_edges [.ref c, .int (many : Int), .int (most : Int)] S = .ok (dEs es) S' ∧ es.length ≤ most ∧ Drawn many es ∧ Crk S' c (K + 500) ∧ Same c S S' := by
  have hc := h.lt
  have h0 : Crk (S ++ [.lst []]) c K := h.app
  obtain ⟨x, S1, a1, a2, a3, a4⟩ := pick_ok (xs := [.int 1, .int 2, .int 3]) h0 (by omega) (by simp) (by simp)
  obtain ⟨turned, ht, rfl⟩ : ∃ turned : Nat, (1 ≤ turned ∧ turned ≤ 3) ∧ x = .int (turned : Int) := by
    have : x = .int 1 ∨ x = .int 2 ∨ x = .int 3 := by simpa using a2
    rcases this with rfl | rfl | rfl
    · exact ⟨1, by decide, rfl⟩
    · exact ⟨2, by decide, rfl⟩
    · exact ⟨3, by decide, rfl⟩
  obtain ⟨n, S2, b1, b2, b3, b4⟩ := ladle_ok a3 (total := most + 1) (by omega) (by omega) (by omega)
  have b1 : f__law_ladle [.ref c, .int ((most : Int) + 1)] S1 = .ok (.int (n : Int)) S2 := b1
  have hfc : S.length ≠ c := by omega
  have f2 : S2[S.length]? = some (cE []) := by
    rw [(a4.trans b4).els S.length (by simp) hfc, List.getElem?_append_right (Nat.le_refl _), Nat.sub_self]
    rfl
  have hn : (intsD 0 n).length = n := by simp [intsD]
  have i2 : range1 [.int (n : Int)] = some (.vals (intsD 0 n)) := by
    simp only [range1]
    rw [if_pos (by omega)]
    simp
  obtain ⟨es, S3, y5, y6, y7, y8, c1, c2, c3, c4, c5, c6, c7⟩ := edges_loop (most := most) (turned := turned) hm ht hfc (intsD 0 n) S2 (K + 1 + 1) [] none none none none b3 (by rw [hn]; omega) f2 (by rw [hn]; simp; omega) ⟨by simp, by simp⟩
  have ht3 : hTuple S3 [.ref S.length] = some (dEs es) := by
    simp only [hTuple, one1, lstOf, c3, Option.map_some]
  rw [hn] at c2 c4
  refine ⟨es, S3, mkFn_ok rfl ?_, by rw [c4]; simp; omega, c7, c2.mono (by omega), ⟨?_, fun i hi h1 => ?_⟩⟩
  · simp only [b__law_edges, sFor, sRng1, sSeq, sAsg, sIf, sIfE, sTest, sOp, sUn, sFn, sVar, sC, sCons, sNil, sTup, sLst, sNew, sNewD, sDict0, sCall, sRet, sRetN, sDrop, sPar, sPar3, sSkip, gNm, gTp, gsNil, gsCons, gSb, sAndT, sOrT, sNotT, sAndV, sOrV, sNotV, sChain, sTrue, Res.bind, Res.np, ofO, ofI, ofM, sMt, hAdd_int, hSub_int, hNeg_int, isB, hIs, hNotIs, List.getElem?_cons_zero, List.getElem?_cons_succ, List.set_cons_zero, List.set_cons_succ, if_true, if_false, decide_true, decide_false, Option.map_some, Option.map_none, Option.bind_some, Option.bind_none, Bool.false_eq_true, Bool.not_true, Bool.not_false, reduceIte, reduceCtorEq, List.length_cons, List.length_nil, List.map_cons, List.map_nil, List.replicate_zero, List.replicate_succ, Nat.reduceAdd, Nat.reduceSub, Nat.zero_add, Nat.add_zero, Nat.sub_self, List.cons_append, List.nil_append, Bool.true_and, Bool.and_true, Bool.and_false, Bool.false_and, Nat.reduceLeDiff, Nat.reduceEqDiff, forS_v, forS_c, hInt_int, hInt_bl, hAbs_int, hMax2_int, hMin2_int, hGt_int, hLt_int, hLe_int, hGe_int, hIx_t0, hIx_t1, hIx_t2, hIx_t3, mul_ok, mod_ok, fdiv_ok, a1, b1, i2]
    simp only [evD] at c1
    erw [c1]
    simp only [sSeq, sAsg, sIf, sIfE, sTest, sOp, sUn, sFn, sVar, sC, sCons, sNil, sTup, sLst, sNew, sNewD, sDict0, sCall, sRet, sRetN, sDrop, sPar, sPar3, sSkip, gNm, gTp, gsNil, gsCons, gSb, sAndT, sOrT, sNotT, sAndV, sOrV, sNotV, sChain, sTrue, Res.bind, Res.np, ofO, ofI, ofM, sMt, hAdd_int, hSub_int, hNeg_int, isB, hIs, hNotIs, List.getElem?_cons_zero, List.getElem?_cons_succ, List.set_cons_zero, List.set_cons_succ, if_true, if_false, decide_true, decide_false, Option.map_some, Option.map_none, Option.bind_some, Option.bind_none, Bool.false_eq_true, Bool.not_true, Bool.not_false, reduceIte, reduceCtorEq, List.length_cons, List.length_nil, List.map_cons, List.map_nil, List.replicate_zero, List.replicate_succ, Nat.reduceAdd, Nat.reduceSub, Nat.zero_add, Nat.add_zero, Nat.sub_self, List.cons_append, List.nil_append, Bool.true_and, Bool.and_true, Bool.and_false, Bool.false_and, Nat.reduceLeDiff, Nat.reduceEqDiff, forS_v, forS_c, hInt_int, hInt_bl, hAbs_int, hMax2_int, hMin2_int, hGt_int, hLt_int, hLe_int, hGe_int, hIx_t0, hIx_t1, hIx_t2, hIx_t3, mul_ok, mod_ok, fdiv_ok, ht3]
  · have := b4.len
    have := a4.len
    simp at this
    omega
  · have l1 := a4.len
    have l2 := b4.len
    simp at l1
    rw [c6 i (by omega) h1 (by omega), b4.els i (by omega) h1, a4.els i (by simp; omega) h1, List.getElem?_append_left hi]
end Y

set_option maxHeartbeats 2000000
namespace Y
open PySem PySem.Spec PyProof.Rows L2 Rd
theorem gcd_loop2 {a0 b0 : D} : ∀ (k b n : Nat) (S : Store), b < 2 ^ k → 2 * k < n → ∀ a : Nat, wloop (sTest (sOp hGt (sVar 3) (sC (.int 0)))) (sPar 2 3 (sCons (sVar 3) (sCons (sOp hMod (sFn hInt (sCons (sVar 2) sNil)) (sVar 3)) sNil))) n [some a0, some b0, some (.int (a : Nat)), some (.int (b : Nat))] S = .ok (.nx [some a0, some b0, some (.int (Nat.gcd a b)), some (.int 0)]) S := by
  intro k
  induction k with
  | zero =>
    intro b n S hb hn a
    obtain ⟨n, rfl⟩ : ∃ m, n = m + 1 := ⟨n - 1, by omega⟩
    have : b = 0 := by omega
    subst this
    unfold wloop
    simp [sTest, sOp, sVar, sC, Res.bind, ofO, hCmp]
  | succ k ih =>
    intro b n S hb hn a
    obtain ⟨n, rfl⟩ : ∃ m, n = m + 2 := ⟨n - 2, by omega⟩
    unfold wloop
    by_cases h0 : b = 0
    · subst h0
      simp [sTest, sOp, sVar, sC, Res.bind, ofO, hCmp]
    · have hp : (0 : Int) < (b : Int) := by omega
      simp only [sSeq, sAsg, sIf, sIfE, sTest, sOp, sUn, sFn, sVar, sC, sCons, sNil, sTup, sLst, sNew, sNewD, sDict0, sCall, sRet, sRetN, sDrop, sPar, sPar3, sSkip, gNm, gTp, gsNil, gsCons, gSb, sAndT, sOrT, sNotT, sAndV, sOrV, sNotV, sChain, sTrue, Res.bind, Res.np, ofO, ofI, ofM, sMt, hAdd_int, hSub_int, hNeg_int, isB, hIs, hNotIs, List.getElem?_cons_zero, List.getElem?_cons_succ, List.set_cons_zero, List.set_cons_succ, if_true, if_false, decide_true, decide_false, Option.map_some, Option.map_none, Option.bind_some, Option.bind_none, Bool.false_eq_true, Bool.not_true, Bool.not_false, reduceIte, reduceCtorEq, List.length_cons, List.length_nil, List.map_cons, List.map_nil, List.replicate_zero, List.replicate_succ, Nat.reduceAdd, Nat.reduceSub, Nat.zero_add, Nat.add_zero, Nat.sub_self, List.cons_append, List.nil_append, Bool.true_and, Bool.and_true, Bool.and_false, Bool.false_and, Nat.reduceLeDiff, Nat.reduceEqDiff, forS_v, forS_c, hInt_int, hInt_bl, hAbs_int, hMax2_int, hMin2_int, hGt_int, hLt_int, hLe_int, hGe_int, hIx_t0, hIx_t1, hIx_t2, hIx_t3, mul_ok, mod_ok, fdiv_ok, hp, mod_ok hp]
      unfold wloop
      rw [show ((a : Int) % (b : Int)) = ((a % b : Nat) : Int) from rfl]
      by_cases h1 : a % b = 0
      · rw [h1]
        simp [sTest, sOp, sVar, sC, Res.bind, ofO, hCmp]
        rw [Nat.gcd_eq_right (Nat.dvd_of_mod_eq_zero h1)]
      · have hp1 : (0 : Int) < ((a % b : Nat) : Int) := by omega
        simp only [sSeq, sAsg, sIf, sIfE, sTest, sOp, sUn, sFn, sVar, sC, sCons, sNil, sTup, sLst, sNew, sNewD, sDict0, sCall, sRet, sRetN, sDrop, sPar, sPar3, sSkip, gNm, gTp, gsNil, gsCons, gSb, sAndT, sOrT, sNotT, sAndV, sOrV, sNotV, sChain, sTrue, Res.bind, Res.np, ofO, ofI, ofM, sMt, hAdd_int, hSub_int, hNeg_int, isB, hIs, hNotIs, List.getElem?_cons_zero, List.getElem?_cons_succ, List.set_cons_zero, List.set_cons_succ, if_true, if_false, decide_true, decide_false, Option.map_some, Option.map_none, Option.bind_some, Option.bind_none, Bool.false_eq_true, Bool.not_true, Bool.not_false, reduceIte, reduceCtorEq, List.length_cons, List.length_nil, List.map_cons, List.map_nil, List.replicate_zero, List.replicate_succ, Nat.reduceAdd, Nat.reduceSub, Nat.zero_add, Nat.add_zero, Nat.sub_self, List.cons_append, List.nil_append, Bool.true_and, Bool.and_true, Bool.and_false, Bool.false_and, Nat.reduceLeDiff, Nat.reduceEqDiff, forS_v, forS_c, hInt_int, hInt_bl, hAbs_int, hMax2_int, hMin2_int, hGt_int, hLt_int, hLe_int, hGe_int, hIx_t0, hIx_t1, hIx_t2, hIx_t3, mul_ok, mod_ok, fdiv_ok, hp1, mod_ok hp1]
        rw [show ((b : Int) % ((a % b : Nat) : Int)) = ((b % (a % b) : Nat) : Int) from rfl]
        have hlt : a % b < b := Nat.mod_lt _ (by omega)
        have hm : b % (a % b) < 2 ^ k := by
          have h2 : b % (a % b) < a % b := Nat.mod_lt _ (by omega)
          have h3 : b = a % b * (b / (a % b)) + b % (a % b) := (Nat.div_add_mod b (a % b)).symm
          have h4 : 1 ≤ b / (a % b) := (Nat.le_div_iff_mul_le (by omega)).mpr (by omega)
          have h5 : a % b * 1 ≤ a % b * (b / (a % b)) := Nat.mul_le_mul_left _ h4
          rw [Nat.pow_succ] at hb
          omega
        rw [ih _ _ S hm (by omega)]
        rw [show Nat.gcd (a % b) (b % (a % b)) = Nat.gcd a b by rw [Nat.gcd_comm (a % b), ← Nat.gcd_rec, ← Nat.gcd_rec, Nat.gcd_comm]]
theorem llow_ok {S : Store} {t b : Int} {n : Nat} (hb : 0 < b) (h : B n b) (hn : n ≤ 1000 := by decide) : f__law_lowest [.int t, .int b] S = .ok (dP (low t b)) S := by
  have hm : Mod b := h.mod hn
  refine mkP_d rfl rfl (S' := []) rfl ?_
  have e1 : ∀ i : Int, (if i < 0 then -i else i) = (i.natAbs : Int) := fun i => by split <;> omega
  have e2 : b = (b.natAbs : Int) := by omega
  have g0 := gcd_pos (t := t) hb
  have g1 : Mod (Int.gcd t b : Int) := by
    have := gcd_le (t := t) hb
    unfold Mod at hm ⊢
    omega
  have lp := gcd_loop2 (a0 := .int t) (b0 := .int b) 1000 b.natAbs 4000 [] hm (by omega) t.natAbs
  rw [← e2] at lp
  have e3 : ((t.natAbs.gcd b.natAbs : Nat) : Int) = (Int.gcd t b : Int) := rfl
  simp only [b__law_lowest, sWhile, sSeq, sAsg, sIf, sIfE, sTest, sOp, sUn, sFn, sVar, sC, sCons, sNil, sTup, sLst, sNew, sNewD, sDict0, sCall, sRet, sRetN, sDrop, sPar, sPar3, sSkip, gNm, gTp, gsNil, gsCons, gSb, sAndT, sOrT, sNotT, sAndV, sOrV, sNotV, sChain, sTrue, Res.bind, Res.np, ofO, ofI, ofM, sMt, hAdd_int, hSub_int, hNeg_int, isB, hIs, hNotIs, List.getElem?_cons_zero, List.getElem?_cons_succ, List.set_cons_zero, List.set_cons_succ, if_true, if_false, decide_true, decide_false, Option.map_some, Option.map_none, Option.bind_some, Option.bind_none, Bool.false_eq_true, Bool.not_true, Bool.not_false, reduceIte, reduceCtorEq, List.length_cons, List.length_nil, List.map_cons, List.map_nil, List.replicate_zero, List.replicate_succ, Nat.reduceAdd, Nat.reduceSub, Nat.zero_add, Nat.add_zero, Nat.sub_self, List.cons_append, List.nil_append, Bool.true_and, Bool.and_true, Bool.and_false, Bool.false_and, Nat.reduceLeDiff, Nat.reduceEqDiff, forS_v, forS_c, hInt_int, hInt_bl, hAbs_int, hMax2_int, hMin2_int, hGt_int, hLt_int, hLe_int, hGe_int, hIx_t0, hIx_t1, hIx_t2, hIx_t3, mul_ok, mod_ok, fdiv_ok, e1]
  rw [lp, e3]
  simp only [sSeq, sAsg, sIf, sIfE, sTest, sOp, sUn, sFn, sVar, sC, sCons, sNil, sTup, sLst, sNew, sNewD, sDict0, sCall, sRet, sRetN, sDrop, sPar, sPar3, sSkip, gNm, gTp, gsNil, gsCons, gSb, sAndT, sOrT, sNotT, sAndV, sOrV, sNotV, sChain, sTrue, Res.bind, Res.np, ofO, ofI, ofM, sMt, hAdd_int, hSub_int, hNeg_int, isB, hIs, hNotIs, List.getElem?_cons_zero, List.getElem?_cons_succ, List.set_cons_zero, List.set_cons_succ, if_true, if_false, decide_true, decide_false, Option.map_some, Option.map_none, Option.bind_some, Option.bind_none, Bool.false_eq_true, Bool.not_true, Bool.not_false, reduceIte, reduceCtorEq, List.length_cons, List.length_nil, List.map_cons, List.map_nil, List.replicate_zero, List.replicate_succ, Nat.reduceAdd, Nat.reduceSub, Nat.zero_add, Nat.add_zero, Nat.sub_self, List.cons_append, List.nil_append, Bool.true_and, Bool.and_true, Bool.and_false, Bool.false_and, Nat.reduceLeDiff, Nat.reduceEqDiff, forS_v, forS_c, hInt_int, hInt_bl, hAbs_int, hMax2_int, hMin2_int, hGt_int, hLt_int, hLe_int, hGe_int, hIx_t0, hIx_t1, hIx_t2, hIx_t3, mul_ok, mod_ok, fdiv_ok, fdiv_ok g0 g1]
  rfl
theorem ltimes_ok {S : Store} {P : Int × Int} {n : Int} (hq : 0 < P.2) (bP : B 300 P.1 ∧ B 300 P.2) (hn : B 300 n) : f__law_times [dP P, .int n] S = .ok (dP (low (P.1 * n) P.2)) S := by
  refine mkP_d rfl rfl (S' := []) rfl ?_
  have lw := fun S => llow_ok (S := S) (t := P.1 * n) hq bP.2
  simp only [b__law_times, sSeq, sAsg, sIf, sIfE, sTest, sOp, sUn, sFn, sVar, sC, sCons, sNil, sTup, sLst, sNew, sNewD, sDict0, sCall, sRet, sRetN, sDrop, sPar, sPar3, sSkip, gNm, gTp, gsNil, gsCons, gSb, sAndT, sOrT, sNotT, sAndV, sOrV, sNotV, sChain, sTrue, Res.bind, Res.np, ofO, ofI, ofM, sMt, hAdd_int, hSub_int, hNeg_int, isB, hIs, hNotIs, List.getElem?_cons_zero, List.getElem?_cons_succ, List.set_cons_zero, List.set_cons_succ, if_true, if_false, decide_true, decide_false, Option.map_some, Option.map_none, Option.bind_some, Option.bind_none, Bool.false_eq_true, Bool.not_true, Bool.not_false, reduceIte, reduceCtorEq, List.length_cons, List.length_nil, List.map_cons, List.map_nil, List.replicate_zero, List.replicate_succ, Nat.reduceAdd, Nat.reduceSub, Nat.zero_add, Nat.add_zero, Nat.sub_self, List.cons_append, List.nil_append, Bool.true_and, Bool.and_true, Bool.and_false, Bool.false_and, Nat.reduceLeDiff, Nat.reduceEqDiff, forS_v, forS_c, hInt_int, hInt_bl, hAbs_int, hMax2_int, hMin2_int, hGt_int, hLt_int, hLe_int, hGe_int, hIx_t0, hIx_t1, hIx_t2, hIx_t3, mul_ok, mod_ok, fdiv_ok, mul_ok bP.1.mod hn.mod, lw]
theorem ltimes_non {S : Store} {n : Int} : f__law_times [.non, .int n] S = .ok .non S := by
  refine mkP_d rfl rfl (S' := []) rfl ?_
  simp only [b__law_times, sSeq, sAsg, sIf, sIfE, sTest, sOp, sUn, sFn, sVar, sC, sCons, sNil, sTup, sLst, sNew, sNewD, sDict0, sCall, sRet, sRetN, sDrop, sPar, sPar3, sSkip, gNm, gTp, gsNil, gsCons, gSb, sAndT, sOrT, sNotT, sAndV, sOrV, sNotV, sChain, sTrue, Res.bind, Res.np, ofO, ofI, ofM, sMt, hAdd_int, hSub_int, hNeg_int, isB, hIs, hNotIs, List.getElem?_cons_zero, List.getElem?_cons_succ, List.set_cons_zero, List.set_cons_succ, if_true, if_false, decide_true, decide_false, Option.map_some, Option.map_none, Option.bind_some, Option.bind_none, Bool.false_eq_true, Bool.not_true, Bool.not_false, reduceIte, reduceCtorEq, List.length_cons, List.length_nil, List.map_cons, List.map_nil, List.replicate_zero, List.replicate_succ, Nat.reduceAdd, Nat.reduceSub, Nat.zero_add, Nat.add_zero, Nat.sub_self, List.cons_append, List.nil_append, Bool.true_and, Bool.and_true, Bool.and_false, Bool.false_and, Nat.reduceLeDiff, Nat.reduceEqDiff, forS_v, forS_c, hInt_int, hInt_bl, hAbs_int, hMax2_int, hMin2_int, hGt_int, hLt_int, hLe_int, hGe_int, hIx_t0, hIx_t1, hIx_t2, hIx_t3, mul_ok, mod_ok, fdiv_ok]
theorem lover_ok {S : Store} {P Q : Int × Int} (bP : B 300 P.1 ∧ B 300 P.2) (bQ : B 300 Q.1 ∧ B 300 Q.2) : f__law_over [dP P, dP Q] S = .ok (.bl (decide (Q.1 * P.2 < P.1 * Q.2))) S := by
  refine mkP_d rfl rfl (S' := []) rfl ?_
  simp only [b__law_over, sSeq, sAsg, sIf, sIfE, sTest, sOp, sUn, sFn, sVar, sC, sCons, sNil, sTup, sLst, sNew, sNewD, sDict0, sCall, sRet, sRetN, sDrop, sPar, sPar3, sSkip, gNm, gTp, gsNil, gsCons, gSb, sAndT, sOrT, sNotT, sAndV, sOrV, sNotV, sChain, sTrue, Res.bind, Res.np, ofO, ofI, ofM, sMt, hAdd_int, hSub_int, hNeg_int, isB, hIs, hNotIs, List.getElem?_cons_zero, List.getElem?_cons_succ, List.set_cons_zero, List.set_cons_succ, if_true, if_false, decide_true, decide_false, Option.map_some, Option.map_none, Option.bind_some, Option.bind_none, Bool.false_eq_true, Bool.not_true, Bool.not_false, reduceIte, reduceCtorEq, List.length_cons, List.length_nil, List.map_cons, List.map_nil, List.replicate_zero, List.replicate_succ, Nat.reduceAdd, Nat.reduceSub, Nat.zero_add, Nat.add_zero, Nat.sub_self, List.cons_append, List.nil_append, Bool.true_and, Bool.and_true, Bool.and_false, Bool.false_and, Nat.reduceLeDiff, Nat.reduceEqDiff, forS_v, forS_c, hInt_int, hInt_bl, hAbs_int, hMax2_int, hMin2_int, hGt_int, hLt_int, hLe_int, hGe_int, hIx_t0, hIx_t1, hIx_t2, hIx_t3, mul_ok, mod_ok, fdiv_ok, mul_ok bP.1.mod bQ.2.mod, mul_ok bQ.1.mod bP.2.mod]
theorem lover_non {S : Store} {x : D} (hx : x = .non ∨ ∃ P, x = dP P) : f__law_over [x, .non] S = .ok (.bl false) S := by
  rcases hx with rfl | ⟨P, rfl⟩
  · refine mkP_d rfl rfl (S' := []) rfl ?_
    simp only [b__law_over, sSeq, sAsg, sIf, sIfE, sTest, sOp, sUn, sFn, sVar, sC, sCons, sNil, sTup, sLst, sNew, sNewD, sDict0, sCall, sRet, sRetN, sDrop, sPar, sPar3, sSkip, gNm, gTp, gsNil, gsCons, gSb, sAndT, sOrT, sNotT, sAndV, sOrV, sNotV, sChain, sTrue, Res.bind, Res.np, ofO, ofI, ofM, sMt, hAdd_int, hSub_int, hNeg_int, isB, hIs, hNotIs, List.getElem?_cons_zero, List.getElem?_cons_succ, List.set_cons_zero, List.set_cons_succ, if_true, if_false, decide_true, decide_false, Option.map_some, Option.map_none, Option.bind_some, Option.bind_none, Bool.false_eq_true, Bool.not_true, Bool.not_false, reduceIte, reduceCtorEq, List.length_cons, List.length_nil, List.map_cons, List.map_nil, List.replicate_zero, List.replicate_succ, Nat.reduceAdd, Nat.reduceSub, Nat.zero_add, Nat.add_zero, Nat.sub_self, List.cons_append, List.nil_append, Bool.true_and, Bool.and_true, Bool.and_false, Bool.false_and, Nat.reduceLeDiff, Nat.reduceEqDiff, forS_v, forS_c, hInt_int, hInt_bl, hAbs_int, hMax2_int, hMin2_int, hGt_int, hLt_int, hLe_int, hGe_int, hIx_t0, hIx_t1, hIx_t2, hIx_t3, mul_ok, mod_ok, fdiv_ok]
  · refine mkP_d rfl rfl (S' := []) rfl ?_
    simp only [b__law_over, sSeq, sAsg, sIf, sIfE, sTest, sOp, sUn, sFn, sVar, sC, sCons, sNil, sTup, sLst, sNew, sNewD, sDict0, sCall, sRet, sRetN, sDrop, sPar, sPar3, sSkip, gNm, gTp, gsNil, gsCons, gSb, sAndT, sOrT, sNotT, sAndV, sOrV, sNotV, sChain, sTrue, Res.bind, Res.np, ofO, ofI, ofM, sMt, hAdd_int, hSub_int, hNeg_int, isB, hIs, hNotIs, List.getElem?_cons_zero, List.getElem?_cons_succ, List.set_cons_zero, List.set_cons_succ, if_true, if_false, decide_true, decide_false, Option.map_some, Option.map_none, Option.bind_some, Option.bind_none, Bool.false_eq_true, Bool.not_true, Bool.not_false, reduceIte, reduceCtorEq, List.length_cons, List.length_nil, List.map_cons, List.map_nil, List.replicate_zero, List.replicate_succ, Nat.reduceAdd, Nat.reduceSub, Nat.zero_add, Nat.add_zero, Nat.sub_self, List.cons_append, List.nil_append, Bool.true_and, Bool.and_true, Bool.and_false, Bool.false_and, Nat.reduceLeDiff, Nat.reduceEqDiff, forS_v, forS_c, hInt_int, hInt_bl, hAbs_int, hMax2_int, hMin2_int, hGt_int, hLt_int, hLe_int, hGe_int, hIx_t0, hIx_t1, hIx_t2, hIx_t3, mul_ok, mod_ok, fdiv_ok]
/-! ### rounds, one by one -/
abbrev bdI : SS := (sSeq (sAsg (sOp hIx (sVar 4) (sVar 5)) (gTp 2 (gsCons (gNm 10) (gsCons (gNm 11) gsNil))))
    (sSeq (sAsg (sOp hIx (sVar 4) (sVar 6)) (gTp 2 (gsCons (gNm 12) (gsCons (gNm 13) gsNil))))
    (sSeq (sAsg (sVar 3) (gTp 2 (gsCons (gNm 14) (gsCons (gNm 15) gsNil))))
    (sSeq (sAsg (sCall f__law_lowest (sCons (sOp hAdd (sOp hAdd (sOp hMul (sVar 10) (sVar 15)) (sOp hMul (sOp hMul (sVar 9) (sVar 14)) (sVar 11))) (sOp hMul (sOp hMul (sVar 7) (sVar 11)) (sVar 15))) (sCons (sOp hMul (sVar 11) (sVar 15)) sNil))) (gNm 16))
    (sSeq (sAsg (sCall f__law_lowest (sCons (sOp hAdd (sOp hMul (sVar 12) (sVar 15)) (sOp hMul (sOp hMul (sOp hAdd (sVar 9) (sVar 8)) (sVar 14)) (sVar 13))) (sCons (sOp hMul (sVar 13) (sVar 15)) sNil))) (gNm 17))
    (sIf (sTest (sOp hLt (sOp hMul (sOp hIx (sVar 17) (sC (.int 0))) (sOp hIx (sVar 16) (sC (.int 1)))) (sOp hMul (sOp hIx (sVar 16) (sC (.int 0))) (sOp hIx (sVar 17) (sC (.int 1)))))) (sRet (sC (.bl false))) sSkip))))))
/-- what is asked of heights that are told as begins -/
structure Hok (many : Nat) (es : List Ed) (P : Int × Int) (h : List Int) : Prop where
  len : h.length = many
  big : ∀ v ∈ h, 0 ≤ v ∧ B 250 v
theorem low_h {h : List Int} {P : Int × Int} {v : Nat} (hv : v < h.length) : (h.map fun x => low x P.2)[v]? = some (low (hAt h v) P.2) := by
  rw [List.getElem?_map, List.getElem?_eq_getElem hv]
  unfold hAt
  rw [List.getD_eq_getElem?_getD, List.getElem?_eq_getElem hv]
  rfl
theorem hAt_mem {h : List Int} {v : Nat} (hv : v < h.length) : hAt h v ∈ h := by
  unfold hAt
  rw [List.getD_eq_getElem?_getD, List.getElem?_eq_getElem hv]
  exact List.getElem_mem hv
theorem rounds_math {x y p q l k at_ : Int} (hq : 0 < q) (hh : x + (l * q - k * p) ≤ y) :
    ¬ (low ((low y q).1 * q + (at_ + k) * p * (low y q).2) ((low y q).2 * q)).1 * (low ((low x q).1 * q + at_ * p * (low x q).2 + l * (low x q).2 * q) ((low x q).2 * q)).2 < (low ((low x q).1 * q + at_ * p * (low x q).2 + l * (low x q).2 * q) ((low x q).2 * q)).1 * (low ((low y q).1 * q + (at_ + k) * p * (low y q).2) ((low y q).2 * q)).2 := by
  have cx := low_cross x q
  have cy := low_cross y q
  have px := low_pos (t := x) hq
  have py := low_pos (t := y) hq
  generalize low x q = a at *
  generalize low y q = c at *
  rw [low_lt (Int.mul_pos py hq), low_lt2 (Int.mul_pos px hq), Int.not_lt]
  rw [← cx, ← cy]
  have e1 : (x * a.2 + at_ * p * a.2 + l * a.2 * q) * (c.2 * q) = (x + at_ * p + l * q) * (a.2 * c.2 * q) := by
    simp only [Int.add_mul]; ac_rfl
  have e2 : (y * c.2 + (at_ + k) * p * c.2) * (a.2 * q) = (y + at_ * p + k * p) * (a.2 * c.2 * q) := by
    simp only [Int.add_mul]; ac_rfl
  rw [e1, e2]
  exact Int.mul_le_mul_of_nonneg_right (by omega) (Int.le_of_lt (Int.mul_pos (Int.mul_pos px py) hq))
theorem inner_ok {P : Int × Int} {h : List Int} {many : Nat} {es : List Ed} {e : Ed} (hP : PB P) (H : Hok many es P h) (hs : e.s < many) (ht : e.t < many) (hk : 0 ≤ e.l ∧ e.l ≤ 99 ∧ 0 ≤ e.k ∧ e.k ≤ 9) (hh : hAt h e.s + gn P e ≤ hAt h e.t) {a0 a1 a2 x18 x19 : Option D} {S : Store} : ∀ (ds : List Nat) (x9 x10 x11 x12 x13 x14 x15 x16 x17 : Option D), (∀ d ∈ ds, d ≤ 9) →
    ∃ y9 y10 y11 y12 y13 y14 y15 y16 y17, forV (gNm 9) bdI (natsD ds) [a0, a1, a2, some (dP P), some (dBs (h.map fun v => low v P.2)), some (.int (e.s : Int)), some (.int (e.t : Int)), some (.int e.l), some (.int e.k), x9, x10, x11, x12, x13, x14, x15, x16, x17, x18, x19] S =
      .ok (.nx [a0, a1, a2, some (dP P), some (dBs (h.map fun v => low v P.2)), some (.int (e.s : Int)), some (.int (e.t : Int)), some (.int e.l), some (.int e.k), y9, y10, y11, y12, y13, y14, y15, y16, y17, x18, x19]) S
  | [], x9, x10, x11, x12, x13, x14, x15, x16, x17, _ => ⟨x9, x10, x11, x12, x13, x14, x15, x16, x17, rfl⟩
  | d :: ds, x9, x10, x11, x12, x13, x14, x15, x16, x17, hd => by
    have ih := inner_ok hP H hs ht hk hh (a0 := a0) (a1 := a1) (a2 := a2) (x18 := x18) (x19 := x19) (S := S) ds
    have d9 := hd d (by simp)
    have ls : e.s < h.length := by rw [H.len]; exact hs
    have lt : e.t < h.length := by rw [H.len]; exact ht
    have i1 : ∀ S : Store, hIx S (dBs (h.map fun v => low v P.2)) (.int (e.s : Int)) = some (dP (low (hAt h e.s) P.2)) := fun S => hIx_tupN (by rw [List.getElem?_map, low_h ls]; rfl)
    have i2 : ∀ S : Store, hIx S (dBs (h.map fun v => low v P.2)) (.int (e.t : Int)) = some (dP (low (hAt h e.t) P.2)) := fun S => hIx_tupN (by rw [List.getElem?_map, low_h lt]; rfl)
    have bx := (H.big _ (hAt_mem ls)).2
    have by_ := (H.big _ (hAt_mem lt)).2
    have bP := hP.b1
    have x1 : B 250 (low (hAt h e.s) P.2).1 := bx.low1 hP.q0
    have x2 : B 250 (low (hAt h e.s) P.2).2 := (bP.2.up (by decide)).low2 hP.q0
    have y1 : B 250 (low (hAt h e.t) P.2).1 := by_.low1 hP.q0
    have y2 : B 250 (low (hAt h e.t) P.2).2 := (bP.2.up (by decide)).low2 hP.q0
    have px := low_pos (t := hAt h e.s) hP.q0
    have py := low_pos (t := hAt h e.t) hP.q0
    have bd : B 10 (d : Int) := small_B (by omega) (by decide)
    have bdk : B 10 ((d : Int) + e.k) := small_B (by omega) (by decide)
    have bl_ : B 10 e.l := small_B (by omega) (by decide)
    have m1 := fun S => mul_ok (S := S) x1.mod bP.2.mod
    have m2 := fun S => mul_ok (S := S) bd.mod bP.1.mod
    have m3 := fun S => mul_ok (S := S) (bd.mul bP.1).mod x2.mod
    have m4 := fun S => mul_ok (S := S) bl_.mod x2.mod
    have m5 := fun S => mul_ok (S := S) (bl_.mul x2).mod bP.2.mod
    have m6 := fun S => mul_ok (S := S) x2.mod bP.2.mod
    have m7 := fun S => mul_ok (S := S) y1.mod bP.2.mod
    have m8 := fun S => mul_ok (S := S) bdk.mod bP.1.mod
    have m9 := fun S => mul_ok (S := S) (bdk.mul bP.1).mod y2.mod
    have m10 := fun S => mul_ok (S := S) y2.mod bP.2.mod
    have l1 := fun S => llow_ok (S := S) (t := (low (hAt h e.s) P.2).1 * P.2 + (d : Int) * P.1 * (low (hAt h e.s) P.2).2 + e.l * (low (hAt h e.s) P.2).2 * P.2) (Int.mul_pos px hP.q0) (x2.mul bP.2)
    have l2 := fun S => llow_ok (S := S) (t := (low (hAt h e.t) P.2).1 * P.2 + ((d : Int) + e.k) * P.1 * (low (hAt h e.t) P.2).2) (Int.mul_pos py hP.q0) (y2.mul bP.2)
    have A1 : B 470 ((low (hAt h e.s) P.2).1 * P.2) := (x1.mul bP.2).up (by decide)
    have A2 : B 470 ((d : Int) * P.1 * (low (hAt h e.s) P.2).2) := ((bd.mul bP.1).mul x2).up (by decide)
    have A3 : B 471 (e.l * (low (hAt h e.s) P.2).2 * P.2) := ((bl_.mul x2).mul bP.2).up (by decide)
    have E1 : B 490 ((low (hAt h e.s) P.2).1 * P.2 + (d : Int) * P.1 * (low (hAt h e.s) P.2).2 + e.l * (low (hAt h e.s) P.2).2 * P.2) := ((A1.add A2).add A3).up (by decide)
    have E2 : B 490 ((low (hAt h e.t) P.2).1 * P.2 + ((d : Int) + e.k) * P.1 * (low (hAt h e.t) P.2).2) := (((y1.mul bP.2).up (n := 480) (by decide)).add (((bdk.mul bP.1).mul y2).up (by decide))).up (by decide)
    have e1 : B 490 (low ((low (hAt h e.s) P.2).1 * P.2 + (d : Int) * P.1 * (low (hAt h e.s) P.2).2 + e.l * (low (hAt h e.s) P.2).2 * P.2) ((low (hAt h e.s) P.2).2 * P.2)).1 := E1.low1 (Int.mul_pos px hP.q0)
    have e2 : B 490 (low ((low (hAt h e.s) P.2).1 * P.2 + (d : Int) * P.1 * (low (hAt h e.s) P.2).2 + e.l * (low (hAt h e.s) P.2).2 * P.2) ((low (hAt h e.s) P.2).2 * P.2)).2 := ((x2.mul bP.2).low2 (Int.mul_pos px hP.q0)).up (by decide)
    have e3 : B 490 (low ((low (hAt h e.t) P.2).1 * P.2 + ((d : Int) + e.k) * P.1 * (low (hAt h e.t) P.2).2) ((low (hAt h e.t) P.2).2 * P.2)).1 := E2.low1 (Int.mul_pos py hP.q0)
    have e4 : B 490 (low ((low (hAt h e.t) P.2).1 * P.2 + ((d : Int) + e.k) * P.1 * (low (hAt h e.t) P.2).2) ((low (hAt h e.t) P.2).2 * P.2)).2 := ((y2.mul bP.2).low2 (Int.mul_pos py hP.q0)).up (by decide)
    have m11 := fun S => mul_ok (S := S) e3.mod e2.mod
    have m12 := fun S => mul_ok (S := S) e1.mod e4.mod
    have no := rounds_math (at_ := (d : Int)) hP.q0 hh
    have no2 := decide_eq_false no
    obtain ⟨y9, y10, y11, y12, y13, y14, y15, y16, y17, q⟩ := ih (some (.int (d : Int))) (some (.int (low (hAt h e.s) P.2).1)) (some (.int (low (hAt h e.s) P.2).2)) (some (.int (low (hAt h e.t) P.2).1)) (some (.int (low (hAt h e.t) P.2).2)) (some (.int P.1)) (some (.int P.2)) (some (dP (low ((low (hAt h e.s) P.2).1 * P.2 + (d : Int) * P.1 * (low (hAt h e.s) P.2).2 + e.l * (low (hAt h e.s) P.2).2 * P.2) ((low (hAt h e.s) P.2).2 * P.2)))) (some (dP (low ((low (hAt h e.t) P.2).1 * P.2 + ((d : Int) + e.k) * P.1 * (low (hAt h e.t) P.2).2) ((low (hAt h e.t) P.2).2 * P.2)))) (fun a ha => hd a (by simp [ha]))
    refine ⟨y9, y10, y11, y12, y13, y14, y15, y16, y17, ?_⟩
    show forV (gNm 9) bdI (.int (d : Int) :: natsD ds) _ _ = _
    unfold forV
    simp only [bdI, sSeq, sAsg, sIf, sIfE, sTest, sOp, sUn, sFn, sVar, sC, sCons, sNil, sTup, sLst, sNew, sNewD, sDict0, sCall, sRet, sRetN, sDrop, sPar, sPar3, sSkip, gNm, gTp, gsNil, gsCons, gSb, sAndT, sOrT, sNotT, sAndV, sOrV, sNotV, sChain, sTrue, Res.bind, Res.np, ofO, ofI, ofM, sMt, hAdd_int, hSub_int, hNeg_int, isB, hIs, hNotIs, List.getElem?_cons_zero, List.getElem?_cons_succ, List.set_cons_zero, List.set_cons_succ, if_true, if_false, decide_true, decide_false, Option.map_some, Option.map_none, Option.bind_some, Option.bind_none, Bool.false_eq_true, Bool.not_true, Bool.not_false, reduceIte, reduceCtorEq, List.length_cons, List.length_nil, List.map_cons, List.map_nil, List.replicate_zero, List.replicate_succ, Nat.reduceAdd, Nat.reduceSub, Nat.zero_add, Nat.add_zero, Nat.sub_self, List.cons_append, List.nil_append, Bool.true_and, Bool.and_true, Bool.and_false, Bool.false_and, Nat.reduceLeDiff, Nat.reduceEqDiff, forS_v, forS_c, hInt_int, hInt_bl, hAbs_int, hMax2_int, hMin2_int, hGt_int, hLt_int, hLe_int, hGe_int, hIx_t0, hIx_t1, hIx_t2, hIx_t3, mul_ok, mod_ok, fdiv_ok, i1, i2, m1, m2, m3, m4, m5, m6, m7, m8, m9, m10, l1, l2, m11, m12, no2] at q ⊢
    exact q
end Y

set_option maxHeartbeats 2000000
namespace Y
open PySem PySem.Spec PyProof.Rows L2 Rd
structure Keep (S S' : Store) : Prop where
  len : S.length ≤ S'.length
  els : ∀ i, i < S.length → S'[i]? = S[i]?
theorem Keep.refl {S : Store} : Keep S S := ⟨Nat.le_refl _, fun _ _ => rfl⟩
theorem Keep.trans {S S' S'' : Store} (a : Keep S S') (b : Keep S' S'') : Keep S S'' := ⟨Nat.le_trans a.len b.len, fun i h => (b.els i (Nat.lt_of_lt_of_le h a.len)).trans (a.els i h)⟩
theorem Keep.same {S S' : Store} {c : Nat} (a : Keep S S') : Same c S S' := ⟨a.len, fun i h _ => a.els i h⟩
theorem Keep.crk {S S' : Store} {c K : Nat} (a : Keep S S') (h : Crk S c K) : Crk S' c K := by
  have hc := h.lt
  obtain ⟨x, y, n, e, r⟩ := h.ex
  exact ⟨x, y, n, by rw [a.els c hc]; exact e, r⟩
theorem ints4 : intsD 0 4 = natsD [0, 1, 2, 3] := rfl
abbrev tg4 : SG := (gTp 4 (gsCons (gNm 5) (gsCons (gNm 6) (gsCons (gNm 7) (gsCons (gNm 8) gsNil)))))
abbrev dHs (h : List Int) (P : Int × Int) : D := dBs (h.map fun v => low v P.2)
abbrev inI : SS := (sFor 100000 (sRng1 (sCons (sC (.int 4)) sNil)) (gNm 9) bdI)
theorem range4 : range1 [.int 4] = some (.vals (intsD 0 4)) := rfl
theorem outer_ok {P : Int × Int} {h : List Int} {many : Nat} {es : List Ed} (hP : PB P) (H : Hok many es P h) {a0 a1 a2 x18 x19 : Option D} {S : Store} : ∀ (suf : List Ed) (x5 x6 x7 x8 x9 x10 x11 x12 x13 x14 x15 x16 x17 : Option D), (∀ e ∈ suf, e.s < many ∧ e.t < many) → (∀ e ∈ suf, 0 ≤ e.l ∧ e.l ≤ 99 ∧ 0 ≤ e.k ∧ e.k ≤ 9) → (∀ e ∈ suf, hAt h e.s + gn P e ≤ hAt h e.t) →
    ∃ y5 y6 y7 y8 y9 y10 y11 y12 y13 y14 y15 y16 y17, forV tg4 inI (suf.map dE) [a0, a1, a2, some (dP P), some (dHs h P), x5, x6, x7, x8, x9, x10, x11, x12, x13, x14, x15, x16, x17, x18, x19] S =
      .ok (.nx [a0, a1, a2, some (dP P), some (dHs h P), y5, y6, y7, y8, y9, y10, y11, y12, y13, y14, y15, y16, y17, x18, x19]) S
  | [], x5, x6, x7, x8, x9, x10, x11, x12, x13, x14, x15, x16, x17, _, _, _ => ⟨x5, x6, x7, x8, x9, x10, x11, x12, x13, x14, x15, x16, x17, rfl⟩
  | e :: suf, x5, x6, x7, x8, x9, x10, x11, x12, x13, x14, x15, x16, x17, he, hk, hh => by
    have ih := outer_ok hP H (a0 := a0) (a1 := a1) (a2 := a2) (x18 := x18) (x19 := x19) (S := S) suf
    obtain ⟨y9, y10, y11, y12, y13, y14, y15, y16, y17, q⟩ := inner_ok hP H (he e (by simp)).1 (he e (by simp)).2 (hk e (by simp)) (hh e (by simp)) (a0 := a0) (a1 := a1) (a2 := a2) (x18 := x18) (x19 := x19) (S := S) [0, 1, 2, 3] x9 x10 x11 x12 x13 x14 x15 x16 x17 (by simp)
    obtain ⟨z5, z6, z7, z8, z9, z10, z11, z12, z13, z14, z15, z16, z17, q2⟩ := ih (some (.int (e.s : Int))) (some (.int (e.t : Int))) (some (.int e.l)) (some (.int e.k)) y9 y10 y11 y12 y13 y14 y15 y16 y17 (fun a ha => he a (by simp [ha])) (fun a ha => hk a (by simp [ha])) (fun a ha => hh a (by simp [ha]))
    refine ⟨z5, z6, z7, z8, z9, z10, z11, z12, z13, z14, z15, z16, z17, ?_⟩
    rw [List.map_cons]
    unfold forV
    have st : inI [a0, a1, a2, some (dP P), some (dHs h P), some (.int (e.s : Int)), some (.int (e.t : Int)), some (.int e.l), some (.int e.k), x9, x10, x11, x12, x13, x14, x15, x16, x17, x18, x19] S = .ok (.nx [a0, a1, a2, some (dP P), some (dHs h P), some (.int (e.s : Int)), some (.int (e.t : Int)), some (.int e.l), some (.int e.k), y9, y10, y11, y12, y13, y14, y15, y16, y17, x18, x19]) S := by
      simp only [inI, sFor, sRng1, sCons, sC, sNil, Res.bind, range4, ofI, forS_v, ints4]
      exact q
    simp only [tg4, gTp, gsCons, gsNil, gNm, Res.bind, dE, List.length_cons, List.length_nil, Nat.zero_add, Nat.reduceAdd, if_true, List.set_cons_zero, List.set_cons_succ]
    rw [st]
    exact q2
/-! ### ties -/
abbrev ones (m : Nat) : Cell := .lst (List.replicate m (.int 1))
abbrev bdJ : SS := (sSeq (sAsg (sOp hIx (sVar 4) (sVar 5)) (gTp 2 (gsCons (gNm 10) (gsCons (gNm 11) gsNil))))
    (sSeq (sAsg (sVar 3) (gTp 2 (gsCons (gNm 14) (gsCons (gNm 15) gsNil))))
    (sIf (sAndT (sTest (sOp hEq (sVar 6) (sVar 18))) (sTest (sOp hEq (sCall f__law_lowest (sCons (sOp hSub (sOp hMul (sOp hAdd (sVar 10) (sOp hMul (sVar 7) (sVar 11))) (sVar 15)) (sOp hMul (sOp hMul (sVar 8) (sVar 14)) (sVar 11))) (sCons (sOp hMul (sVar 11) (sVar 15)) sNil))) (sTup (sCons (sVar 12) (sCons (sVar 13) sNil)))))) (sDrop (sMt qLst mApp (sVar 19) (sCons (sC (.int 1)) sNil))) sSkip)))
theorem tie_math {x y p q l k : Int} (hq : 0 < q) (hy : y = x + (l * q - k * p)) : low (((low x q).1 + l * (low x q).2) * q - k * p * (low x q).2) ((low x q).2 * q) = low y q := by
  have cx := low_cross x q
  have px := low_pos (t := x) hq
  have e1 : ((low x q).1 + l * (low x q).2) * q - k * p * (low x q).2 = (low x q).2 * y := by
    rw [Int.add_mul, ← cx, hy]
    simp only [Int.mul_add, Int.mul_sub]
    have : l * (low x q).2 * q = (low x q).2 * (l * q) := by ac_rfl
    have : k * p * (low x q).2 = (low x q).2 * (k * p) := by ac_rfl
    have : x * (low x q).2 = (low x q).2 * x := by ac_rfl
    omega
  rw [e1]
  have hb : 0 < (low x q).2 * q := Int.mul_pos px hq
  show _ = ((low y q).1, (low y q).2)
  refine (low_is hb (low_pos (t := y) hq) (low_gcd hq) ?_)
  have cy := low_cross y q
  calc (low x q).2 * y * (low y q).2 = (low x q).2 * (y * (low y q).2) := by ac_rfl
    _ = (low x q).2 * ((low y q).1 * q) := by rw [cy]
    _ = _ := by ac_rfl
theorem tie_ok {P : Int × Int} {h : List Int} {many r v : Nat} {es : List Ed} (hP : PB P) (H : Hok many es P h) (hv : v < many) {a0 a1 a2 x9 x16 x17 : Option D} : ∀ (suf : List Ed) (n : Nat) (S : Store) (x5 x6 x7 x8 x10 x11 x14 x15 : Option D), S[r]? = some (ones n) → n + suf.length < 1000 → (∀ e ∈ suf, e.s < many ∧ e.t < many) → (∀ e ∈ suf, 0 ≤ e.l ∧ e.l ≤ 99 ∧ 0 ≤ e.k ∧ e.k ≤ 9) →
    ∃ m y5 y6 y7 y8 y10 y11 y14 y15, forV tg4 bdJ (suf.map dE) [a0, a1, a2, some (dP P), some (dHs h P), x5, x6, x7, x8, x9, x10, x11, some (.int (low (hAt h v) P.2).1), some (.int (low (hAt h v) P.2).2), x14, x15, x16, x17, some (.int (v : Int)), some (.ref r)] S =
      .ok (.nx [a0, a1, a2, some (dP P), some (dHs h P), y5, y6, y7, y8, x9, y10, y11, some (.int (low (hAt h v) P.2).1), some (.int (low (hAt h v) P.2).2), y14, y15, x16, x17, some (.int (v : Int)), some (.ref r)]) (S.set r (ones m)) ∧ n ≤ m ∧ ((∃ e ∈ suf, e.t = v ∧ hAt h v = hAt h e.s + gn P e) → n < m)
  | [], n, S, x5, x6, x7, x8, x10, x11, x14, x15, hS, _, _, _ => ⟨n, x5, x6, x7, x8, x10, x11, x14, x15, by
      have : S.set r (ones n) = S := by
        apply List.ext_getElem?
        intro i
        by_cases hi : r = i
        · subst hi
          rw [List.getElem?_set_self (List.getElem?_eq_some_iff.mp hS).1, hS]
        · rw [List.getElem?_set_ne hi]
      rw [this]
      rfl, Nat.le_refl _, fun ⟨e, he, _⟩ => nomatch he⟩
  | e :: suf, n, S, x5, x6, x7, x8, x10, x11, x14, x15, hS, hn, he, hk => by
    have he1 := he e (by simp)
    have hk1 := hk e (by simp)
    have ls : e.s < h.length := by rw [H.len]; exact he1.1
    have lv : v < h.length := by rw [H.len]; exact hv
    have i1 : ∀ S : Store, hIx S (dHs h P) (.int (e.s : Int)) = some (dP (low (hAt h e.s) P.2)) := fun S => hIx_tupN (by rw [List.getElem?_map, low_h ls]; rfl)
    have bx := (H.big _ (hAt_mem ls)).2
    have bP := hP.b1
    have x1 : B 250 (low (hAt h e.s) P.2).1 := bx.low1 hP.q0
    have x2 : B 250 (low (hAt h e.s) P.2).2 := (bP.2.up (by decide)).low2 hP.q0
    have px := low_pos (t := hAt h e.s) hP.q0
    have bl_ : B 10 e.l := small_B (by omega) (by decide)
    have bk_ : B 10 e.k := small_B (by omega) (by decide)
    have m1 := fun S => mul_ok (S := S) bl_.mod x2.mod
    have A1 : B 262 ((low (hAt h e.s) P.2).1 + e.l * (low (hAt h e.s) P.2).2) := ((x1.up (n := 260) (by decide)).add (bl_.mul x2)).up (by decide)
    have m2 := fun S => mul_ok (S := S) A1.mod bP.2.mod
    have m3 := fun S => mul_ok (S := S) bk_.mod bP.1.mod
    have m4 := fun S => mul_ok (S := S) (bk_.mul bP.1).mod x2.mod
    have m5 := fun S => mul_ok (S := S) x2.mod bP.2.mod
    have l1 := fun S => llow_ok (S := S) (t := ((low (hAt h e.s) P.2).1 + e.l * (low (hAt h e.s) P.2).2) * P.2 - e.k * P.1 * (low (hAt h e.s) P.2).2) (Int.mul_pos px hP.q0) (x2.mul bP.2)
    have ev : ((e.t : Int) = (v : Int)) = (e.t = v) := propext ⟨fun h => by omega, fun h => by omega⟩
    have eq2 := fun S => eq_dP (S := S) (P := low (((low (hAt h e.s) P.2).1 + e.l * (low (hAt h e.s) P.2).2) * P.2 - e.k * P.1 * (low (hAt h e.s) P.2).2) ((low (hAt h e.s) P.2).2 * P.2)) (Q := ((low (hAt h v) P.2).1, (low (hAt h v) P.2).2))
    have ap : mApp S (.ref r) [.int 1] = some (.non, S.set r (ones (n + 1))) := by
      rw [mApp_l hS (by simp at hn ⊢; omega)]
      rw [← List.replicate_succ']
    have ql : qLst S (.ref r) = true := qLst_l hS
    have rl := (List.getElem?_eq_some_iff.mp hS).1
    have ih := fun n S hS hn => tie_ok (r := r) hP H hv (a0 := a0) (a1 := a1) (a2 := a2) (x9 := x9) (x16 := x16) (x17 := x17) suf n S (some (.int (e.s : Int))) (some (.int (e.t : Int))) (some (.int e.l)) (some (.int e.k)) (some (.int (low (hAt h e.s) P.2).1)) (some (.int (low (hAt h e.s) P.2).2)) (some (.int P.1)) (some (.int P.2)) hS hn (fun a ha => he a (by simp [ha])) (fun a ha => hk a (by simp [ha]))
    rw [List.length_cons] at hn
    rw [List.map_cons]
    unfold forV
    by_cases c1 : e.t = v
    · by_cases c2 : low (((low (hAt h e.s) P.2).1 + e.l * (low (hAt h e.s) P.2).2) * P.2 - e.k * P.1 * (low (hAt h e.s) P.2).2) ((low (hAt h e.s) P.2).2 * P.2) = ((low (hAt h v) P.2).1, (low (hAt h v) P.2).2)
      · obtain ⟨m, y5, y6, y7, y8, y10, y11, y14, y15, q, q2, q3⟩ := ih (n + 1) (S.set r (ones (n + 1))) (List.getElem?_set_self rl) (by omega)
        refine ⟨m, y5, y6, y7, y8, y10, y11, y14, y15, ?_, by omega, fun _ => by omega⟩
        rw [List.set_set] at q
        have eq3 := fun S => (eq2 S).trans (by rw [decide_eq_true c2])
        simp only [tg4, bdJ, sSeq, sAsg, sIf, sIfE, sTest, sOp, sUn, sFn, sVar, sC, sCons, sNil, sTup, sLst, sNew, sNewD, sDict0, sCall, sRet, sRetN, sDrop, sPar, sPar3, sSkip, gNm, gTp, gsNil, gsCons, gSb, sAndT, sOrT, sNotT, sAndV, sOrV, sNotV, sChain, sTrue, Res.bind, Res.np, ofO, ofI, ofM, sMt, hAdd_int, hSub_int, hNeg_int, isB, hIs, hNotIs, List.getElem?_cons_zero, List.getElem?_cons_succ, List.set_cons_zero, List.set_cons_succ, if_true, if_false, decide_true, decide_false, Option.map_some, Option.map_none, Option.bind_some, Option.bind_none, Bool.false_eq_true, Bool.not_true, Bool.not_false, reduceIte, reduceCtorEq, List.length_cons, List.length_nil, List.map_cons, List.map_nil, List.replicate_zero, List.replicate_succ, Nat.reduceAdd, Nat.reduceSub, Nat.zero_add, Nat.add_zero, Nat.sub_self, List.cons_append, List.nil_append, Bool.true_and, Bool.and_true, Bool.and_false, Bool.false_and, Nat.reduceLeDiff, Nat.reduceEqDiff, forS_v, forS_c, hInt_int, hInt_bl, hAbs_int, hMax2_int, hMin2_int, hGt_int, hLt_int, hLe_int, hGe_int, hIx_t0, hIx_t1, hIx_t2, hIx_t3, mul_ok, mod_ok, fdiv_ok, i1, m1, m2, m3, m4, m5, l1, hEq_int, ev, c1, eq3, ap, ql] at q ⊢
        exact q
      · obtain ⟨m, y5, y6, y7, y8, y10, y11, y14, y15, q, q2, q3⟩ := ih n S hS (by omega)
        refine ⟨m, y5, y6, y7, y8, y10, y11, y14, y15, ?_, q2, fun ⟨e', he', ht⟩ => ?_⟩
        · have eq3 := fun S => (eq2 S).trans (by rw [decide_eq_false c2])
          simp only [tg4, bdJ, sSeq, sAsg, sIf, sIfE, sTest, sOp, sUn, sFn, sVar, sC, sCons, sNil, sTup, sLst, sNew, sNewD, sDict0, sCall, sRet, sRetN, sDrop, sPar, sPar3, sSkip, gNm, gTp, gsNil, gsCons, gSb, sAndT, sOrT, sNotT, sAndV, sOrV, sNotV, sChain, sTrue, Res.bind, Res.np, ofO, ofI, ofM, sMt, hAdd_int, hSub_int, hNeg_int, isB, hIs, hNotIs, List.getElem?_cons_zero, List.getElem?_cons_succ, List.set_cons_zero, List.set_cons_succ, if_true, if_false, decide_true, decide_false, Option.map_some, Option.map_none, Option.bind_some, Option.bind_none, Bool.false_eq_true, Bool.not_true, Bool.not_false, reduceIte, reduceCtorEq, List.length_cons, List.length_nil, List.map_cons, List.map_nil, List.replicate_zero, List.replicate_succ, Nat.reduceAdd, Nat.reduceSub, Nat.zero_add, Nat.add_zero, Nat.sub_self, List.cons_append, List.nil_append, Bool.true_and, Bool.and_true, Bool.and_false, Bool.false_and, Nat.reduceLeDiff, Nat.reduceEqDiff, forS_v, forS_c, hInt_int, hInt_bl, hAbs_int, hMax2_int, hMin2_int, hGt_int, hLt_int, hLe_int, hGe_int, hIx_t0, hIx_t1, hIx_t2, hIx_t3, mul_ok, mod_ok, fdiv_ok, i1, m1, m2, m3, m4, m5, l1, hEq_int, ev, c1, eq3] at q ⊢
          exact q
        · rcases List.mem_cons.mp he' with rfl | he'
          · exact absurd (tie_math hP.q0 ht.2) c2
          · exact q3 ⟨e', he', ht⟩
    · obtain ⟨m, y5, y6, y7, y8, y10, y11, y14, y15, q, q2, q3⟩ := ih n S hS (by omega)
      refine ⟨m, y5, y6, y7, y8, y10, y11, y14, y15, ?_, q2, fun ⟨e', he', ht⟩ => ?_⟩
      · simp only [tg4, bdJ, sSeq, sAsg, sIf, sIfE, sTest, sOp, sUn, sFn, sVar, sC, sCons, sNil, sTup, sLst, sNew, sNewD, sDict0, sCall, sRet, sRetN, sDrop, sPar, sPar3, sSkip, gNm, gTp, gsNil, gsCons, gSb, sAndT, sOrT, sNotT, sAndV, sOrV, sNotV, sChain, sTrue, Res.bind, Res.np, ofO, ofI, ofM, sMt, hAdd_int, hSub_int, hNeg_int, isB, hIs, hNotIs, List.getElem?_cons_zero, List.getElem?_cons_succ, List.set_cons_zero, List.set_cons_succ, if_true, if_false, decide_true, decide_false, Option.map_some, Option.map_none, Option.bind_some, Option.bind_none, Bool.false_eq_true, Bool.not_true, Bool.not_false, reduceIte, reduceCtorEq, List.length_cons, List.length_nil, List.map_cons, List.map_nil, List.replicate_zero, List.replicate_succ, Nat.reduceAdd, Nat.reduceSub, Nat.zero_add, Nat.add_zero, Nat.sub_self, List.cons_append, List.nil_append, Bool.true_and, Bool.and_true, Bool.and_false, Bool.false_and, Nat.reduceLeDiff, Nat.reduceEqDiff, forS_v, forS_c, hInt_int, hInt_bl, hAbs_int, hMax2_int, hMin2_int, hGt_int, hLt_int, hLe_int, hGe_int, hIx_t0, hIx_t1, hIx_t2, hIx_t3, mul_ok, mod_ok, fdiv_ok, i1, hEq_int, ev, c1] at q ⊢
        exact q
      · rcases List.mem_cons.mp he' with rfl | he'
        · exact absurd ht.1 c1
        · exact q3 ⟨e', he', ht⟩
end Y

set_option maxHeartbeats 2000000
namespace Y
open PySem PySem.Spec PyProof.Rows L2 Rd
abbrev bdK : SS := (sSeq (sAsg (sOp hIx (sVar 4) (sVar 18)) (gTp 2 (gsCons (gNm 12) (gsCons (gNm 13) gsNil))))
    (sSeq (sAsg (sIfE (sTest (sOp hEq (sVar 12) (sC (.int 0)))) (sNew (sCons (sC (.int 1)) sNil)) (sNew sNil)) (gNm 19))
    (sSeq (sFor 100000 (sSeqI (sVar 2)) tg4 bdJ)
    (sIf (sOrT (sTest (sOp hLt (sVar 12) (sC (.int 0)))) (sTest (sOp hEq (sVar 19) (sLst sNil)))) (sRet (sC (.bl false))) sSkip))))
theorem toPD_ones {n : Nat} {S : Store} : ∀ m : Nat, mapO (toPD (n + 1) S) (List.replicate m (.int 1)) = some (List.replicate m (.int 1))
  | 0 => rfl
  | m + 1 => by
    have ih := toPD_ones (n := n) (S := S) m
    rw [List.replicate_succ, mapO_cons, ih]
    rfl
theorem eq_ones {S : Store} {r m : Nat} (hS : S[r]? = some (ones m)) (hm : 0 < m) : hEq S (.ref r) (.lst []) = some (.bl false) := by
  obtain ⟨k, rfl⟩ : ∃ k, m = k + 1 := ⟨m - 1, by omega⟩
  have e1 : toPD 40 S (.ref r) = some (.list (List.replicate (k + 1) (.int 1))) := by
    unfold toPD
    simp only [lstOf, hS, toPD_ones, Option.map_some]
  have e2 : toPD 40 S (.lst []) = some (.list []) := rfl
  simp only [hEq, e1, e2]
  rfl
theorem low_zero {x q : Int} (hq : 0 < q) : (low x q).1 = 0 ↔ x = 0 := by
  have c := low_cross x q
  have p := low_pos (t := x) hq
  constructor
  · intro h
    rw [h, Int.zero_mul] at c
    rcases Int.mul_eq_zero.mp c with h | h <;> omega
  · intro h
    subst h
    unfold low
    simp
theorem task_ok {P : Int × Int} {h : List Int} {many : Nat} {es : List Ed} (V : Val many es) (hP : PB P) (H : Hok many es P h) (tie : ∀ v, v < many → hAt h v = 0 ∨ ∃ e ∈ es, e.t = v ∧ hAt h v = hAt h e.s + gn P e) {a0 a1 x9 x16 x17 : Option D} : ∀ (vs : List Nat) (S : Store) (x5 x6 x7 x8 x10 x11 x12 x13 x14 x15 x18 x19 : Option D), (∀ v ∈ vs, v < many) →
    ∃ S' y5 y6 y7 y8 y10 y11 y12 y13 y14 y15 y18 y19, forV (gNm 18) bdK (natsD vs) [a0, a1, some (dEs es), some (dP P), some (dHs h P), x5, x6, x7, x8, x9, x10, x11, x12, x13, x14, x15, x16, x17, x18, x19] S =
      .ok (.nx [a0, a1, some (dEs es), some (dP P), some (dHs h P), y5, y6, y7, y8, x9, y10, y11, y12, y13, y14, y15, x16, x17, y18, y19]) S' ∧ Keep S S'
  | [], S, x5, x6, x7, x8, x10, x11, x12, x13, x14, x15, x18, x19, _ => ⟨S, x5, x6, x7, x8, x10, x11, x12, x13, x14, x15, x18, x19, rfl, .refl⟩
  | v :: vs, S, x5, x6, x7, x8, x10, x11, x12, x13, x14, x15, x18, x19, hv => by
    have v1 := hv v (by simp)
    have lv : v < h.length := by rw [H.len]; exact v1
    have i1 : ∀ S : Store, hIx S (dHs h P) (.int (v : Int)) = some (dP (low (hAt h v) P.2)) := fun S => hIx_tupN (by rw [List.getElem?_map, low_h lv]; rfl)
    have nn : ((low (hAt h v) P.2).1 < 0) = False := by
      have := (low_nn (t := hAt h v) hP.q0 (H.big _ (hAt_mem lv)).1).1
      simp; omega
    obtain ⟨n, hn1, hn2, hnew⟩ : ∃ n : Nat, n ≤ 1 ∧ (hAt h v = 0 → n = 1) ∧ ∀ (env : Env), sIfE (sTest (sOp hEq (sVar 12) (sC (.int 0)))) (sNew (sCons (sC (.int 1)) sNil)) (sNew sNil) ([a0, a1, some (dEs es), some (dP P), some (dHs h P), x5, x6, x7, x8, x9, x10, x11, some (.int (low (hAt h v) P.2).1)] ++ env) S = .ok (.ref S.length) (S ++ [ones n]) := by
      by_cases hz : hAt h v = 0
      · refine ⟨1, Nat.le_refl _, fun _ => rfl, fun env => ?_⟩
        have := (low_zero (x := hAt h v) hP.q0).mpr hz
        simp only [sSeq, sAsg, sIf, sIfE, sTest, sOp, sUn, sFn, sVar, sC, sCons, sNil, sTup, sLst, sNew, sNewD, sDict0, sCall, sRet, sRetN, sDrop, sPar, sPar3, sSkip, gNm, gTp, gsNil, gsCons, gSb, sAndT, sOrT, sNotT, sAndV, sOrV, sNotV, sChain, sTrue, Res.bind, Res.np, ofO, ofI, ofM, sMt, hAdd_int, hSub_int, hNeg_int, isB, hIs, hNotIs, List.getElem?_cons_zero, List.getElem?_cons_succ, List.set_cons_zero, List.set_cons_succ, if_true, if_false, decide_true, decide_false, Option.map_some, Option.map_none, Option.bind_some, Option.bind_none, Bool.false_eq_true, Bool.not_true, Bool.not_false, reduceIte, reduceCtorEq, List.length_cons, List.length_nil, List.map_cons, List.map_nil, List.replicate_zero, List.replicate_succ, Nat.reduceAdd, Nat.reduceSub, Nat.zero_add, Nat.add_zero, Nat.sub_self, List.cons_append, List.nil_append, Bool.true_and, Bool.and_true, Bool.and_false, Bool.false_and, Nat.reduceLeDiff, Nat.reduceEqDiff, forS_v, forS_c, hInt_int, hInt_bl, hAbs_int, hMax2_int, hMin2_int, hGt_int, hLt_int, hLe_int, hGe_int, hIx_t0, hIx_t1, hIx_t2, hIx_t3, mul_ok, mod_ok, fdiv_ok, hEq_int, this]
        rfl
      · refine ⟨0, by decide, fun z => absurd z hz, fun env => ?_⟩
        have : ¬ (low (hAt h v) P.2).1 = 0 := fun z => hz ((low_zero (x := hAt h v) hP.q0).mp z)
        simp only [sSeq, sAsg, sIf, sIfE, sTest, sOp, sUn, sFn, sVar, sC, sCons, sNil, sTup, sLst, sNew, sNewD, sDict0, sCall, sRet, sRetN, sDrop, sPar, sPar3, sSkip, gNm, gTp, gsNil, gsCons, gSb, sAndT, sOrT, sNotT, sAndV, sOrV, sNotV, sChain, sTrue, Res.bind, Res.np, ofO, ofI, ofM, sMt, hAdd_int, hSub_int, hNeg_int, isB, hIs, hNotIs, List.getElem?_cons_zero, List.getElem?_cons_succ, List.set_cons_zero, List.set_cons_succ, if_true, if_false, decide_true, decide_false, Option.map_some, Option.map_none, Option.bind_some, Option.bind_none, Bool.false_eq_true, Bool.not_true, Bool.not_false, reduceIte, reduceCtorEq, List.length_cons, List.length_nil, List.map_cons, List.map_nil, List.replicate_zero, List.replicate_succ, Nat.reduceAdd, Nat.reduceSub, Nat.zero_add, Nat.add_zero, Nat.sub_self, List.cons_append, List.nil_append, Bool.true_and, Bool.and_true, Bool.and_false, Bool.false_and, Nat.reduceLeDiff, Nat.reduceEqDiff, forS_v, forS_c, hInt_int, hInt_bl, hAbs_int, hMax2_int, hMin2_int, hGt_int, hLt_int, hLe_int, hGe_int, hIx_t0, hIx_t1, hIx_t2, hIx_t3, mul_ok, mod_ok, fdiv_ok, hEq_int, this]
        rfl
    have nw := hnew [some (.int (low (hAt h v) P.2).2), x14, x15, x16, x17, some (.int (v : Int)), x19]
    have l20 := V.len
    obtain ⟨m, y5, y6, y7, y8, y10, y11, y14, y15, q, q2, q3⟩ := tie_ok (r := S.length) hP H v1 (a0 := a0) (a1 := a1) (a2 := some (dEs es)) (x9 := x9) (x16 := x16) (x17 := x17) es n (S ++ [ones n]) x5 x6 x7 x8 x10 x11 x14 x15 (by rw [List.getElem?_append_right (Nat.le_refl _), Nat.sub_self]; rfl) (by omega) V.ed V.lk
    have mp : 0 < m := by
      rcases tie v v1 with z | z
      · have := hn2 z; omega
      · have := q3 z; omega
    have set_app : (S ++ [ones n]).set S.length (ones m) = S ++ [ones m] := by simp
    rw [set_app] at q
    have hS : (S ++ [ones m])[S.length]? = some (ones m) := by rw [List.getElem?_append_right (Nat.le_refl _), Nat.sub_self]; rfl
    have eo := eq_ones hS mp
    obtain ⟨S', z5, z6, z7, z8, z10, z11, z12, z13, z14, z15, z18, z19, p, kp⟩ := task_ok V hP H tie (a0 := a0) (a1 := a1) (x9 := x9) (x16 := x16) (x17 := x17) vs (S ++ [ones m]) y5 y6 y7 y8 y10 y11 (some (.int (low (hAt h v) P.2).1)) (some (.int (low (hAt h v) P.2).2)) y14 y15 (some (.int (v : Int))) (some (.ref S.length)) (fun a ha => hv a (by simp [ha]))
    refine ⟨S', z5, z6, z7, z8, z10, z11, z12, z13, z14, z15, z18, z19, ?_, Keep.trans ⟨by simp, fun i hi => List.getElem?_append_left hi⟩ kp⟩
    show forV (gNm 18) bdK (.int (v : Int) :: natsD vs) _ _ = _
    unfold forV
    simp only [bdK, gNm, Res.bind, sSeq, sAsg, sOp, sVar, i1, ofO, gTp, gsCons, gsNil, List.length_cons, List.length_nil, Nat.zero_add, Nat.reduceAdd, if_true, List.set_cons_zero, List.set_cons_succ, List.getElem?_cons_zero, List.getElem?_cons_succ]
    simp only [List.cons_append, List.nil_append] at nw
    erw [nw]
    simp only [Res.bind, List.set_cons_zero, List.set_cons_succ, sFor, sSeqI, sVar, srcOf, ofI, forS_v, List.getElem?_cons_zero, List.getElem?_cons_succ]
    erw [q]
    simp only [sSeq, sAsg, sIf, sIfE, sTest, sOp, sUn, sFn, sVar, sC, sCons, sNil, sTup, sLst, sNew, sNewD, sDict0, sCall, sRet, sRetN, sDrop, sPar, sPar3, sSkip, gNm, gTp, gsNil, gsCons, gSb, sAndT, sOrT, sNotT, sAndV, sOrV, sNotV, sChain, sTrue, Res.bind, Res.np, ofO, ofI, ofM, sMt, hAdd_int, hSub_int, hNeg_int, isB, hIs, hNotIs, List.getElem?_cons_zero, List.getElem?_cons_succ, List.set_cons_zero, List.set_cons_succ, if_true, if_false, decide_true, decide_false, Option.map_some, Option.map_none, Option.bind_some, Option.bind_none, Bool.false_eq_true, Bool.not_true, Bool.not_false, reduceIte, reduceCtorEq, List.length_cons, List.length_nil, List.map_cons, List.map_nil, List.replicate_zero, List.replicate_succ, Nat.reduceAdd, Nat.reduceSub, Nat.zero_add, Nat.add_zero, Nat.sub_self, List.cons_append, List.nil_append, Bool.true_and, Bool.and_true, Bool.and_false, Bool.false_and, Nat.reduceLeDiff, Nat.reduceEqDiff, forS_v, forS_c, hInt_int, hInt_bl, hAbs_int, hMax2_int, hMin2_int, hGt_int, hLt_int, hLe_int, hGe_int, hIx_t0, hIx_t1, hIx_t2, hIx_t3, mul_ok, mod_ok, fdiv_ok, nn, eo]
    exact p
theorem natsR {many : Nat} : intsD 0 many = natsD (List.range many) := by
  unfold intsD natsD
  simp
theorem rounds_ok {S : Store} {c many : Nat} {es : List Ed} {P : Int × Int} {h : List Int} (V : Val many es) (hP : PB P) (g : Int.gcd P.1 P.2 = 1) (H : Hok many es P h) (T : Hts many es P h) (hf : ∀ S, f_first_begins [.int (many : Int), dEs es, dP P] S = .ok (dHs h P) S) :
    ∃ S', f__law_rounds_right [.ref c, .int (many : Int), dEs es, dP P] S = .ok (.bl true) S' ∧ Keep S S' := by
  obtain ⟨y5, y6, y7, y8, y9, y10, y11, y12, y13, y14, y15, y16, y17, q⟩ := outer_ok hP H (a0 := some (.ref c)) (a1 := some (.int (many : Int))) (a2 := some (dEs es)) (x18 := none) (x19 := none) (S := S) es none none none none none none none none none none none none none V.ed V.lk T.sol.2
  obtain ⟨S', z5, z6, z7, z8, z10, z11, z12, z13, z14, z15, z18, z19, p, kp⟩ := task_ok V hP H T.tie (a0 := some (.ref c)) (a1 := some (.int (many : Int))) (x9 := y9) (x16 := y16) (x17 := y17) (List.range many) S y5 y6 y7 y8 y10 y11 y12 y13 y14 y15 none none (fun v hv => List.mem_range.mp hv)
  have rm : range1 [.int (many : Int)] = some (.vals (intsD 0 many)) := by
    have := V.m1
    simp only [range1]
    rw [if_pos (by omega)]
    simp
  refine ⟨S', mkFn_ok rfl ?_, kp⟩
  simp only [b__law_rounds_right, sFor, sSeqI, srcOf, sRng1, sSeq, sAsg, sIf, sIfE, sTest, sOp, sUn, sFn, sVar, sC, sCons, sNil, sTup, sLst, sNew, sNewD, sDict0, sCall, sRet, sRetN, sDrop, sPar, sPar3, sSkip, gNm, gTp, gsNil, gsCons, gSb, sAndT, sOrT, sNotT, sAndV, sOrV, sNotV, sChain, sTrue, Res.bind, Res.np, ofO, ofI, ofM, sMt, hAdd_int, hSub_int, hNeg_int, isB, hIs, hNotIs, List.getElem?_cons_zero, List.getElem?_cons_succ, List.set_cons_zero, List.set_cons_succ, if_true, if_false, decide_true, decide_false, Option.map_some, Option.map_none, Option.bind_some, Option.bind_none, Bool.false_eq_true, Bool.not_true, Bool.not_false, reduceIte, reduceCtorEq, List.length_cons, List.length_nil, List.map_cons, List.map_nil, List.replicate_zero, List.replicate_succ, Nat.reduceAdd, Nat.reduceSub, Nat.zero_add, Nat.add_zero, Nat.sub_self, List.cons_append, List.nil_append, Bool.true_and, Bool.and_true, Bool.and_false, Bool.false_and, Nat.reduceLeDiff, Nat.reduceEqDiff, forS_v, forS_c, hInt_int, hInt_bl, hAbs_int, hMax2_int, hMin2_int, hGt_int, hLt_int, hLe_int, hGe_int, hIx_t0, hIx_t1, hIx_t2, hIx_t3, mul_ok, mod_ok, fdiv_ok, hf]
  erw [q]
  simp only [sFor, sSeqI, srcOf, sRng1, sSeq, sAsg, sIf, sIfE, sTest, sOp, sUn, sFn, sVar, sC, sCons, sNil, sTup, sLst, sNew, sNewD, sDict0, sCall, sRet, sRetN, sDrop, sPar, sPar3, sSkip, gNm, gTp, gsNil, gsCons, gSb, sAndT, sOrT, sNotT, sAndV, sOrV, sNotV, sChain, sTrue, Res.bind, Res.np, ofO, ofI, ofM, sMt, hAdd_int, hSub_int, hNeg_int, isB, hIs, hNotIs, List.getElem?_cons_zero, List.getElem?_cons_succ, List.set_cons_zero, List.set_cons_succ, if_true, if_false, decide_true, decide_false, Option.map_some, Option.map_none, Option.bind_some, Option.bind_none, Bool.false_eq_true, Bool.not_true, Bool.not_false, reduceIte, reduceCtorEq, List.length_cons, List.length_nil, List.map_cons, List.map_nil, List.replicate_zero, List.replicate_succ, Nat.reduceAdd, Nat.reduceSub, Nat.zero_add, Nat.add_zero, Nat.sub_self, List.cons_append, List.nil_append, Bool.true_and, Bool.and_true, Bool.and_false, Bool.false_and, Nat.reduceLeDiff, Nat.reduceEqDiff, forS_v, forS_c, hInt_int, hInt_bl, hAbs_int, hMax2_int, hMin2_int, hGt_int, hLt_int, hLe_int, hGe_int, hIx_t0, hIx_t1, hIx_t2, hIx_t3, mul_ok, mod_ok, fdiv_ok, rm, natsR]
  erw [p]
end Y

set_option maxHeartbeats 2000000
namespace Y
open PySem PySem.Spec PyProof.Rows L2 Rd
theorem least_is {many : Nat} {es : List Ed} {Q : Int × Int} (V : Val many es) (h : Least es Q) (S : Store) : f_least_period [.int (many : Int), dEs es] S = .ok (dP Q) S := by
  rcases least_ok (S := S) V with ⟨_, n⟩ | ⟨P, q, L, _⟩
  · exact absurd h.rf (n.no h.q)
  · rw [q, L.same h fun _ => Iff.rfl]
theorem never_is {many : Nat} {es : List Ed} (V : Val many es) (h : Never es) (S : Store) : f_least_period [.int (many : Int), dEs es] S = .ok .non S := by
  rcases least_ok (S := S) V with ⟨q, _⟩ | ⟨P, q, L, _⟩
  · exact q
  · exact absurd L.rf (h.no L.q)
theorem compV_gen {t : SG} {e : SE} {env0 : Env} {S : Store} {f : D → D} : ∀ {ds : List D}, (∀ d ∈ ds, ∃ env1, t d env0 S = .ok env1 S ∧ e env1 S = .ok (f d) S) → compV t sTrue e env0 ds S = .ok (ds.map f) S
  | [], _ => rfl
  | d :: ds, h => by
    have ih := compV_gen (t := t) (e := e) (env0 := env0) (S := S) (f := f) (ds := ds) fun x hx => h x (by simp [hx])
    obtain ⟨env1, h1, h2⟩ := h d (by simp)
    unfold compV
    simp only [Res.np, Res.bind, sTrue, h1, h2, ih, if_true, List.map_cons]
theorem sLc_gen {vs : List Nat} {s : SI} {t : SG} {e : SE} {env : Env} {S : Store} {ds : List D} (f : D → D) (hs : s env S = .ok (.vals ds) S) (hl : ds.length ≤ 1000000) (h : ∀ d ∈ ds, ∃ env1, t d (wipeE env vs) S = .ok env1 S ∧ e env1 S = .ok (f d) S) :
    sLc vs s t sTrue e env S = .ok (.lst (ds.map f)) S := by
  simp only [sLc, sComp, hs, Res.bind, hl, if_true, compV_gen h]
abbrev tgL : SG := (gTp 4 (gsCons (gNm 15) (gsCons (gNm 16) (gsCons (gNm 14) (gsCons (gNm 18) gsNil)))))
theorem lc_edges {es : List Ed} {g : Ed → Ed} {e : SE} {x0 x1 x3 x4 x5 x6 x7 x8 x9 x10 x11 x12 x13 x14 x15 x16 x17 x18 : Option D} {S : Store} (hl : es.length ≤ 1000)
    (h : ∀ a ∈ es, e [x0, x1, some (dEs es), x3, x4, x5, x6, x7, x8, x9, x10, x11, x12, x13, some (.int a.l), some (.int (a.s : Int)), some (.int (a.t : Int)), x17, some (.int a.k)] S = .ok (dE (g a)) S) :
    sLc [15, 16, 14, 18] (sSeqI (sVar 2)) tgL sTrue e [x0, x1, some (dEs es), x3, x4, x5, x6, x7, x8, x9, x10, x11, x12, x13, x14, x15, x16, x17, x18] S = .ok (.lst ((es.map g).map dE)) S := by
  have back : ∀ d ∈ es.map dE, ∃ a ∈ es, d = dE a := fun d hd => by
    obtain ⟨a, ha, rfl⟩ := List.mem_map.mp hd
    exact ⟨a, ha, rfl⟩
  have q := sLc_gen (vs := [15, 16, 14, 18]) (s := sSeqI (sVar 2)) (t := tgL) (e := e) (env := [x0, x1, some (dEs es), x3, x4, x5, x6, x7, x8, x9, x10, x11, x12, x13, x14, x15, x16, x17, x18]) (S := S) (ds := es.map dE) (fun d => match d with
    | .tup [.int s, .int t, .int l, .int k] => dE (g ⟨s.toNat, t.toNat, l, k⟩)
    | d => d) rfl (by simp; omega) (fun d hd => by
      obtain ⟨a, ha, rfl⟩ := back d hd
      refine ⟨_, rfl, ?_⟩
      have := h a ha
      simp only [wipeE, List.set_cons_zero, List.set_cons_succ, Int.toNat_natCast]
      exact this)
  rw [q, List.map_map, List.map_map]
  congr 3
theorem neN {S : Store} : hNe S .non .non = some (.bl false) := by
  have e : toPD 40 S .non = some .none := rfl
  simp only [hNe, e]
  rfl
theorem neP {S : Store} {P : Int × Int} : hNe S (dP P) (dP P) = some (.bl false) := by
  have e : ∀ P : Int × Int, toPD 40 S (dP P) = some (.tuple [.int P.1, .int P.2]) := fun i => rfl
  have q := eq_dP (S := S) (P := P) (Q := P)
  simp only [hEq, e, decide_true] at q
  simp only [hNe, e]
  have q := D.bl.inj (Option.some.inj q)
  rw [q]
  rfl
theorem hTuple_e {S : Store} {es : List Ed} : hTuple S [.lst (es.map dE)] = some (dEs es) := hTuple_l
theorem Drawn.val {many : Nat} {es : List Ed} (h : Drawn many es) (hm : 1 ≤ many ∧ many ≤ 8) (hl : es.length ≤ 20) : Val many es := ⟨hm.1, hm.2, hl, h.ed, fun e he => by have := h.lk e he; omega⟩
theorem cutD_to {xs : List D} {k : Nat} : cutD xs none (some (k : Int)) = xs.take k := by
  unfold cutD
  rw [HT.sIx_none, show HT.sIx xs.length xs.length (some (k : Int)) = min k xs.length from HT.sIx_nat xs.length xs.length k, List.drop_zero, Nat.sub_zero]
  by_cases h : k ≤ xs.length
  · rw [Nat.min_eq_left h]
  · rw [Nat.min_eq_right (by omega), List.take_of_length_le (Nat.le_refl _), List.take_of_length_le (by omega)]
abbrev bdW : SS := (sIf (sTest (sCall f__law_over (sCons (sCall f_least_period (sCons (sVar 1) (sCons (sOp hAdd (sCut (sVar 2) sNoPart (sPart (sVar 9))) (sCut (sVar 2) (sPart (sOp hAdd (sVar 9) (sC (.int 1)))) sNoPart)) sNil))) (sCons (sVar 3) sNil)))) (sRet (sC (.bl false))) sSkip)
theorem without_ok {many : Nat} {es : List Ed} (V : Val many es) {due : D} (hd : (due = .non ∧ Never es) ∨ ∃ P, due = dP P ∧ Least es P ∧ PB P) {x0 x4 x5 x6 x7 x8 : Option D} {rest : Env} {S : Store} : ∀ (ds : List Nat) (x9 : Option D),
    ∃ y9, forV (gNm 9) bdW (natsD ds) ([x0, some (.int (many : Int)), some (dEs es), some due, x4, x5, x6, x7, x8, x9] ++ rest) S = .ok (.nx ([x0, some (.int (many : Int)), some (dEs es), some due, x4, x5, x6, x7, x8, y9] ++ rest)) S
  | [], x9 => ⟨x9, rfl⟩
  | i :: ds, x9 => by
    obtain ⟨y9, ih⟩ := without_ok V hd (x0 := x0) (x4 := x4) (x5 := x5) (x6 := x6) (x7 := x7) (x8 := x8) (rest := rest) (S := S) ds (some (.int (i : Int)))
    have sub : ∀ e ∈ es.take i ++ es.drop (i + 1), e ∈ es := fun e he => by
      rcases List.mem_append.mp he with h | h
      · exact List.mem_of_mem_take h
      · exact List.mem_of_mem_drop h
    have V' : Val many (es.take i ++ es.drop (i + 1)) := ⟨V.m0, V.m1, by have := V.len; rw [List.length_append, List.length_take, List.length_drop]; omega, fun e he => V.ed e (sub e he), fun e he => V.lk e (sub e he)⟩
    have c1 : ∀ S : Store, hCut S (dEs es) none (some (i : Int)) = some (.tup ((es.take i).map dE)) := fun S => by
      simp only [hCut, cutD_to, List.map_take]
    have c2 : ∀ S : Store, hCut S (dEs es) (some ((i : Int) + 1)) none = some (.tup ((es.drop (i + 1)).map dE)) := fun S => by
      rw [show ((i : Int) + 1) = ((i + 1 : Nat) : Int) from rfl]
      simp only [hCut, cutD_from, List.map_drop]
    have c3 : ∀ S : Store, hAdd S (.tup ((es.take i).map dE)) (.tup ((es.drop (i + 1)).map dE)) = some (dEs (es.take i ++ es.drop (i + 1))) := fun S => by
      have := V.len
      simp only [hAdd]
      rw [if_pos (by simp; omega), ← List.map_append]
    have ov : ∃ x, (∀ S, f_least_period [.int (many : Int), dEs (es.take i ++ es.drop (i + 1))] S = .ok x S) ∧ ∀ S, f__law_over [x, due] S = .ok (.bl false) S := by
      rcases least_ok (S := []) V' with ⟨_, n⟩ | ⟨Q, _, L, bQ, _⟩
      · refine ⟨.non, never_is V' n, fun S => ?_⟩
        rcases hd with ⟨rfl, _⟩ | ⟨P, rfl, LP, _⟩
        · exact lover_non (.inl rfl)
        · exact absurd LP.rf ((n.sub sub).no LP.q)
      · refine ⟨dP Q, least_is V' L, fun S => ?_⟩
        rcases hd with ⟨rfl, _⟩ | ⟨P, rfl, LP, bP⟩
        · exact lover_non (.inr ⟨Q, rfl⟩)
        · rw [lover_ok ⟨bQ.b1.1.up (by decide), bQ.b1.2.up (by decide)⟩ ⟨bP.b1.1.up (by decide), bP.b1.2.up (by decide)⟩]
          have := L.le sub LP.q LP.p LP.rf
          rw [decide_eq_false (by omega)]
    obtain ⟨x, o1, o2⟩ := ov
    refine ⟨y9, ?_⟩
    show forV (gNm 9) bdW (.int (i : Int) :: natsD ds) _ _ = _
    unfold forV
    simp only [bdW, sCut, sPart, sNoPart, hAdd_int, sSeq, sAsg, sIf, sIfE, sTest, sOp, sUn, sFn, sVar, sC, sCons, sNil, sTup, sLst, sNew, sNewD, sDict0, sCall, sRet, sRetN, sDrop, sPar, sPar3, sSkip, gNm, gTp, gsNil, gsCons, gSb, sAndT, sOrT, sNotT, sAndV, sOrV, sNotV, sChain, sTrue, Res.bind, Res.np, ofO, ofI, ofM, sMt, hAdd_int, hSub_int, hNeg_int, isB, hIs, hNotIs, List.getElem?_cons_zero, List.getElem?_cons_succ, List.set_cons_zero, List.set_cons_succ, if_true, if_false, decide_true, decide_false, Option.map_some, Option.map_none, Option.bind_some, Option.bind_none, Bool.false_eq_true, Bool.not_true, Bool.not_false, reduceIte, reduceCtorEq, List.length_cons, List.length_nil, List.map_cons, List.map_nil, List.replicate_zero, List.replicate_succ, Nat.reduceAdd, Nat.reduceSub, Nat.zero_add, Nat.add_zero, Nat.sub_self, List.cons_append, List.nil_append, Bool.true_and, Bool.and_true, Bool.and_false, Bool.false_and, Nat.reduceLeDiff, Nat.reduceEqDiff, forS_v, forS_c, hInt_int, hInt_bl, hAbs_int, hMax2_int, hMin2_int, hGt_int, hLt_int, hLe_int, hGe_int, hIx_t0, hIx_t1, hIx_t2, hIx_t3, mul_ok, mod_ok, fdiv_ok, c1, c2, c3, o1, o2] at ih ⊢
    exact ih
end Y

set_option maxHeartbeats 4000000
namespace Y
open PySem PySem.Spec PyProof.Rows L2 Rd
theorem mkP_any {np n : Nat} {g : SS} {ds : List D} {d : D} (h : mkP np n g ds [] = .ok d []) (S : Store) : mkP np n g ds S = .ok d S := by
  unfold mkP at h ⊢
  cases q : runP np n g ds with
  | ok a T => rw [q] at h; cases h; rfl
  | err x T => rw [q] at h; cases h
  | stuck => rw [q] at h; cases h
theorem first_any {many : Nat} {es : List Ed} {P : Int × Int} (V : Val many es) (hP : PB P) (g : Int.gcd P.1 P.2 = 1) (rf : RF es P) : ∃ h, (∀ S, f_first_begins [.int (many : Int), dEs es, dP P] S = .ok (dHs h P) S) ∧ Hts many es P h := by
  rcases first_ok (S := []) V hP g with ⟨h, q, H⟩ | ⟨_, n⟩
  · exact ⟨h, fun S => mkP_any q S, H⟩
  · exact absurd rf n
theorem first_none {many : Nat} {es : List Ed} {P : Int × Int} (V : Val many es) (hP : PB P) (g : Int.gcd P.1 P.2 = 1) (n : ¬ RF es P) (S : Store) : f_first_begins [.int (many : Int), dEs es, dP P] S = .ok .non S := by
  rcases first_ok (S := S) V hP g with ⟨h, q, H⟩ | ⟨q, _⟩
  · exact absurd (H.sol.rf hP.q0) n
  · exact q
theorem Hts.hok {many : Nat} {es : List Ed} {P : Int × Int} {h : List Int} (H : Hts many es P h) : Hok many es P h := ⟨H.len, fun v hv => by
  obtain ⟨i, hi, rfl⟩ := List.getElem_of_mem hv
  have e : hAt h i = h[i] := by
    unfold hAt
    rw [List.getD_eq_getElem?_getD, List.getElem?_eq_getElem hi]
    rfl
  have a := H.sol.1 i
  have b := H.bd i
  rw [e] at a b
  have e2 : ((2 : Int) ^ 220) = ((2 ^ 220 : Nat) : Int) := by decide +kernel
  have e3 : (2 : Nat) ^ 220 < 2 ^ 250 := by decide +kernel
  refine ⟨a, ?_⟩
  unfold B
  omega⟩
theorem low_one (v : Int) : low v 1 = (v, 1) := by simp [low]
theorem compV_none {t : SG} {c : ST} {e : SE} {env0 : Env} {S : Store} : ∀ {ds : List D}, (∀ d ∈ ds, ∃ env1, t d env0 S = .ok env1 S ∧ c env1 S = .ok false S) → compV t c e env0 ds S = .ok [] S
  | [], _ => rfl
  | d :: ds, h => by
    have ih := compV_none (t := t) (c := c) (e := e) (env0 := env0) (S := S) (ds := ds) fun x hx => h x (by simp [hx])
    obtain ⟨env1, h1, h2⟩ := h d (by simp)
    unfold compV
    simp only [Res.np, Res.bind, h1, h2, ih, Bool.false_eq_true, if_false]
/-! ### the parts of the law -/
abbrev evR (c many number : Nat) (es : List Ed) (due : D) (lo sp bk re : List Ed) (x9 x10 x11 x12 : Option D) : Env := [some (.ref c), some (.int (many : Int)), some (dEs es), some due, some (.int (number : Int)), some (dEs lo), some (dEs sp), some (dEs bk), some (dEs re), x9, x10, x11, x12, none, none, none, none, none, none]
theorem neE {S : Store} : hNe S (.lst []) (.lst []) = some (.bl false) := by
  have e : toPD 40 S (.lst []) = some (.list []) := rfl
  simp only [hNe, e]
  rfl
theorem dHs_one {h : List Int} {W : Int} : dHs h (W, 1) = dBs (h.map fun v => (v, 1)) := by
  simp only [dHs, low_one]
theorem lc_tops {h : List Int} {S : Store} {x0 x1 x2 x3 x4 x5 x6 x7 x8 x9 x10 x12 : Option D} (hl : h.length ≤ 1000) :
    sLc [17, 13] (sSeqI (sVar 11)) (gTp 2 (gsCons (gNm 17) (gsCons (gNm 13) gsNil))) sTrue (sTup (sCons (sOp hAdd (sVar 17) (sC (.int 2))) (sCons (sC (.int 1)) sNil))) [x0, x1, x2, x3, x4, x5, x6, x7, x8, x9, x10, some (dBs (h.map fun v => (v, 1))), x12, none, none, none, none, none, none] S = .ok (.lst ((h.map fun v => ((v + 2, 1) : Int × Int)).map dP)) S := by
  have q := sLc_gen (vs := [17, 13]) (s := sSeqI (sVar 11)) (t := (gTp 2 (gsCons (gNm 17) (gsCons (gNm 13) gsNil)))) (e := (sTup (sCons (sOp hAdd (sVar 17) (sC (.int 2))) (sCons (sC (.int 1)) sNil)))) (env := [x0, x1, x2, x3, x4, x5, x6, x7, x8, x9, x10, some (dBs (h.map fun v => (v, 1))), x12, none, none, none, none, none, none]) (S := S) (ds := (h.map fun v => ((v, 1) : Int × Int)).map dP) (fun d => match d with
    | .tup [.int a, .int b] => dP (a + 2, 1)
    | d => d) rfl (by simpa using (by omega : h.length ≤ 1000000)) (fun d hd => by
      obtain ⟨p, hp, rfl⟩ := List.mem_map.mp hd
      obtain ⟨v, _, rfl⟩ := List.mem_map.mp hp
      refine ⟨_, rfl, ?_⟩
      simp only [wipeE, sSeq, sAsg, sIf, sIfE, sTest, sOp, sUn, sFn, sVar, sC, sCons, sNil, sTup, sLst, sNew, sNewD, sDict0, sCall, sRet, sRetN, sDrop, sPar, sPar3, sSkip, gNm, gTp, gsNil, gsCons, gSb, sAndT, sOrT, sNotT, sAndV, sOrV, sNotV, sChain, sTrue, Res.bind, Res.np, ofO, ofI, ofM, sMt, hAdd_int, hSub_int, hNeg_int, isB, hIs, hNotIs, List.getElem?_cons_zero, List.getElem?_cons_succ, List.set_cons_zero, List.set_cons_succ, if_true, if_false, decide_true, decide_false, Option.map_some, Option.map_none, Option.bind_some, Option.bind_none, Bool.false_eq_true, Bool.not_true, Bool.not_false, reduceIte, reduceCtorEq, List.length_cons, List.length_nil, List.map_cons, List.map_nil, List.replicate_zero, List.replicate_succ, Nat.reduceAdd, Nat.reduceSub, Nat.zero_add, Nat.add_zero, Nat.sub_self, List.cons_append, List.nil_append, Bool.true_and, Bool.and_true, Bool.and_false, Bool.false_and, Nat.reduceLeDiff, Nat.reduceEqDiff, forS_v, forS_c, hInt_int, hInt_bl, hAbs_int, hMax2_int, hMin2_int, hGt_int, hLt_int, hLe_int, hGe_int, hIx_t0, hIx_t1, hIx_t2, hIx_t3, mul_ok, mod_ok, fdiv_ok])
  rw [q, List.map_map, List.map_map, List.map_map]
  congr 3
theorem lc_bottoms {h : List Int} {S : Store} {x0 x1 x2 x3 x4 x5 x6 x7 x8 x9 x10 x12 : Option D} (hl : h.length ≤ 1000) :
    sLc [17, 13] (sSeqI (sVar 11)) (gTp 2 (gsCons (gNm 17) (gsCons (gNm 13) gsNil))) (sTest (sOp hNe (sVar 13) (sC (.int 1)))) (sC (.int 1)) [x0, x1, x2, x3, x4, x5, x6, x7, x8, x9, x10, some (dBs (h.map fun v => (v, 1))), x12, none, none, none, none, none, none] S = .ok (.lst []) S := by
  have q := compV_none (t := (gTp 2 (gsCons (gNm 17) (gsCons (gNm 13) gsNil)))) (c := (sTest (sOp hNe (sVar 13) (sC (.int 1))))) (e := (sC (.int 1))) (env0 := wipeE [x0, x1, x2, x3, x4, x5, x6, x7, x8, x9, x10, some (dBs (h.map fun v => (v, 1))), x12, none, none, none, none, none, none] [17, 13]) (S := S) (ds := (h.map fun v => ((v, 1) : Int × Int)).map dP) (fun d hd => by
      obtain ⟨p, hp, rfl⟩ := List.mem_map.mp hd
      obtain ⟨v, _, rfl⟩ := List.mem_map.mp hp
      refine ⟨_, rfl, ?_⟩
      simp only [wipeE, sSeq, sAsg, sIf, sIfE, sTest, sOp, sUn, sFn, sVar, sC, sCons, sNil, sTup, sLst, sNew, sNewD, sDict0, sCall, sRet, sRetN, sDrop, sPar, sPar3, sSkip, gNm, gTp, gsNil, gsCons, gSb, sAndT, sOrT, sNotT, sAndV, sOrV, sNotV, sChain, sTrue, Res.bind, Res.np, ofO, ofI, ofM, sMt, hAdd_int, hSub_int, hNeg_int, isB, hIs, hNotIs, List.getElem?_cons_zero, List.getElem?_cons_succ, List.set_cons_zero, List.set_cons_succ, if_true, if_false, decide_true, decide_false, Option.map_some, Option.map_none, Option.bind_some, Option.bind_none, Bool.false_eq_true, Bool.not_true, Bool.not_false, reduceIte, reduceCtorEq, List.length_cons, List.length_nil, List.map_cons, List.map_nil, List.replicate_zero, List.replicate_succ, Nat.reduceAdd, Nat.reduceSub, Nat.zero_add, Nat.add_zero, Nat.sub_self, List.cons_append, List.nil_append, Bool.true_and, Bool.and_true, Bool.and_false, Bool.false_and, Nat.reduceLeDiff, Nat.reduceEqDiff, forS_v, forS_c, hInt_int, hInt_bl, hAbs_int, hMax2_int, hMin2_int, hGt_int, hLt_int, hLe_int, hGe_int, hIx_t0, hIx_t1, hIx_t2, hIx_t3, mul_ok, mod_ok, fdiv_ok, hNe_int])
  simp only [sLc, sComp, sSeqI, sVar, srcOf, ofI, Res.bind, List.getElem?_cons_zero, List.getElem?_cons_succ]
  rw [if_pos (by simpa using (by omega : h.length ≤ 1000000))]
  erw [q]
theorem ceil_of {p q : Int} (hp : 0 ≤ p) (hq : 0 < q) : 0 ≤ -(-p / q) ∧ -(-p / q) ≤ p ∧ p ≤ -(-p / q) * q ∧ (-(-p / q) - 1) * q < p := by
  have h1 := Int.emod_add_mul_ediv (-p) q
  have h2 := Int.emod_nonneg (-p) (show q ≠ 0 by omega)
  have h3 := Int.emod_lt_of_pos (-p) hq
  generalize hW : -p / q = w at *
  have e1 : -w * q = -(q * w) := by rw [Int.neg_mul, Int.mul_comm]
  have e2 : (-w - 1) * q = -w * q - q := by rw [Int.sub_mul, Int.one_mul]
  refine ⟨?_, ?_, by omega, by omega⟩
  · by_cases hw : 0 < w
    · have : q * 1 ≤ q * w := Int.mul_le_mul_of_nonneg_left (by omega) (by omega)
      omega
    · omega
  · by_cases hw : -w ≤ 0
    · omega
    · have : 1 * (-w - 1) ≤ q * (-w - 1) := Int.mul_le_mul_of_nonneg_right (by omega) (by omega)
      have e3 : q * (-w - 1) = -w * q - q := by rw [Int.mul_sub, Int.mul_one, Int.mul_comm]
      omega
end Y

set_option maxHeartbeats 4000000
namespace Y
open PySem PySem.Spec PyProof.Rows L2 Rd
theorem dEs_map {es : List Ed} {f : Ed → Ed} : D.tup ((es.map f).map dE) = dEs (es.map f) := rfl
theorem rev_es {S : Store} {es : List Ed} : hRevT S (dEs es) = some (dEs es.reverse) := by
  simp only [hRevT, ← List.map_reverse]
theorem len_es {S : Store} {es : List Ed} : hLen S [dEs es] = some (.int (es.length : Int)) := by rw [len_tup]; simp
theorem range_n {n : Nat} (h : n ≤ 1000) : range1 [.int (n : Int)] = some (.vals (natsD (List.range n))) := by
  simp only [range1]
  rw [if_pos (by omega), ← natsR]
  simp
theorem right_ok {S : Store} {c K : Nat} (h : Crk S c K) (hK : K + 2000 < 2 ^ 100) : ∃ S', f__law_right [.ref c] S = .ok (.bl true) S' ∧ Crk S' c (K + 1000) ∧ Same c S S' := by
  obtain ⟨t1, S1, a1, a2, a3, a4⟩ := ladle_ok h (total := 4) (by omega) (by decide) (by decide)
  have a1 : f__law_ladle [.ref c, .int 4] S = .ok (.int (t1 : Int)) S1 := a1
  obtain ⟨many, hm⟩ : ∃ many : Nat, many = t1 + 1 := ⟨_, rfl⟩
  have hm1 : (1 : Int) + (t1 : Int) = (many : Int) := by omega
  obtain ⟨es, S2, b1, b2, b3, b4, b5⟩ := edges_drawn (many := many) (most := 6) a3 (by omega) (by omega) (by decide)
  have b1 : f__law_edges [.ref c, .int (many : Int), .int 6] S1 = .ok (dEs es) S2 := b1
  have V := b3.val (by omega) (by omega)
  obtain ⟨t2, S3, c1, c2, c3, c4⟩ := ladle_ok b4 (total := 3) (by omega) (by decide) (by decide)
  have c1 : f__law_ladle [.ref c, .int 3] S2 = .ok (.int (t2 : Int)) S3 := c1
  obtain ⟨n, hn⟩ : ∃ n : Nat, n = t2 + 1 := ⟨_, rfl⟩
  have hn1 : (1 : Int) + (t2 : Int) = (n : Int) := by omega
  have sm := (a4.trans b5).trans c4
  have cr : Crk S3 c (K + 1000) := c3.mono (by omega)
  have V1 : Val many (es.map (longer n)) := ⟨V.m0, V.m1, by simpa using V.len, fun e he => by
    obtain ⟨a, ha, rfl⟩ := List.mem_map.mp he; exact b3.ed a ha, fun e he => by
    obtain ⟨a, ha, rfl⟩ := List.mem_map.mp he
    have := b3.lk a ha
    have x1 : 0 ≤ a.l * (n : Int) := Int.mul_nonneg this.1 (by omega)
    have x2 : a.l * (n : Int) ≤ 7 * 3 := Int.mul_le_mul this.2.1 (by omega) (by omega) (by decide)
    show 0 ≤ a.l * (n : Int) ∧ a.l * (n : Int) ≤ 99 ∧ 0 ≤ a.k ∧ a.k ≤ 9
    omega⟩
  have V2 : Val many (es.map (spread n)) := ⟨V.m0, V.m1, by simpa using V.len, fun e he => by
    obtain ⟨a, ha, rfl⟩ := List.mem_map.mp he; exact b3.ed a ha, fun e he => by
    obtain ⟨a, ha, rfl⟩ := List.mem_map.mp he
    have := b3.lk a ha
    have x1 : 0 ≤ a.k * (n : Int) := Int.mul_nonneg this.2.2.1 (by omega)
    have x2 : a.k * (n : Int) ≤ 3 * 3 := Int.mul_le_mul this.2.2.2 (by omega) (by omega) (by decide)
    show 0 ≤ a.l ∧ a.l ≤ 99 ∧ 0 ≤ a.k * (n : Int) ∧ a.k * (n : Int) ≤ 9
    omega⟩
  have V3 : Val many (es.map turned) := ⟨V.m0, V.m1, by simpa using V.len, fun e he => by
    obtain ⟨a, ha, rfl⟩ := List.mem_map.mp he; exact (b3.ed a ha).symm, fun e he => by
    obtain ⟨a, ha, rfl⟩ := List.mem_map.mp he; exact V.lk a ha⟩
  have V4 : Val many es.reverse := ⟨V.m0, V.m1, by simpa using V.len, fun e he => V.ed e (List.mem_reverse.mp he), fun e he => V.lk e (List.mem_reverse.mp he)⟩
  have V5 : Val many (es.map (named many)) := ⟨V.m0, V.m1, by simpa using V.len, fun e he => by
    obtain ⟨a, ha, rfl⟩ := List.mem_map.mp he
    have := b3.ed a ha
    show many - 1 - a.s < many ∧ many - 1 - a.t < many
    omega, fun e he => by
    obtain ⟨a, ha, rfl⟩ := List.mem_map.mp he; exact V.lk a ha⟩
  have V6 : Val (many + 1) es := ⟨by omega, by omega, V.len, fun e he => by have := V.ed e he; omega, V.lk⟩
  have m6 : ((many : Int) + 1) = ((many + 1 : Nat) : Int) := rfl
  have mn : Mod (n : Int) := .of (n := 3) (by omega) (by omega)
  have l1000 : es.length ≤ 1000 := by omega
  have ml : ∀ e ∈ es, Mod e.l := fun e he => by have := b3.lk e he; exact .of (n := 7) (by omega) (by omega)
  have mk : ∀ e ∈ es, Mod e.k := fun e he => by have := b3.lk e he; exact .of (n := 7) (by omega) (by omega)
  have L1_ : ∀ x3 x5 x6 x7 x8, sLc [15, 16, 14, 18] (sSeqI (sVar 2)) tgL sTrue (sTup (sCons (sVar 15) (sCons (sVar 16) (sCons (sOp hMul (sVar 14) (sVar 4)) (sCons (sVar 18) sNil))))) [some (.ref c), some (.int (many : Int)), some (dEs es), x3, some (.int (n : Int)), x5, x6, x7, x8, none, none, none, none, none, none, none, none, none, none] S3 = .ok (.lst ((es.map (longer n)).map dE)) S3 := fun x3 x5 x6 x7 x8 => lc_edges l1000 fun a ha => by
    simp only [sSeq, sAsg, sIf, sIfE, sTest, sOp, sUn, sFn, sVar, sC, sCons, sNil, sTup, sLst, sNew, sNewD, sDict0, sCall, sRet, sRetN, sDrop, sPar, sPar3, sSkip, gNm, gTp, gsNil, gsCons, gSb, sAndT, sOrT, sNotT, sAndV, sOrV, sNotV, sChain, sTrue, Res.bind, Res.np, ofO, ofI, ofM, sMt, hAdd_int, hSub_int, hNeg_int, isB, hIs, hNotIs, List.getElem?_cons_zero, List.getElem?_cons_succ, List.set_cons_zero, List.set_cons_succ, if_true, if_false, decide_true, decide_false, Option.map_some, Option.map_none, Option.bind_some, Option.bind_none, Bool.false_eq_true, Bool.not_true, Bool.not_false, reduceIte, reduceCtorEq, List.length_cons, List.length_nil, List.map_cons, List.map_nil, List.replicate_zero, List.replicate_succ, Nat.reduceAdd, Nat.reduceSub, Nat.zero_add, Nat.add_zero, Nat.sub_self, List.cons_append, List.nil_append, Bool.true_and, Bool.and_true, Bool.and_false, Bool.false_and, Nat.reduceLeDiff, Nat.reduceEqDiff, forS_v, forS_c, hInt_int, hInt_bl, hAbs_int, hMax2_int, hMin2_int, hGt_int, hLt_int, hLe_int, hGe_int, hIx_t0, hIx_t1, hIx_t2, hIx_t3, mul_ok, mod_ok, fdiv_ok, mul_ok (ml a ha) mn]
    rfl
  have L2_ : ∀ x3 x5 x6 x7 x8, sLc [15, 16, 14, 18] (sSeqI (sVar 2)) tgL sTrue (sTup (sCons (sVar 15) (sCons (sVar 16) (sCons (sVar 14) (sCons (sOp hMul (sVar 18) (sVar 4)) sNil))))) [some (.ref c), some (.int (many : Int)), some (dEs es), x3, some (.int (n : Int)), x5, x6, x7, x8, none, none, none, none, none, none, none, none, none, none] S3 = .ok (.lst ((es.map (spread n)).map dE)) S3 := fun x3 x5 x6 x7 x8 => lc_edges l1000 fun a ha => by
    simp only [sSeq, sAsg, sIf, sIfE, sTest, sOp, sUn, sFn, sVar, sC, sCons, sNil, sTup, sLst, sNew, sNewD, sDict0, sCall, sRet, sRetN, sDrop, sPar, sPar3, sSkip, gNm, gTp, gsNil, gsCons, gSb, sAndT, sOrT, sNotT, sAndV, sOrV, sNotV, sChain, sTrue, Res.bind, Res.np, ofO, ofI, ofM, sMt, hAdd_int, hSub_int, hNeg_int, isB, hIs, hNotIs, List.getElem?_cons_zero, List.getElem?_cons_succ, List.set_cons_zero, List.set_cons_succ, if_true, if_false, decide_true, decide_false, Option.map_some, Option.map_none, Option.bind_some, Option.bind_none, Bool.false_eq_true, Bool.not_true, Bool.not_false, reduceIte, reduceCtorEq, List.length_cons, List.length_nil, List.map_cons, List.map_nil, List.replicate_zero, List.replicate_succ, Nat.reduceAdd, Nat.reduceSub, Nat.zero_add, Nat.add_zero, Nat.sub_self, List.cons_append, List.nil_append, Bool.true_and, Bool.and_true, Bool.and_false, Bool.false_and, Nat.reduceLeDiff, Nat.reduceEqDiff, forS_v, forS_c, hInt_int, hInt_bl, hAbs_int, hMax2_int, hMin2_int, hGt_int, hLt_int, hLe_int, hGe_int, hIx_t0, hIx_t1, hIx_t2, hIx_t3, mul_ok, mod_ok, fdiv_ok, mul_ok (mk a ha) mn]
    rfl
  have L3_ : ∀ x3 x5 x6 x7 x8, sLc [15, 16, 14, 18] (sSeqI (sVar 2)) tgL sTrue (sTup (sCons (sVar 16) (sCons (sVar 15) (sCons (sVar 14) (sCons (sVar 18) sNil))))) [some (.ref c), some (.int (many : Int)), some (dEs es), x3, some (.int (n : Int)), x5, x6, x7, x8, none, none, none, none, none, none, none, none, none, none] S3 = .ok (.lst ((es.map turned).map dE)) S3 := fun x3 x5 x6 x7 x8 => lc_edges l1000 fun a ha => by
    simp only [sSeq, sAsg, sIf, sIfE, sTest, sOp, sUn, sFn, sVar, sC, sCons, sNil, sTup, sLst, sNew, sNewD, sDict0, sCall, sRet, sRetN, sDrop, sPar, sPar3, sSkip, gNm, gTp, gsNil, gsCons, gSb, sAndT, sOrT, sNotT, sAndV, sOrV, sNotV, sChain, sTrue, Res.bind, Res.np, ofO, ofI, ofM, sMt, hAdd_int, hSub_int, hNeg_int, isB, hIs, hNotIs, List.getElem?_cons_zero, List.getElem?_cons_succ, List.set_cons_zero, List.set_cons_succ, if_true, if_false, decide_true, decide_false, Option.map_some, Option.map_none, Option.bind_some, Option.bind_none, Bool.false_eq_true, Bool.not_true, Bool.not_false, reduceIte, reduceCtorEq, List.length_cons, List.length_nil, List.map_cons, List.map_nil, List.replicate_zero, List.replicate_succ, Nat.reduceAdd, Nat.reduceSub, Nat.zero_add, Nat.add_zero, Nat.sub_self, List.cons_append, List.nil_append, Bool.true_and, Bool.and_true, Bool.and_false, Bool.false_and, Nat.reduceLeDiff, Nat.reduceEqDiff, forS_v, forS_c, hInt_int, hInt_bl, hAbs_int, hMax2_int, hMin2_int, hGt_int, hLt_int, hLe_int, hGe_int, hIx_t0, hIx_t1, hIx_t2, hIx_t3, mul_ok, mod_ok, fdiv_ok]
    rfl
  have L4_ : ∀ x3 x5 x6 x7 x8, sLc [15, 16, 14, 18] (sSeqI (sVar 2)) tgL sTrue (sTup (sCons (sOp hSub (sOp hSub (sVar 1) (sC (.int 1))) (sVar 15)) (sCons (sOp hSub (sOp hSub (sVar 1) (sC (.int 1))) (sVar 16)) (sCons (sVar 14) (sCons (sVar 18) sNil))))) [some (.ref c), some (.int (many : Int)), some (dEs es), x3, some (.int (n : Int)), x5, x6, x7, x8, none, none, none, none, none, none, none, none, none, none] S3 = .ok (.lst ((es.map (named many)).map dE)) S3 := fun x3 x5 x6 x7 x8 => lc_edges l1000 fun a ha => by
    have := b3.ed a ha
    simp only [sSeq, sAsg, sIf, sIfE, sTest, sOp, sUn, sFn, sVar, sC, sCons, sNil, sTup, sLst, sNew, sNewD, sDict0, sCall, sRet, sRetN, sDrop, sPar, sPar3, sSkip, gNm, gTp, gsNil, gsCons, gSb, sAndT, sOrT, sNotT, sAndV, sOrV, sNotV, sChain, sTrue, Res.bind, Res.np, ofO, ofI, ofM, sMt, hAdd_int, hSub_int, hNeg_int, isB, hIs, hNotIs, List.getElem?_cons_zero, List.getElem?_cons_succ, List.set_cons_zero, List.set_cons_succ, if_true, if_false, decide_true, decide_false, Option.map_some, Option.map_none, Option.bind_some, Option.bind_none, Bool.false_eq_true, Bool.not_true, Bool.not_false, reduceIte, reduceCtorEq, List.length_cons, List.length_nil, List.map_cons, List.map_nil, List.replicate_zero, List.replicate_succ, Nat.reduceAdd, Nat.reduceSub, Nat.zero_add, Nat.add_zero, Nat.sub_self, List.cons_append, List.nil_append, Bool.true_and, Bool.and_true, Bool.and_false, Bool.false_and, Nat.reduceLeDiff, Nat.reduceEqDiff, forS_v, forS_c, hInt_int, hInt_bl, hAbs_int, hMax2_int, hMin2_int, hGt_int, hLt_int, hLe_int, hGe_int, hIx_t0, hIx_t1, hIx_t2, hIx_t3, mul_ok, mod_ok, fdiv_ok]
    show Res.ok (D.tup [.int ((many : Int) - 1 - (a.s : Int)), .int ((many : Int) - 1 - (a.t : Int)), .int a.l, .int a.k]) S3 = .ok (.tup [.int ((many - 1 - a.s : Nat) : Int), .int ((many - 1 - a.t : Nat) : Int), .int a.l, .int a.k]) S3
    rw [show ((many - 1 - a.s : Nat) : Int) = (many : Int) - 1 - (a.s : Int) by omega, show ((many - 1 - a.t : Nat) : Int) = (many : Int) - 1 - (a.t : Int) by omega]
  have rn := range_n l1000
  rcases least_ok (S := []) V with ⟨_, nv⟩ | ⟨P, _, LP, bP, p792⟩
  · -- never
    have e0 := never_is V nv
    have e1 := never_is V1 (nv.longer (n := n) (by omega))
    have e2 := never_is V2 (nv.spread (n := n))
    have e3 := never_is V3 nv.turned
    have e4 := never_is V4 (nv.sub fun e he => List.mem_reverse.mpr he)
    have e5 := never_is V5 (nv.named (many := many))
    have e6 := never_is V6 nv
    obtain ⟨y9, w⟩ := without_ok V (due := .non) (.inl ⟨rfl, nv⟩) (x0 := some (.ref c)) (x4 := some (.int (n : Int))) (x5 := some (dEs (es.map (longer n)))) (x6 := some (dEs (es.map (spread n)))) (x7 := some (dEs (es.map turned))) (x8 := some (dEs (es.map (named many)))) (rest := [none, none, none, none, none, none, none, none, none]) (S := S3) (List.range es.length) none
    refine ⟨S3, mkFn_ok rfl ?_, cr, sm⟩
    simp only [List.cons_append, List.nil_append] at w
    simp only [b__law_right, sFor, sRng1, sSeq, sAsg, sIf, sIfE, sTest, sOp, sUn, sFn, sVar, sC, sCons, sNil, sTup, sLst, sNew, sNewD, sDict0, sCall, sRet, sRetN, sDrop, sPar, sPar3, sSkip, gNm, gTp, gsNil, gsCons, gSb, sAndT, sOrT, sNotT, sAndV, sOrV, sNotV, sChain, sTrue, Res.bind, Res.np, ofO, ofI, ofM, sMt, hAdd_int, hSub_int, hNeg_int, isB, hIs, hNotIs, List.getElem?_cons_zero, List.getElem?_cons_succ, List.set_cons_zero, List.set_cons_succ, if_true, if_false, decide_true, decide_false, Option.map_some, Option.map_none, Option.bind_some, Option.bind_none, Bool.false_eq_true, Bool.not_true, Bool.not_false, reduceIte, reduceCtorEq, List.length_cons, List.length_nil, List.map_cons, List.map_nil, List.replicate_zero, List.replicate_succ, Nat.reduceAdd, Nat.reduceSub, Nat.zero_add, Nat.add_zero, Nat.sub_self, List.cons_append, List.nil_append, Bool.true_and, Bool.and_true, Bool.and_false, Bool.false_and, Nat.reduceLeDiff, Nat.reduceEqDiff, forS_v, forS_c, hInt_int, hInt_bl, hAbs_int, hMax2_int, hMin2_int, hGt_int, hLt_int, hLe_int, hGe_int, hIx_t0, hIx_t1, hIx_t2, hIx_t3, mul_ok, mod_ok, fdiv_ok, a1, hm1, b1, e0, c1, hn1]
    erw [L1_]
    simp only [sFor, sRng1, sSeq, sAsg, sIf, sIfE, sTest, sOp, sUn, sFn, sVar, sC, sCons, sNil, sTup, sLst, sNew, sNewD, sDict0, sCall, sRet, sRetN, sDrop, sPar, sPar3, sSkip, gNm, gTp, gsNil, gsCons, gSb, sAndT, sOrT, sNotT, sAndV, sOrV, sNotV, sChain, sTrue, Res.bind, Res.np, ofO, ofI, ofM, sMt, hAdd_int, hSub_int, hNeg_int, isB, hIs, hNotIs, List.getElem?_cons_zero, List.getElem?_cons_succ, List.set_cons_zero, List.set_cons_succ, if_true, if_false, decide_true, decide_false, Option.map_some, Option.map_none, Option.bind_some, Option.bind_none, Bool.false_eq_true, Bool.not_true, Bool.not_false, reduceIte, reduceCtorEq, List.length_cons, List.length_nil, List.map_cons, List.map_nil, List.replicate_zero, List.replicate_succ, Nat.reduceAdd, Nat.reduceSub, Nat.zero_add, Nat.add_zero, Nat.sub_self, List.cons_append, List.nil_append, Bool.true_and, Bool.and_true, Bool.and_false, Bool.false_and, Nat.reduceLeDiff, Nat.reduceEqDiff, forS_v, forS_c, hInt_int, hInt_bl, hAbs_int, hMax2_int, hMin2_int, hGt_int, hLt_int, hLe_int, hGe_int, hIx_t0, hIx_t1, hIx_t2, hIx_t3, mul_ok, mod_ok, fdiv_ok, hTuple_e, e1, ltimes_non, neN]
    erw [L2_]
    simp only [sFor, sRng1, sSeq, sAsg, sIf, sIfE, sTest, sOp, sUn, sFn, sVar, sC, sCons, sNil, sTup, sLst, sNew, sNewD, sDict0, sCall, sRet, sRetN, sDrop, sPar, sPar3, sSkip, gNm, gTp, gsNil, gsCons, gSb, sAndT, sOrT, sNotT, sAndV, sOrV, sNotV, sChain, sTrue, Res.bind, Res.np, ofO, ofI, ofM, sMt, hAdd_int, hSub_int, hNeg_int, isB, hIs, hNotIs, List.getElem?_cons_zero, List.getElem?_cons_succ, List.set_cons_zero, List.set_cons_succ, if_true, if_false, decide_true, decide_false, Option.map_some, Option.map_none, Option.bind_some, Option.bind_none, Bool.false_eq_true, Bool.not_true, Bool.not_false, reduceIte, reduceCtorEq, List.length_cons, List.length_nil, List.map_cons, List.map_nil, List.replicate_zero, List.replicate_succ, Nat.reduceAdd, Nat.reduceSub, Nat.zero_add, Nat.add_zero, Nat.sub_self, List.cons_append, List.nil_append, Bool.true_and, Bool.and_true, Bool.and_false, Bool.false_and, Nat.reduceLeDiff, Nat.reduceEqDiff, forS_v, forS_c, hInt_int, hInt_bl, hAbs_int, hMax2_int, hMin2_int, hGt_int, hLt_int, hLe_int, hGe_int, hIx_t0, hIx_t1, hIx_t2, hIx_t3, mul_ok, mod_ok, fdiv_ok, hTuple_e, e2, neN]
    erw [L3_]
    simp only [sFor, sRng1, sSeq, sAsg, sIf, sIfE, sTest, sOp, sUn, sFn, sVar, sC, sCons, sNil, sTup, sLst, sNew, sNewD, sDict0, sCall, sRet, sRetN, sDrop, sPar, sPar3, sSkip, gNm, gTp, gsNil, gsCons, gSb, sAndT, sOrT, sNotT, sAndV, sOrV, sNotV, sChain, sTrue, Res.bind, Res.np, ofO, ofI, ofM, sMt, hAdd_int, hSub_int, hNeg_int, isB, hIs, hNotIs, List.getElem?_cons_zero, List.getElem?_cons_succ, List.set_cons_zero, List.set_cons_succ, if_true, if_false, decide_true, decide_false, Option.map_some, Option.map_none, Option.bind_some, Option.bind_none, Bool.false_eq_true, Bool.not_true, Bool.not_false, reduceIte, reduceCtorEq, List.length_cons, List.length_nil, List.map_cons, List.map_nil, List.replicate_zero, List.replicate_succ, Nat.reduceAdd, Nat.reduceSub, Nat.zero_add, Nat.add_zero, Nat.sub_self, List.cons_append, List.nil_append, Bool.true_and, Bool.and_true, Bool.and_false, Bool.false_and, Nat.reduceLeDiff, Nat.reduceEqDiff, forS_v, forS_c, hInt_int, hInt_bl, hAbs_int, hMax2_int, hMin2_int, hGt_int, hLt_int, hLe_int, hGe_int, hIx_t0, hIx_t1, hIx_t2, hIx_t3, mul_ok, mod_ok, fdiv_ok, hTuple_e, e3, neN, rev_es, e4]
    erw [L4_]
    simp only [sFor, sRng1, sSeq, sAsg, sIf, sIfE, sTest, sOp, sUn, sFn, sVar, sC, sCons, sNil, sTup, sLst, sNew, sNewD, sDict0, sCall, sRet, sRetN, sDrop, sPar, sPar3, sSkip, gNm, gTp, gsNil, gsCons, gSb, sAndT, sOrT, sNotT, sAndV, sOrV, sNotV, sChain, sTrue, Res.bind, Res.np, ofO, ofI, ofM, sMt, hAdd_int, hSub_int, hNeg_int, isB, hIs, hNotIs, List.getElem?_cons_zero, List.getElem?_cons_succ, List.set_cons_zero, List.set_cons_succ, if_true, if_false, decide_true, decide_false, Option.map_some, Option.map_none, Option.bind_some, Option.bind_none, Bool.false_eq_true, Bool.not_true, Bool.not_false, reduceIte, reduceCtorEq, List.length_cons, List.length_nil, List.map_cons, List.map_nil, List.replicate_zero, List.replicate_succ, Nat.reduceAdd, Nat.reduceSub, Nat.zero_add, Nat.add_zero, Nat.sub_self, List.cons_append, List.nil_append, Bool.true_and, Bool.and_true, Bool.and_false, Bool.false_and, Nat.reduceLeDiff, Nat.reduceEqDiff, forS_v, forS_c, hInt_int, hInt_bl, hAbs_int, hMax2_int, hMin2_int, hGt_int, hLt_int, hLe_int, hGe_int, hIx_t0, hIx_t1, hIx_t2, hIx_t3, mul_ok, mod_ok, fdiv_ok, hTuple_e, e5, neN, m6, e6, len_es, rn]
    erw [w]
    simp only [sSeq, sAsg, sIf, sIfE, sTest, sOp, sUn, sFn, sVar, sC, sCons, sNil, sTup, sLst, sNew, sNewD, sDict0, sCall, sRet, sRetN, sDrop, sPar, sPar3, sSkip, gNm, gTp, gsNil, gsCons, gSb, sAndT, sOrT, sNotT, sAndV, sOrV, sNotV, sChain, sTrue, Res.bind, Res.np, ofO, ofI, ofM, sMt, hAdd_int, hSub_int, hNeg_int, isB, hIs, hNotIs, List.getElem?_cons_zero, List.getElem?_cons_succ, List.set_cons_zero, List.set_cons_succ, if_true, if_false, decide_true, decide_false, Option.map_some, Option.map_none, Option.bind_some, Option.bind_none, Bool.false_eq_true, Bool.not_true, Bool.not_false, reduceIte, reduceCtorEq, List.length_cons, List.length_nil, List.map_cons, List.map_nil, List.replicate_zero, List.replicate_succ, Nat.reduceAdd, Nat.reduceSub, Nat.zero_add, Nat.add_zero, Nat.sub_self, List.cons_append, List.nil_append, Bool.true_and, Bool.and_true, Bool.and_false, Bool.false_and, Nat.reduceLeDiff, Nat.reduceEqDiff, forS_v, forS_c, hInt_int, hInt_bl, hAbs_int, hMax2_int, hMin2_int, hGt_int, hLt_int, hLe_int, hGe_int, hIx_t0, hIx_t1, hIx_t2, hIx_t3, mul_ok, mod_ok, fdiv_ok]
  · -- a least period
    have e0 := least_is V LP
    have e1 := least_is V1 (LP.longer (n := n) (by omega))
    have e2 := least_is V2 (LP.spread (n := n) (by omega))
    have e3 := least_is V3 LP.turned
    have e4 := least_is V4 (LP.sub fun e => List.mem_reverse.symm)
    have e5 := least_is V5 (LP.named (many := many) V.ed)
    have e6 := least_is V6 LP
    have ei := fun S => integer_ok (S := S) V e0 bP
    obtain ⟨W, hW⟩ : ∃ W : Int, W = -(-P.1 / P.2) := ⟨_, rfl⟩
    obtain ⟨w0, w1, w2, w3⟩ := ceil_of bP.p0 bP.q0
    rw [← hW] at w0 w1 w2 w3 ei
    have e200 : (1 : Int) < 2 ^ 200 := by decide +kernel
    have p1 := bP.p1
    have g1 : ∀ x : Int, Int.gcd x 1 = 1 := fun x => Int.gcd_one_right x
    have bW : PB (W, 1) := ⟨w0, by show W < _; omega, Int.one_pos, e200⟩
    have kk : ∀ e ∈ es, 0 ≤ e.k := fun e he => (V.lk e he).2.2.1
    have rfW : RF es (W, 1) := LP.rf.mono (fun e h => h) kk LP.q Int.one_pos (by show P.1 * 1 ≤ W * P.2; omega)
    obtain ⟨h1, f1, H1⟩ := first_any V bW (g1 W) rfW
    have f1 : ∀ S, f_first_begins [.int (many : Int), dEs es, dP (W, 1)] S = .ok (dBs (h1.map fun v => (v, 1))) S := fun S => by rw [f1, dHs_one]
    have hl1 : h1.length ≤ 1000 := by have := H1.len; have := V.m1; omega
    have tick := fun x9 x10 x12 => lc_tops (x9 := x9) (x10 := x10) (x12 := x12) (h := h1) (S := S3) (x0 := some (.ref c)) (x1 := some (.int (many : Int))) (x2 := some (dEs es)) (x3 := some (dP P)) (x4 := some (.int (n : Int))) (x5 := some (dEs (es.map (longer n)))) (x6 := some (dEs (es.map (spread n)))) (x7 := some (dEs (es.map turned))) (x8 := some (dEs (es.map (named many))))
    have bott := fun x9 x10 x12 => lc_bottoms (x9 := x9) (x10 := x10) (x12 := x12) (h := h1) (S := S3) (x0 := some (.ref c)) (x1 := some (.int (many : Int))) (x2 := some (dEs es)) (x3 := some (dP P)) (x4 := some (.int (n : Int))) (x5 := some (dEs (es.map (longer n)))) (x6 := some (dEs (es.map (spread n)))) (x7 := some (dEs (es.map turned))) (x8 := some (dEs (es.map (named many))))
    have later : ∀ S, f_is_begins [.int (many : Int), dEs es, dP (W, 1), dBs (h1.map fun v => ((v + 2, 1) : Int × Int))] S = .ok (.bl true) S := fun S => by
      have hb : Bok (h1.map fun v => ((v + 2, 1) : Int × Int)) := ⟨fun b hb => by
        obtain ⟨v, _, rfl⟩ := List.mem_map.mp hb; exact Int.one_pos, fun b hb => by
        obtain ⟨v, hv, rfl⟩ := List.mem_map.mp hb
        obtain ⟨i, hi, rfl⟩ := List.getElem_of_mem hv
        have e : hAt h1 i = h1[i] := by
          unfold hAt
          rw [List.getD_eq_getElem?_getD, List.getElem?_eq_getElem hi]
          rfl
        have a := H1.sol.1 i
        have b := H1.bd i
        rw [e] at a b
        have e2 : ((2 : Int) ^ 220) = ((2 ^ 220 : Nat) : Int) := by decide +kernel
        have e3 : (2 : Nat) ^ 220 + 10 < 2 ^ 230 := by decide +kernel
        show B 230 (h1[i] + 2) ∧ B 230 1
        unfold B
        omega⟩
      rw [is_begins_ok V bW (g1 W) hb (by rw [List.length_map]; exact H1.len) fun b hb => by
        obtain ⟨v, _, rfl⟩ := List.mem_map.mp hb; exact low_one _]
      have kp : ∀ e ∈ es, Kept (W, 1) (h1.map fun v => ((v + 2, 1) : Int × Int)) e := fun e he a b ha hb => by
        have le := V.ed e he
        have ls : e.s < h1.length := by rw [H1.len]; exact le.1
        have lt : e.t < h1.length := by rw [H1.len]; exact le.2
        have sol := H1.sol.2 e he
        have ha2 : hAt h1 e.s = h1[e.s] := by unfold hAt; rw [List.getD_eq_getElem?_getD, List.getElem?_eq_getElem ls]; rfl
        have hb2 : hAt h1 e.t = h1[e.t] := by unfold hAt; rw [List.getD_eq_getElem?_getD, List.getElem?_eq_getElem lt]; rfl
        rw [List.getElem?_map, List.getElem?_eq_getElem ls] at ha
        rw [List.getElem?_map, List.getElem?_eq_getElem lt] at hb
        cases ha
        cases hb
        rw [ha2, hb2] at sol
        unfold gn at sol
        simp only [Int.mul_one] at sol ⊢
        omega
      rw [decide_eq_true kp]
    obtain ⟨h0, f0, H0⟩ := first_any V bP LP.lo LP.rf
    obtain ⟨S4, r1, k1⟩ := rounds_ok (S := S3) (c := c) V bP LP.lo H0.hok H0 f0
    have e793 : (793 : Int) < 2 ^ 200 := by decide +kernel
    have bW1 : PB (W + 1, 1) := ⟨by show 0 ≤ W + 1; omega, by show W + 1 < _; omega, Int.one_pos, e200⟩
    have rfW1 : RF es (W + 1, 1) := LP.rf.mono (fun e h => h) kk LP.q Int.one_pos (by
      show P.1 * 1 ≤ (W + 1) * P.2
      have := bP.q0
      rw [Int.add_mul]
      omega)
    obtain ⟨h2, f2, H2⟩ := first_any V bW1 (g1 (W + 1)) rfW1
    obtain ⟨S5, r2, k2⟩ := rounds_ok (S := S4) (c := c) V bW1 (g1 (W + 1)) H2.hok H2 f2
    obtain ⟨y9, w⟩ := without_ok V (due := dP P) (.inr ⟨P, rfl, LP, bP⟩) (x0 := some (.ref c)) (x4 := some (.int (n : Int))) (x5 := some (dEs (es.map (longer n)))) (x6 := some (dEs (es.map (spread n)))) (x7 := some (dEs (es.map turned))) (x8 := some (dEs (es.map (named many)))) (rest := [none, none, none, none, none, none, none, none, none]) (S := S3) (List.range es.length) none
    have bn : B 300 (n : Int) := small_B (by omega) (by decide)
    have lt := fun S => ltimes_ok (S := S) (P := P) (n := (n : Int)) bP.q0 ⟨bP.b1.1.up (by decide), bP.b1.2.up (by decide)⟩ bn
    have m2 := fun S => mul_ok (S := S) bP.mq mn
    have ll := fun S => llow_ok (S := S) (t := P.1) (b := P.2 * (n : Int)) (Int.mul_pos bP.q0 (by omega)) (bP.b1.2.mul bn)
    have tr : hNotIs [] (.bl true) (.bl true) = some (.bl false) := rfl
    refine ⟨S5, mkFn_ok rfl ?_, k2.crk (k1.crk cr), sm.trans (k1.trans k2).same⟩
    simp only [List.cons_append, List.nil_append] at w
    have wpos : (0 < W) ∨ ¬ (0 < W) := Classical.em _
    simp only [b__law_right, sFor, sRng1, sSeq, sAsg, sIf, sIfE, sTest, sOp, sUn, sFn, sVar, sC, sCons, sNil, sTup, sLst, sNew, sNewD, sDict0, sCall, sRet, sRetN, sDrop, sPar, sPar3, sSkip, gNm, gTp, gsNil, gsCons, gSb, sAndT, sOrT, sNotT, sAndV, sOrV, sNotV, sChain, sTrue, Res.bind, Res.np, ofO, ofI, ofM, sMt, hAdd_int, hSub_int, hNeg_int, isB, hIs, hNotIs, List.getElem?_cons_zero, List.getElem?_cons_succ, List.set_cons_zero, List.set_cons_succ, if_true, if_false, decide_true, decide_false, Option.map_some, Option.map_none, Option.bind_some, Option.bind_none, Bool.false_eq_true, Bool.not_true, Bool.not_false, reduceIte, reduceCtorEq, List.length_cons, List.length_nil, List.map_cons, List.map_nil, List.replicate_zero, List.replicate_succ, Nat.reduceAdd, Nat.reduceSub, Nat.zero_add, Nat.add_zero, Nat.sub_self, List.cons_append, List.nil_append, Bool.true_and, Bool.and_true, Bool.and_false, Bool.false_and, Nat.reduceLeDiff, Nat.reduceEqDiff, forS_v, forS_c, hInt_int, hInt_bl, hAbs_int, hMax2_int, hMin2_int, hGt_int, hLt_int, hLe_int, hGe_int, hIx_t0, hIx_t1, hIx_t2, hIx_t3, mul_ok, mod_ok, fdiv_ok, a1, hm1, b1, e0, c1, hn1]
    erw [L1_]
    simp only [sFor, sRng1, sSeq, sAsg, sIf, sIfE, sTest, sOp, sUn, sFn, sVar, sC, sCons, sNil, sTup, sLst, sNew, sNewD, sDict0, sCall, sRet, sRetN, sDrop, sPar, sPar3, sSkip, gNm, gTp, gsNil, gsCons, gSb, sAndT, sOrT, sNotT, sAndV, sOrV, sNotV, sChain, sTrue, Res.bind, Res.np, ofO, ofI, ofM, sMt, hAdd_int, hSub_int, hNeg_int, isB, hIs, hNotIs, List.getElem?_cons_zero, List.getElem?_cons_succ, List.set_cons_zero, List.set_cons_succ, if_true, if_false, decide_true, decide_false, Option.map_some, Option.map_none, Option.bind_some, Option.bind_none, Bool.false_eq_true, Bool.not_true, Bool.not_false, reduceIte, reduceCtorEq, List.length_cons, List.length_nil, List.map_cons, List.map_nil, List.replicate_zero, List.replicate_succ, Nat.reduceAdd, Nat.reduceSub, Nat.zero_add, Nat.add_zero, Nat.sub_self, List.cons_append, List.nil_append, Bool.true_and, Bool.and_true, Bool.and_false, Bool.false_and, Nat.reduceLeDiff, Nat.reduceEqDiff, forS_v, forS_c, hInt_int, hInt_bl, hAbs_int, hMax2_int, hMin2_int, hGt_int, hLt_int, hLe_int, hGe_int, hIx_t0, hIx_t1, hIx_t2, hIx_t3, mul_ok, mod_ok, fdiv_ok, hTuple_e, e1, lt, neP]
    erw [L2_]
    simp only [sFor, sRng1, sSeq, sAsg, sIf, sIfE, sTest, sOp, sUn, sFn, sVar, sC, sCons, sNil, sTup, sLst, sNew, sNewD, sDict0, sCall, sRet, sRetN, sDrop, sPar, sPar3, sSkip, gNm, gTp, gsNil, gsCons, gSb, sAndT, sOrT, sNotT, sAndV, sOrV, sNotV, sChain, sTrue, Res.bind, Res.np, ofO, ofI, ofM, sMt, hAdd_int, hSub_int, hNeg_int, isB, hIs, hNotIs, List.getElem?_cons_zero, List.getElem?_cons_succ, List.set_cons_zero, List.set_cons_succ, if_true, if_false, decide_true, decide_false, Option.map_some, Option.map_none, Option.bind_some, Option.bind_none, Bool.false_eq_true, Bool.not_true, Bool.not_false, reduceIte, reduceCtorEq, List.length_cons, List.length_nil, List.map_cons, List.map_nil, List.replicate_zero, List.replicate_succ, Nat.reduceAdd, Nat.reduceSub, Nat.zero_add, Nat.add_zero, Nat.sub_self, List.cons_append, List.nil_append, Bool.true_and, Bool.and_true, Bool.and_false, Bool.false_and, Nat.reduceLeDiff, Nat.reduceEqDiff, forS_v, forS_c, hInt_int, hInt_bl, hAbs_int, hMax2_int, hMin2_int, hGt_int, hLt_int, hLe_int, hGe_int, hIx_t0, hIx_t1, hIx_t2, hIx_t3, mul_ok, mod_ok, fdiv_ok, hTuple_e, e2, neP, m2, ll]
    erw [L3_]
    simp only [sFor, sRng1, sSeq, sAsg, sIf, sIfE, sTest, sOp, sUn, sFn, sVar, sC, sCons, sNil, sTup, sLst, sNew, sNewD, sDict0, sCall, sRet, sRetN, sDrop, sPar, sPar3, sSkip, gNm, gTp, gsNil, gsCons, gSb, sAndT, sOrT, sNotT, sAndV, sOrV, sNotV, sChain, sTrue, Res.bind, Res.np, ofO, ofI, ofM, sMt, hAdd_int, hSub_int, hNeg_int, isB, hIs, hNotIs, List.getElem?_cons_zero, List.getElem?_cons_succ, List.set_cons_zero, List.set_cons_succ, if_true, if_false, decide_true, decide_false, Option.map_some, Option.map_none, Option.bind_some, Option.bind_none, Bool.false_eq_true, Bool.not_true, Bool.not_false, reduceIte, reduceCtorEq, List.length_cons, List.length_nil, List.map_cons, List.map_nil, List.replicate_zero, List.replicate_succ, Nat.reduceAdd, Nat.reduceSub, Nat.zero_add, Nat.add_zero, Nat.sub_self, List.cons_append, List.nil_append, Bool.true_and, Bool.and_true, Bool.and_false, Bool.false_and, Nat.reduceLeDiff, Nat.reduceEqDiff, forS_v, forS_c, hInt_int, hInt_bl, hAbs_int, hMax2_int, hMin2_int, hGt_int, hLt_int, hLe_int, hGe_int, hIx_t0, hIx_t1, hIx_t2, hIx_t3, mul_ok, mod_ok, fdiv_ok, hTuple_e, e3, neP, rev_es, e4]
    erw [L4_]
    simp only [sFor, sRng1, sSeq, sAsg, sIf, sIfE, sTest, sOp, sUn, sFn, sVar, sC, sCons, sNil, sTup, sLst, sNew, sNewD, sDict0, sCall, sRet, sRetN, sDrop, sPar, sPar3, sSkip, gNm, gTp, gsNil, gsCons, gSb, sAndT, sOrT, sNotT, sAndV, sOrV, sNotV, sChain, sTrue, Res.bind, Res.np, ofO, ofI, ofM, sMt, hAdd_int, hSub_int, hNeg_int, isB, hIs, hNotIs, List.getElem?_cons_zero, List.getElem?_cons_succ, List.set_cons_zero, List.set_cons_succ, if_true, if_false, decide_true, decide_false, Option.map_some, Option.map_none, Option.bind_some, Option.bind_none, Bool.false_eq_true, Bool.not_true, Bool.not_false, reduceIte, reduceCtorEq, List.length_cons, List.length_nil, List.map_cons, List.map_nil, List.replicate_zero, List.replicate_succ, Nat.reduceAdd, Nat.reduceSub, Nat.zero_add, Nat.add_zero, Nat.sub_self, List.cons_append, List.nil_append, Bool.true_and, Bool.and_true, Bool.and_false, Bool.false_and, Nat.reduceLeDiff, Nat.reduceEqDiff, forS_v, forS_c, hInt_int, hInt_bl, hAbs_int, hMax2_int, hMin2_int, hGt_int, hLt_int, hLe_int, hGe_int, hIx_t0, hIx_t1, hIx_t2, hIx_t3, mul_ok, mod_ok, fdiv_ok, hTuple_e, e5, neP, m6, e6, len_es, rn]
    erw [w]
    simp only [sSeq, sAsg, sIf, sIfE, sTest, sOp, sUn, sFn, sVar, sC, sCons, sNil, sTup, sLst, sNew, sNewD, sDict0, sCall, sRet, sRetN, sDrop, sPar, sPar3, sSkip, gNm, gTp, gsNil, gsCons, gSb, sAndT, sOrT, sNotT, sAndV, sOrV, sNotV, sChain, sTrue, Res.bind, Res.np, ofO, ofI, ofM, sMt, hAdd_int, hSub_int, hNeg_int, isB, hIs, hNotIs, List.getElem?_cons_zero, List.getElem?_cons_succ, List.set_cons_zero, List.set_cons_succ, if_true, if_false, decide_true, decide_false, Option.map_some, Option.map_none, Option.bind_some, Option.bind_none, Bool.false_eq_true, Bool.not_true, Bool.not_false, reduceIte, reduceCtorEq, List.length_cons, List.length_nil, List.map_cons, List.map_nil, List.replicate_zero, List.replicate_succ, Nat.reduceAdd, Nat.reduceSub, Nat.zero_add, Nat.add_zero, Nat.sub_self, List.cons_append, List.nil_append, Bool.true_and, Bool.and_true, Bool.and_false, Bool.false_and, Nat.reduceLeDiff, Nat.reduceEqDiff, forS_v, forS_c, hInt_int, hInt_bl, hAbs_int, hMax2_int, hMin2_int, hGt_int, hLt_int, hLe_int, hGe_int, hIx_t0, hIx_t1, hIx_t2, hIx_t3, mul_ok, mod_ok, fdiv_ok, ei, f1]
    erw [bott _ _ _ hl1]
    simp only [sSeq, sAsg, sIf, sIfE, sTest, sOp, sUn, sFn, sVar, sC, sCons, sNil, sTup, sLst, sNew, sNewD, sDict0, sCall, sRet, sRetN, sDrop, sPar, sPar3, sSkip, gNm, gTp, gsNil, gsCons, gSb, sAndT, sOrT, sNotT, sAndV, sOrV, sNotV, sChain, sTrue, Res.bind, Res.np, ofO, ofI, ofM, sMt, hAdd_int, hSub_int, hNeg_int, isB, hIs, hNotIs, List.getElem?_cons_zero, List.getElem?_cons_succ, List.set_cons_zero, List.set_cons_succ, if_true, if_false, decide_true, decide_false, Option.map_some, Option.map_none, Option.bind_some, Option.bind_none, Bool.false_eq_true, Bool.not_true, Bool.not_false, reduceIte, reduceCtorEq, List.length_cons, List.length_nil, List.map_cons, List.map_nil, List.replicate_zero, List.replicate_succ, Nat.reduceAdd, Nat.reduceSub, Nat.zero_add, Nat.add_zero, Nat.sub_self, List.cons_append, List.nil_append, Bool.true_and, Bool.and_true, Bool.and_false, Bool.false_and, Nat.reduceLeDiff, Nat.reduceEqDiff, forS_v, forS_c, hInt_int, hInt_bl, hAbs_int, hMax2_int, hMin2_int, hGt_int, hLt_int, hLe_int, hGe_int, hIx_t0, hIx_t1, hIx_t2, hIx_t3, mul_ok, mod_ok, fdiv_ok, neE]
    by_cases wp : 0 < W
    · have nW : ¬ RF es (W - 1, 1) := fun r => by
        have := LP.le (fun e h => h) Int.one_pos (show 0 ≤ W - 1 by omega) r
        have : P.1 * 1 ≤ (W - 1) * P.2 := this
        omega
      have bW0 : PB (W - 1, 1) := ⟨by show 0 ≤ W - 1; omega, by show W - 1 < _; omega, Int.one_pos, e200⟩
      have f3 := first_none V bW0 (g1 (W - 1)) nW
      simp only [sSeq, sAsg, sIf, sIfE, sTest, sOp, sUn, sFn, sVar, sC, sCons, sNil, sTup, sLst, sNew, sNewD, sDict0, sCall, sRet, sRetN, sDrop, sPar, sPar3, sSkip, gNm, gTp, gsNil, gsCons, gSb, sAndT, sOrT, sNotT, sAndV, sOrV, sNotV, sChain, sTrue, Res.bind, Res.np, ofO, ofI, ofM, sMt, hAdd_int, hSub_int, hNeg_int, isB, hIs, hNotIs, List.getElem?_cons_zero, List.getElem?_cons_succ, List.set_cons_zero, List.set_cons_succ, if_true, if_false, decide_true, decide_false, Option.map_some, Option.map_none, Option.bind_some, Option.bind_none, Bool.false_eq_true, Bool.not_true, Bool.not_false, reduceIte, reduceCtorEq, List.length_cons, List.length_nil, List.map_cons, List.map_nil, List.replicate_zero, List.replicate_succ, Nat.reduceAdd, Nat.reduceSub, Nat.zero_add, Nat.add_zero, Nat.sub_self, List.cons_append, List.nil_append, Bool.true_and, Bool.and_true, Bool.and_false, Bool.false_and, Nat.reduceLeDiff, Nat.reduceEqDiff, forS_v, forS_c, hInt_int, hInt_bl, hAbs_int, hMax2_int, hMin2_int, hGt_int, hLt_int, hLe_int, hGe_int, hIx_t0, hIx_t1, hIx_t2, hIx_t3, mul_ok, mod_ok, fdiv_ok, wp, f3]
      erw [tick _ _ _ hl1]
      simp only [sSeq, sAsg, sIf, sIfE, sTest, sOp, sUn, sFn, sVar, sC, sCons, sNil, sTup, sLst, sNew, sNewD, sDict0, sCall, sRet, sRetN, sDrop, sPar, sPar3, sSkip, gNm, gTp, gsNil, gsCons, gSb, sAndT, sOrT, sNotT, sAndV, sOrV, sNotV, sChain, sTrue, Res.bind, Res.np, ofO, ofI, ofM, sMt, hAdd_int, hSub_int, hNeg_int, isB, hIs, hNotIs, List.getElem?_cons_zero, List.getElem?_cons_succ, List.set_cons_zero, List.set_cons_succ, if_true, if_false, decide_true, decide_false, Option.map_some, Option.map_none, Option.bind_some, Option.bind_none, Bool.false_eq_true, Bool.not_true, Bool.not_false, reduceIte, reduceCtorEq, List.length_cons, List.length_nil, List.map_cons, List.map_nil, List.replicate_zero, List.replicate_succ, Nat.reduceAdd, Nat.reduceSub, Nat.zero_add, Nat.add_zero, Nat.sub_self, List.cons_append, List.nil_append, Bool.true_and, Bool.and_true, Bool.and_false, Bool.false_and, Nat.reduceLeDiff, Nat.reduceEqDiff, forS_v, forS_c, hInt_int, hInt_bl, hAbs_int, hMax2_int, hMin2_int, hGt_int, hLt_int, hLe_int, hGe_int, hIx_t0, hIx_t1, hIx_t2, hIx_t3, mul_ok, mod_ok, fdiv_ok, hTuple_l, later, r1, r2]
    · simp only [sSeq, sAsg, sIf, sIfE, sTest, sOp, sUn, sFn, sVar, sC, sCons, sNil, sTup, sLst, sNew, sNewD, sDict0, sCall, sRet, sRetN, sDrop, sPar, sPar3, sSkip, gNm, gTp, gsNil, gsCons, gSb, sAndT, sOrT, sNotT, sAndV, sOrV, sNotV, sChain, sTrue, Res.bind, Res.np, ofO, ofI, ofM, sMt, hAdd_int, hSub_int, hNeg_int, isB, hIs, hNotIs, List.getElem?_cons_zero, List.getElem?_cons_succ, List.set_cons_zero, List.set_cons_succ, if_true, if_false, decide_true, decide_false, Option.map_some, Option.map_none, Option.bind_some, Option.bind_none, Bool.false_eq_true, Bool.not_true, Bool.not_false, reduceIte, reduceCtorEq, List.length_cons, List.length_nil, List.map_cons, List.map_nil, List.replicate_zero, List.replicate_succ, Nat.reduceAdd, Nat.reduceSub, Nat.zero_add, Nat.add_zero, Nat.sub_self, List.cons_append, List.nil_append, Bool.true_and, Bool.and_true, Bool.and_false, Bool.false_and, Nat.reduceLeDiff, Nat.reduceEqDiff, forS_v, forS_c, hInt_int, hInt_bl, hAbs_int, hMax2_int, hMin2_int, hGt_int, hLt_int, hLe_int, hGe_int, hIx_t0, hIx_t1, hIx_t2, hIx_t3, mul_ok, mod_ok, fdiv_ok, wp]
      erw [tick _ _ _ hl1]
      simp only [sSeq, sAsg, sIf, sIfE, sTest, sOp, sUn, sFn, sVar, sC, sCons, sNil, sTup, sLst, sNew, sNewD, sDict0, sCall, sRet, sRetN, sDrop, sPar, sPar3, sSkip, gNm, gTp, gsNil, gsCons, gSb, sAndT, sOrT, sNotT, sAndV, sOrV, sNotV, sChain, sTrue, Res.bind, Res.np, ofO, ofI, ofM, sMt, hAdd_int, hSub_int, hNeg_int, isB, hIs, hNotIs, List.getElem?_cons_zero, List.getElem?_cons_succ, List.set_cons_zero, List.set_cons_succ, if_true, if_false, decide_true, decide_false, Option.map_some, Option.map_none, Option.bind_some, Option.bind_none, Bool.false_eq_true, Bool.not_true, Bool.not_false, reduceIte, reduceCtorEq, List.length_cons, List.length_nil, List.map_cons, List.map_nil, List.replicate_zero, List.replicate_succ, Nat.reduceAdd, Nat.reduceSub, Nat.zero_add, Nat.add_zero, Nat.sub_self, List.cons_append, List.nil_append, Bool.true_and, Bool.and_true, Bool.and_false, Bool.false_and, Nat.reduceLeDiff, Nat.reduceEqDiff, forS_v, forS_c, hInt_int, hInt_bl, hAbs_int, hMax2_int, hMin2_int, hGt_int, hLt_int, hLe_int, hGe_int, hIx_t0, hIx_t1, hIx_t2, hIx_t3, mul_ok, mod_ok, fdiv_ok, hTuple_l, later, r1, r2]
end Y

set_option maxHeartbeats 4000000
namespace Y
open PySem PySem.Spec PyProof.Rows L2 Rd
abbrev bdT4 : SS := (sIf (sNotT (sTest (sCall f__law_right (sCons (sVar 2) sNil)))) (sRet (sC (.bl false))) sSkip)
theorem turns4 {x0 x1 x4 : Option D} {c : Nat} : ∀ (ds : List D) (S : Store) (K : Nat) (x3 : Option D), Crk S c K → K + 1000 * ds.length + 3000 < 2 ^ 100 → ∃ S' y3, forV (gNm 3) bdT4 ds [x0, x1, some (.ref c), x3, x4] S = .ok (.nx [x0, x1, some (.ref c), y3, x4]) S' ∧ S.length ≤ S'.length
  | [], S, K, x3, _, _ => ⟨S, x3, rfl, Nat.le_refl _⟩
  | d :: ds, S, K, x3, h, hK => by
    rw [List.length_cons] at hK
    obtain ⟨S1, q, h1, s1⟩ := right_ok h (by omega)
    obtain ⟨S2, y3, q2, l2⟩ := turns4 (x0 := x0) (x1 := x1) (x4 := x4) ds S1 (K + 1000) (some d) h1 (by omega)
    refine ⟨S2, y3, ?_, Nat.le_trans s1.len l2⟩
    unfold forV
    simp only [bdT4, sSeq, sAsg, sIf, sIfE, sTest, sOp, sUn, sFn, sVar, sC, sCons, sNil, sTup, sLst, sNew, sNewD, sDict0, sCall, sRet, sRetN, sDrop, sPar, sPar3, sSkip, gNm, gTp, gsNil, gsCons, gSb, sAndT, sOrT, sNotT, sAndV, sOrV, sNotV, sChain, sTrue, Res.bind, Res.np, ofO, ofI, ofM, sMt, hAdd_int, hSub_int, hNeg_int, isB, hIs, hNotIs, List.getElem?_cons_zero, List.getElem?_cons_succ, List.set_cons_zero, List.set_cons_succ, if_true, if_false, decide_true, decide_false, Option.map_some, Option.map_none, Option.bind_some, Option.bind_none, Bool.false_eq_true, Bool.not_true, Bool.not_false, reduceIte, reduceCtorEq, List.length_cons, List.length_nil, List.map_cons, List.map_nil, List.replicate_zero, List.replicate_succ, Nat.reduceAdd, Nat.reduceSub, Nat.zero_add, Nat.add_zero, Nat.sub_self, List.cons_append, List.nil_append, Bool.true_and, Bool.and_true, Bool.and_false, Bool.false_and, Nat.reduceLeDiff, Nat.reduceEqDiff, forS_v, forS_c, hInt_int, hInt_bl, hAbs_int, hMax2_int, hMin2_int, hGt_int, hLt_int, hLe_int, hGe_int, hIx_t0, hIx_t1, hIx_t2, hIx_t3, mul_ok, mod_ok, fdiv_ok, q] at q2 ⊢
    exact q2
abbrev bdS : SS := (sSeq (sAsg (sCall f__law_crock (sCons (sVar 0) (sCons (sVar 1) sNil))) (gNm 2))
    (sFor 100000 (sRng1 (sCons (sC (.int 4)) sNil)) (gNm 3)
    (sIf (sNotT (sTest (sCall f__law_right (sCons (sVar 2) sNil)))) (sRet (sC (.bl false))) sSkip)))
theorem spots {ns : List Int} {x4 : Option D} : ∀ (ds : List Nat) (S : Store) (x1 x2 x3 : Option D), (∀ i ∈ ds, i ≤ 100) → ∃ S' y1 y2 y3, forV (gNm 1) bdS (natsD ds) [some (.scr ns), x1, x2, x3, x4] S = .ok (.nx [some (.scr ns), y1, y2, y3, x4]) S'
  | [], S, x1, x2, x3, _ => ⟨S, x1, x2, x3, rfl⟩
  | i :: ds, S, x1, x2, x3, hi => by
    obtain ⟨S1, q1, h1, l1, s1⟩ := crock_ok (S := S) (ns := ns) (hi i (by simp))
    obtain ⟨S2, y3, q2, l2⟩ := turns4 (x0 := some (.scr ns)) (x1 := some (.int (i : Int))) (x4 := x4) (intsD 0 4) S1 0 x3 h1 (by decide +kernel)
    obtain ⟨S3, z1, z2, z3, q3⟩ := spots (ns := ns) (x4 := x4) ds S2 (some (.int (i : Int))) (some (.ref S.length)) y3 (fun j hj => hi j (by simp [hj]))
    refine ⟨S3, z1, z2, z3, ?_⟩
    show forV (gNm 1) bdS (.int (i : Int) :: natsD ds) _ _ = _
    unfold forV
    simp only [bdS, sSeq, sAsg, sCall, sCons, sNil, sVar, gNm, sFor, sRng1, sC, Res.bind, ofI, range4, forS_v, List.set_cons_zero, List.set_cons_succ, List.getElem?_cons_zero, List.getElem?_cons_succ, q1] at q3 ⊢
    erw [q2]
    exact q3
theorem wheel_ok {S : Store} : f_least_period [.int 3, .tup [.tup [.int 0, .int 1, .int 2, .int 1], .tup [.int 1, .int 2, .int 2, .int 1], .tup [.int 2, .int 0, .int 3, .int 0], .tup [.int 2, .int 2, .int 3, .int 1]]] S = .ok (dP (7, 2)) S := by
  refine least_is (many := 3) (es := [⟨0, 1, 2, 1⟩, ⟨1, 2, 2, 1⟩, ⟨2, 0, 3, 0⟩, ⟨2, 2, 3, 1⟩]) ⟨by decide, by decide, by decide, by decide, by decide⟩ ⟨by decide, by decide, by decide, ?_, .inr ⟨[⟨0, 1, 2, 1⟩, ⟨1, 2, 2, 1⟩, ⟨2, 0, 3, 0⟩], ⟨by decide, by decide⟩, by decide, by decide⟩⟩ S
  -- times: 0, and what follows
  refine ⟨2, fun v => if v = 0 then 6 else if v = 1 then 3 else 0, by decide, (fun v => by
    show (0 : Int) ≤ if v = 0 then 6 else if v = 1 then 3 else 0
    split
    · decide
    · split <;> decide), by decide⟩
theorem line_ok {S : Store} : f_least_period [.int 3, .tup [.tup [.int 0, .int 1, .int 7, .int 0], .tup [.int 1, .int 2, .int 9, .int 0]]] S = .ok (dP (0, 1)) S := by
  refine least_is (many := 3) (es := [⟨0, 1, 7, 0⟩, ⟨1, 2, 9, 0⟩]) ⟨by decide, by decide, by decide, by decide, by decide⟩ ⟨by decide, by decide, by decide, ?_, .inl rfl⟩ S
  refine ⟨1, fun v => if v = 0 then 0 else if v = 1 then 7 else 16, by decide, (fun v => by
    show (0 : Int) ≤ if v = 0 then 0 else if v = 1 then 7 else 16
    split
    · decide
    · split <;> decide), by decide⟩
theorem law_true : ∀ ns : List Int, ns.length ≤ 63 → f_law [.scr ns] [] = .ok (.bl true) [] := fun ns hl => by
  obtain ⟨k, hk, hk3⟩ : ∃ k : Nat, (if (if (ns.length : Int) < 3 then (ns.length : Int) else 3) > 1 then (if (ns.length : Int) < 3 then (ns.length : Int) else 3) else 1) = (k : Int) ∧ k ≤ 3 := by
    refine ⟨(if (if (ns.length : Int) < 3 then (ns.length : Int) else 3) > 1 then (if (ns.length : Int) < 3 then (ns.length : Int) else 3) else 1 : Int).toNat, ?_, ?_⟩ <;> (split <;> split <;> omega)
  obtain ⟨S', y1, y2, y3, q⟩ := spots (ns := ns) (x4 := none) (List.range k) [] none none none (fun i hi => by have := List.mem_range.mp hi; omega)
  have i1 : ∀ S : Store, hLen S [.scr ns] = some (.int (ns.length : Int)) := fun S => by simp [hLen, one1]
  have rk := range_n (n := k) (by omega)
  refine mkP_d rfl rfl (S' := S') rfl ?_
  have t1 := eq_dP (S := S') (P := (7, 2)) (Q := (7, 2))
  have t2 := eq_dP (S := S') (P := (0, 1)) (Q := (0, 1))
  simp only [b_law, sFor, sRng1, sSeq, sAsg, sIf, sIfE, sTest, sOp, sUn, sFn, sVar, sC, sCons, sNil, sTup, sLst, sNew, sNewD, sDict0, sCall, sRet, sRetN, sDrop, sPar, sPar3, sSkip, gNm, gTp, gsNil, gsCons, gSb, sAndT, sOrT, sNotT, sAndV, sOrV, sNotV, sChain, sTrue, Res.bind, Res.np, ofO, ofI, ofM, sMt, hAdd_int, hSub_int, hNeg_int, isB, hIs, hNotIs, List.getElem?_cons_zero, List.getElem?_cons_succ, List.set_cons_zero, List.set_cons_succ, if_true, if_false, decide_true, decide_false, Option.map_some, Option.map_none, Option.bind_some, Option.bind_none, Bool.false_eq_true, Bool.not_true, Bool.not_false, reduceIte, reduceCtorEq, List.length_cons, List.length_nil, List.map_cons, List.map_nil, List.replicate_zero, List.replicate_succ, Nat.reduceAdd, Nat.reduceSub, Nat.zero_add, Nat.add_zero, Nat.sub_self, List.cons_append, List.nil_append, Bool.true_and, Bool.and_true, Bool.and_false, Bool.false_and, Nat.reduceLeDiff, Nat.reduceEqDiff, forS_v, forS_c, hInt_int, hInt_bl, hAbs_int, hMax2_int, hMin2_int, hGt_int, hLt_int, hLe_int, hGe_int, hIx_t0, hIx_t1, hIx_t2, hIx_t3, mul_ok, mod_ok, fdiv_ok, i1, hk, rk]
  erw [q]
  simp only [sSeq, sAsg, sIf, sIfE, sTest, sOp, sUn, sFn, sVar, sC, sCons, sNil, sTup, sLst, sNew, sNewD, sDict0, sCall, sRet, sRetN, sDrop, sPar, sPar3, sSkip, gNm, gTp, gsNil, gsCons, gSb, sAndT, sOrT, sNotT, sAndV, sOrV, sNotV, sChain, sTrue, Res.bind, Res.np, ofO, ofI, ofM, sMt, hAdd_int, hSub_int, hNeg_int, isB, hIs, hNotIs, List.getElem?_cons_zero, List.getElem?_cons_succ, List.set_cons_zero, List.set_cons_succ, if_true, if_false, decide_true, decide_false, Option.map_some, Option.map_none, Option.bind_some, Option.bind_none, Bool.false_eq_true, Bool.not_true, Bool.not_false, reduceIte, reduceCtorEq, List.length_cons, List.length_nil, List.map_cons, List.map_nil, List.replicate_zero, List.replicate_succ, Nat.reduceAdd, Nat.reduceSub, Nat.zero_add, Nat.add_zero, Nat.sub_self, List.cons_append, List.nil_append, Bool.true_and, Bool.and_true, Bool.and_false, Bool.false_and, Nat.reduceLeDiff, Nat.reduceEqDiff, forS_v, forS_c, hInt_int, hInt_bl, hAbs_int, hMax2_int, hMin2_int, hGt_int, hLt_int, hLe_int, hGe_int, hIx_t0, hIx_t1, hIx_t2, hIx_t3, mul_ok, mod_ok, fdiv_ok]
  erw [wheel_ok]
  simp only [sSeq, sAsg, sIf, sIfE, sTest, sOp, sUn, sFn, sVar, sC, sCons, sNil, sTup, sLst, sNew, sNewD, sDict0, sCall, sRet, sRetN, sDrop, sPar, sPar3, sSkip, gNm, gTp, gsNil, gsCons, gSb, sAndT, sOrT, sNotT, sAndV, sOrV, sNotV, sChain, sTrue, Res.bind, Res.np, ofO, ofI, ofM, sMt, hAdd_int, hSub_int, hNeg_int, isB, hIs, hNotIs, List.getElem?_cons_zero, List.getElem?_cons_succ, List.set_cons_zero, List.set_cons_succ, if_true, if_false, decide_true, decide_false, Option.map_some, Option.map_none, Option.bind_some, Option.bind_none, Bool.false_eq_true, Bool.not_true, Bool.not_false, reduceIte, reduceCtorEq, List.length_cons, List.length_nil, List.map_cons, List.map_nil, List.replicate_zero, List.replicate_succ, Nat.reduceAdd, Nat.reduceSub, Nat.zero_add, Nat.add_zero, Nat.sub_self, List.cons_append, List.nil_append, Bool.true_and, Bool.and_true, Bool.and_false, Bool.false_and, Nat.reduceLeDiff, Nat.reduceEqDiff, forS_v, forS_c, hInt_int, hInt_bl, hAbs_int, hMax2_int, hMin2_int, hGt_int, hLt_int, hLe_int, hGe_int, hIx_t0, hIx_t1, hIx_t2, hIx_t3, mul_ok, mod_ok, fdiv_ok, t1]
  erw [line_ok]
  simp only [sSeq, sAsg, sIf, sIfE, sTest, sOp, sUn, sFn, sVar, sC, sCons, sNil, sTup, sLst, sNew, sNewD, sDict0, sCall, sRet, sRetN, sDrop, sPar, sPar3, sSkip, gNm, gTp, gsNil, gsCons, gSb, sAndT, sOrT, sNotT, sAndV, sOrV, sNotV, sChain, sTrue, Res.bind, Res.np, ofO, ofI, ofM, sMt, hAdd_int, hSub_int, hNeg_int, isB, hIs, hNotIs, List.getElem?_cons_zero, List.getElem?_cons_succ, List.set_cons_zero, List.set_cons_succ, if_true, if_false, decide_true, decide_false, Option.map_some, Option.map_none, Option.bind_some, Option.bind_none, Bool.false_eq_true, Bool.not_true, Bool.not_false, reduceIte, reduceCtorEq, List.length_cons, List.length_nil, List.map_cons, List.map_nil, List.replicate_zero, List.replicate_succ, Nat.reduceAdd, Nat.reduceSub, Nat.zero_add, Nat.add_zero, Nat.sub_self, List.cons_append, List.nil_append, Bool.true_and, Bool.and_true, Bool.and_false, Bool.false_and, Nat.reduceLeDiff, Nat.reduceEqDiff, forS_v, forS_c, hInt_int, hInt_bl, hAbs_int, hMax2_int, hMin2_int, hGt_int, hLt_int, hLe_int, hGe_int, hIx_t0, hIx_t1, hIx_t2, hIx_t3, mul_ok, mod_ok, fdiv_ok, t2]
end Y

set_option maxHeartbeats 2000000
namespace Y
open PySem PySem.Spec PyProof.Rows L2
def topS (i : Nat) : Stmt := PySem.Challenge.pw_loadwide_k57_whole_periods_by_many_roads.main.body.getD i (.Pass ⟨0, 0, 0, 0⟩)
abbrev s_shared_of : Stmt := topS 6
abbrev n_shared_of : List Str := ["one", "other"]
theorem sc_shared_of : FnScope n_shared_of ["one", "other"] (defScope s_shared_of) := ⟨rfl, rfl, rfl, by decide +kernel, rfl, by decide +kernel, by decide +kernel⟩
abbrev s_lowest : Stmt := topS 7
abbrev n_lowest : List Str := ["top", "bottom", "part"]
theorem sc_lowest : FnScope n_lowest ["top", "bottom"] (defScope s_lowest) := ⟨rfl, rfl, rfl, by decide +kernel, rfl, by decide +kernel, by decide +kernel⟩
abbrev s_plus : Stmt := topS 8
abbrev n_plus : List Str := ["one", "other"]
theorem sc_plus : FnScope n_plus ["one", "other"] (defScope s_plus) := ⟨rfl, rfl, rfl, by decide +kernel, rfl, by decide +kernel, by decide +kernel⟩
abbrev s_times : Stmt := topS 9
abbrev n_times : List Str := ["one", "other"]
theorem sc_times : FnScope n_times ["one", "other"] (defScope s_times) := ⟨rfl, rfl, rfl, by decide +kernel, rfl, by decide +kernel, by decide +kernel⟩
abbrev s_is_under : Stmt := topS 10
abbrev n_is_under : List Str := ["one", "other"]
theorem sc_is_under : FnScope n_is_under ["one", "other"] (defScope s_is_under) := ⟨rfl, rfl, rfl, by decide +kernel, rfl, by decide +kernel, by decide +kernel⟩
abbrev s_is_fraction : Stmt := topS 11
abbrev n_is_fraction : List Str := ["value", "part"]
theorem sc_is_fraction : FnScope n_is_fraction ["value"] (defScope s_is_fraction) := ⟨rfl, rfl, rfl, by decide +kernel, rfl, by decide +kernel, by decide +kernel⟩
abbrev s_is_count_within : Stmt := topS 19
abbrev n_is_count_within : List Str := ["value", "low", "high"]
theorem sc_is_count_within : FnScope n_is_count_within ["value", "low", "high"] (defScope s_is_count_within) := ⟨rfl, rfl, rfl, by decide +kernel, rfl, by decide +kernel, by decide +kernel⟩
abbrev s_gain_of : Stmt := topS 20
abbrev n_gain_of : List Str := ["edge", "period"]
theorem sc_gain_of : FnScope n_gain_of ["edge", "period"] (defScope s_gain_of) := ⟨rfl, rfl, rfl, by decide +kernel, rfl, by decide +kernel, by decide +kernel⟩
abbrev s_raised_once : Stmt := topS 21
abbrev n_raised_once : List Str := ["edges", "period", "heights", "ways", "is_raised", "index", "edge", "height"]
theorem sc_raised_once : FnScope n_raised_once ["edges", "period", "heights", "ways"] (defScope s_raised_once) := ⟨rfl, rfl, rfl, by decide +kernel, rfl, by decide +kernel, by decide +kernel⟩
abbrev s_ring_behind : Stmt := topS 22
abbrev n_ring_behind : List Str := ["edges", "ways", "task", "met", "found"]
theorem sc_ring_behind : FnScope n_ring_behind ["edges", "ways", "task"] (defScope s_ring_behind) := ⟨rfl, rfl, rfl, by decide +kernel, rfl, by decide +kernel, by decide +kernel⟩
abbrev s_ring_if_closed : Stmt := topS 24
abbrev n_ring_if_closed : List Str := ["edges", "ways", "task", "here", "turn"]
theorem sc_ring_if_closed : FnScope n_ring_if_closed ["edges", "ways", "task"] (defScope s_ring_if_closed) := ⟨rfl, rfl, rfl, by decide +kernel, rfl, by decide +kernel, by decide +kernel⟩
abbrev s_heights_or_ring : Stmt := topS 23
abbrev n_heights_or_ring : List Str := ["many", "edges", "period", "heights", "ways", "turn", "task", "ring"]
theorem sc_heights_or_ring : FnScope n_heights_or_ring ["many", "edges", "period"] (defScope s_heights_or_ring) := ⟨rfl, rfl, rfl, by decide +kernel, rfl, by decide +kernel, by decide +kernel⟩
abbrev s_numbers_of_ring : Stmt := topS 25
abbrev n_numbers_of_ring : List Str := ["edges", "ring", "index"]
theorem sc_numbers_of_ring : FnScope n_numbers_of_ring ["edges", "ring"] (defScope s_numbers_of_ring) := ⟨rfl, rfl, rfl, by decide +kernel, rfl, by decide +kernel, by decide +kernel⟩
abbrev s_told_period : Stmt := topS 26
abbrev n_told_period : List Str := ["many", "edges", "period", "ring", "heights", "found", "length", "turns"]
theorem sc_told_period : FnScope n_told_period ["many", "edges"] (defScope s_told_period) := ⟨rfl, rfl, rfl, by decide +kernel, rfl, by decide +kernel, by decide +kernel⟩
abbrev s_begins_by : Stmt := topS 27
abbrev n_begins_by : List Str := ["heights", "period", "height"]
theorem sc_begins_by : FnScope n_begins_by ["heights", "period"] (defScope s_begins_by) := ⟨rfl, rfl, rfl, by decide +kernel, rfl, by decide +kernel, by decide +kernel⟩
abbrev s_are_begins : Stmt := topS 28
abbrev n_are_begins : List Str := ["many", "edges", "period", "value", "begin", "end", "length", "turns", "late", "one"]
theorem sc_are_begins : FnScope n_are_begins ["many", "edges", "period", "value"] (defScope s_are_begins) := ⟨rfl, rfl, rfl, by decide +kernel, rfl, by decide +kernel, by decide +kernel⟩
abbrev s_is_round_edge : Stmt := topS 29
abbrev n_is_round_edge : List Str := ["many", "value"]
theorem sc_is_round_edge : FnScope n_is_round_edge ["many", "value"] (defScope s_is_round_edge) := ⟨rfl, rfl, rfl, by decide +kernel, rfl, by decide +kernel, by decide +kernel⟩
abbrev s_require_edges : Stmt := topS 30
abbrev n_require_edges : List Str := ["many", "edges", "edge"]
theorem sc_require_edges : FnScope n_require_edges ["many", "edges"] (defScope s_require_edges) := ⟨rfl, rfl, rfl, by decide +kernel, rfl, by decide +kernel, by decide +kernel⟩
abbrev s_require_period : Stmt := topS 31
abbrev n_require_period : List Str := ["many", "edges", "period"]
theorem sc_require_period : FnScope n_require_period ["many", "edges", "period"] (defScope s_require_period) := ⟨rfl, rfl, rfl, by decide +kernel, rfl, by decide +kernel, by decide +kernel⟩
abbrev s_is_begins : Stmt := topS 32
abbrev n_is_begins : List Str := ["many", "edges", "period", "value"]
theorem sc_is_begins : FnScope n_is_begins ["many", "edges", "period", "value"] (defScope s_is_begins) := ⟨rfl, rfl, rfl, by decide +kernel, rfl, by decide +kernel, by decide +kernel⟩
abbrev s_first_begins : Stmt := topS 33
abbrev n_first_begins : List Str := ["many", "edges", "period", "heights", "ring"]
theorem sc_first_begins : FnScope n_first_begins ["many", "edges", "period"] (defScope s_first_begins) := ⟨rfl, rfl, rfl, by decide +kernel, rfl, by decide +kernel, by decide +kernel⟩
abbrev s_least_period : Stmt := topS 34
abbrev n_least_period : List Str := ["many", "edges"]
theorem sc_least_period : FnScope n_least_period ["many", "edges"] (defScope s_least_period) := ⟨rfl, rfl, rfl, by decide +kernel, rfl, by decide +kernel, by decide +kernel⟩
abbrev s_least_integer_period : Stmt := topS 35
abbrev n_least_integer_period : List Str := ["many", "edges", "period"]
theorem sc_least_integer_period : FnScope n_least_integer_period ["many", "edges"] (defScope s_least_integer_period) := ⟨rfl, rfl, rfl, by decide +kernel, rfl, by decide +kernel, by decide +kernel⟩
abbrev s__law_crock : Stmt := topS 37
abbrev n__law_crock : List Str := ["script", "spot", "cell", "great"]
theorem sc__law_crock : FnScope n__law_crock ["script", "spot"] (defScope s__law_crock) := ⟨rfl, rfl, rfl, by decide +kernel, rfl, by decide +kernel, by decide +kernel⟩
abbrev s__law_ladle : Stmt := topS 38
abbrev n__law_ladle : List Str := ["crock", "total", "found", "one", "two"]
theorem sc__law_ladle : FnScope n__law_ladle ["crock", "total"] (defScope s__law_ladle) := ⟨rfl, rfl, rfl, by decide +kernel, rfl, by decide +kernel, by decide +kernel⟩
abbrev s__law_pick_of : Stmt := topS 39
abbrev n__law_pick_of : List Str := ["crock", "items"]
theorem sc__law_pick_of : FnScope n__law_pick_of ["crock", "items"] (defScope s__law_pick_of) := ⟨rfl, rfl, rfl, by decide +kernel, rfl, by decide +kernel, by decide +kernel⟩
abbrev s__law_edges : Stmt := topS 40
abbrev n__law_edges : List Str := ["crock", "many", "most", "found", "turned", "edge", "one", "other", "turns"]
theorem sc__law_edges : FnScope n__law_edges ["crock", "many", "most"] (defScope s__law_edges) := ⟨rfl, rfl, rfl, by decide +kernel, rfl, by decide +kernel, by decide +kernel⟩
abbrev s__law_lowest : Stmt := topS 41
abbrev n__law_lowest : List Str := ["top", "bottom", "a", "b"]
theorem sc__law_lowest : FnScope n__law_lowest ["top", "bottom"] (defScope s__law_lowest) := ⟨rfl, rfl, rfl, by decide +kernel, rfl, by decide +kernel, by decide +kernel⟩
abbrev s__law_times : Stmt := topS 42
abbrev n__law_times : List Str := ["period", "number"]
theorem sc__law_times : FnScope n__law_times ["period", "number"] (defScope s__law_times) := ⟨rfl, rfl, rfl, by decide +kernel, rfl, by decide +kernel, by decide +kernel⟩
abbrev s__law_over : Stmt := topS 43
abbrev n__law_over : List Str := ["one", "other"]
theorem sc__law_over : FnScope n__law_over ["one", "other"] (defScope s__law_over) := ⟨rfl, rfl, rfl, by decide +kernel, rfl, by decide +kernel, by decide +kernel⟩
abbrev s__law_rounds_right : Stmt := topS 44
abbrev n__law_rounds_right : List Str := ["crock", "many", "edges", "period", "begins", "one", "other", "length", "turns", "at", "a", "b", "c", "d", "e", "f", "early", "late", "task", "ties"]
theorem sc__law_rounds_right : FnScope n__law_rounds_right ["crock", "many", "edges", "period"] (defScope s__law_rounds_right) := ⟨rfl, rfl, rfl, by decide +kernel, rfl, by decide +kernel, by decide +kernel⟩
abbrev s__law_right : Stmt := topS 45
abbrev n__law_right : List Str := ["crock", "many", "edges", "due", "number", "longer", "spread", "back", "renamed", "at", "whole", "begins", "later", "bottom", "length", "one", "other", "top", "turns"]
theorem sc__law_right : FnScope n__law_right ["crock"] (defScope s__law_right) := ⟨rfl, rfl, rfl, by decide +kernel, rfl, by decide +kernel, by decide +kernel⟩
abbrev s_law : Stmt := topS 46
abbrev n_law : List Str := ["script", "spot", "crock", "turn", "wheel"]
theorem sc_law : FnScope n_law ["script"] (defScope s_law) := ⟨rfl, rfl, rfl, by decide +kernel, rfl, by decide +kernel, by decide +kernel⟩
structure Facts (K : PySem.W.Frag) (mg : Str → Option Value) : Prop where
  z_abs : mg "abs" = none
  z_all : mg "all" = none
  z_bool : mg "bool" = none
  z_enumerate : mg "enumerate" = none
  z_int : mg "int" = none
  z_isinstance : mg "isinstance" = none
  z_len : mg "len" = none
  z_max : mg "max" = none
  z_min : mg "min" = none
  z_range : mg "range" = none
  z_sorted : mg "sorted" = none
  z_sum : mg "sum" = none
  z_tuple : mg "tuple" = none
  c_EDGE_SIZE : GK K mg "EDGE_SIZE" (.int 4)
  c_MOST_EDGES : GK K mg "MOST_EDGES" (.int 20)
  c_MOST_EDGE_LENGTH : GK K mg "MOST_EDGE_LENGTH" (.int 99)
  c_MOST_ROUND_TASKS : GK K mg "MOST_ROUND_TASKS" (.int 8)
  c_MOST_TURNS : GK K mg "MOST_TURNS" (.int 9)
  c_NOUGHT : GK K mg "NOUGHT" (.tup [(.int 0), (.int 1)])
  h_shared_of : Here K mg "shared_of" s_shared_of ["one", "other"]
  h_lowest : Here K mg "lowest" s_lowest ["top", "bottom"]
  h_plus : Here K mg "plus" s_plus ["one", "other"]
  h_times : Here K mg "times" s_times ["one", "other"]
  h_is_under : Here K mg "is_under" s_is_under ["one", "other"]
  h_is_fraction : Here K mg "is_fraction" s_is_fraction ["value"]
  h_is_count_within : Here K mg "is_count_within" s_is_count_within ["value", "low", "high"]
  h_gain_of : Here K mg "gain_of" s_gain_of ["edge", "period"]
  h_raised_once : Here K mg "raised_once" s_raised_once ["edges", "period", "heights", "ways"]
  h_ring_behind : Here K mg "ring_behind" s_ring_behind ["edges", "ways", "task"]
  h_ring_if_closed : Here K mg "ring_if_closed" s_ring_if_closed ["edges", "ways", "task"]
  h_heights_or_ring : Here K mg "heights_or_ring" s_heights_or_ring ["many", "edges", "period"]
  h_numbers_of_ring : Here K mg "numbers_of_ring" s_numbers_of_ring ["edges", "ring"]
  h_told_period : Here K mg "told_period" s_told_period ["many", "edges"]
  h_begins_by : Here K mg "begins_by" s_begins_by ["heights", "period"]
  h_are_begins : Here K mg "are_begins" s_are_begins ["many", "edges", "period", "value"]
  h_is_round_edge : Here K mg "is_round_edge" s_is_round_edge ["many", "value"]
  h_require_edges : Here K mg "require_edges" s_require_edges ["many", "edges"]
  h_require_period : Here K mg "require_period" s_require_period ["many", "edges", "period"]
  h_is_begins : Here K mg "is_begins" s_is_begins ["many", "edges", "period", "value"]
  h_first_begins : Here K mg "first_begins" s_first_begins ["many", "edges", "period"]
  h_least_period : Here K mg "least_period" s_least_period ["many", "edges"]
  h_least_integer_period : Here K mg "least_integer_period" s_least_integer_period ["many", "edges"]
  h__law_crock : Here K mg "_law_crock" s__law_crock ["script", "spot"]
  h__law_ladle : Here K mg "_law_ladle" s__law_ladle ["crock", "total"]
  h__law_pick_of : Here K mg "_law_pick_of" s__law_pick_of ["crock", "items"]
  h__law_edges : Here K mg "_law_edges" s__law_edges ["crock", "many", "most"]
  h__law_lowest : Here K mg "_law_lowest" s__law_lowest ["top", "bottom"]
  h__law_times : Here K mg "_law_times" s__law_times ["period", "number"]
  h__law_over : Here K mg "_law_over" s__law_over ["one", "other"]
  h__law_rounds_right : Here K mg "_law_rounds_right" s__law_rounds_right ["crock", "many", "edges", "period"]
  h__law_right : Here K mg "_law_right" s__law_right ["crock"]
  h_law : Here K mg "law" s_law ["script"]
theorem w_shared_of {P : Program} {w : World} {K : PySem.W.Frag} {mg : Str → Option Value} {base : Heap} (Φ : Facts K mg) (f : Addr) (cdv : Value) (A : Around) (outer : List PySem.Env) (s : Shared) (H : Hp) (E : XK) (hr : Room 0 (A.deeper (envOfC "shared_of" (defScope s_shared_of) s.heap.objs.size f cdv)))
    (G : Gd (cxOf (L2.CX P w) P w K mg base n_shared_of "shared_of" (defScope s_shared_of) f cdv A outer s H E) (fun c d _ H => E c d H)) :
    PSsy (cxOf (L2.CX P w) P w K mg base n_shared_of "shared_of" (defScope s_shared_of) f cdv A outer s H E) (fun c d _ H => E c d H) (defBody s_shared_of) b_shared_of :=
  (pssy_cons (psy_par (i := 0) (j := 1) G (pay_cons (py_bi cry_abs boot_abs Φ.z_abs (pay_cons (py_var 0) pay_nil)) (pay_cons (py_bi cry_abs boot_abs Φ.z_abs (pay_cons (py_var 1) pay_nil)) pay_nil)))
    (pssy_cons (psy_while 4000 G (pty_cmp opy_gt (py_var 1) py_int (by rfl)) (pssy_one (psy_par (i := 0) (j := 1) G (pay_cons (py_var 1) (pay_cons (py_op opy_mod (py_var 0) (py_var 1)) pay_nil)))))
    (pssy_one (psy_ret (py_var 0)))))
theorem c_shared_of {P : Program} {w : World} {K : PySem.W.Frag} {mg : Str → Option Value} {base : Heap} (Φ : Facts K mg) : Callee P w K mg base 1 "shared_of" 2 f_shared_of := call_p Φ.h_shared_of sc_shared_of rfl rfl rfl (w_shared_of Φ)
theorem w_lowest {P : Program} {w : World} {K : PySem.W.Frag} {mg : Str → Option Value} {base : Heap} (Φ : Facts K mg) (f : Addr) (cdv : Value) (A : Around) (outer : List PySem.Env) (s : Shared) (H : Hp) (E : XK) (hr : Room 1 (A.deeper (envOfC "lowest" (defScope s_lowest) s.heap.objs.size f cdv)))
    (G : Gd (cxOf (L2.CX P w) P w K mg base n_lowest "lowest" (defScope s_lowest) f cdv A outer s H E) (fun c d _ H => E c d H)) :
    PSsy (cxOf (L2.CX P w) P w K mg base n_lowest "lowest" (defScope s_lowest) f cdv A outer s H E) (fun c d _ H => E c d H) (defBody s_lowest) b_lowest :=
  (pssy_cons (psy_set (i := 2) G (py_ifE (pty_cmp opy_gt (py_var 1) py_int (by rfl)) (py_call (c_shared_of Φ) ar_shared_of rfl rfl rfl rfl rfl (hr.mono (by decide)) G.tk (pay_cons (py_var 0) (pay_cons (py_var 1) pay_nil))) (py_un uny_neg (py_call (c_shared_of Φ) ar_shared_of rfl rfl rfl rfl rfl (hr.mono (by decide)) G.tk (pay_cons (py_var 0) (pay_cons (py_var 1) pay_nil))))))
    (pssy_one (psy_ret (py_tup (pay_cons (py_op opy_fdiv (py_var 0) (py_var 2)) (pay_cons (py_op opy_fdiv (py_var 1) (py_var 2)) pay_nil))))))
theorem c_lowest {P : Program} {w : World} {K : PySem.W.Frag} {mg : Str → Option Value} {base : Heap} (Φ : Facts K mg) : Callee P w K mg base 2 "lowest" 2 f_lowest := call_p Φ.h_lowest sc_lowest rfl rfl rfl (w_lowest Φ)
theorem w_plus {P : Program} {w : World} {K : PySem.W.Frag} {mg : Str → Option Value} {base : Heap} (Φ : Facts K mg) (f : Addr) (cdv : Value) (A : Around) (outer : List PySem.Env) (s : Shared) (H : Hp) (E : XK) (hr : Room 2 (A.deeper (envOfC "plus" (defScope s_plus) s.heap.objs.size f cdv)))
    (G : Gd (cxOf (L2.CX P w) P w K mg base n_plus "plus" (defScope s_plus) f cdv A outer s H E) (fun c d _ H => E c d H)) :
    PSsy (cxOf (L2.CX P w) P w K mg base n_plus "plus" (defScope s_plus) f cdv A outer s H E) (fun c d _ H => E c d H) (defBody s_plus) b_plus :=
  (pssy_one (psy_ret (py_call (c_lowest Φ) ar_lowest rfl rfl rfl rfl rfl (hr.mono (by decide)) G.tk (pay_cons (py_op opy_add (py_op opy_mul (py_ix hr.units (py_var 0) py_int) (py_ix hr.units (py_var 1) py_int)) (py_op opy_mul (py_ix hr.units (py_var 1) py_int) (py_ix hr.units (py_var 0) py_int))) (pay_cons (py_op opy_mul (py_ix hr.units (py_var 0) py_int) (py_ix hr.units (py_var 1) py_int)) pay_nil)))))
theorem c_plus {P : Program} {w : World} {K : PySem.W.Frag} {mg : Str → Option Value} {base : Heap} (Φ : Facts K mg) : Callee P w K mg base 3 "plus" 2 f_plus := call_p Φ.h_plus sc_plus rfl rfl rfl (w_plus Φ)
theorem w_times {P : Program} {w : World} {K : PySem.W.Frag} {mg : Str → Option Value} {base : Heap} (Φ : Facts K mg) (f : Addr) (cdv : Value) (A : Around) (outer : List PySem.Env) (s : Shared) (H : Hp) (E : XK) (hr : Room 2 (A.deeper (envOfC "times" (defScope s_times) s.heap.objs.size f cdv)))
    (G : Gd (cxOf (L2.CX P w) P w K mg base n_times "times" (defScope s_times) f cdv A outer s H E) (fun c d _ H => E c d H)) :
    PSsy (cxOf (L2.CX P w) P w K mg base n_times "times" (defScope s_times) f cdv A outer s H E) (fun c d _ H => E c d H) (defBody s_times) b_times :=
  (pssy_one (psy_ret (py_call (c_lowest Φ) ar_lowest rfl rfl rfl rfl rfl (hr.mono (by decide)) G.tk (pay_cons (py_op opy_mul (py_ix hr.units (py_var 0) py_int) (py_ix hr.units (py_var 1) py_int)) (pay_cons (py_op opy_mul (py_ix hr.units (py_var 0) py_int) (py_ix hr.units (py_var 1) py_int)) pay_nil)))))
theorem c_times {P : Program} {w : World} {K : PySem.W.Frag} {mg : Str → Option Value} {base : Heap} (Φ : Facts K mg) : Callee P w K mg base 3 "times" 2 f_times := call_p Φ.h_times sc_times rfl rfl rfl (w_times Φ)
theorem w_is_under {P : Program} {w : World} {K : PySem.W.Frag} {mg : Str → Option Value} {base : Heap} (Φ : Facts K mg) (f : Addr) (cdv : Value) (A : Around) (outer : List PySem.Env) (s : Shared) (H : Hp) (E : XK) (hr : Room 0 (A.deeper (envOfC "is_under" (defScope s_is_under) s.heap.objs.size f cdv)))
    (G : Gd (cxOf (L2.CX P w) P w K mg base n_is_under "is_under" (defScope s_is_under) f cdv A outer s H E) (fun c d _ H => E c d H)) :
    PSsy (cxOf (L2.CX P w) P w K mg base n_is_under "is_under" (defScope s_is_under) f cdv A outer s H E) (fun c d _ H => E c d H) (defBody s_is_under) b_is_under :=
  (pssy_one (psy_ret (py_cmp opy_lt (py_op opy_mul (py_ix hr.units (py_var 0) py_int) (py_ix hr.units (py_var 1) py_int)) (py_op opy_mul (py_ix hr.units (py_var 1) py_int) (py_ix hr.units (py_var 0) py_int)) (by rfl))))
theorem c_is_under {P : Program} {w : World} {K : PySem.W.Frag} {mg : Str → Option Value} {base : Heap} (Φ : Facts K mg) : Callee P w K mg base 1 "is_under" 2 f_is_under := call_p Φ.h_is_under sc_is_under rfl rfl rfl (w_is_under Φ)
theorem w_is_fraction {P : Program} {w : World} {K : PySem.W.Frag} {mg : Str → Option Value} {base : Heap} (Φ : Facts K mg) (f : Addr) (cdv : Value) (A : Around) (outer : List PySem.Env) (s : Shared) (H : Hp) (E : XK) (hr : Room 2 (A.deeper (envOfC "is_fraction" (defScope s_is_fraction) s.heap.objs.size f cdv)))
    (G : Gd (cxOf (L2.CX P w) P w K mg base n_is_fraction "is_fraction" (defScope s_is_fraction) f cdv A outer s H E) (fun c d _ H => E c d H)) :
    PSsy (cxOf (L2.CX P w) P w K mg base n_is_fraction "is_fraction" (defScope s_is_fraction) f cdv A outer s H E) (fun c d _ H => E c d H) (defBody s_is_fraction) b_is_fraction :=
  (pssy_cons (psy_if (pty_bool (pwy_or (pty_not (pty_val (py_bi cry_isi boot_isinstance Φ.z_isinstance (pay_cons (py_var 0) (pay_cons (py_ty Φ.z_tuple (hv := boot_tuple)) pay_nil))))) (pwy_or1 (pty_cmp (opy_ne hr.units) (py_bi cry_len boot_len Φ.z_len (pay_cons (py_var 0) pay_nil)) py_int (by rfl))))) (pssy_one (psy_ret py_bl)) pssy_nil)
    (pssy_cons (psy_if (pty_not (pty_val (py_bi (cry_all G.calm) boot_all Φ.z_all (pay_cons (py_lc (own := [("part", 1)]) G (piy_seq (py_var 0)) (blkOk_by (N := n_is_fraction) (sc := (defScope s_is_fraction)) (by decide +kernel)) (fun _ _ _ _ _ => (pgy_name (i := 1) G.blk)) (fun _ _ _ _ _ => ptsy_nil) (fun _ _ _ _ _ => (py_and (py_bi cry_isi boot_isinstance Φ.z_isinstance (pay_cons (py_var 1) (pay_cons (py_ty Φ.z_int (hv := boot_int)) pay_nil))) (py_one (py_not (py_bi cry_isi boot_isinstance Φ.z_isinstance (pay_cons (py_var 1) (pay_cons (py_ty Φ.z_bool (hv := boot_bool)) pay_nil)))))))) pay_nil)))) (pssy_one (psy_ret py_bl)) pssy_nil)
    (pssy_one (psy_ret (py_and (py_cmp opy_gt (py_ix hr.units (py_var 0) py_int) py_int (by rfl)) (py_one (py_cmp (opy_eq hr.units) (py_call (c_lowest Φ) ar_lowest rfl rfl rfl rfl rfl (hr.mono (by decide)) G.tk (pay_cons (py_ix hr.units (py_var 0) py_int) (pay_cons (py_ix hr.units (py_var 0) py_int) pay_nil))) (py_var 0) (by rfl))))))))
theorem c_is_fraction {P : Program} {w : World} {K : PySem.W.Frag} {mg : Str → Option Value} {base : Heap} (Φ : Facts K mg) : Callee P w K mg base 3 "is_fraction" 1 f_is_fraction := call_p Φ.h_is_fraction sc_is_fraction rfl rfl rfl (w_is_fraction Φ)
theorem w_is_count_within {P : Program} {w : World} {K : PySem.W.Frag} {mg : Str → Option Value} {base : Heap} (Φ : Facts K mg) (f : Addr) (cdv : Value) (A : Around) (outer : List PySem.Env) (s : Shared) (H : Hp) (E : XK) (hr : Room 0 (A.deeper (envOfC "is_count_within" (defScope s_is_count_within) s.heap.objs.size f cdv)))
    (G : Gd (cxOf (L2.CX P w) P w K mg base n_is_count_within "is_count_within" (defScope s_is_count_within) f cdv A outer s H E) (fun c d _ H => E c d H)) :
    PSsy (cxOf (L2.CX P w) P w K mg base n_is_count_within "is_count_within" (defScope s_is_count_within) f cdv A outer s H E) (fun c d _ H => E c d H) (defBody s_is_count_within) b_is_count_within :=
  (pssy_one (psy_ret (py_and (py_bi cry_isi boot_isinstance Φ.z_isinstance (pay_cons (py_var 0) (pay_cons (py_ty Φ.z_int (hv := boot_int)) pay_nil))) (py_and (py_not (py_bi cry_isi boot_isinstance Φ.z_isinstance (pay_cons (py_var 0) (pay_cons (py_ty Φ.z_bool (hv := boot_bool)) pay_nil)))) (py_one (py_chain opy_le opy_le (py_var 1) (py_var 0) (py_var 2)))))))
theorem c_is_count_within {P : Program} {w : World} {K : PySem.W.Frag} {mg : Str → Option Value} {base : Heap} (Φ : Facts K mg) : Callee P w K mg base 1 "is_count_within" 3 f_is_count_within := call_p Φ.h_is_count_within sc_is_count_within rfl rfl rfl (w_is_count_within Φ)
theorem w_gain_of {P : Program} {w : World} {K : PySem.W.Frag} {mg : Str → Option Value} {base : Heap} (Φ : Facts K mg) (f : Addr) (cdv : Value) (A : Around) (outer : List PySem.Env) (s : Shared) (H : Hp) (E : XK) (hr : Room 0 (A.deeper (envOfC "gain_of" (defScope s_gain_of) s.heap.objs.size f cdv)))
    (G : Gd (cxOf (L2.CX P w) P w K mg base n_gain_of "gain_of" (defScope s_gain_of) f cdv A outer s H E) (fun c d _ H => E c d H)) :
    PSsy (cxOf (L2.CX P w) P w K mg base n_gain_of "gain_of" (defScope s_gain_of) f cdv A outer s H E) (fun c d _ H => E c d H) (defBody s_gain_of) b_gain_of :=
  (pssy_one (psy_ret (py_op opy_sub (py_op opy_mul (py_ix hr.units (py_var 0) py_int) (py_ix hr.units (py_var 1) py_int)) (py_op opy_mul (py_ix hr.units (py_var 0) py_int) (py_ix hr.units (py_var 1) py_int)))))
theorem c_gain_of {P : Program} {w : World} {K : PySem.W.Frag} {mg : Str → Option Value} {base : Heap} (Φ : Facts K mg) : Callee P w K mg base 1 "gain_of" 2 f_gain_of := call_p Φ.h_gain_of sc_gain_of rfl rfl rfl (w_gain_of Φ)
theorem w_raised_once {P : Program} {w : World} {K : PySem.W.Frag} {mg : Str → Option Value} {base : Heap} (Φ : Facts K mg) (f : Addr) (cdv : Value) (A : Around) (outer : List PySem.Env) (s : Shared) (H : Hp) (E : XK) (hr : Room 1 (A.deeper (envOfC "raised_once" (defScope s_raised_once) s.heap.objs.size f cdv)))
    (G : Gd (cxOf (L2.CX P w) P w K mg base n_raised_once "raised_once" (defScope s_raised_once) f cdv A outer s H E) (fun c d _ H => E c d H)) :
    PSsy (cxOf (L2.CX P w) P w K mg base n_raised_once "raised_once" (defScope s_raised_once) f cdv A outer s H E) (fun c d _ H => E c d H) (defBody s_raised_once) b_raised_once :=
  (pssy_cons (psy_set (i := 4) G py_bl)
    (pssy_cons (psy_for 100000 G (piy_enum Φ.z_enumerate (pay_cons (py_var 0) pay_nil)) (pgy_tup G (pgsy_cons (pgy_name (i := 5) G) (pgsy_cons (pgy_name (i := 6) G) pgsy_nil)))
    (pssy_cons (psy_set (i := 7) G (py_op opy_add (py_ix hr.units (py_var 2) (py_ix hr.units (py_var 6) py_int)) (py_call (c_gain_of Φ) ar_gain_of rfl rfl rfl rfl rfl (hr.mono (by decide)) G.tk (pay_cons (py_var 6) (pay_cons (py_var 1) pay_nil)))))
    (pssy_one (psy_if (pty_cmp opy_gt (py_var 7) (py_ix hr.units (py_var 2) (py_ix hr.units (py_var 6) py_int)) (by rfl)) (pssy_cons (psy_asg (py_tup (pay_cons (py_var 7) (pay_cons (py_var 5) pay_nil))) (pgy_tup G (pgsy_cons (pgy_sub hr.units (py_var 2) (py_ix hr.units (py_var 6) py_int)) (pgsy_cons (pgy_sub hr.units (py_var 3) (py_ix hr.units (py_var 6) py_int)) pgsy_nil))))
    (pssy_one (psy_set (i := 4) G py_bl))) pssy_nil))))
    (pssy_one (psy_ret (py_var 4)))))
theorem c_raised_once {P : Program} {w : World} {K : PySem.W.Frag} {mg : Str → Option Value} {base : Heap} (Φ : Facts K mg) : Callee P w K mg base 2 "raised_once" 4 f_raised_once := call_y Φ.h_raised_once sc_raised_once rfl rfl rfl (w_raised_once Φ)
theorem w_ring_behind {P : Program} {w : World} {K : PySem.W.Frag} {mg : Str → Option Value} {base : Heap} (Φ : Facts K mg) (f : Addr) (cdv : Value) (A : Around) (outer : List PySem.Env) (s : Shared) (H : Hp) (E : XK) (hr : Room 0 (A.deeper (envOfC "ring_behind" (defScope s_ring_behind) s.heap.objs.size f cdv)))
    (G : Gd (cxOf (L2.CX P w) P w K mg base n_ring_behind "ring_behind" (defScope s_ring_behind) f cdv A outer s H E) (fun c d _ H => E c d H)) :
    PSsy (cxOf (L2.CX P w) P w K mg base n_ring_behind "ring_behind" (defScope s_ring_behind) f cdv A outer s H E) (fun c d _ H => E c d H) (defBody s_ring_behind) b_ring_behind :=
  (pssy_cons (psy_par (i := 3) (j := 4) G (pay_cons (py_new pay_nil) (pay_cons (py_new pay_nil) pay_nil)))
    (pssy_cons (psy_while 4000 G (pty_cmp (opy_notIn hr.units) (py_var 2) (py_var 3) (by rfl)) (pssy_cons (psy_expr (py_mt qLst_ok PySem.F.plainAttrs_list PySem.F.slot_list_append PySem.F.type_list_append mty_append (py_var 3) (pay_cons (py_var 2) pay_nil)))
    (pssy_cons (psy_expr (py_mt qLst_ok PySem.F.plainAttrs_list PySem.F.slot_list_append PySem.F.type_list_append mty_append (py_var 4) (pay_cons (py_ix hr.units (py_var 1) (py_var 2)) pay_nil)))
    (pssy_one (psy_set (i := 2) G (py_ix hr.units (py_ix hr.units (py_var 0) (py_ix hr.units (py_var 1) (py_var 2))) py_int))))))
    (pssy_one (psy_ret (py_bt cry_tuple boot_tuple Φ.z_tuple (pay_cons (py_rev (py_cut (py_var 4) (poy_some (py_mt qLst_ok PySem.F.plainAttrs_list PySem.F.slot_list_index PySem.F.type_list_index mty_index (py_var 3) (pay_cons (py_var 2) pay_nil))) poy_none)) pay_nil))))))
theorem c_ring_behind {P : Program} {w : World} {K : PySem.W.Frag} {mg : Str → Option Value} {base : Heap} (Φ : Facts K mg) : Callee P w K mg base 1 "ring_behind" 3 f_ring_behind := call_y Φ.h_ring_behind sc_ring_behind rfl rfl rfl (w_ring_behind Φ)
theorem w_ring_if_closed {P : Program} {w : World} {K : PySem.W.Frag} {mg : Str → Option Value} {base : Heap} (Φ : Facts K mg) (f : Addr) (cdv : Value) (A : Around) (outer : List PySem.Env) (s : Shared) (H : Hp) (E : XK) (hr : Room 1 (A.deeper (envOfC "ring_if_closed" (defScope s_ring_if_closed) s.heap.objs.size f cdv)))
    (G : Gd (cxOf (L2.CX P w) P w K mg base n_ring_if_closed "ring_if_closed" (defScope s_ring_if_closed) f cdv A outer s H E) (fun c d _ H => E c d H)) :
    PSsy (cxOf (L2.CX P w) P w K mg base n_ring_if_closed "ring_if_closed" (defScope s_ring_if_closed) f cdv A outer s H E) (fun c d _ H => E c d H) (defBody s_ring_if_closed) b_ring_if_closed :=
  (pssy_cons (psy_set (i := 3) G (py_var 2))
    (pssy_cons (psy_for 100000 G (piy_rng1 Φ.z_range (pay_cons (py_bi cry_len boot_len Φ.z_len (pay_cons (py_var 1) pay_nil)) pay_nil)) (pgy_name (i := 4) G)
    (pssy_cons (psy_if (pty_cmp (opy_notIn hr.units) (py_var 3) (py_var 1) (by rfl)) (pssy_one (psy_ret py_non)) pssy_nil)
    (pssy_one (psy_set (i := 3) G (py_ix hr.units (py_ix hr.units (py_var 0) (py_ix hr.units (py_var 1) (py_var 3))) py_int)))))
    (pssy_one (psy_ret (py_ifE (pty_cmp (opy_in hr.units) (py_var 3) (py_var 1) (by rfl)) (py_call (c_ring_behind Φ) ar_ring_behind rfl rfl rfl rfl rfl (hr.mono (by decide)) G.tk (pay_cons (py_var 0) (pay_cons (py_var 1) (pay_cons (py_var 3) pay_nil)))) py_non)))))
theorem c_ring_if_closed {P : Program} {w : World} {K : PySem.W.Frag} {mg : Str → Option Value} {base : Heap} (Φ : Facts K mg) : Callee P w K mg base 2 "ring_if_closed" 3 f_ring_if_closed := call_y Φ.h_ring_if_closed sc_ring_if_closed rfl rfl rfl (w_ring_if_closed Φ)
theorem w_heights_or_ring {P : Program} {w : World} {K : PySem.W.Frag} {mg : Str → Option Value} {base : Heap} (Φ : Facts K mg) (f : Addr) (cdv : Value) (A : Around) (outer : List PySem.Env) (s : Shared) (H : Hp) (E : XK) (hr : Room 2 (A.deeper (envOfC "heights_or_ring" (defScope s_heights_or_ring) s.heap.objs.size f cdv)))
    (G : Gd (cxOf (L2.CX P w) P w K mg base n_heights_or_ring "heights_or_ring" (defScope s_heights_or_ring) f cdv A outer s H E) (fun c d _ H => E c d H)) :
    PSsy (cxOf (L2.CX P w) P w K mg base n_heights_or_ring "heights_or_ring" (defScope s_heights_or_ring) f cdv A outer s H E) (fun c d _ H => E c d H) (defBody s_heights_or_ring) b_heights_or_ring :=
  (pssy_cons (psy_par (i := 3) (j := 4) G (pay_cons (py_repN (py_lst (pay_cons py_int pay_nil)) (py_var 0)) (pay_cons py_newD pay_nil)))
    (pssy_cons (psy_for 100000 G (piy_rng1 Φ.z_range (pay_cons (py_op opy_add (py_var 0) py_int) pay_nil)) (pgy_name (i := 5) G)
    (pssy_one (psy_if (pty_not (pty_val (py_call (c_raised_once Φ) ar_raised_once rfl rfl rfl rfl rfl (hr.mono (by decide)) G.tk (pay_cons (py_var 1) (pay_cons (py_var 2) (pay_cons (py_var 3) (pay_cons (py_var 4) pay_nil))))))) (pssy_one (psy_ret (py_tup (pay_cons (py_var 3) (pay_cons py_non pay_nil))))) pssy_nil)))
    (pssy_cons (psy_for 100000 G (piy_seq (py_bi (cry_sortedD G.calm) boot_sorted Φ.z_sorted (pay_cons (py_var 4) pay_nil))) (pgy_name (i := 6) G)
    (pssy_cons (psy_set (i := 7) G (py_call (c_ring_if_closed Φ) ar_ring_if_closed rfl rfl rfl rfl rfl (hr.mono (by decide)) G.tk (pay_cons (py_var 1) (pay_cons (py_var 4) (pay_cons (py_var 6) pay_nil)))))
    (pssy_one (psy_if (pty_cmp opy_isNot (py_var 7) py_non (by rfl)) (pssy_one (psy_ret (py_tup (pay_cons py_non (pay_cons (py_var 7) pay_nil))))) pssy_nil))))
    (pssy_one (psy_ret (py_tup (pay_cons (py_var 3) (pay_cons py_non pay_nil))))))))
theorem c_heights_or_ring {P : Program} {w : World} {K : PySem.W.Frag} {mg : Str → Option Value} {base : Heap} (Φ : Facts K mg) : Callee P w K mg base 3 "heights_or_ring" 3 f_heights_or_ring := call_p Φ.h_heights_or_ring sc_heights_or_ring rfl rfl rfl (w_heights_or_ring Φ)
theorem w_numbers_of_ring {P : Program} {w : World} {K : PySem.W.Frag} {mg : Str → Option Value} {base : Heap} (Φ : Facts K mg) (f : Addr) (cdv : Value) (A : Around) (outer : List PySem.Env) (s : Shared) (H : Hp) (E : XK) (hr : Room 0 (A.deeper (envOfC "numbers_of_ring" (defScope s_numbers_of_ring) s.heap.objs.size f cdv)))
    (G : Gd (cxOf (L2.CX P w) P w K mg base n_numbers_of_ring "numbers_of_ring" (defScope s_numbers_of_ring) f cdv A outer s H E) (fun c d _ H => E c d H)) :
    PSsy (cxOf (L2.CX P w) P w K mg base n_numbers_of_ring "numbers_of_ring" (defScope s_numbers_of_ring) f cdv A outer s H E) (fun c d _ H => E c d H) (defBody s_numbers_of_ring) b_numbers_of_ring :=
  (pssy_one (psy_ret (py_tup (pay_cons (py_bi (cry_sum G.calm) boot_sum Φ.z_sum (pay_cons (py_lc (own := [("index", 2)]) G (piy_seq (py_var 1)) (blkOk_by (N := n_numbers_of_ring) (sc := (defScope s_numbers_of_ring)) (by decide +kernel)) (fun _ _ _ _ _ => (pgy_name (i := 2) G.blk)) (fun _ _ _ _ _ => ptsy_nil) (fun _ _ _ _ _ => (py_ix hr.units (py_ix hr.units (py_var 0) (py_var 2)) py_int))) pay_nil)) (pay_cons (py_bi (cry_sum G.calm) boot_sum Φ.z_sum (pay_cons (py_lc (own := [("index", 2)]) G (piy_seq (py_var 1)) (blkOk_by (N := n_numbers_of_ring) (sc := (defScope s_numbers_of_ring)) (by decide +kernel)) (fun _ _ _ _ _ => (pgy_name (i := 2) G.blk)) (fun _ _ _ _ _ => ptsy_nil) (fun _ _ _ _ _ => (py_ix hr.units (py_ix hr.units (py_var 0) (py_var 2)) py_int))) pay_nil)) pay_nil)))))
theorem c_numbers_of_ring {P : Program} {w : World} {K : PySem.W.Frag} {mg : Str → Option Value} {base : Heap} (Φ : Facts K mg) : Callee P w K mg base 1 "numbers_of_ring" 2 f_numbers_of_ring := call_p Φ.h_numbers_of_ring sc_numbers_of_ring rfl rfl rfl (w_numbers_of_ring Φ)
theorem w_told_period {P : Program} {w : World} {K : PySem.W.Frag} {mg : Str → Option Value} {base : Heap} (Φ : Facts K mg) (f : Addr) (cdv : Value) (A : Around) (outer : List PySem.Env) (s : Shared) (H : Hp) (E : XK) (hr : Room 3 (A.deeper (envOfC "told_period" (defScope s_told_period) s.heap.objs.size f cdv)))
    (G : Gd (cxOf (L2.CX P w) P w K mg base n_told_period "told_period" (defScope s_told_period) f cdv A outer s H E) (fun c d _ H => E c d H)) :
    PSsy (cxOf (L2.CX P w) P w K mg base n_told_period "told_period" (defScope s_told_period) f cdv A outer s H E) (fun c d _ H => E c d H) (defBody s_told_period) b_told_period :=
  (pssy_cons (psy_par (i := 2) (j := 3) G (pay_cons (py_gk Φ.c_NOUGHT) (pay_cons (py_tup pay_nil) pay_nil)))
    (pssy_cons (psy_asg (py_call (c_heights_or_ring Φ) ar_heights_or_ring rfl rfl rfl rfl rfl (hr.mono (by decide)) G.tk (pay_cons (py_var 0) (pay_cons (py_var 1) (pay_cons (py_var 2) pay_nil)))) (pgy_tup G (pgsy_cons (pgy_name (i := 4) G) (pgsy_cons (pgy_name (i := 5) G) pgsy_nil))))
    (pssy_cons (psy_while 100000 G (pty_cmp opy_isNot (py_var 5) py_non (by rfl)) (pssy_cons (psy_asg (py_call (c_numbers_of_ring Φ) ar_numbers_of_ring rfl rfl rfl rfl rfl (hr.mono (by decide)) G.tk (pay_cons (py_var 1) (pay_cons (py_var 5) pay_nil))) (pgy_tup G (pgsy_cons (pgy_name (i := 6) G) (pgsy_cons (pgy_name (i := 7) G) pgsy_nil))))
    (pssy_cons (psy_if (pty_cmp (opy_eq hr.units) (py_var 7) py_int (by rfl)) (pssy_one (psy_ret (py_tup (pay_cons py_non (pay_cons py_non (pay_cons (py_var 5) pay_nil)))))) pssy_nil)
    (pssy_cons (psy_par (i := 2) (j := 3) G (pay_cons (py_call (c_lowest Φ) ar_lowest rfl rfl rfl rfl rfl (hr.mono (by decide)) G.tk (pay_cons (py_var 6) (pay_cons (py_var 7) pay_nil))) (pay_cons (py_var 5) pay_nil)))
    (pssy_one (psy_asg (py_call (c_heights_or_ring Φ) ar_heights_or_ring rfl rfl rfl rfl rfl (hr.mono (by decide)) G.tk (pay_cons (py_var 0) (pay_cons (py_var 1) (pay_cons (py_var 2) pay_nil)))) (pgy_tup G (pgsy_cons (pgy_name (i := 4) G) (pgsy_cons (pgy_name (i := 5) G) pgsy_nil)))))))))
    (pssy_one (psy_ret (py_tup (pay_cons (py_var 2) (pay_cons (py_var 4) (pay_cons (py_var 3) pay_nil)))))))))
theorem c_told_period {P : Program} {w : World} {K : PySem.W.Frag} {mg : Str → Option Value} {base : Heap} (Φ : Facts K mg) : Callee P w K mg base 4 "told_period" 2 f_told_period := call_p Φ.h_told_period sc_told_period rfl rfl rfl (w_told_period Φ)
theorem w_begins_by {P : Program} {w : World} {K : PySem.W.Frag} {mg : Str → Option Value} {base : Heap} (Φ : Facts K mg) (f : Addr) (cdv : Value) (A : Around) (outer : List PySem.Env) (s : Shared) (H : Hp) (E : XK) (hr : Room 2 (A.deeper (envOfC "begins_by" (defScope s_begins_by) s.heap.objs.size f cdv)))
    (G : Gd (cxOf (L2.CX P w) P w K mg base n_begins_by "begins_by" (defScope s_begins_by) f cdv A outer s H E) (fun c d _ H => E c d H)) :
    PSsy (cxOf (L2.CX P w) P w K mg base n_begins_by "begins_by" (defScope s_begins_by) f cdv A outer s H E) (fun c d _ H => E c d H) (defBody s_begins_by) b_begins_by :=
  (pssy_one (psy_ret (py_bt cry_tuple boot_tuple Φ.z_tuple (pay_cons (py_lc (own := [("height", 2)]) G (piy_seq (py_var 0)) (blkOk_by (N := n_begins_by) (sc := (defScope s_begins_by)) (by decide +kernel)) (fun _ _ _ _ _ => (pgy_name (i := 2) G.blk)) (fun _ _ _ _ _ => ptsy_nil) (fun _ _ _ _ _ => (py_call (c_lowest Φ) ar_lowest rfl rfl rfl rfl rfl (hr.mono (by decide)) G.blk.tk (pay_cons (py_var 2) (pay_cons (py_ix hr.units (py_var 1) py_int) pay_nil))))) pay_nil))))
theorem c_begins_by {P : Program} {w : World} {K : PySem.W.Frag} {mg : Str → Option Value} {base : Heap} (Φ : Facts K mg) : Callee P w K mg base 3 "begins_by" 2 f_begins_by := call_p Φ.h_begins_by sc_begins_by rfl rfl rfl (w_begins_by Φ)
theorem w_are_begins {P : Program} {w : World} {K : PySem.W.Frag} {mg : Str → Option Value} {base : Heap} (Φ : Facts K mg) (f : Addr) (cdv : Value) (A : Around) (outer : List PySem.Env) (s : Shared) (H : Hp) (E : XK) (hr : Room 3 (A.deeper (envOfC "are_begins" (defScope s_are_begins) s.heap.objs.size f cdv)))
    (G : Gd (cxOf (L2.CX P w) P w K mg base n_are_begins "are_begins" (defScope s_are_begins) f cdv A outer s H E) (fun c d _ H => E c d H)) :
    PSsy (cxOf (L2.CX P w) P w K mg base n_are_begins "are_begins" (defScope s_are_begins) f cdv A outer s H E) (fun c d _ H => E c d H) (defBody s_are_begins) b_are_begins :=
  (pssy_cons (psy_if (pty_bool (pwy_or (pty_not (pty_val (py_bi cry_isi boot_isinstance Φ.z_isinstance (pay_cons (py_var 3) (pay_cons (py_ty Φ.z_tuple (hv := boot_tuple)) pay_nil))))) (pwy_or (pty_cmp (opy_ne hr.units) (py_bi cry_len boot_len Φ.z_len (pay_cons (py_var 3) pay_nil)) (py_var 0) (by rfl)) (pwy_or1 (pty_not (pty_val (py_bi (cry_all G.calm) boot_all Φ.z_all (pay_cons (py_lc (own := [("one", 9)]) G (piy_seq (py_var 3)) (blkOk_by (N := n_are_begins) (sc := (defScope s_are_begins)) (by decide +kernel)) (fun _ _ _ _ _ => (pgy_name (i := 9) G.blk)) (fun _ _ _ _ _ => ptsy_nil) (fun _ _ _ _ _ => (py_call (c_is_fraction Φ) ar_is_fraction rfl rfl rfl rfl rfl (hr.mono (by decide)) G.blk.tk (pay_cons (py_var 9) pay_nil)))) pay_nil)))))))) (pssy_one (psy_ret py_bl)) pssy_nil)
    (pssy_cons (psy_for 100000 G (piy_seq (py_var 1)) (pgy_tup G (pgsy_cons (pgy_name (i := 4) G) (pgsy_cons (pgy_name (i := 5) G) (pgsy_cons (pgy_name (i := 6) G) (pgsy_cons (pgy_name (i := 7) G) pgsy_nil)))))
    (pssy_cons (psy_set (i := 8) G (py_call (c_plus Φ) ar_plus rfl rfl rfl rfl rfl (hr.mono (by decide)) G.tk (pay_cons (py_ix hr.units (py_var 3) (py_var 5)) (pay_cons (py_call (c_times Φ) ar_times rfl rfl rfl rfl rfl (hr.mono (by decide)) G.tk (pay_cons (py_tup (pay_cons (py_var 7) (pay_cons py_int pay_nil))) (pay_cons (py_var 2) pay_nil))) pay_nil))))
    (pssy_one (psy_if (pty_val (py_call (c_is_under Φ) ar_is_under rfl rfl rfl rfl rfl (hr.mono (by decide)) G.tk (pay_cons (py_var 8) (pay_cons (py_call (c_plus Φ) ar_plus rfl rfl rfl rfl rfl (hr.mono (by decide)) G.tk (pay_cons (py_ix hr.units (py_var 3) (py_var 4)) (pay_cons (py_tup (pay_cons (py_var 6) (pay_cons py_int pay_nil))) pay_nil))) pay_nil)))) (pssy_one (psy_ret py_bl)) pssy_nil))))
    (pssy_one (psy_ret py_bl))))
theorem c_are_begins {P : Program} {w : World} {K : PySem.W.Frag} {mg : Str → Option Value} {base : Heap} (Φ : Facts K mg) : Callee P w K mg base 4 "are_begins" 4 f_are_begins := call_p Φ.h_are_begins sc_are_begins rfl rfl rfl (w_are_begins Φ)
theorem w_is_round_edge {P : Program} {w : World} {K : PySem.W.Frag} {mg : Str → Option Value} {base : Heap} (Φ : Facts K mg) (f : Addr) (cdv : Value) (A : Around) (outer : List PySem.Env) (s : Shared) (H : Hp) (E : XK) (hr : Room 1 (A.deeper (envOfC "is_round_edge" (defScope s_is_round_edge) s.heap.objs.size f cdv)))
    (G : Gd (cxOf (L2.CX P w) P w K mg base n_is_round_edge "is_round_edge" (defScope s_is_round_edge) f cdv A outer s H E) (fun c d _ H => E c d H)) :
    PSsy (cxOf (L2.CX P w) P w K mg base n_is_round_edge "is_round_edge" (defScope s_is_round_edge) f cdv A outer s H E) (fun c d _ H => E c d H) (defBody s_is_round_edge) b_is_round_edge :=
  (pssy_cons (psy_if (pty_bool (pwy_or (pty_not (pty_val (py_bi cry_isi boot_isinstance Φ.z_isinstance (pay_cons (py_var 1) (pay_cons (py_ty Φ.z_tuple (hv := boot_tuple)) pay_nil))))) (pwy_or1 (pty_cmp (opy_ne hr.units) (py_bi cry_len boot_len Φ.z_len (pay_cons (py_var 1) pay_nil)) (py_gk Φ.c_EDGE_SIZE) (by rfl))))) (pssy_one (psy_ret py_bl)) pssy_nil)
    (pssy_cons (psy_if (pty_bool (pwy_or (pty_not (pty_val (py_call (c_is_count_within Φ) ar_is_count_within rfl rfl rfl rfl rfl (hr.mono (by decide)) G.tk (pay_cons (py_ix hr.units (py_var 1) py_int) (pay_cons py_int (pay_cons (py_op opy_sub (py_var 0) py_int) pay_nil)))))) (pwy_or1 (pty_not (pty_val (py_call (c_is_count_within Φ) ar_is_count_within rfl rfl rfl rfl rfl (hr.mono (by decide)) G.tk (pay_cons (py_ix hr.units (py_var 1) py_int) (pay_cons py_int (pay_cons (py_op opy_sub (py_var 0) py_int) pay_nil))))))))) (pssy_one (psy_ret py_bl)) pssy_nil)
    (pssy_one (psy_ret (py_and (py_call (c_is_count_within Φ) ar_is_count_within rfl rfl rfl rfl rfl (hr.mono (by decide)) G.tk (pay_cons (py_ix hr.units (py_var 1) py_int) (pay_cons py_int (pay_cons (py_gk Φ.c_MOST_EDGE_LENGTH) pay_nil)))) (py_one (py_call (c_is_count_within Φ) ar_is_count_within rfl rfl rfl rfl rfl (hr.mono (by decide)) G.tk (pay_cons (py_ix hr.units (py_var 1) py_int) (pay_cons py_int (pay_cons (py_gk Φ.c_MOST_TURNS) pay_nil))))))))))
theorem c_is_round_edge {P : Program} {w : World} {K : PySem.W.Frag} {mg : Str → Option Value} {base : Heap} (Φ : Facts K mg) : Callee P w K mg base 2 "is_round_edge" 2 f_is_round_edge := call_p Φ.h_is_round_edge sc_is_round_edge rfl rfl rfl (w_is_round_edge Φ)
theorem w_require_edges {P : Program} {w : World} {K : PySem.W.Frag} {mg : Str → Option Value} {base : Heap} (Φ : Facts K mg) (f : Addr) (cdv : Value) (A : Around) (outer : List PySem.Env) (s : Shared) (H : Hp) (E : XK) (hr : Room 2 (A.deeper (envOfC "require_edges" (defScope s_require_edges) s.heap.objs.size f cdv)))
    (G : Gd (cxOf (L2.CX P w) P w K mg base n_require_edges "require_edges" (defScope s_require_edges) f cdv A outer s H E) (fun c d _ H => E c d H)) :
    PSsy (cxOf (L2.CX P w) P w K mg base n_require_edges "require_edges" (defScope s_require_edges) f cdv A outer s H E) (fun c d _ H => E c d H) (defBody s_require_edges) b_require_edges :=
  (pssy_cons (psy_if (pty_not (pty_val (py_call (c_is_count_within Φ) ar_is_count_within rfl rfl rfl rfl rfl (hr.mono (by decide)) G.tk (pay_cons (py_var 0) (pay_cons py_int (pay_cons (py_gk Φ.c_MOST_ROUND_TASKS) pay_nil)))))) (pssy_one psy_stuck) pssy_nil)
    (pssy_cons (psy_if (pty_bool (pwy_or (pty_not (pty_val (py_bi cry_isi boot_isinstance Φ.z_isinstance (pay_cons (py_var 1) (pay_cons (py_ty Φ.z_tuple (hv := boot_tuple)) pay_nil))))) (pwy_or1 (pty_cmp opy_gt (py_bi cry_len boot_len Φ.z_len (pay_cons (py_var 1) pay_nil)) (py_gk Φ.c_MOST_EDGES) (by rfl))))) (pssy_one psy_stuck) pssy_nil)
    (pssy_one (psy_if (pty_not (pty_val (py_bi (cry_all G.calm) boot_all Φ.z_all (pay_cons (py_lc (own := [("edge", 2)]) G (piy_seq (py_var 1)) (blkOk_by (N := n_require_edges) (sc := (defScope s_require_edges)) (by decide +kernel)) (fun _ _ _ _ _ => (pgy_name (i := 2) G.blk)) (fun _ _ _ _ _ => ptsy_nil) (fun _ _ _ _ _ => (py_call (c_is_round_edge Φ) ar_is_round_edge rfl rfl rfl rfl rfl (hr.mono (by decide)) G.blk.tk (pay_cons (py_var 0) (pay_cons (py_var 2) pay_nil))))) pay_nil)))) (pssy_one psy_stuck) pssy_nil))))
theorem c_require_edges {P : Program} {w : World} {K : PySem.W.Frag} {mg : Str → Option Value} {base : Heap} (Φ : Facts K mg) : Callee P w K mg base 3 "require_edges" 2 f_require_edges := call_p Φ.h_require_edges sc_require_edges rfl rfl rfl (w_require_edges Φ)
theorem w_require_period {P : Program} {w : World} {K : PySem.W.Frag} {mg : Str → Option Value} {base : Heap} (Φ : Facts K mg) (f : Addr) (cdv : Value) (A : Around) (outer : List PySem.Env) (s : Shared) (H : Hp) (E : XK) (hr : Room 3 (A.deeper (envOfC "require_period" (defScope s_require_period) s.heap.objs.size f cdv)))
    (G : Gd (cxOf (L2.CX P w) P w K mg base n_require_period "require_period" (defScope s_require_period) f cdv A outer s H E) (fun c d _ H => E c d H)) :
    PSsy (cxOf (L2.CX P w) P w K mg base n_require_period "require_period" (defScope s_require_period) f cdv A outer s H E) (fun c d _ H => E c d H) (defBody s_require_period) b_require_period :=
  (pssy_cons (psy_expr (py_call (c_require_edges Φ) ar_require_edges rfl rfl rfl rfl rfl (hr.mono (by decide)) G.tk (pay_cons (py_var 0) (pay_cons (py_var 1) pay_nil))))
    (pssy_one (psy_if (pty_bool (pwy_or (pty_not (pty_val (py_call (c_is_fraction Φ) ar_is_fraction rfl rfl rfl rfl rfl (hr.mono (by decide)) G.tk (pay_cons (py_var 2) pay_nil)))) (pwy_or1 (pty_cmp opy_lt (py_ix hr.units (py_var 2) py_int) py_int (by rfl))))) (pssy_one psy_stuck) pssy_nil)))
theorem c_require_period {P : Program} {w : World} {K : PySem.W.Frag} {mg : Str → Option Value} {base : Heap} (Φ : Facts K mg) : Callee P w K mg base 4 "require_period" 3 f_require_period := call_p Φ.h_require_period sc_require_period rfl rfl rfl (w_require_period Φ)
theorem w_is_begins {P : Program} {w : World} {K : PySem.W.Frag} {mg : Str → Option Value} {base : Heap} (Φ : Facts K mg) (f : Addr) (cdv : Value) (A : Around) (outer : List PySem.Env) (s : Shared) (H : Hp) (E : XK) (hr : Room 4 (A.deeper (envOfC "is_begins" (defScope s_is_begins) s.heap.objs.size f cdv)))
    (G : Gd (cxOf (L2.CX P w) P w K mg base n_is_begins "is_begins" (defScope s_is_begins) f cdv A outer s H E) (fun c d _ H => E c d H)) :
    PSsy (cxOf (L2.CX P w) P w K mg base n_is_begins "is_begins" (defScope s_is_begins) f cdv A outer s H E) (fun c d _ H => E c d H) (defBody s_is_begins) b_is_begins :=
  (pssy_cons (psy_expr (py_call (c_require_period Φ) ar_require_period rfl rfl rfl rfl rfl (hr.mono (by decide)) G.tk (pay_cons (py_var 0) (pay_cons (py_var 1) (pay_cons (py_var 2) pay_nil)))))
    (pssy_one (psy_ret (py_call (c_are_begins Φ) ar_are_begins rfl rfl rfl rfl rfl (hr.mono (by decide)) G.tk (pay_cons (py_var 0) (pay_cons (py_var 1) (pay_cons (py_var 2) (pay_cons (py_var 3) pay_nil))))))))
theorem c_is_begins {P : Program} {w : World} {K : PySem.W.Frag} {mg : Str → Option Value} {base : Heap} (Φ : Facts K mg) : Callee P w K mg base 5 "is_begins" 4 f_is_begins := call_p Φ.h_is_begins sc_is_begins rfl rfl rfl (w_is_begins Φ)
theorem w_first_begins {P : Program} {w : World} {K : PySem.W.Frag} {mg : Str → Option Value} {base : Heap} (Φ : Facts K mg) (f : Addr) (cdv : Value) (A : Around) (outer : List PySem.Env) (s : Shared) (H : Hp) (E : XK) (hr : Room 4 (A.deeper (envOfC "first_begins" (defScope s_first_begins) s.heap.objs.size f cdv)))
    (G : Gd (cxOf (L2.CX P w) P w K mg base n_first_begins "first_begins" (defScope s_first_begins) f cdv A outer s H E) (fun c d _ H => E c d H)) :
    PSsy (cxOf (L2.CX P w) P w K mg base n_first_begins "first_begins" (defScope s_first_begins) f cdv A outer s H E) (fun c d _ H => E c d H) (defBody s_first_begins) b_first_begins :=
  (pssy_cons (psy_expr (py_call (c_require_period Φ) ar_require_period rfl rfl rfl rfl rfl (hr.mono (by decide)) G.tk (pay_cons (py_var 0) (pay_cons (py_var 1) (pay_cons (py_var 2) pay_nil)))))
    (pssy_cons (psy_asg (py_call (c_heights_or_ring Φ) ar_heights_or_ring rfl rfl rfl rfl rfl (hr.mono (by decide)) G.tk (pay_cons (py_var 0) (pay_cons (py_var 1) (pay_cons (py_var 2) pay_nil)))) (pgy_tup G (pgsy_cons (pgy_name (i := 3) G) (pgsy_cons (pgy_name (i := 4) G) pgsy_nil))))
    (pssy_one (psy_ret (py_ifE (pty_cmp opy_is (py_var 4) py_non (by rfl)) (py_call (c_begins_by Φ) ar_begins_by rfl rfl rfl rfl rfl (hr.mono (by decide)) G.tk (pay_cons (py_var 3) (pay_cons (py_var 2) pay_nil))) py_non)))))
theorem c_first_begins {P : Program} {w : World} {K : PySem.W.Frag} {mg : Str → Option Value} {base : Heap} (Φ : Facts K mg) : Callee P w K mg base 5 "first_begins" 3 f_first_begins := call_p Φ.h_first_begins sc_first_begins rfl rfl rfl (w_first_begins Φ)
theorem w_least_period {P : Program} {w : World} {K : PySem.W.Frag} {mg : Str → Option Value} {base : Heap} (Φ : Facts K mg) (f : Addr) (cdv : Value) (A : Around) (outer : List PySem.Env) (s : Shared) (H : Hp) (E : XK) (hr : Room 4 (A.deeper (envOfC "least_period" (defScope s_least_period) s.heap.objs.size f cdv)))
    (G : Gd (cxOf (L2.CX P w) P w K mg base n_least_period "least_period" (defScope s_least_period) f cdv A outer s H E) (fun c d _ H => E c d H)) :
    PSsy (cxOf (L2.CX P w) P w K mg base n_least_period "least_period" (defScope s_least_period) f cdv A outer s H E) (fun c d _ H => E c d H) (defBody s_least_period) b_least_period :=
  (pssy_cons (psy_expr (py_call (c_require_edges Φ) ar_require_edges rfl rfl rfl rfl rfl (hr.mono (by decide)) G.tk (pay_cons (py_var 0) (pay_cons (py_var 1) pay_nil))))
    (pssy_one (psy_ret (py_ix hr.units (py_call (c_told_period Φ) ar_told_period rfl rfl rfl rfl rfl (hr.mono (by decide)) G.tk (pay_cons (py_var 0) (pay_cons (py_var 1) pay_nil))) py_int))))
theorem c_least_period {P : Program} {w : World} {K : PySem.W.Frag} {mg : Str → Option Value} {base : Heap} (Φ : Facts K mg) : Callee P w K mg base 5 "least_period" 2 f_least_period := call_p Φ.h_least_period sc_least_period rfl rfl rfl (w_least_period Φ)
theorem w_least_integer_period {P : Program} {w : World} {K : PySem.W.Frag} {mg : Str → Option Value} {base : Heap} (Φ : Facts K mg) (f : Addr) (cdv : Value) (A : Around) (outer : List PySem.Env) (s : Shared) (H : Hp) (E : XK) (hr : Room 5 (A.deeper (envOfC "least_integer_period" (defScope s_least_integer_period) s.heap.objs.size f cdv)))
    (G : Gd (cxOf (L2.CX P w) P w K mg base n_least_integer_period "least_integer_period" (defScope s_least_integer_period) f cdv A outer s H E) (fun c d _ H => E c d H)) :
    PSsy (cxOf (L2.CX P w) P w K mg base n_least_integer_period "least_integer_period" (defScope s_least_integer_period) f cdv A outer s H E) (fun c d _ H => E c d H) (defBody s_least_integer_period) b_least_integer_period :=
  (pssy_cons (psy_set (i := 2) G (py_call (c_least_period Φ) ar_least_period rfl rfl rfl rfl rfl (hr.mono (by decide)) G.tk (pay_cons (py_var 0) (pay_cons (py_var 1) pay_nil))))
    (pssy_one (psy_ret (py_ifE (pty_cmp opy_is (py_var 2) py_non (by rfl)) py_non (py_un uny_neg (py_op opy_fdiv (py_un uny_neg (py_ix hr.units (py_var 2) py_int)) (py_ix hr.units (py_var 2) py_int)))))))
theorem c_least_integer_period {P : Program} {w : World} {K : PySem.W.Frag} {mg : Str → Option Value} {base : Heap} (Φ : Facts K mg) : Callee P w K mg base 6 "least_integer_period" 2 f_least_integer_period := call_p Φ.h_least_integer_period sc_least_integer_period rfl rfl rfl (w_least_integer_period Φ)
theorem w__law_crock {P : Program} {w : World} {K : PySem.W.Frag} {mg : Str → Option Value} {base : Heap} (Φ : Facts K mg) (f : Addr) (cdv : Value) (A : Around) (outer : List PySem.Env) (s : Shared) (H : Hp) (E : XK) (hr : Room 0 (A.deeper (envOfC "_law_crock" (defScope s__law_crock) s.heap.objs.size f cdv)))
    (G : Gd (cxOf (L2.CX P w) P w K mg base n__law_crock "_law_crock" (defScope s__law_crock) f cdv A outer s H E) (fun c d _ H => E c d H)) :
    PSsy (cxOf (L2.CX P w) P w K mg base n__law_crock "_law_crock" (defScope s__law_crock) f cdv A outer s H E) (fun c d _ H => E c d H) (defBody s__law_crock) b__law_crock :=
  (pssy_cons (psy_set (i := 2) G (py_ifE (pty_cmp opy_lt (py_var 1) (py_bi cry_len boot_len Φ.z_len (pay_cons (py_var 0) pay_nil)) (by rfl)) (py_bt cry_int boot_int Φ.z_int (pay_cons (py_ix hr.units (py_var 0) (py_var 1)) pay_nil)) (py_op opy_add (py_op opy_mul py_int (py_var 1)) py_int)))
    (pssy_cons (psy_set (i := 3) G (py_op opy_mod (py_bt cry_int boot_int Φ.z_int (pay_cons (py_bi cry_abs boot_abs Φ.z_abs (pay_cons (py_var 2) pay_nil)) pay_nil)) (py_op opy_pow (py_op opy_pow py_int py_int) py_int)))
    (pssy_one (psy_ret (py_new (pay_cons (py_bi (cry_max2 G.calm) boot_max Φ.z_max (pay_cons py_int (pay_cons (py_op opy_sub (py_var 3) (py_op opy_pow py_int py_int)) pay_nil))) (pay_cons (py_op opy_add (py_op opy_add (py_op opy_add (py_op opy_mul (py_op opy_mod (py_bt cry_int boot_int Φ.z_int (pay_cons (py_var 3) pay_nil)) py_int) py_int) (py_op opy_mul py_int (py_var 1))) (py_op opy_mul py_int (py_bt cry_int boot_int Φ.z_int (pay_cons (py_cmp opy_lt (py_var 2) py_int (by rfl)) pay_nil)))) py_int) (pay_cons py_int pay_nil))))))))
theorem c__law_crock {P : Program} {w : World} {K : PySem.W.Frag} {mg : Str → Option Value} {base : Heap} (Φ : Facts K mg) : Callee P w K mg base 1 "_law_crock" 2 f__law_crock := call_y Φ.h__law_crock sc__law_crock rfl rfl rfl (w__law_crock Φ)
theorem w__law_ladle {P : Program} {w : World} {K : PySem.W.Frag} {mg : Str → Option Value} {base : Heap} (Φ : Facts K mg) (f : Addr) (cdv : Value) (A : Around) (outer : List PySem.Env) (s : Shared) (H : Hp) (E : XK) (hr : Room 0 (A.deeper (envOfC "_law_ladle" (defScope s__law_ladle) s.heap.objs.size f cdv)))
    (G : Gd (cxOf (L2.CX P w) P w K mg base n__law_ladle "_law_ladle" (defScope s__law_ladle) f cdv A outer s H E) (fun c d _ H => E c d H)) :
    PSsy (cxOf (L2.CX P w) P w K mg base n__law_ladle "_law_ladle" (defScope s__law_ladle) f cdv A outer s H E) (fun c d _ H => E c d H) (defBody s__law_ladle) b__law_ladle :=
  (pssy_cons (psy_if (pty_cmp opy_gt (py_ix hr.units (py_var 0) py_int) py_int (by rfl)) (pssy_cons (psy_set (i := 2) G (py_op opy_mod (py_bt cry_int boot_int Φ.z_int (pay_cons (py_ix hr.units (py_var 0) py_int) pay_nil)) (py_var 1)))
    (pssy_cons (psy_asg (py_op opy_fdiv (py_ix hr.units (py_var 0) py_int) (py_var 1)) (pgy_sub hr.units (py_var 0) py_int))
    (pssy_one (psy_ret (py_var 2))))) pssy_nil)
    (pssy_cons (psy_asg (py_op opy_add (py_ix hr.units (py_var 0) py_int) py_int) (pgy_sub hr.units (py_var 0) py_int))
    (pssy_cons (psy_set (i := 3) G (py_op opy_mod (py_bt cry_int boot_int Φ.z_int (pay_cons (py_op opy_add (py_ix hr.units (py_var 0) py_int) (py_op opy_mul py_int (py_ix hr.units (py_var 0) py_int))) pay_nil)) py_int))
    (pssy_cons (psy_set (i := 4) G (py_op opy_add (py_op opy_mul (py_op opy_mod (py_bt cry_int boot_int Φ.z_int (pay_cons (py_op opy_add (py_op opy_mul (py_var 3) (py_var 3)) (py_op opy_mul py_int (py_ix hr.units (py_var 0) py_int))) pay_nil)) py_int) py_int) (py_var 3)))
    (pssy_one (psy_ret (py_op opy_mod (py_bt cry_int boot_int Φ.z_int (pay_cons (py_op opy_fdiv (py_var 4) py_int) pay_nil)) (py_var 1))))))))
theorem c__law_ladle {P : Program} {w : World} {K : PySem.W.Frag} {mg : Str → Option Value} {base : Heap} (Φ : Facts K mg) : Callee P w K mg base 1 "_law_ladle" 2 f__law_ladle := call_y Φ.h__law_ladle sc__law_ladle rfl rfl rfl (w__law_ladle Φ)
theorem w__law_pick_of {P : Program} {w : World} {K : PySem.W.Frag} {mg : Str → Option Value} {base : Heap} (Φ : Facts K mg) (f : Addr) (cdv : Value) (A : Around) (outer : List PySem.Env) (s : Shared) (H : Hp) (E : XK) (hr : Room 1 (A.deeper (envOfC "_law_pick_of" (defScope s__law_pick_of) s.heap.objs.size f cdv)))
    (G : Gd (cxOf (L2.CX P w) P w K mg base n__law_pick_of "_law_pick_of" (defScope s__law_pick_of) f cdv A outer s H E) (fun c d _ H => E c d H)) :
    PSsy (cxOf (L2.CX P w) P w K mg base n__law_pick_of "_law_pick_of" (defScope s__law_pick_of) f cdv A outer s H E) (fun c d _ H => E c d H) (defBody s__law_pick_of) b__law_pick_of :=
  (pssy_one (psy_ret (py_ix hr.units (py_var 1) (py_call (c__law_ladle Φ) ar__law_ladle rfl rfl rfl rfl rfl (hr.mono (by decide)) G.tk (pay_cons (py_var 0) (pay_cons (py_bi cry_len boot_len Φ.z_len (pay_cons (py_var 1) pay_nil)) pay_nil))))))
theorem c__law_pick_of {P : Program} {w : World} {K : PySem.W.Frag} {mg : Str → Option Value} {base : Heap} (Φ : Facts K mg) : Callee P w K mg base 2 "_law_pick_of" 2 f__law_pick_of := call_y Φ.h__law_pick_of sc__law_pick_of rfl rfl rfl (w__law_pick_of Φ)
theorem w__law_edges {P : Program} {w : World} {K : PySem.W.Frag} {mg : Str → Option Value} {base : Heap} (Φ : Facts K mg) (f : Addr) (cdv : Value) (A : Around) (outer : List PySem.Env) (s : Shared) (H : Hp) (E : XK) (hr : Room 2 (A.deeper (envOfC "_law_edges" (defScope s__law_edges) s.heap.objs.size f cdv)))
    (G : Gd (cxOf (L2.CX P w) P w K mg base n__law_edges "_law_edges" (defScope s__law_edges) f cdv A outer s H E) (fun c d _ H => E c d H)) :
    PSsy (cxOf (L2.CX P w) P w K mg base n__law_edges "_law_edges" (defScope s__law_edges) f cdv A outer s H E) (fun c d _ H => E c d H) (defBody s__law_edges) b__law_edges :=
  (pssy_cons (psy_par (i := 3) (j := 4) G (pay_cons (py_new pay_nil) (pay_cons (py_call (c__law_pick_of Φ) ar__law_pick_of rfl rfl rfl rfl rfl (hr.mono (by decide)) G.tk (pay_cons (py_var 0) (pay_cons (py_lst (pay_cons py_int (pay_cons py_int (pay_cons py_int pay_nil)))) pay_nil))) pay_nil)))
    (pssy_cons (psy_for 100000 G (piy_rng1 Φ.z_range (pay_cons (py_call (c__law_ladle Φ) ar__law_ladle rfl rfl rfl rfl rfl (hr.mono (by decide)) G.tk (pay_cons (py_var 0) (pay_cons (py_op opy_add (py_var 2) py_int) pay_nil))) pay_nil)) (pgy_name (i := 5) G)
    (pssy_cons (psy_par (i := 6) (j := 7) G (pay_cons (py_call (c__law_ladle Φ) ar__law_ladle rfl rfl rfl rfl rfl (hr.mono (by decide)) G.tk (pay_cons (py_var 0) (pay_cons (py_var 1) pay_nil))) (pay_cons (py_call (c__law_ladle Φ) ar__law_ladle rfl rfl rfl rfl rfl (hr.mono (by decide)) G.tk (pay_cons (py_var 0) (pay_cons (py_var 1) pay_nil))) pay_nil)))
    (pssy_cons (psy_set (i := 8) G (py_ifE (pty_cmp opy_gt (py_call (c__law_ladle Φ) ar__law_ladle rfl rfl rfl rfl rfl (hr.mono (by decide)) G.tk (pay_cons (py_var 0) (pay_cons py_int pay_nil))) py_int (by rfl)) (py_call (c__law_ladle Φ) ar__law_ladle rfl rfl rfl rfl rfl (hr.mono (by decide)) G.tk (pay_cons (py_var 0) (pay_cons py_int pay_nil))) py_int))
    (pssy_cons (psy_if (pty_bool (pwy_and (pty_cmp opy_ge (py_var 6) (py_var 7) (by rfl)) (pwy_and (pty_cmp (opy_eq hr.units) (py_var 8) py_int (by rfl)) (pwy_and1 (pty_cmp opy_gt (py_call (c__law_ladle Φ) ar__law_ladle rfl rfl rfl rfl rfl (hr.mono (by decide)) G.tk (pay_cons (py_var 0) (pay_cons py_int pay_nil))) py_int (by rfl)))))) (pssy_one (psy_set (i := 8) G (py_var 4))) pssy_nil)
    (pssy_one (psy_expr (py_mt qLst_ok PySem.F.plainAttrs_list PySem.F.slot_list_append PySem.F.type_list_append mty_append (py_var 3) (pay_cons (py_tup (pay_cons (py_var 6) (pay_cons (py_var 7) (pay_cons (py_call (c__law_ladle Φ) ar__law_ladle rfl rfl rfl rfl rfl (hr.mono (by decide)) G.tk (pay_cons (py_var 0) (pay_cons py_int pay_nil))) (pay_cons (py_var 8) pay_nil))))) pay_nil))))))))
    (pssy_one (psy_ret (py_bt cry_tuple boot_tuple Φ.z_tuple (pay_cons (py_var 3) pay_nil))))))
theorem c__law_edges {P : Program} {w : World} {K : PySem.W.Frag} {mg : Str → Option Value} {base : Heap} (Φ : Facts K mg) : Callee P w K mg base 3 "_law_edges" 3 f__law_edges := call_y Φ.h__law_edges sc__law_edges rfl rfl rfl (w__law_edges Φ)
theorem w__law_lowest {P : Program} {w : World} {K : PySem.W.Frag} {mg : Str → Option Value} {base : Heap} (Φ : Facts K mg) (f : Addr) (cdv : Value) (A : Around) (outer : List PySem.Env) (s : Shared) (H : Hp) (E : XK) (hr : Room 0 (A.deeper (envOfC "_law_lowest" (defScope s__law_lowest) s.heap.objs.size f cdv)))
    (G : Gd (cxOf (L2.CX P w) P w K mg base n__law_lowest "_law_lowest" (defScope s__law_lowest) f cdv A outer s H E) (fun c d _ H => E c d H)) :
    PSsy (cxOf (L2.CX P w) P w K mg base n__law_lowest "_law_lowest" (defScope s__law_lowest) f cdv A outer s H E) (fun c d _ H => E c d H) (defBody s__law_lowest) b__law_lowest :=
  (pssy_cons (psy_par (i := 2) (j := 3) G (pay_cons (py_bi cry_abs boot_abs Φ.z_abs (pay_cons (py_var 0) pay_nil)) (pay_cons (py_var 1) pay_nil)))
    (pssy_cons (psy_while 4000 G (pty_cmp opy_gt (py_var 3) py_int (by rfl)) (pssy_one (psy_par (i := 2) (j := 3) G (pay_cons (py_var 3) (pay_cons (py_op opy_mod (py_bt cry_int boot_int Φ.z_int (pay_cons (py_var 2) pay_nil)) (py_var 3)) pay_nil)))))
    (pssy_one (psy_ret (py_tup (pay_cons (py_op opy_fdiv (py_var 0) (py_var 2)) (pay_cons (py_op opy_fdiv (py_var 1) (py_var 2)) pay_nil)))))))
theorem c__law_lowest {P : Program} {w : World} {K : PySem.W.Frag} {mg : Str → Option Value} {base : Heap} (Φ : Facts K mg) : Callee P w K mg base 1 "_law_lowest" 2 f__law_lowest := call_p Φ.h__law_lowest sc__law_lowest rfl rfl rfl (w__law_lowest Φ)
theorem w__law_times {P : Program} {w : World} {K : PySem.W.Frag} {mg : Str → Option Value} {base : Heap} (Φ : Facts K mg) (f : Addr) (cdv : Value) (A : Around) (outer : List PySem.Env) (s : Shared) (H : Hp) (E : XK) (hr : Room 1 (A.deeper (envOfC "_law_times" (defScope s__law_times) s.heap.objs.size f cdv)))
    (G : Gd (cxOf (L2.CX P w) P w K mg base n__law_times "_law_times" (defScope s__law_times) f cdv A outer s H E) (fun c d _ H => E c d H)) :
    PSsy (cxOf (L2.CX P w) P w K mg base n__law_times "_law_times" (defScope s__law_times) f cdv A outer s H E) (fun c d _ H => E c d H) (defBody s__law_times) b__law_times :=
  (pssy_one (psy_ret (py_ifE (pty_cmp opy_is (py_var 0) py_non (by rfl)) py_non (py_call (c__law_lowest Φ) ar__law_lowest rfl rfl rfl rfl rfl (hr.mono (by decide)) G.tk (pay_cons (py_op opy_mul (py_ix hr.units (py_var 0) py_int) (py_var 1)) (pay_cons (py_ix hr.units (py_var 0) py_int) pay_nil))))))
theorem c__law_times {P : Program} {w : World} {K : PySem.W.Frag} {mg : Str → Option Value} {base : Heap} (Φ : Facts K mg) : Callee P w K mg base 2 "_law_times" 2 f__law_times := call_p Φ.h__law_times sc__law_times rfl rfl rfl (w__law_times Φ)
theorem w__law_over {P : Program} {w : World} {K : PySem.W.Frag} {mg : Str → Option Value} {base : Heap} (Φ : Facts K mg) (f : Addr) (cdv : Value) (A : Around) (outer : List PySem.Env) (s : Shared) (H : Hp) (E : XK) (hr : Room 0 (A.deeper (envOfC "_law_over" (defScope s__law_over) s.heap.objs.size f cdv)))
    (G : Gd (cxOf (L2.CX P w) P w K mg base n__law_over "_law_over" (defScope s__law_over) f cdv A outer s H E) (fun c d _ H => E c d H)) :
    PSsy (cxOf (L2.CX P w) P w K mg base n__law_over "_law_over" (defScope s__law_over) f cdv A outer s H E) (fun c d _ H => E c d H) (defBody s__law_over) b__law_over :=
  (pssy_cons (psy_if (pty_bool (pwy_or (pty_cmp opy_is (py_var 0) py_non (by rfl)) (pwy_or1 (pty_cmp opy_is (py_var 1) py_non (by rfl))))) (pssy_one (psy_ret (py_and (py_cmp opy_is (py_var 0) py_non (by rfl)) (py_one (py_cmp opy_isNot (py_var 1) py_non (by rfl)))))) pssy_nil)
    (pssy_one (psy_ret (py_cmp opy_gt (py_op opy_mul (py_ix hr.units (py_var 0) py_int) (py_ix hr.units (py_var 1) py_int)) (py_op opy_mul (py_ix hr.units (py_var 1) py_int) (py_ix hr.units (py_var 0) py_int)) (by rfl)))))
theorem c__law_over {P : Program} {w : World} {K : PySem.W.Frag} {mg : Str → Option Value} {base : Heap} (Φ : Facts K mg) : Callee P w K mg base 1 "_law_over" 2 f__law_over := call_p Φ.h__law_over sc__law_over rfl rfl rfl (w__law_over Φ)
theorem w__law_rounds_right {P : Program} {w : World} {K : PySem.W.Frag} {mg : Str → Option Value} {base : Heap} (Φ : Facts K mg) (f : Addr) (cdv : Value) (A : Around) (outer : List PySem.Env) (s : Shared) (H : Hp) (E : XK) (hr : Room 5 (A.deeper (envOfC "_law_rounds_right" (defScope s__law_rounds_right) s.heap.objs.size f cdv)))
    (G : Gd (cxOf (L2.CX P w) P w K mg base n__law_rounds_right "_law_rounds_right" (defScope s__law_rounds_right) f cdv A outer s H E) (fun c d _ H => E c d H)) :
    PSsy (cxOf (L2.CX P w) P w K mg base n__law_rounds_right "_law_rounds_right" (defScope s__law_rounds_right) f cdv A outer s H E) (fun c d _ H => E c d H) (defBody s__law_rounds_right) b__law_rounds_right :=
  (pssy_cons (psy_set (i := 4) G (py_call (c_first_begins Φ) ar_first_begins rfl rfl rfl rfl rfl (hr.mono (by decide)) G.tk (pay_cons (py_var 1) (pay_cons (py_var 2) (pay_cons (py_var 3) pay_nil)))))
    (pssy_cons (psy_if (pty_cmp opy_is (py_var 4) py_non (by rfl)) (pssy_one (psy_ret py_bl)) pssy_nil)
    (pssy_cons (psy_for 100000 G (piy_seq (py_var 2)) (pgy_tup G (pgsy_cons (pgy_name (i := 5) G) (pgsy_cons (pgy_name (i := 6) G) (pgsy_cons (pgy_name (i := 7) G) (pgsy_cons (pgy_name (i := 8) G) pgsy_nil)))))
    (pssy_one (psy_for 100000 G (piy_rng1 Φ.z_range (pay_cons py_int pay_nil)) (pgy_name (i := 9) G)
    (pssy_cons (psy_asg (py_ix hr.units (py_var 4) (py_var 5)) (pgy_tup G (pgsy_cons (pgy_name (i := 10) G) (pgsy_cons (pgy_name (i := 11) G) pgsy_nil))))
    (pssy_cons (psy_asg (py_ix hr.units (py_var 4) (py_var 6)) (pgy_tup G (pgsy_cons (pgy_name (i := 12) G) (pgsy_cons (pgy_name (i := 13) G) pgsy_nil))))
    (pssy_cons (psy_asg (py_var 3) (pgy_tup G (pgsy_cons (pgy_name (i := 14) G) (pgsy_cons (pgy_name (i := 15) G) pgsy_nil))))
    (pssy_cons (psy_set (i := 16) G (py_call (c__law_lowest Φ) ar__law_lowest rfl rfl rfl rfl rfl (hr.mono (by decide)) G.tk (pay_cons (py_op opy_add (py_op opy_add (py_op opy_mul (py_var 10) (py_var 15)) (py_op opy_mul (py_op opy_mul (py_var 9) (py_var 14)) (py_var 11))) (py_op opy_mul (py_op opy_mul (py_var 7) (py_var 11)) (py_var 15))) (pay_cons (py_op opy_mul (py_var 11) (py_var 15)) pay_nil))))
    (pssy_cons (psy_set (i := 17) G (py_call (c__law_lowest Φ) ar__law_lowest rfl rfl rfl rfl rfl (hr.mono (by decide)) G.tk (pay_cons (py_op opy_add (py_op opy_mul (py_var 12) (py_var 15)) (py_op opy_mul (py_op opy_mul (py_op opy_add (py_var 9) (py_var 8)) (py_var 14)) (py_var 13))) (pay_cons (py_op opy_mul (py_var 13) (py_var 15)) pay_nil))))
    (pssy_one (psy_if (pty_cmp opy_lt (py_op opy_mul (py_ix hr.units (py_var 17) py_int) (py_ix hr.units (py_var 16) py_int)) (py_op opy_mul (py_ix hr.units (py_var 16) py_int) (py_ix hr.units (py_var 17) py_int)) (by rfl)) (pssy_one (psy_ret py_bl)) pssy_nil))))))))))
    (pssy_cons (psy_for 100000 G (piy_rng1 Φ.z_range (pay_cons (py_var 1) pay_nil)) (pgy_name (i := 18) G)
    (pssy_cons (psy_asg (py_ix hr.units (py_var 4) (py_var 18)) (pgy_tup G (pgsy_cons (pgy_name (i := 12) G) (pgsy_cons (pgy_name (i := 13) G) pgsy_nil))))
    (pssy_cons (psy_set (i := 19) G (py_ifE (pty_cmp (opy_eq hr.units) (py_var 12) py_int (by rfl)) (py_new (pay_cons py_int pay_nil)) (py_new pay_nil)))
    (pssy_cons (psy_for 100000 G (piy_seq (py_var 2)) (pgy_tup G (pgsy_cons (pgy_name (i := 5) G) (pgsy_cons (pgy_name (i := 6) G) (pgsy_cons (pgy_name (i := 7) G) (pgsy_cons (pgy_name (i := 8) G) pgsy_nil)))))
    (pssy_cons (psy_asg (py_ix hr.units (py_var 4) (py_var 5)) (pgy_tup G (pgsy_cons (pgy_name (i := 10) G) (pgsy_cons (pgy_name (i := 11) G) pgsy_nil))))
    (pssy_cons (psy_asg (py_var 3) (pgy_tup G (pgsy_cons (pgy_name (i := 14) G) (pgsy_cons (pgy_name (i := 15) G) pgsy_nil))))
    (pssy_one (psy_if (pty_bool (pwy_and (pty_cmp (opy_eq hr.units) (py_var 6) (py_var 18) (by rfl)) (pwy_and1 (pty_cmp (opy_eq hr.units) (py_call (c__law_lowest Φ) ar__law_lowest rfl rfl rfl rfl rfl (hr.mono (by decide)) G.tk (pay_cons (py_op opy_sub (py_op opy_mul (py_op opy_add (py_var 10) (py_op opy_mul (py_var 7) (py_var 11))) (py_var 15)) (py_op opy_mul (py_op opy_mul (py_var 8) (py_var 14)) (py_var 11))) (pay_cons (py_op opy_mul (py_var 11) (py_var 15)) pay_nil))) (py_tup (pay_cons (py_var 12) (pay_cons (py_var 13) pay_nil))) (by rfl))))) (pssy_one (psy_expr (py_mt qLst_ok PySem.F.plainAttrs_list PySem.F.slot_list_append PySem.F.type_list_append mty_append (py_var 19) (pay_cons py_int pay_nil)))) pssy_nil)))))
    (pssy_one (psy_if (pty_bool (pwy_or (pty_cmp opy_lt (py_var 12) py_int (by rfl)) (pwy_or1 (pty_cmp (opy_eq hr.units) (py_var 19) (py_lst pay_nil) (by rfl))))) (pssy_one (psy_ret py_bl)) pssy_nil))))))
    (pssy_one (psy_ret py_bl))))))
theorem c__law_rounds_right {P : Program} {w : World} {K : PySem.W.Frag} {mg : Str → Option Value} {base : Heap} (Φ : Facts K mg) : Callee P w K mg base 6 "_law_rounds_right" 4 f__law_rounds_right := call_y Φ.h__law_rounds_right sc__law_rounds_right rfl rfl rfl (w__law_rounds_right Φ)
theorem w__law_right {P : Program} {w : World} {K : PySem.W.Frag} {mg : Str → Option Value} {base : Heap} (Φ : Facts K mg) (f : Addr) (cdv : Value) (A : Around) (outer : List PySem.Env) (s : Shared) (H : Hp) (E : XK) (hr : Room 6 (A.deeper (envOfC "_law_right" (defScope s__law_right) s.heap.objs.size f cdv)))
    (G : Gd (cxOf (L2.CX P w) P w K mg base n__law_right "_law_right" (defScope s__law_right) f cdv A outer s H E) (fun c d _ H => E c d H)) :
    PSsy (cxOf (L2.CX P w) P w K mg base n__law_right "_law_right" (defScope s__law_right) f cdv A outer s H E) (fun c d _ H => E c d H) (defBody s__law_right) b__law_right :=
  (pssy_cons (psy_set (i := 1) G (py_op opy_add py_int (py_call (c__law_ladle Φ) ar__law_ladle rfl rfl rfl rfl rfl (hr.mono (by decide)) G.tk (pay_cons (py_var 0) (pay_cons py_int pay_nil)))))
    (pssy_cons (psy_set (i := 2) G (py_call (c__law_edges Φ) ar__law_edges rfl rfl rfl rfl rfl (hr.mono (by decide)) G.tk (pay_cons (py_var 0) (pay_cons (py_var 1) (pay_cons py_int pay_nil)))))
    (pssy_cons (psy_asg (py_tup (pay_cons (py_call (c_least_period Φ) ar_least_period rfl rfl rfl rfl rfl (hr.mono (by decide)) G.tk (pay_cons (py_var 1) (pay_cons (py_var 2) pay_nil))) (pay_cons (py_op opy_add py_int (py_call (c__law_ladle Φ) ar__law_ladle rfl rfl rfl rfl rfl (hr.mono (by decide)) G.tk (pay_cons (py_var 0) (pay_cons py_int pay_nil)))) pay_nil))) (pgy_tup G (pgsy_cons (pgy_name (i := 3) G) (pgsy_cons (pgy_name (i := 4) G) pgsy_nil))))
    (pssy_cons (psy_set (i := 5) G (py_bt cry_tuple boot_tuple Φ.z_tuple (pay_cons (py_lc (own := [("one", 15), ("other", 16), ("length", 14), ("turns", 18)]) G (piy_seq (py_var 2)) (blkOk_by (N := n__law_right) (sc := (defScope s__law_right)) (by decide +kernel)) (fun _ _ _ _ _ => (pgy_tup G.blk (pgsy_cons (pgy_name (i := 15) G.blk) (pgsy_cons (pgy_name (i := 16) G.blk) (pgsy_cons (pgy_name (i := 14) G.blk) (pgsy_cons (pgy_name (i := 18) G.blk) pgsy_nil)))))) (fun _ _ _ _ _ => ptsy_nil) (fun _ _ _ _ _ => (py_tup (pay_cons (py_var 15) (pay_cons (py_var 16) (pay_cons (py_op opy_mul (py_var 14) (py_var 4)) (pay_cons (py_var 18) pay_nil))))))) pay_nil)))
    (pssy_cons (psy_if (pty_cmp (opy_ne hr.units) (py_call (c_least_period Φ) ar_least_period rfl rfl rfl rfl rfl (hr.mono (by decide)) G.tk (pay_cons (py_var 1) (pay_cons (py_var 5) pay_nil))) (py_call (c__law_times Φ) ar__law_times rfl rfl rfl rfl rfl (hr.mono (by decide)) G.tk (pay_cons (py_var 3) (pay_cons (py_var 4) pay_nil))) (by rfl)) (pssy_one (psy_ret py_bl)) pssy_nil)
    (pssy_cons (psy_set (i := 6) G (py_bt cry_tuple boot_tuple Φ.z_tuple (pay_cons (py_lc (own := [("one", 15), ("other", 16), ("length", 14), ("turns", 18)]) G (piy_seq (py_var 2)) (blkOk_by (N := n__law_right) (sc := (defScope s__law_right)) (by decide +kernel)) (fun _ _ _ _ _ => (pgy_tup G.blk (pgsy_cons (pgy_name (i := 15) G.blk) (pgsy_cons (pgy_name (i := 16) G.blk) (pgsy_cons (pgy_name (i := 14) G.blk) (pgsy_cons (pgy_name (i := 18) G.blk) pgsy_nil)))))) (fun _ _ _ _ _ => ptsy_nil) (fun _ _ _ _ _ => (py_tup (pay_cons (py_var 15) (pay_cons (py_var 16) (pay_cons (py_var 14) (pay_cons (py_op opy_mul (py_var 18) (py_var 4)) pay_nil))))))) pay_nil)))
    (pssy_cons (psy_if (pty_cmp (opy_ne hr.units) (py_call (c_least_period Φ) ar_least_period rfl rfl rfl rfl rfl (hr.mono (by decide)) G.tk (pay_cons (py_var 1) (pay_cons (py_var 6) pay_nil))) (py_ifE (pty_cmp opy_is (py_var 3) py_non (by rfl)) py_non (py_call (c__law_lowest Φ) ar__law_lowest rfl rfl rfl rfl rfl (hr.mono (by decide)) G.tk (pay_cons (py_ix hr.units (py_var 3) py_int) (pay_cons (py_op opy_mul (py_ix hr.units (py_var 3) py_int) (py_var 4)) pay_nil)))) (by rfl)) (pssy_one (psy_ret py_bl)) pssy_nil)
    (pssy_cons (psy_set (i := 7) G (py_bt cry_tuple boot_tuple Φ.z_tuple (pay_cons (py_lc (own := [("one", 15), ("other", 16), ("length", 14), ("turns", 18)]) G (piy_seq (py_var 2)) (blkOk_by (N := n__law_right) (sc := (defScope s__law_right)) (by decide +kernel)) (fun _ _ _ _ _ => (pgy_tup G.blk (pgsy_cons (pgy_name (i := 15) G.blk) (pgsy_cons (pgy_name (i := 16) G.blk) (pgsy_cons (pgy_name (i := 14) G.blk) (pgsy_cons (pgy_name (i := 18) G.blk) pgsy_nil)))))) (fun _ _ _ _ _ => ptsy_nil) (fun _ _ _ _ _ => (py_tup (pay_cons (py_var 16) (pay_cons (py_var 15) (pay_cons (py_var 14) (pay_cons (py_var 18) pay_nil))))))) pay_nil)))
    (pssy_cons (psy_if (pty_bool (pwy_or (pty_cmp (opy_ne hr.units) (py_call (c_least_period Φ) ar_least_period rfl rfl rfl rfl rfl (hr.mono (by decide)) G.tk (pay_cons (py_var 1) (pay_cons (py_var 7) pay_nil))) (py_var 3) (by rfl)) (pwy_or1 (pty_cmp (opy_ne hr.units) (py_call (c_least_period Φ) ar_least_period rfl rfl rfl rfl rfl (hr.mono (by decide)) G.tk (pay_cons (py_var 1) (pay_cons (py_revT (py_var 2)) pay_nil))) (py_var 3) (by rfl))))) (pssy_one (psy_ret py_bl)) pssy_nil)
    (pssy_cons (psy_set (i := 8) G (py_bt cry_tuple boot_tuple Φ.z_tuple (pay_cons (py_lc (own := [("one", 15), ("other", 16), ("length", 14), ("turns", 18)]) G (piy_seq (py_var 2)) (blkOk_by (N := n__law_right) (sc := (defScope s__law_right)) (by decide +kernel)) (fun _ _ _ _ _ => (pgy_tup G.blk (pgsy_cons (pgy_name (i := 15) G.blk) (pgsy_cons (pgy_name (i := 16) G.blk) (pgsy_cons (pgy_name (i := 14) G.blk) (pgsy_cons (pgy_name (i := 18) G.blk) pgsy_nil)))))) (fun _ _ _ _ _ => ptsy_nil) (fun _ _ _ _ _ => (py_tup (pay_cons (py_op opy_sub (py_op opy_sub (py_var 1) py_int) (py_var 15)) (pay_cons (py_op opy_sub (py_op opy_sub (py_var 1) py_int) (py_var 16)) (pay_cons (py_var 14) (pay_cons (py_var 18) pay_nil))))))) pay_nil)))
    (pssy_cons (psy_if (pty_bool (pwy_or (pty_cmp (opy_ne hr.units) (py_call (c_least_period Φ) ar_least_period rfl rfl rfl rfl rfl (hr.mono (by decide)) G.tk (pay_cons (py_var 1) (pay_cons (py_var 8) pay_nil))) (py_var 3) (by rfl)) (pwy_or1 (pty_cmp (opy_ne hr.units) (py_call (c_least_period Φ) ar_least_period rfl rfl rfl rfl rfl (hr.mono (by decide)) G.tk (pay_cons (py_op opy_add (py_var 1) py_int) (pay_cons (py_var 2) pay_nil))) (py_var 3) (by rfl))))) (pssy_one (psy_ret py_bl)) pssy_nil)
    (pssy_cons (psy_for 100000 G (piy_rng1 Φ.z_range (pay_cons (py_bi cry_len boot_len Φ.z_len (pay_cons (py_var 2) pay_nil)) pay_nil)) (pgy_name (i := 9) G)
    (pssy_one (psy_if (pty_val (py_call (c__law_over Φ) ar__law_over rfl rfl rfl rfl rfl (hr.mono (by decide)) G.tk (pay_cons (py_call (c_least_period Φ) ar_least_period rfl rfl rfl rfl rfl (hr.mono (by decide)) G.tk (pay_cons (py_var 1) (pay_cons (py_op opy_add (py_cut (py_var 2) poy_none (poy_some (py_var 9))) (py_cut (py_var 2) (poy_some (py_op opy_add (py_var 9) py_int)) poy_none)) pay_nil))) (pay_cons (py_var 3) pay_nil)))) (pssy_one (psy_ret py_bl)) pssy_nil)))
    (pssy_cons (psy_if (pty_cmp opy_is (py_var 3) py_non (by rfl)) (pssy_one (psy_ret py_bl)) pssy_nil)
    (pssy_cons (psy_set (i := 10) G (py_call (c_least_integer_period Φ) ar_least_integer_period rfl rfl rfl rfl rfl (hr.mono (by decide)) G.tk (pay_cons (py_var 1) (pay_cons (py_var 2) pay_nil))))
    (pssy_cons (psy_set (i := 11) G (py_call (c_first_begins Φ) ar_first_begins rfl rfl rfl rfl rfl (hr.mono (by decide)) G.tk (pay_cons (py_var 1) (pay_cons (py_var 2) (pay_cons (py_tup (pay_cons (py_var 10) (pay_cons py_int pay_nil))) pay_nil)))))
    (pssy_cons (psy_if (pty_bool (pwy_or (pty_cmp opy_is (py_var 11) py_non (by rfl)) (pwy_or1 (pty_cmp (opy_ne hr.units) (py_lc (own := [("top", 17), ("bottom", 13)]) G (piy_seq (py_var 11)) (blkOk_by (N := n__law_right) (sc := (defScope s__law_right)) (by decide +kernel)) (fun _ _ _ _ _ => (pgy_tup G.blk (pgsy_cons (pgy_name (i := 17) G.blk) (pgsy_cons (pgy_name (i := 13) G.blk) pgsy_nil)))) (fun _ _ _ _ _ => (ptsy_one (pty_cmp (opy_ne hr.units) (py_var 13) py_int (by rfl)))) (fun _ _ _ _ _ => py_int)) (py_lst pay_nil) (by rfl))))) (pssy_one (psy_ret py_bl)) pssy_nil)
    (pssy_cons (psy_if (pty_bool (pwy_and (pty_cmp opy_gt (py_var 10) py_int (by rfl)) (pwy_and1 (pty_cmp opy_isNot (py_call (c_first_begins Φ) ar_first_begins rfl rfl rfl rfl rfl (hr.mono (by decide)) G.tk (pay_cons (py_var 1) (pay_cons (py_var 2) (pay_cons (py_tup (pay_cons (py_op opy_sub (py_var 10) py_int) (pay_cons py_int pay_nil))) pay_nil)))) py_non (by rfl))))) (pssy_one (psy_ret py_bl)) pssy_nil)
    (pssy_cons (psy_set (i := 12) G (py_bt cry_tuple boot_tuple Φ.z_tuple (pay_cons (py_lc (own := [("top", 17), ("bottom", 13)]) G (piy_seq (py_var 11)) (blkOk_by (N := n__law_right) (sc := (defScope s__law_right)) (by decide +kernel)) (fun _ _ _ _ _ => (pgy_tup G.blk (pgsy_cons (pgy_name (i := 17) G.blk) (pgsy_cons (pgy_name (i := 13) G.blk) pgsy_nil)))) (fun _ _ _ _ _ => ptsy_nil) (fun _ _ _ _ _ => (py_tup (pay_cons (py_op opy_add (py_var 17) py_int) (pay_cons py_int pay_nil))))) pay_nil)))
    (pssy_cons (psy_if (pty_cmp opy_isNot (py_call (c_is_begins Φ) ar_is_begins rfl rfl rfl rfl rfl (hr.mono (by decide)) G.tk (pay_cons (py_var 1) (pay_cons (py_var 2) (pay_cons (py_tup (pay_cons (py_var 10) (pay_cons py_int pay_nil))) (pay_cons (py_var 12) pay_nil))))) py_bl (by rfl)) (pssy_one (psy_ret py_bl)) pssy_nil)
    (pssy_one (psy_ret (py_and (py_call (c__law_rounds_right Φ) ar__law_rounds_right rfl rfl rfl rfl rfl (hr.mono (by decide)) G.tk (pay_cons (py_var 0) (pay_cons (py_var 1) (pay_cons (py_var 2) (pay_cons (py_var 3) pay_nil))))) (py_one (py_call (c__law_rounds_right Φ) ar__law_rounds_right rfl rfl rfl rfl rfl (hr.mono (by decide)) G.tk (pay_cons (py_var 0) (pay_cons (py_var 1) (pay_cons (py_var 2) (pay_cons (py_tup (pay_cons (py_op opy_add (py_var 10) py_int) (pay_cons py_int pay_nil))) pay_nil))))))))))))))))))))))))))))
theorem c__law_right {P : Program} {w : World} {K : PySem.W.Frag} {mg : Str → Option Value} {base : Heap} (Φ : Facts K mg) : Callee P w K mg base 7 "_law_right" 1 f__law_right := call_y Φ.h__law_right sc__law_right rfl rfl rfl (w__law_right Φ)
theorem w_law {P : Program} {w : World} {K : PySem.W.Frag} {mg : Str → Option Value} {base : Heap} (Φ : Facts K mg) (f : Addr) (cdv : Value) (A : Around) (outer : List PySem.Env) (s : Shared) (H : Hp) (E : XK) (hr : Room 7 (A.deeper (envOfC "law" (defScope s_law) s.heap.objs.size f cdv)))
    (G : Gd (cxOf (L2.CX P w) P w K mg base n_law "law" (defScope s_law) f cdv A outer s H E) (fun c d _ H => E c d H)) :
    PSsy (cxOf (L2.CX P w) P w K mg base n_law "law" (defScope s_law) f cdv A outer s H E) (fun c d _ H => E c d H) (defBody s_law) b_law :=
  (pssy_cons (psy_for 100000 G (piy_rng1 Φ.z_range (pay_cons (py_bi (cry_max2 G.calm) boot_max Φ.z_max (pay_cons py_int (pay_cons (py_bi (cry_min2 G.calm) boot_min Φ.z_min (pay_cons py_int (pay_cons (py_bi cry_len boot_len Φ.z_len (pay_cons (py_var 0) pay_nil)) pay_nil))) pay_nil))) pay_nil)) (pgy_name (i := 1) G)
    (pssy_cons (psy_set (i := 2) G (py_call (c__law_crock Φ) ar__law_crock rfl rfl rfl rfl rfl (hr.mono (by decide)) G.tk (pay_cons (py_var 0) (pay_cons (py_var 1) pay_nil))))
    (pssy_one (psy_for 100000 G (piy_rng1 Φ.z_range (pay_cons py_int pay_nil)) (pgy_name (i := 3) G)
    (pssy_one (psy_if (pty_not (pty_val (py_call (c__law_right Φ) ar__law_right rfl rfl rfl rfl rfl (hr.mono (by decide)) G.tk (pay_cons (py_var 2) pay_nil)))) (pssy_one (psy_ret py_bl)) pssy_nil))))))
    (pssy_cons (psy_set (i := 4) G (py_tup (pay_cons (py_tup (pay_cons py_int (pay_cons py_int (pay_cons py_int (pay_cons py_int pay_nil))))) (pay_cons (py_tup (pay_cons py_int (pay_cons py_int (pay_cons py_int (pay_cons py_int pay_nil))))) (pay_cons (py_tup (pay_cons py_int (pay_cons py_int (pay_cons py_int (pay_cons py_int pay_nil))))) (pay_cons (py_tup (pay_cons py_int (pay_cons py_int (pay_cons py_int (pay_cons py_int pay_nil))))) pay_nil))))))
    (pssy_one (psy_ret (py_and (py_cmp (opy_eq hr.units) (py_call (c_least_period Φ) ar_least_period rfl rfl rfl rfl rfl (hr.mono (by decide)) G.tk (pay_cons py_int (pay_cons (py_var 4) pay_nil))) (py_tup (pay_cons py_int (pay_cons py_int pay_nil))) (by rfl)) (py_one (py_cmp (opy_eq hr.units) (py_call (c_least_period Φ) ar_least_period rfl rfl rfl rfl rfl (hr.mono (by decide)) G.tk (pay_cons py_int (pay_cons (py_tup (pay_cons (py_tup (pay_cons py_int (pay_cons py_int (pay_cons py_int (pay_cons py_int pay_nil))))) (pay_cons (py_tup (pay_cons py_int (pay_cons py_int (pay_cons py_int (pay_cons py_int pay_nil))))) pay_nil))) pay_nil))) (py_tup (pay_cons py_int (pay_cons py_int pay_nil))) (by rfl))))))))
theorem okLaw {P : Program} {w : World} {K : PySem.W.Frag} {mg : Str → Option Value} {base : Heap} {fa : Addr} {fd : FuncData} (Φ : Facts K mg) (F : Fun K "law" "law" s_law fa fd) : FnOk P w K mg base (L2.CX P w) 8 fa fd ["script"] (spLaw K) := law_p F sc_law rfl rfl law_true (w_law Φ)
theorem all_mk {w : World} {K : PySem.W.Frag} {h : Heap} {mg : Str → Option Value} {fa : Addr} (X : K.In h) (G : h.Ns mainGlobals mg) (hfa : mg "law" = some (.ref fa))
    {f0 : Addr} {od0 an0 : Option Addr} {sl0 : Array (Option Value)} {oc0 kV0 dc0 pm0 cd0 ct0 : Value}
    (a0 : PySem.W.nsIn K mainGlobals "shared_of" = some (some (.ref f0))) (l0 : K.lookup f0 = some ⟨oc0, od0, .func (PySem.W.fnOf "shared_of" "shared_of" (defArgs s_shared_of) (defBody s_shared_of) (defScope s_shared_of) .none kV0 dc0 pm0 an0 cd0 ct0), sl0⟩) (e0 : PySem.W.codeIn K cd0 "shared_of" = true) (k0 : PySem.W.keepIn K (.ref f0) = true)
    {f1 : Addr} {od1 an1 : Option Addr} {sl1 : Array (Option Value)} {oc1 kV1 dc1 pm1 cd1 ct1 : Value}
    (a1 : PySem.W.nsIn K mainGlobals "lowest" = some (some (.ref f1))) (l1 : K.lookup f1 = some ⟨oc1, od1, .func (PySem.W.fnOf "lowest" "lowest" (defArgs s_lowest) (defBody s_lowest) (defScope s_lowest) .none kV1 dc1 pm1 an1 cd1 ct1), sl1⟩) (e1 : PySem.W.codeIn K cd1 "lowest" = true) (k1 : PySem.W.keepIn K (.ref f1) = true)
    {f2 : Addr} {od2 an2 : Option Addr} {sl2 : Array (Option Value)} {oc2 kV2 dc2 pm2 cd2 ct2 : Value}
    (a2 : PySem.W.nsIn K mainGlobals "plus" = some (some (.ref f2))) (l2 : K.lookup f2 = some ⟨oc2, od2, .func (PySem.W.fnOf "plus" "plus" (defArgs s_plus) (defBody s_plus) (defScope s_plus) .none kV2 dc2 pm2 an2 cd2 ct2), sl2⟩) (e2 : PySem.W.codeIn K cd2 "plus" = true) (k2 : PySem.W.keepIn K (.ref f2) = true)
    {f3 : Addr} {od3 an3 : Option Addr} {sl3 : Array (Option Value)} {oc3 kV3 dc3 pm3 cd3 ct3 : Value}
    (a3 : PySem.W.nsIn K mainGlobals "times" = some (some (.ref f3))) (l3 : K.lookup f3 = some ⟨oc3, od3, .func (PySem.W.fnOf "times" "times" (defArgs s_times) (defBody s_times) (defScope s_times) .none kV3 dc3 pm3 an3 cd3 ct3), sl3⟩) (e3 : PySem.W.codeIn K cd3 "times" = true) (k3 : PySem.W.keepIn K (.ref f3) = true)
    {f4 : Addr} {od4 an4 : Option Addr} {sl4 : Array (Option Value)} {oc4 kV4 dc4 pm4 cd4 ct4 : Value}
    (a4 : PySem.W.nsIn K mainGlobals "is_under" = some (some (.ref f4))) (l4 : K.lookup f4 = some ⟨oc4, od4, .func (PySem.W.fnOf "is_under" "is_under" (defArgs s_is_under) (defBody s_is_under) (defScope s_is_under) .none kV4 dc4 pm4 an4 cd4 ct4), sl4⟩) (e4 : PySem.W.codeIn K cd4 "is_under" = true) (k4 : PySem.W.keepIn K (.ref f4) = true)
    {f5 : Addr} {od5 an5 : Option Addr} {sl5 : Array (Option Value)} {oc5 kV5 dc5 pm5 cd5 ct5 : Value}
    (a5 : PySem.W.nsIn K mainGlobals "is_fraction" = some (some (.ref f5))) (l5 : K.lookup f5 = some ⟨oc5, od5, .func (PySem.W.fnOf "is_fraction" "is_fraction" (defArgs s_is_fraction) (defBody s_is_fraction) (defScope s_is_fraction) .none kV5 dc5 pm5 an5 cd5 ct5), sl5⟩) (e5 : PySem.W.codeIn K cd5 "is_fraction" = true) (k5 : PySem.W.keepIn K (.ref f5) = true)
    {f6 : Addr} {od6 an6 : Option Addr} {sl6 : Array (Option Value)} {oc6 kV6 dc6 pm6 cd6 ct6 : Value}
    (a6 : PySem.W.nsIn K mainGlobals "is_count_within" = some (some (.ref f6))) (l6 : K.lookup f6 = some ⟨oc6, od6, .func (PySem.W.fnOf "is_count_within" "is_count_within" (defArgs s_is_count_within) (defBody s_is_count_within) (defScope s_is_count_within) .none kV6 dc6 pm6 an6 cd6 ct6), sl6⟩) (e6 : PySem.W.codeIn K cd6 "is_count_within" = true) (k6 : PySem.W.keepIn K (.ref f6) = true)
    {f7 : Addr} {od7 an7 : Option Addr} {sl7 : Array (Option Value)} {oc7 kV7 dc7 pm7 cd7 ct7 : Value}
    (a7 : PySem.W.nsIn K mainGlobals "gain_of" = some (some (.ref f7))) (l7 : K.lookup f7 = some ⟨oc7, od7, .func (PySem.W.fnOf "gain_of" "gain_of" (defArgs s_gain_of) (defBody s_gain_of) (defScope s_gain_of) .none kV7 dc7 pm7 an7 cd7 ct7), sl7⟩) (e7 : PySem.W.codeIn K cd7 "gain_of" = true) (k7 : PySem.W.keepIn K (.ref f7) = true)
    {f8 : Addr} {od8 an8 : Option Addr} {sl8 : Array (Option Value)} {oc8 kV8 dc8 pm8 cd8 ct8 : Value}
    (a8 : PySem.W.nsIn K mainGlobals "raised_once" = some (some (.ref f8))) (l8 : K.lookup f8 = some ⟨oc8, od8, .func (PySem.W.fnOf "raised_once" "raised_once" (defArgs s_raised_once) (defBody s_raised_once) (defScope s_raised_once) .none kV8 dc8 pm8 an8 cd8 ct8), sl8⟩) (e8 : PySem.W.codeIn K cd8 "raised_once" = true) (k8 : PySem.W.keepIn K (.ref f8) = true)
    {f9 : Addr} {od9 an9 : Option Addr} {sl9 : Array (Option Value)} {oc9 kV9 dc9 pm9 cd9 ct9 : Value}
    (a9 : PySem.W.nsIn K mainGlobals "ring_behind" = some (some (.ref f9))) (l9 : K.lookup f9 = some ⟨oc9, od9, .func (PySem.W.fnOf "ring_behind" "ring_behind" (defArgs s_ring_behind) (defBody s_ring_behind) (defScope s_ring_behind) .none kV9 dc9 pm9 an9 cd9 ct9), sl9⟩) (e9 : PySem.W.codeIn K cd9 "ring_behind" = true) (k9 : PySem.W.keepIn K (.ref f9) = true)
    {f10 : Addr} {od10 an10 : Option Addr} {sl10 : Array (Option Value)} {oc10 kV10 dc10 pm10 cd10 ct10 : Value}
    (a10 : PySem.W.nsIn K mainGlobals "ring_if_closed" = some (some (.ref f10))) (l10 : K.lookup f10 = some ⟨oc10, od10, .func (PySem.W.fnOf "ring_if_closed" "ring_if_closed" (defArgs s_ring_if_closed) (defBody s_ring_if_closed) (defScope s_ring_if_closed) .none kV10 dc10 pm10 an10 cd10 ct10), sl10⟩) (e10 : PySem.W.codeIn K cd10 "ring_if_closed" = true) (k10 : PySem.W.keepIn K (.ref f10) = true)
    {f11 : Addr} {od11 an11 : Option Addr} {sl11 : Array (Option Value)} {oc11 kV11 dc11 pm11 cd11 ct11 : Value}
    (a11 : PySem.W.nsIn K mainGlobals "heights_or_ring" = some (some (.ref f11))) (l11 : K.lookup f11 = some ⟨oc11, od11, .func (PySem.W.fnOf "heights_or_ring" "heights_or_ring" (defArgs s_heights_or_ring) (defBody s_heights_or_ring) (defScope s_heights_or_ring) .none kV11 dc11 pm11 an11 cd11 ct11), sl11⟩) (e11 : PySem.W.codeIn K cd11 "heights_or_ring" = true) (k11 : PySem.W.keepIn K (.ref f11) = true)
    {f12 : Addr} {od12 an12 : Option Addr} {sl12 : Array (Option Value)} {oc12 kV12 dc12 pm12 cd12 ct12 : Value}
    (a12 : PySem.W.nsIn K mainGlobals "numbers_of_ring" = some (some (.ref f12))) (l12 : K.lookup f12 = some ⟨oc12, od12, .func (PySem.W.fnOf "numbers_of_ring" "numbers_of_ring" (defArgs s_numbers_of_ring) (defBody s_numbers_of_ring) (defScope s_numbers_of_ring) .none kV12 dc12 pm12 an12 cd12 ct12), sl12⟩) (e12 : PySem.W.codeIn K cd12 "numbers_of_ring" = true) (k12 : PySem.W.keepIn K (.ref f12) = true)
    {f13 : Addr} {od13 an13 : Option Addr} {sl13 : Array (Option Value)} {oc13 kV13 dc13 pm13 cd13 ct13 : Value}
    (a13 : PySem.W.nsIn K mainGlobals "told_period" = some (some (.ref f13))) (l13 : K.lookup f13 = some ⟨oc13, od13, .func (PySem.W.fnOf "told_period" "told_period" (defArgs s_told_period) (defBody s_told_period) (defScope s_told_period) .none kV13 dc13 pm13 an13 cd13 ct13), sl13⟩) (e13 : PySem.W.codeIn K cd13 "told_period" = true) (k13 : PySem.W.keepIn K (.ref f13) = true)
    {f14 : Addr} {od14 an14 : Option Addr} {sl14 : Array (Option Value)} {oc14 kV14 dc14 pm14 cd14 ct14 : Value}
    (a14 : PySem.W.nsIn K mainGlobals "begins_by" = some (some (.ref f14))) (l14 : K.lookup f14 = some ⟨oc14, od14, .func (PySem.W.fnOf "begins_by" "begins_by" (defArgs s_begins_by) (defBody s_begins_by) (defScope s_begins_by) .none kV14 dc14 pm14 an14 cd14 ct14), sl14⟩) (e14 : PySem.W.codeIn K cd14 "begins_by" = true) (k14 : PySem.W.keepIn K (.ref f14) = true)
    {f15 : Addr} {od15 an15 : Option Addr} {sl15 : Array (Option Value)} {oc15 kV15 dc15 pm15 cd15 ct15 : Value}
    (a15 : PySem.W.nsIn K mainGlobals "are_begins" = some (some (.ref f15))) (l15 : K.lookup f15 = some ⟨oc15, od15, .func (PySem.W.fnOf "are_begins" "are_begins" (defArgs s_are_begins) (defBody s_are_begins) (defScope s_are_begins) .none kV15 dc15 pm15 an15 cd15 ct15), sl15⟩) (e15 : PySem.W.codeIn K cd15 "are_begins" = true) (k15 : PySem.W.keepIn K (.ref f15) = true)
    {f16 : Addr} {od16 an16 : Option Addr} {sl16 : Array (Option Value)} {oc16 kV16 dc16 pm16 cd16 ct16 : Value}
    (a16 : PySem.W.nsIn K mainGlobals "is_round_edge" = some (some (.ref f16))) (l16 : K.lookup f16 = some ⟨oc16, od16, .func (PySem.W.fnOf "is_round_edge" "is_round_edge" (defArgs s_is_round_edge) (defBody s_is_round_edge) (defScope s_is_round_edge) .none kV16 dc16 pm16 an16 cd16 ct16), sl16⟩) (e16 : PySem.W.codeIn K cd16 "is_round_edge" = true) (k16 : PySem.W.keepIn K (.ref f16) = true)
    {f17 : Addr} {od17 an17 : Option Addr} {sl17 : Array (Option Value)} {oc17 kV17 dc17 pm17 cd17 ct17 : Value}
    (a17 : PySem.W.nsIn K mainGlobals "require_edges" = some (some (.ref f17))) (l17 : K.lookup f17 = some ⟨oc17, od17, .func (PySem.W.fnOf "require_edges" "require_edges" (defArgs s_require_edges) (defBody s_require_edges) (defScope s_require_edges) .none kV17 dc17 pm17 an17 cd17 ct17), sl17⟩) (e17 : PySem.W.codeIn K cd17 "require_edges" = true) (k17 : PySem.W.keepIn K (.ref f17) = true)
    {f18 : Addr} {od18 an18 : Option Addr} {sl18 : Array (Option Value)} {oc18 kV18 dc18 pm18 cd18 ct18 : Value}
    (a18 : PySem.W.nsIn K mainGlobals "require_period" = some (some (.ref f18))) (l18 : K.lookup f18 = some ⟨oc18, od18, .func (PySem.W.fnOf "require_period" "require_period" (defArgs s_require_period) (defBody s_require_period) (defScope s_require_period) .none kV18 dc18 pm18 an18 cd18 ct18), sl18⟩) (e18 : PySem.W.codeIn K cd18 "require_period" = true) (k18 : PySem.W.keepIn K (.ref f18) = true)
    {f19 : Addr} {od19 an19 : Option Addr} {sl19 : Array (Option Value)} {oc19 kV19 dc19 pm19 cd19 ct19 : Value}
    (a19 : PySem.W.nsIn K mainGlobals "is_begins" = some (some (.ref f19))) (l19 : K.lookup f19 = some ⟨oc19, od19, .func (PySem.W.fnOf "is_begins" "is_begins" (defArgs s_is_begins) (defBody s_is_begins) (defScope s_is_begins) .none kV19 dc19 pm19 an19 cd19 ct19), sl19⟩) (e19 : PySem.W.codeIn K cd19 "is_begins" = true) (k19 : PySem.W.keepIn K (.ref f19) = true)
    {f20 : Addr} {od20 an20 : Option Addr} {sl20 : Array (Option Value)} {oc20 kV20 dc20 pm20 cd20 ct20 : Value}
    (a20 : PySem.W.nsIn K mainGlobals "first_begins" = some (some (.ref f20))) (l20 : K.lookup f20 = some ⟨oc20, od20, .func (PySem.W.fnOf "first_begins" "first_begins" (defArgs s_first_begins) (defBody s_first_begins) (defScope s_first_begins) .none kV20 dc20 pm20 an20 cd20 ct20), sl20⟩) (e20 : PySem.W.codeIn K cd20 "first_begins" = true) (k20 : PySem.W.keepIn K (.ref f20) = true)
    {f21 : Addr} {od21 an21 : Option Addr} {sl21 : Array (Option Value)} {oc21 kV21 dc21 pm21 cd21 ct21 : Value}
    (a21 : PySem.W.nsIn K mainGlobals "least_period" = some (some (.ref f21))) (l21 : K.lookup f21 = some ⟨oc21, od21, .func (PySem.W.fnOf "least_period" "least_period" (defArgs s_least_period) (defBody s_least_period) (defScope s_least_period) .none kV21 dc21 pm21 an21 cd21 ct21), sl21⟩) (e21 : PySem.W.codeIn K cd21 "least_period" = true) (k21 : PySem.W.keepIn K (.ref f21) = true)
    {f22 : Addr} {od22 an22 : Option Addr} {sl22 : Array (Option Value)} {oc22 kV22 dc22 pm22 cd22 ct22 : Value}
    (a22 : PySem.W.nsIn K mainGlobals "least_integer_period" = some (some (.ref f22))) (l22 : K.lookup f22 = some ⟨oc22, od22, .func (PySem.W.fnOf "least_integer_period" "least_integer_period" (defArgs s_least_integer_period) (defBody s_least_integer_period) (defScope s_least_integer_period) .none kV22 dc22 pm22 an22 cd22 ct22), sl22⟩) (e22 : PySem.W.codeIn K cd22 "least_integer_period" = true) (k22 : PySem.W.keepIn K (.ref f22) = true)
    {f23 : Addr} {od23 an23 : Option Addr} {sl23 : Array (Option Value)} {oc23 kV23 dc23 pm23 cd23 ct23 : Value}
    (a23 : PySem.W.nsIn K mainGlobals "_law_crock" = some (some (.ref f23))) (l23 : K.lookup f23 = some ⟨oc23, od23, .func (PySem.W.fnOf "_law_crock" "_law_crock" (defArgs s__law_crock) (defBody s__law_crock) (defScope s__law_crock) .none kV23 dc23 pm23 an23 cd23 ct23), sl23⟩) (e23 : PySem.W.codeIn K cd23 "_law_crock" = true) (k23 : PySem.W.keepIn K (.ref f23) = true)
    {f24 : Addr} {od24 an24 : Option Addr} {sl24 : Array (Option Value)} {oc24 kV24 dc24 pm24 cd24 ct24 : Value}
    (a24 : PySem.W.nsIn K mainGlobals "_law_ladle" = some (some (.ref f24))) (l24 : K.lookup f24 = some ⟨oc24, od24, .func (PySem.W.fnOf "_law_ladle" "_law_ladle" (defArgs s__law_ladle) (defBody s__law_ladle) (defScope s__law_ladle) .none kV24 dc24 pm24 an24 cd24 ct24), sl24⟩) (e24 : PySem.W.codeIn K cd24 "_law_ladle" = true) (k24 : PySem.W.keepIn K (.ref f24) = true)
    {f25 : Addr} {od25 an25 : Option Addr} {sl25 : Array (Option Value)} {oc25 kV25 dc25 pm25 cd25 ct25 : Value}
    (a25 : PySem.W.nsIn K mainGlobals "_law_pick_of" = some (some (.ref f25))) (l25 : K.lookup f25 = some ⟨oc25, od25, .func (PySem.W.fnOf "_law_pick_of" "_law_pick_of" (defArgs s__law_pick_of) (defBody s__law_pick_of) (defScope s__law_pick_of) .none kV25 dc25 pm25 an25 cd25 ct25), sl25⟩) (e25 : PySem.W.codeIn K cd25 "_law_pick_of" = true) (k25 : PySem.W.keepIn K (.ref f25) = true)
    {f26 : Addr} {od26 an26 : Option Addr} {sl26 : Array (Option Value)} {oc26 kV26 dc26 pm26 cd26 ct26 : Value}
    (a26 : PySem.W.nsIn K mainGlobals "_law_edges" = some (some (.ref f26))) (l26 : K.lookup f26 = some ⟨oc26, od26, .func (PySem.W.fnOf "_law_edges" "_law_edges" (defArgs s__law_edges) (defBody s__law_edges) (defScope s__law_edges) .none kV26 dc26 pm26 an26 cd26 ct26), sl26⟩) (e26 : PySem.W.codeIn K cd26 "_law_edges" = true) (k26 : PySem.W.keepIn K (.ref f26) = true)
    {f27 : Addr} {od27 an27 : Option Addr} {sl27 : Array (Option Value)} {oc27 kV27 dc27 pm27 cd27 ct27 : Value}
    (a27 : PySem.W.nsIn K mainGlobals "_law_lowest" = some (some (.ref f27))) (l27 : K.lookup f27 = some ⟨oc27, od27, .func (PySem.W.fnOf "_law_lowest" "_law_lowest" (defArgs s__law_lowest) (defBody s__law_lowest) (defScope s__law_lowest) .none kV27 dc27 pm27 an27 cd27 ct27), sl27⟩) (e27 : PySem.W.codeIn K cd27 "_law_lowest" = true) (k27 : PySem.W.keepIn K (.ref f27) = true)
    {f28 : Addr} {od28 an28 : Option Addr} {sl28 : Array (Option Value)} {oc28 kV28 dc28 pm28 cd28 ct28 : Value}
    (a28 : PySem.W.nsIn K mainGlobals "_law_times" = some (some (.ref f28))) (l28 : K.lookup f28 = some ⟨oc28, od28, .func (PySem.W.fnOf "_law_times" "_law_times" (defArgs s__law_times) (defBody s__law_times) (defScope s__law_times) .none kV28 dc28 pm28 an28 cd28 ct28), sl28⟩) (e28 : PySem.W.codeIn K cd28 "_law_times" = true) (k28 : PySem.W.keepIn K (.ref f28) = true)
    {f29 : Addr} {od29 an29 : Option Addr} {sl29 : Array (Option Value)} {oc29 kV29 dc29 pm29 cd29 ct29 : Value}
    (a29 : PySem.W.nsIn K mainGlobals "_law_over" = some (some (.ref f29))) (l29 : K.lookup f29 = some ⟨oc29, od29, .func (PySem.W.fnOf "_law_over" "_law_over" (defArgs s__law_over) (defBody s__law_over) (defScope s__law_over) .none kV29 dc29 pm29 an29 cd29 ct29), sl29⟩) (e29 : PySem.W.codeIn K cd29 "_law_over" = true) (k29 : PySem.W.keepIn K (.ref f29) = true)
    {f30 : Addr} {od30 an30 : Option Addr} {sl30 : Array (Option Value)} {oc30 kV30 dc30 pm30 cd30 ct30 : Value}
    (a30 : PySem.W.nsIn K mainGlobals "_law_rounds_right" = some (some (.ref f30))) (l30 : K.lookup f30 = some ⟨oc30, od30, .func (PySem.W.fnOf "_law_rounds_right" "_law_rounds_right" (defArgs s__law_rounds_right) (defBody s__law_rounds_right) (defScope s__law_rounds_right) .none kV30 dc30 pm30 an30 cd30 ct30), sl30⟩) (e30 : PySem.W.codeIn K cd30 "_law_rounds_right" = true) (k30 : PySem.W.keepIn K (.ref f30) = true)
    {f31 : Addr} {od31 an31 : Option Addr} {sl31 : Array (Option Value)} {oc31 kV31 dc31 pm31 cd31 ct31 : Value}
    (a31 : PySem.W.nsIn K mainGlobals "_law_right" = some (some (.ref f31))) (l31 : K.lookup f31 = some ⟨oc31, od31, .func (PySem.W.fnOf "_law_right" "_law_right" (defArgs s__law_right) (defBody s__law_right) (defScope s__law_right) .none kV31 dc31 pm31 an31 cd31 ct31), sl31⟩) (e31 : PySem.W.codeIn K cd31 "_law_right" = true) (k31 : PySem.W.keepIn K (.ref f31) = true)
    {f32 : Addr} {od32 an32 : Option Addr} {sl32 : Array (Option Value)} {oc32 kV32 dc32 pm32 cd32 ct32 : Value}
    (a32 : PySem.W.nsIn K mainGlobals "law" = some (some (.ref f32))) (l32 : K.lookup f32 = some ⟨oc32, od32, .func (PySem.W.fnOf "law" "law" (defArgs s_law) (defBody s_law) (defScope s_law) .none kV32 dc32 pm32 an32 cd32 ct32), sl32⟩) (e32 : PySem.W.codeIn K cd32 "law" = true) (k32 : PySem.W.keepIn K (.ref f32) = true)
    (z_abs : PySem.W.nsIn K mainGlobals "abs" = some none)
    (z_all : PySem.W.nsIn K mainGlobals "all" = some none)
    (z_bool : PySem.W.nsIn K mainGlobals "bool" = some none)
    (z_enumerate : PySem.W.nsIn K mainGlobals "enumerate" = some none)
    (z_int : PySem.W.nsIn K mainGlobals "int" = some none)
    (z_isinstance : PySem.W.nsIn K mainGlobals "isinstance" = some none)
    (z_len : PySem.W.nsIn K mainGlobals "len" = some none)
    (z_max : PySem.W.nsIn K mainGlobals "max" = some none)
    (z_min : PySem.W.nsIn K mainGlobals "min" = some none)
    (z_range : PySem.W.nsIn K mainGlobals "range" = some none)
    (z_sorted : PySem.W.nsIn K mainGlobals "sorted" = some none)
    (z_sum : PySem.W.nsIn K mainGlobals "sum" = some none)
    (z_tuple : PySem.W.nsIn K mainGlobals "tuple" = some none)
    {t_EDGE_SIZE : Tok} (c_EDGE_SIZE : PySem.W.nsIn K mainGlobals "EDGE_SIZE" = some (some (.int 4 t_EDGE_SIZE)))
    {t_MOST_EDGES : Tok} (c_MOST_EDGES : PySem.W.nsIn K mainGlobals "MOST_EDGES" = some (some (.int 20 t_MOST_EDGES)))
    {t_MOST_EDGE_LENGTH : Tok} (c_MOST_EDGE_LENGTH : PySem.W.nsIn K mainGlobals "MOST_EDGE_LENGTH" = some (some (.int 99 t_MOST_EDGE_LENGTH)))
    {t_MOST_ROUND_TASKS : Tok} (c_MOST_ROUND_TASKS : PySem.W.nsIn K mainGlobals "MOST_ROUND_TASKS" = some (some (.int 8 t_MOST_ROUND_TASKS)))
    {t_MOST_TURNS : Tok} (c_MOST_TURNS : PySem.W.nsIn K mainGlobals "MOST_TURNS" = some (some (.int 9 t_MOST_TURNS)))
    {p_NOUGHT : Addr} {q_NOUGHT : Option Addr} {r_NOUGHT : Array (Option Value)} {t_NOUGHT u_NOUGHT : Tok} {m_NOUGHT : Nat} (c_NOUGHT : PySem.W.nsIn K mainGlobals "NOUGHT" = some (some (.ref p_NOUGHT))) (d_NOUGHT : K.lookup p_NOUGHT = some ⟨.type "tuple", q_NOUGHT, .seq #[.int 0 t_NOUGHT, .int 1 u_NOUGHT] m_NOUGHT, r_NOUGHT⟩)
    : ∃ fd : FuncData, (∀ (s : Shared) (v : Value), BindsTo s fd ⟨[v], []⟩ [("script", v)]) ∧ ∀ base : Heap, K.In base → base.Ns mainGlobals mg → FnOk PySem.Challenge.rw_loadwide_k57_whole_periods_by_many_roads.prog w K mg base (L2.CX PySem.Challenge.rw_loadwide_k57_whole_periods_by_many_roads.prog w) 8 fa fd ["script"] (spLaw K) := by
  have e := hfa.symm.trans (PySem.W.mg_of X G a32)
  cases e
  have Φ : Facts K mg := {
    h_shared_of := ⟨f0, _, fun_mk l0 e0 k0, PySem.W.mg_of X G a0, k0, (fun_mk (st := s_shared_of) l0 e0 k0).binds (fun _ _ _ _ _ _ us hl => match us, hl with | [_, _], _ => rfl)⟩
    h_lowest := ⟨f1, _, fun_mk l1 e1 k1, PySem.W.mg_of X G a1, k1, (fun_mk (st := s_lowest) l1 e1 k1).binds (fun _ _ _ _ _ _ us hl => match us, hl with | [_, _], _ => rfl)⟩
    h_plus := ⟨f2, _, fun_mk l2 e2 k2, PySem.W.mg_of X G a2, k2, (fun_mk (st := s_plus) l2 e2 k2).binds (fun _ _ _ _ _ _ us hl => match us, hl with | [_, _], _ => rfl)⟩
    h_times := ⟨f3, _, fun_mk l3 e3 k3, PySem.W.mg_of X G a3, k3, (fun_mk (st := s_times) l3 e3 k3).binds (fun _ _ _ _ _ _ us hl => match us, hl with | [_, _], _ => rfl)⟩
    h_is_under := ⟨f4, _, fun_mk l4 e4 k4, PySem.W.mg_of X G a4, k4, (fun_mk (st := s_is_under) l4 e4 k4).binds (fun _ _ _ _ _ _ us hl => match us, hl with | [_, _], _ => rfl)⟩
    h_is_fraction := ⟨f5, _, fun_mk l5 e5 k5, PySem.W.mg_of X G a5, k5, (fun_mk (st := s_is_fraction) l5 e5 k5).binds (fun _ _ _ _ _ _ us hl => match us, hl with | [_], _ => rfl)⟩
    h_is_count_within := ⟨f6, _, fun_mk l6 e6 k6, PySem.W.mg_of X G a6, k6, (fun_mk (st := s_is_count_within) l6 e6 k6).binds (fun _ _ _ _ _ _ us hl => match us, hl with | [_, _, _], _ => rfl)⟩
    h_gain_of := ⟨f7, _, fun_mk l7 e7 k7, PySem.W.mg_of X G a7, k7, (fun_mk (st := s_gain_of) l7 e7 k7).binds (fun _ _ _ _ _ _ us hl => match us, hl with | [_, _], _ => rfl)⟩
    h_raised_once := ⟨f8, _, fun_mk l8 e8 k8, PySem.W.mg_of X G a8, k8, (fun_mk (st := s_raised_once) l8 e8 k8).binds (fun _ _ _ _ _ _ us hl => match us, hl with | [_, _, _, _], _ => rfl)⟩
    h_ring_behind := ⟨f9, _, fun_mk l9 e9 k9, PySem.W.mg_of X G a9, k9, (fun_mk (st := s_ring_behind) l9 e9 k9).binds (fun _ _ _ _ _ _ us hl => match us, hl with | [_, _, _], _ => rfl)⟩
    h_ring_if_closed := ⟨f10, _, fun_mk l10 e10 k10, PySem.W.mg_of X G a10, k10, (fun_mk (st := s_ring_if_closed) l10 e10 k10).binds (fun _ _ _ _ _ _ us hl => match us, hl with | [_, _, _], _ => rfl)⟩
    h_heights_or_ring := ⟨f11, _, fun_mk l11 e11 k11, PySem.W.mg_of X G a11, k11, (fun_mk (st := s_heights_or_ring) l11 e11 k11).binds (fun _ _ _ _ _ _ us hl => match us, hl with | [_, _, _], _ => rfl)⟩
    h_numbers_of_ring := ⟨f12, _, fun_mk l12 e12 k12, PySem.W.mg_of X G a12, k12, (fun_mk (st := s_numbers_of_ring) l12 e12 k12).binds (fun _ _ _ _ _ _ us hl => match us, hl with | [_, _], _ => rfl)⟩
    h_told_period := ⟨f13, _, fun_mk l13 e13 k13, PySem.W.mg_of X G a13, k13, (fun_mk (st := s_told_period) l13 e13 k13).binds (fun _ _ _ _ _ _ us hl => match us, hl with | [_, _], _ => rfl)⟩
    h_begins_by := ⟨f14, _, fun_mk l14 e14 k14, PySem.W.mg_of X G a14, k14, (fun_mk (st := s_begins_by) l14 e14 k14).binds (fun _ _ _ _ _ _ us hl => match us, hl with | [_, _], _ => rfl)⟩
    h_are_begins := ⟨f15, _, fun_mk l15 e15 k15, PySem.W.mg_of X G a15, k15, (fun_mk (st := s_are_begins) l15 e15 k15).binds (fun _ _ _ _ _ _ us hl => match us, hl with | [_, _, _, _], _ => rfl)⟩
    h_is_round_edge := ⟨f16, _, fun_mk l16 e16 k16, PySem.W.mg_of X G a16, k16, (fun_mk (st := s_is_round_edge) l16 e16 k16).binds (fun _ _ _ _ _ _ us hl => match us, hl with | [_, _], _ => rfl)⟩
    h_require_edges := ⟨f17, _, fun_mk l17 e17 k17, PySem.W.mg_of X G a17, k17, (fun_mk (st := s_require_edges) l17 e17 k17).binds (fun _ _ _ _ _ _ us hl => match us, hl with | [_, _], _ => rfl)⟩
    h_require_period := ⟨f18, _, fun_mk l18 e18 k18, PySem.W.mg_of X G a18, k18, (fun_mk (st := s_require_period) l18 e18 k18).binds (fun _ _ _ _ _ _ us hl => match us, hl with | [_, _, _], _ => rfl)⟩
    h_is_begins := ⟨f19, _, fun_mk l19 e19 k19, PySem.W.mg_of X G a19, k19, (fun_mk (st := s_is_begins) l19 e19 k19).binds (fun _ _ _ _ _ _ us hl => match us, hl with | [_, _, _, _], _ => rfl)⟩
    h_first_begins := ⟨f20, _, fun_mk l20 e20 k20, PySem.W.mg_of X G a20, k20, (fun_mk (st := s_first_begins) l20 e20 k20).binds (fun _ _ _ _ _ _ us hl => match us, hl with | [_, _, _], _ => rfl)⟩
    h_least_period := ⟨f21, _, fun_mk l21 e21 k21, PySem.W.mg_of X G a21, k21, (fun_mk (st := s_least_period) l21 e21 k21).binds (fun _ _ _ _ _ _ us hl => match us, hl with | [_, _], _ => rfl)⟩
    h_least_integer_period := ⟨f22, _, fun_mk l22 e22 k22, PySem.W.mg_of X G a22, k22, (fun_mk (st := s_least_integer_period) l22 e22 k22).binds (fun _ _ _ _ _ _ us hl => match us, hl with | [_, _], _ => rfl)⟩
    h__law_crock := ⟨f23, _, fun_mk l23 e23 k23, PySem.W.mg_of X G a23, k23, (fun_mk (st := s__law_crock) l23 e23 k23).binds (fun _ _ _ _ _ _ us hl => match us, hl with | [_, _], _ => rfl)⟩
    h__law_ladle := ⟨f24, _, fun_mk l24 e24 k24, PySem.W.mg_of X G a24, k24, (fun_mk (st := s__law_ladle) l24 e24 k24).binds (fun _ _ _ _ _ _ us hl => match us, hl with | [_, _], _ => rfl)⟩
    h__law_pick_of := ⟨f25, _, fun_mk l25 e25 k25, PySem.W.mg_of X G a25, k25, (fun_mk (st := s__law_pick_of) l25 e25 k25).binds (fun _ _ _ _ _ _ us hl => match us, hl with | [_, _], _ => rfl)⟩
    h__law_edges := ⟨f26, _, fun_mk l26 e26 k26, PySem.W.mg_of X G a26, k26, (fun_mk (st := s__law_edges) l26 e26 k26).binds (fun _ _ _ _ _ _ us hl => match us, hl with | [_, _, _], _ => rfl)⟩
    h__law_lowest := ⟨f27, _, fun_mk l27 e27 k27, PySem.W.mg_of X G a27, k27, (fun_mk (st := s__law_lowest) l27 e27 k27).binds (fun _ _ _ _ _ _ us hl => match us, hl with | [_, _], _ => rfl)⟩
    h__law_times := ⟨f28, _, fun_mk l28 e28 k28, PySem.W.mg_of X G a28, k28, (fun_mk (st := s__law_times) l28 e28 k28).binds (fun _ _ _ _ _ _ us hl => match us, hl with | [_, _], _ => rfl)⟩
    h__law_over := ⟨f29, _, fun_mk l29 e29 k29, PySem.W.mg_of X G a29, k29, (fun_mk (st := s__law_over) l29 e29 k29).binds (fun _ _ _ _ _ _ us hl => match us, hl with | [_, _], _ => rfl)⟩
    h__law_rounds_right := ⟨f30, _, fun_mk l30 e30 k30, PySem.W.mg_of X G a30, k30, (fun_mk (st := s__law_rounds_right) l30 e30 k30).binds (fun _ _ _ _ _ _ us hl => match us, hl with | [_, _, _, _], _ => rfl)⟩
    h__law_right := ⟨f31, _, fun_mk l31 e31 k31, PySem.W.mg_of X G a31, k31, (fun_mk (st := s__law_right) l31 e31 k31).binds (fun _ _ _ _ _ _ us hl => match us, hl with | [_], _ => rfl)⟩
    h_law := ⟨fa, _, fun_mk l32 e32 k32, PySem.W.mg_of X G a32, k32, (fun_mk (st := s_law) l32 e32 k32).binds (fun _ _ _ _ _ _ us hl => match us, hl with | [_], _ => rfl)⟩
    z_abs := PySem.W.mg_none_of X G z_abs
    z_all := PySem.W.mg_none_of X G z_all
    z_bool := PySem.W.mg_none_of X G z_bool
    z_enumerate := PySem.W.mg_none_of X G z_enumerate
    z_int := PySem.W.mg_none_of X G z_int
    z_isinstance := PySem.W.mg_none_of X G z_isinstance
    z_len := PySem.W.mg_none_of X G z_len
    z_max := PySem.W.mg_none_of X G z_max
    z_min := PySem.W.mg_none_of X G z_min
    z_range := PySem.W.mg_none_of X G z_range
    z_sorted := PySem.W.mg_none_of X G z_sorted
    z_sum := PySem.W.mg_none_of X G z_sum
    z_tuple := PySem.W.mg_none_of X G z_tuple
    c_EDGE_SIZE := GK.int (PySem.W.mg_of X G c_EDGE_SIZE)
    c_MOST_EDGES := GK.int (PySem.W.mg_of X G c_MOST_EDGES)
    c_MOST_EDGE_LENGTH := GK.int (PySem.W.mg_of X G c_MOST_EDGE_LENGTH)
    c_MOST_ROUND_TASKS := GK.int (PySem.W.mg_of X G c_MOST_ROUND_TASKS)
    c_MOST_TURNS := GK.int (PySem.W.mg_of X G c_MOST_TURNS)
    c_NOUGHT := GK.pair (PySem.W.mg_of X G c_NOUGHT) d_NOUGHT }
  refine ⟨PySem.W.fnOf "law" "law" (defArgs s_law) (defBody s_law) (defScope s_law) .none kV32 dc32 pm32 an32 cd32 ct32, fun s v => .of_eq rfl, fun base _ _ => ?_⟩
  have ok := okLaw (P := PySem.Challenge.rw_loadwide_k57_whole_periods_by_many_roads.prog) (w := w) (base := base) Φ (fun_mk (st := s_law) l32 e32 k32)
  exact ok
end Y
open PySem PySem.W PyProof.Rows Y
set_option maxHeartbeats 0 in
theorem PySem.Challenge.cw_loadwide_k57_whole_periods_by_many_roads_holds : PySem.Challenge.rw_loadwide_k57_whole_periods_by_many_roads.Holds := by
  w_on; o_law; k_head; (case hw => w_witness2)
  k_fill
  refine L2.walk_of (l := PySem.Challenge.rw_loadwide_k57_whole_periods_by_many_roads) (n := 63) (k := 8) (x := "script") (CX := fun w => L2.CX PySem.Challenge.rw_loadwide_k57_whole_periods_by_many_roads.prog w) (sp := fun w => spLaw _) rfl (by decide) rfl ⟨rfl, by decide, by decide⟩ (fun w h Y => PySem.W.kIn_of Y) ?F (fun _ _ a ns hl _ hS => ⟨a, ns, rfl, hS, hl, fun _ => rfl⟩) law_noX
  case F =>
    intro w mg fa h KX G hmg
    refine' all_mk KX G hmg ?a0 ?l0 ?e0 ?k0 ?a1 ?l1 ?e1 ?k1 ?a2 ?l2 ?e2 ?k2 ?a3 ?l3 ?e3 ?k3 ?a4 ?l4 ?e4 ?k4 ?a5 ?l5 ?e5 ?k5 ?a6 ?l6 ?e6 ?k6 ?a7 ?l7 ?e7 ?k7 ?a8 ?l8 ?e8 ?k8 ?a9 ?l9 ?e9 ?k9 ?a10 ?l10 ?e10 ?k10 ?a11 ?l11 ?e11 ?k11 ?a12 ?l12 ?e12 ?k12 ?a13 ?l13 ?e13 ?k13 ?a14 ?l14 ?e14 ?k14 ?a15 ?l15 ?e15 ?k15 ?a16 ?l16 ?e16 ?k16 ?a17 ?l17 ?e17 ?k17 ?a18 ?l18 ?e18 ?k18 ?a19 ?l19 ?e19 ?k19 ?a20 ?l20 ?e20 ?k20 ?a21 ?l21 ?e21 ?k21 ?a22 ?l22 ?e22 ?k22 ?a23 ?l23 ?e23 ?k23 ?a24 ?l24 ?e24 ?k24 ?a25 ?l25 ?e25 ?k25 ?a26 ?l26 ?e26 ?k26 ?a27 ?l27 ?e27 ?k27 ?a28 ?l28 ?e28 ?k28 ?a29 ?l29 ?e29 ?k29 ?a30 ?l30 ?e30 ?k30 ?a31 ?l31 ?e31 ?k31 ?a32 ?l32 ?e32 ?k32 ?z_abs ?z_all ?z_bool ?z_enumerate ?z_int ?z_isinstance ?z_len ?z_max ?z_min ?z_range ?z_sorted ?z_sum ?z_tuple ?c_EDGE_SIZE ?c_MOST_EDGES ?c_MOST_EDGE_LENGTH ?c_MOST_ROUND_TASKS ?c_MOST_TURNS ?c_NOUGHT ?d_NOUGHT
    (case a0 => k_is); (case l0 => k_is); (case e0 => k_is); (case k0 => k_is); (case a1 => k_is); (case l1 => k_is); (case e1 => k_is); (case k1 => k_is); (case a2 => k_is); (case l2 => k_is); (case e2 => k_is); (case k2 => k_is); (case a3 => k_is); (case l3 => k_is); (case e3 => k_is); (case k3 => k_is); (case a4 => k_is); (case l4 => k_is); (case e4 => k_is); (case k4 => k_is); (case a5 => k_is); (case l5 => k_is); (case e5 => k_is); (case k5 => k_is); (case a6 => k_is); (case l6 => k_is); (case e6 => k_is); (case k6 => k_is); (case a7 => k_is); (case l7 => k_is); (case e7 => k_is); (case k7 => k_is); (case a8 => k_is); (case l8 => k_is); (case e8 => k_is); (case k8 => k_is); (case a9 => k_is); (case l9 => k_is); (case e9 => k_is); (case k9 => k_is); (case a10 => k_is); (case l10 => k_is); (case e10 => k_is); (case k10 => k_is); (case a11 => k_is); (case l11 => k_is); (case e11 => k_is); (case k11 => k_is); (case a12 => k_is); (case l12 => k_is); (case e12 => k_is); (case k12 => k_is); (case a13 => k_is); (case l13 => k_is); (case e13 => k_is); (case k13 => k_is); (case a14 => k_is); (case l14 => k_is); (case e14 => k_is); (case k14 => k_is); (case a15 => k_is); (case l15 => k_is); (case e15 => k_is); (case k15 => k_is); (case a16 => k_is); (case l16 => k_is); (case e16 => k_is); (case k16 => k_is); (case a17 => k_is); (case l17 => k_is); (case e17 => k_is); (case k17 => k_is); (case a18 => k_is); (case l18 => k_is); (case e18 => k_is); (case k18 => k_is); (case a19 => k_is); (case l19 => k_is); (case e19 => k_is); (case k19 => k_is); (case a20 => k_is); (case l20 => k_is); (case e20 => k_is); (case k20 => k_is); (case a21 => k_is); (case l21 => k_is); (case e21 => k_is); (case k21 => k_is); (case a22 => k_is); (case l22 => k_is); (case e22 => k_is); (case k22 => k_is); (case a23 => k_is); (case l23 => k_is); (case e23 => k_is); (case k23 => k_is); (case a24 => k_is); (case l24 => k_is); (case e24 => k_is); (case k24 => k_is); (case a25 => k_is); (case l25 => k_is); (case e25 => k_is); (case k25 => k_is); (case a26 => k_is); (case l26 => k_is); (case e26 => k_is); (case k26 => k_is); (case a27 => k_is); (case l27 => k_is); (case e27 => k_is); (case k27 => k_is); (case a28 => k_is); (case l28 => k_is); (case e28 => k_is); (case k28 => k_is); (case a29 => k_is); (case l29 => k_is); (case e29 => k_is); (case k29 => k_is); (case a30 => k_is); (case l30 => k_is); (case e30 => k_is); (case k30 => k_is); (case a31 => k_is); (case l31 => k_is); (case e31 => k_is); (case k31 => k_is); (case a32 => k_is); (case l32 => k_is); (case e32 => k_is); (case k32 => k_is); (case z_abs => k_is); (case z_all => k_is); (case z_bool => k_is); (case z_enumerate => k_is); (case z_int => k_is); (case z_isinstance => k_is); (case z_len => k_is); (case z_max => k_is); (case z_min => k_is); (case z_range => k_is); (case z_sorted => k_is); (case z_sum => k_is); (case z_tuple => k_is); (case c_EDGE_SIZE => k_is); (case c_MOST_EDGES => k_is); (case c_MOST_EDGE_LENGTH => k_is); (case c_MOST_ROUND_TASKS => k_is); (case c_MOST_TURNS => k_is); (case c_NOUGHT => k_is); (case d_NOUGHT => k_is)

