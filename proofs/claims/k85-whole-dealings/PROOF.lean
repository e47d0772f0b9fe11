import PyProof.Rows.All
import Wide.All
import OpenK.AllK
import Wide.FinOn
import HandS.Base
import HandS.Call
import HandS.List
import HandS.Comp
import HandS.Ends
import HandS.Walk
import HandS.Words
import HandS.WordsList
import HandS.Wide
import HandS.TupAny
import HandS.TupMul
import HandS.IsInst
import HandS.Flow
import HandS.Text
import HandS.Iter
import HandS.Zip
import HandS.Star
import HandS.Defaults
import PyProof.ListStr
import KE.GoesMore
import HandS.HeadEnd
import HandS.Style
import HandS.HeadHook1
import HandS.HeadHook2
import HandS.Set
import HandS.Strs
import HandS.TupSets
import HandS.RaiseMore
import PyProof.ReprRoads
import PyProof.CallFns
import KE.KStateDown
import Lean
import HandS.More
import HandS.WordsExc
import HandS.Head0
import HandS.Head1
import HandS.Head2
import PySem.Challenge.RW_withoutslow_k85_whole_dealings
set_option Elab.async false
set_option linter.all false
set_option maxRecDepth 100000
set_option maxHeartbeats 2000000
/-! P0: values as plain data; what represents them; how a heap grows. -/
namespace Pl
open PySem PySem.Spec PyProof.Rows L2

inductive D where
  | non | bl (b : Bool) | int (i : Int) | str (x : Str) | ty (n : String)
  | tup (xs : List D) | lst (xs : List D) | scr (ns : List Int) | ref (i : Nat)
  deriving Inhabited

inductive Cell where
  | lst (ds : List D)
  deriving Inhabited
abbrev Sto := List Cell
abbrev Fr := List (Option D)
inductive Re (α : Type) where
  | ok (a : α) (st : Sto)
  | exc (n : Str) (fs : List D) (st : Sto)
  | bad
def Re.bind {α β : Type} (r : Re α) (f : α → Sto → Re β) : Re β := match r with
  | .ok a st => f a st
  | .exc n fs st => .exc n fs st
  | .bad => .bad
abbrev Sh (α : Type) := Fr → Sto → Re α

/-- what stays through a def's body: the written part, what is true of lists that do not change, the classes of errors -/
structure Ctx where
  K : PySem.W.Frag
  PP : Addr → Prop
  xc : Str → Addr

structure Kc where
  K : PySem.W.Frag
  xc : Str → Addr
abbrev Kc.w (k : Kc) (PP : Addr → Prop) : Ctx := ⟨k.K, PP, k.xc⟩
def KT (K : PySem.W.Frag) (a : Addr) (xs : List V) : Prop :=
  ∃ (o : Obj) (its : Array Value) (n : Nat), K.lookup a = some o ∧ o.cls = .type "tuple" ∧ o.data = .seq its n ∧ its.size ≤ sizeLine ∧ Vals xs its.toList
def KL (K : PySem.W.Frag) (a : Addr) (xs : List V) : Prop :=
  ∃ (o : Obj) (its : Array Value) (n : Nat), K.lookup a = some o ∧ o.cls = .type "list" ∧ o.dict = none ∧ o.data = .seq its n ∧ its.size ≤ sizeLine ∧ Vals xs its.toList
def TupR (c : Ctx) (φ : List Addr) (H : Hp) (a : Addr) (xs : List V) : Prop := (a ∉ φ ∧ Rd H a (.tup xs)) ∨ KT c.K a xs
def LstR (c : Ctx) (φ : List Addr) (H : Hp) (a : Addr) (xs : List V) : Prop := (a ∉ φ ∧ c.PP a ∧ Rd H a (.lst xs)) ∨ KL c.K a xs
theorem TupR.sq {c : Ctx} {φ H a xs} (h : TupR c φ H a xs) : SqT c.K H a xs := h.elim (fun z => .inl z.2) .inr
theorem LstR.sq {c : Ctx} {φ H a xs} (h : LstR c φ H a xs) : SqL c.K H a xs := h.elim (fun z => .inl z.2.2) .inr

mutual
def Rep (c : Ctx) (φ : List Addr) (H : Hp) : D → V → Prop
  | .non, v => v = .non
  | .bl b, v => v = .bl b
  | .int i, v => v = .int i
  | .str x, v => v = .str x
  | .ty n, v => v = .ty n
  | .tup ds, v => ∃ a xs, v = .ref a ∧ TupR c φ H a xs ∧ Reps c φ H ds xs
  | .lst ds, v => ∃ a xs, v = .ref a ∧ (a ∉ φ ∧ c.PP a ∧ H a = some (.lst xs)) ∧ Reps c φ H ds xs
  | .scr ns, v => ∃ a, v = .ref a ∧ LstR c φ H a (ns.map V.int)
  | .ref i, v => ∃ a, φ[i]? = some a ∧ v = .ref a
def Reps (c : Ctx) (φ : List Addr) (H : Hp) : List D → List V → Prop
  | [], vs => vs = []
  | d :: ds, vs => ∃ v ws, vs = v :: ws ∧ Rep c φ H d v ∧ Reps c φ H ds ws
end

section
variable {c : Ctx} {φ φ' : List Addr} {H H' : Hp}
theorem Reps.length : ∀ {ds : List D} {vs : List V}, Reps c φ H ds vs → ds.length = vs.length
  | [], _, h => by rw [Reps] at h; subst h; rfl
  | d :: ds, _, h => by
    rw [Reps] at h
    obtain ⟨v, ws, rfl, _, h⟩ := h
    simp [Reps.length h]
theorem Reps.nil : Reps c φ H [] [] := by rw [Reps]
theorem Reps.cons {d : D} {v : V} {ds : List D} {vs : List V} (h : Rep c φ H d v) (hs : Reps c φ H ds vs) : Reps c φ H (d :: ds) (v :: vs) := by rw [Reps]; exact ⟨v, vs, rfl, h, hs⟩
theorem Reps.inv_cons {d : D} {ds : List D} {vs : List V} (h : Reps c φ H (d :: ds) vs) : ∃ v ws, vs = v :: ws ∧ Rep c φ H d v ∧ Reps c φ H ds ws := by rw [Reps] at h; exact h
theorem Reps.inv_nil {vs : List V} (h : Reps c φ H [] vs) : vs = [] := by rw [Reps] at h; exact h
theorem Reps.get : ∀ {ds : List D} {vs : List V} {i : Nat} {d : D}, Reps c φ H ds vs → ds[i]? = some d → ∃ v, vs[i]? = some v ∧ Rep c φ H d v
  | [], _, _, _, h, e => by simp at e
  | d :: ds, _, i, d', h, e => by
    obtain ⟨v, ws, rfl, h1, h2⟩ := h.inv_cons
    cases i with
    | zero => simp at e; subst e; exact ⟨v, rfl, h1⟩
    | succ i => simpa using Reps.get h2 (by simpa using e)
theorem Reps.append : ∀ {ds es : List D} {vs ws : List V}, Reps c φ H ds vs → Reps c φ H es ws → Reps c φ H (ds ++ es) (vs ++ ws)
  | [], _, _, _, h, g => by rw [h.inv_nil]; exact g
  | d :: ds, _, _, _, h, g => by
    obtain ⟨v, ws, rfl, h1, h2⟩ := h.inv_cons
    exact .cons h1 (Reps.append h2 g)
theorem Reps.take : ∀ {ds : List D} {vs : List V} (n : Nat), Reps c φ H ds vs → Reps c φ H (ds.take n) (vs.take n)
  | _, _, 0, _ => by simp; exact .nil
  | [], _, n + 1, h => by rw [h.inv_nil]; simp; exact .nil
  | d :: ds, _, n + 1, h => by
    obtain ⟨v, ws, rfl, h1, h2⟩ := h.inv_cons
    simp; exact .cons h1 (Reps.take n h2)
theorem Reps.drop : ∀ {ds : List D} {vs : List V} (n : Nat), Reps c φ H ds vs → Reps c φ H (ds.drop n) (vs.drop n)
  | _, _, 0, h => h
  | [], _, n + 1, h => by rw [h.inv_nil]; simp; exact .nil
  | d :: ds, _, n + 1, h => by
    obtain ⟨v, ws, rfl, h1, h2⟩ := h.inv_cons
    simpa using Reps.drop n h2
theorem Reps.set {d : D} {v : V} (r : Rep c φ H d v) : ∀ {ds : List D} {vs : List V} (n : Nat), Reps c φ H ds vs → Reps c φ H (ds.set n d) (vs.set n v)
  | [], _, n, h => by rw [h.inv_nil]; simp; exact .nil
  | _ :: ds, _, 0, h => by
    obtain ⟨v, ws, rfl, h1, h2⟩ := h.inv_cons
    exact .cons r h2
  | _ :: ds, _, n + 1, h => by
    obtain ⟨v, ws, rfl, h1, h2⟩ := h.inv_cons
    exact .cons h1 (Reps.set r n h2)
theorem Reps.reverse : ∀ {ds : List D} {vs : List V}, Reps c φ H ds vs → Reps c φ H ds.reverse vs.reverse
  | [], _, h => by rw [h.inv_nil]; exact .nil
  | d :: ds, _, h => by
    obtain ⟨v, ws, rfl, h1, h2⟩ := h.inv_cons
    simp only [List.reverse_cons]
    exact Reps.append (Reps.reverse h2) (.cons h1 .nil)

/-- how a heap grows: the mutable objects at φ may change, all else stays; new ones come behind -/
structure Grow (φ : List Addr) (H : Hp) (φ' : List Addr) (H' : Hp) : Prop where
  pre : ∃ ψ, φ' = φ ++ ψ ∧ ∀ a ∈ ψ, H a = none
  keep : ∀ (a : Addr) (o : HO), a ∉ φ → H a = some o → H' a = some o
  live : ∀ (a : Addr) (o : HO), H a = some o → ∃ o', H' a = some o'
theorem Grow.refl : Grow φ H φ H := ⟨⟨[], by simp, by simp⟩, fun _ _ _ e => e, fun _ o e => ⟨o, e⟩⟩
theorem Grow.refs (g : Grow φ H φ' H') : ∀ (i : Nat) (a : Addr), φ[i]? = some a → φ'[i]? = some a := fun i a e => by
  obtain ⟨ψ, rfl, hn⟩ := g.pre
  rw [List.getElem?_append_left (List.getElem?_eq_some_iff.mp e).1]; exact e
theorem Grow.apart (g : Grow φ H φ' H') : ∀ (a : Addr) (o : HO), a ∉ φ → H a = some o → a ∉ φ' := fun a o ha e hm => by
  obtain ⟨ψ, rfl, hn⟩ := g.pre
  rcases List.mem_append.mp hm with h | h
  · exact ha h
  · rw [hn a h] at e; cases e
theorem Grow.trans {φ2 : List Addr} {H2 : Hp} (a : Grow φ H φ' H') (b : Grow φ' H' φ2 H2) : Grow φ H φ2 H2 := by
  have ap := a.apart
  obtain ⟨⟨ψ, rfl, hn⟩, k, l⟩ := a
  obtain ⟨⟨ψ2, rfl, hn2⟩, k2, l2⟩ := b
  refine ⟨⟨ψ ++ ψ2, by simp, fun x hx => ?_⟩, fun x o hm e => k2 x o (ap x o hm e) (k x o hm e), fun x o e => ?_⟩
  · rcases List.mem_append.mp hx with h | h
    · exact hn x h
    · cases q : H x with
      | none => rfl
      | some o =>
        obtain ⟨o', q'⟩ := l x o q
        rw [hn2 x h] at q'; cases q'
  · obtain ⟨o', e'⟩ := l x o e
    exact l2 x o' e'
theorem Grow.none (g : Grow φ H φ' H') {a : Addr} (h : H' a = Option.none) : H a = Option.none := by
  cases q : H a with
  | none => rfl
  | some o =>
    obtain ⟨o', e⟩ := g.live a o q
    rw [e] at h; cases h
theorem Grow.rd {a : Addr} {u : HO} (g : Grow φ H φ' H') (ha : a ∉ φ) (h : Rd H a u) : a ∉ φ' ∧ Rd H' a u := by
  rcases h with h | ⟨o, h⟩
  · exact ⟨g.apart a _ ha h, .inl (g.keep a _ ha h)⟩
  · exact ⟨g.apart a _ ha h, .inr ⟨o, g.keep a _ ha h⟩⟩
theorem Grow.tup {a : Addr} {xs : List V} (g : Grow φ H φ' H') (h : TupR c φ H a xs) : TupR c φ' H' a xs := by
  rcases h with ⟨h1, h2⟩ | h
  · exact .inl (g.rd h1 h2)
  · exact .inr h
theorem Grow.lst {a : Addr} {xs : List V} (g : Grow φ H φ' H') (h : LstR c φ H a xs) : LstR c φ' H' a xs := by
  rcases h with ⟨h1, hp, h2⟩ | h
  · exact .inl ⟨(g.rd h1 h2).1, hp, (g.rd h1 h2).2⟩
  · exact .inr h
mutual
theorem Rep.stay (g : Grow φ H φ' H') : ∀ {d : D} {v : V}, Rep c φ H d v → Rep c φ' H' d v
  | .non, _, h => by rw [Rep] at h ⊢; exact h
  | .bl _, _, h => by rw [Rep] at h ⊢; exact h
  | .int _, _, h => by rw [Rep] at h ⊢; exact h
  | .str _, _, h => by rw [Rep] at h ⊢; exact h
  | .ty _, _, h => by rw [Rep] at h ⊢; exact h
  | .tup ds, _, h => by
    rw [Rep] at h ⊢
    obtain ⟨a, xs, e, h1, h2⟩ := h
    exact ⟨a, xs, e, g.tup h1, Reps.stay g h2⟩
  | .lst ds, _, h => by
    rw [Rep] at h ⊢
    obtain ⟨a, xs, e, ⟨h1, h2, h3⟩, h4⟩ := h
    exact ⟨a, xs, e, ⟨g.apart a _ h1 h3, h2, g.keep a _ h1 h3⟩, Reps.stay g h4⟩
  | .scr ns, _, h => by
    rw [Rep] at h ⊢
    obtain ⟨a, e, h1⟩ := h
    exact ⟨a, e, g.lst h1⟩
  | .ref i, _, h => by
    rw [Rep] at h ⊢
    obtain ⟨a, e, h1⟩ := h
    exact ⟨a, g.refs i a e, h1⟩
theorem Reps.stay (g : Grow φ H φ' H') : ∀ {ds : List D} {vs : List V}, Reps c φ H ds vs → Reps c φ' H' ds vs
  | [], _, h => by rw [Reps] at h ⊢; exact h
  | d :: ds, _, h => by
    rw [Reps] at h ⊢
    obtain ⟨v, ws, e, h1, h2⟩ := h
    exact ⟨v, ws, e, Rep.stay g h1, Reps.stay g h2⟩
end

/-- a new object, tracked: not one of the mutable ones, or put behind them -/
theorem Grow.new {a : Addr} {o : HO} (h : H a = Option.none) : Grow φ H φ (upd H a o) :=
  ⟨⟨[], by simp, by simp⟩, fun b u _ e => by rw [upd_ne (ne_of_none e h)]; exact e, fun b u e => ⟨u, by rw [upd_ne (ne_of_none e h)]; exact e⟩⟩
theorem Grow.newRef {a : Addr} {o : HO} (h : H a = Option.none) : Grow φ H (φ ++ [a]) (upd H a o) :=
  ⟨⟨[a], rfl, fun b hb => by simp at hb; subst hb; exact h⟩, fun b u _ e => by rw [upd_ne (ne_of_none e h)]; exact e, fun b u e => ⟨u, by rw [upd_ne (ne_of_none e h)]; exact e⟩⟩
/-- one of the mutable ones is changed -/
theorem Grow.mut {a : Addr} {o : HO} (h : a ∈ φ) : Grow φ H φ (upd H a o) :=
  ⟨⟨[], by simp, by simp⟩, fun b u hb e => by rw [upd_ne (fun z => hb (by rw [z]; exact h))]; exact e, fun b u e => by
    by_cases z : b = a
    · subst z; exact ⟨o, upd_same⟩
    · exact ⟨u, by rw [upd_ne z]; exact e⟩⟩
/-- nothing changes but by Same -/
theorem Grow.same (h : ∀ (a : Addr) (o : HO), H a = some o → H' a = some o) : Grow φ H φ H' :=
  ⟨⟨[], by simp, by simp⟩, fun a o _ e => h a o e, fun a o e => ⟨o, h a o e⟩⟩

/-! ### the store -/
def CellR (c : Ctx) (φ : List Addr) (H : Hp) (a : Addr) : Cell → Prop
  | .lst ds => ∃ xs, H a = some (.lst xs) ∧ Reps c φ H ds xs
structure Sim (c : Ctx) (φ : List Addr) (st : Sto) (H : Hp) : Prop where
  len : φ.length = st.length
  nd : φ.Nodup
  cells : ∀ (i : Nat) (a : Addr) (k : Cell), φ[i]? = some a → st[i]? = some k → CellR c φ H a k
  pp : ∀ a ∈ φ, c.PP a
  fresh : ∀ (a : Addr), H a = none → c.PP a
theorem CellR.stay {a : Addr} {k : Cell} (g : Grow φ H φ' H') (ha : H' a = H a) (h : CellR c φ H a k) : CellR c φ' H' a k := by
  cases k with
  | lst ds =>
    obtain ⟨xs, e, r⟩ := h
    exact ⟨xs, by rw [ha]; exact e, r.stay g⟩
theorem Sim.at {st : Sto} (s : Sim c φ st H) {i : Nat} {ds : List D} (h : st[i]? = some (.lst ds)) : ∃ a xs, φ[i]? = some a ∧ a ∈ φ ∧ H a = some (.lst xs) ∧ Reps c φ H ds xs := by
  have hi : i < φ.length := by rw [s.len]; exact (List.getElem?_eq_some_iff.mp h).1
  obtain ⟨xs, e, r⟩ := s.cells i φ[i] _ (List.getElem?_eq_getElem hi) h
  exact ⟨_, xs, List.getElem?_eq_getElem hi, List.getElem_mem hi, e, r⟩
theorem Sim.has {st : Sto} (s : Sim c φ st H) {a : Addr} (h : a ∈ φ) : ∃ o, H a = some o := by
  obtain ⟨i, hi, rfl⟩ := List.getElem_of_mem h
  have h2 : i < st.length := by rw [← s.len]; exact hi
  have h3 := s.cells i φ[i] st[i] (List.getElem?_eq_getElem hi) (List.getElem?_eq_getElem h2)
  cases q : st[i] with
  | lst ds =>
    rw [q] at h3
    obtain ⟨xs, e, _⟩ := h3
    exact ⟨_, e⟩
theorem Sim.notin {st : Sto} (s : Sim c φ st H) {a : Addr} (h : H a = none) : a ∉ φ := fun m => by
  obtain ⟨o, e⟩ := s.has m
  rw [h] at e; cases e
/-- a new object beside the store -/
theorem Sim.new {st : Sto} {a : Addr} {o : HO} (s : Sim c φ st H) (h : H a = none) : Sim c φ st (upd H a o) where
  len := s.len
  nd := s.nd
  cells := fun i b k h1 h2 => by
    have hb : b ∈ φ := List.mem_of_getElem? h1
    obtain ⟨u, e⟩ := s.has hb
    exact (s.cells i b k h1 h2).stay (Grow.new h) (upd_ne (ne_of_none e h))
  pp := s.pp
  fresh := fun b hb => s.fresh b (by
    cases q : H b with
    | none => rfl
    | some u => rw [upd_ne (ne_of_none q h), q] at hb; cases hb)
/-- a new mutable list -/
theorem Sim.newRef {st : Sto} {a : Addr} {xs : List V} {ds : List D} (s : Sim c φ st H) (h : H a = none) (r : Reps c φ H ds xs) : Sim c (φ ++ [a]) (st ++ [.lst ds]) (upd H a (.lst xs)) where
  len := by simp [s.len]
  nd := by
    rw [List.nodup_append]
    refine ⟨s.nd, by simp, fun x hx y hy e => ?_⟩
    simp at hy
    subst hy; subst e
    exact s.notin h hx
  cells := fun i b k h1 h2 => by
    have g : Grow φ H (φ ++ [a]) (upd H a (.lst xs)) := Grow.newRef h
    by_cases hi : i < φ.length
    · rw [List.getElem?_append_left hi] at h1
      rw [List.getElem?_append_left (by rw [← s.len]; exact hi)] at h2
      obtain ⟨u, e⟩ := s.has (List.mem_of_getElem? h1)
      exact (s.cells i b k h1 h2).stay g (upd_ne (ne_of_none e h))
    · rw [List.getElem?_append_right (by omega)] at h1
      rw [List.getElem?_append_right (by rw [← s.len]; omega)] at h2
      have e0 : i - φ.length = 0 := by
        have := (List.getElem?_eq_some_iff.mp h1).1
        simp at this
        omega
      have e1 : i - st.length = 0 := by rw [← s.len]; exact e0
      rw [e0] at h1; rw [e1] at h2
      simp at h1 h2
      subst h1; subst h2
      exact ⟨xs, upd_same, r.stay g⟩
  pp := fun b hb => by
    rcases List.mem_append.mp hb with z | z
    · exact s.pp b z
    · simp at z; subst z; exact s.fresh _ h
  fresh := fun b hb => s.fresh b (by
    cases q : H b with
    | none => rfl
    | some u => rw [upd_ne (ne_of_none q h), q] at hb; cases hb)
/-- a mutable list is changed -/
theorem Sim.set {st : Sto} {a : Addr} {xs : List V} {ds : List D} {i : Nat} (s : Sim c φ st H) (h : φ[i]? = some a) (r : Reps c φ H ds xs) : Sim c φ (st.set i (.lst ds)) (upd H a (.lst xs)) where
  len := by simp [s.len]
  nd := s.nd
  cells := fun j b k h1 h2 => by
    have hm : a ∈ φ := List.mem_of_getElem? h
    have g : Grow φ H φ (upd H a (.lst xs)) := Grow.mut hm
    by_cases hj : i = j
    · subst hj
      rw [h] at h1; cases h1
      have hl : i < st.length := by rw [← s.len]; exact (List.getElem?_eq_some_iff.mp h).1
      rw [List.getElem?_set_self hl] at h2
      cases h2
      exact ⟨xs, upd_same, r.stay g⟩
    · rw [List.getElem?_set_ne hj] at h2
      refine (s.cells j b k h1 h2).stay g (upd_ne fun z => ?_)
      subst z
      have h3 := (List.getElem?_eq_some_iff.mp h)
      have h4 := (List.getElem?_eq_some_iff.mp h1)
      obtain ⟨p3, e3⟩ := h3
      obtain ⟨p4, e4⟩ := h4
      exact hj ((List.getElem_inj s.nd).mp (e3.trans e4.symm))
  pp := s.pp
  fresh := fun b hb => s.fresh b (by
    by_cases z : b = a
    · subst z; rw [upd_same] at hb; cases hb
    · rw [upd_ne z] at hb; exact hb)

/-! ### the frame -/
structure FrR (c : Ctx) (φ : List Addr) (H : Hp) (fr : Fr) (σ : L2.St) : Prop where
  len : fr.length = σ.length
  slot : ∀ (i : Nat) (d : D), fr[i]? = some (some d) → ∃ v, σ[i]? = some (some v) ∧ Rep c φ H d v
theorem FrR.stay {fr : Fr} {σ : L2.St} (g : Grow φ H φ' H') (h : FrR c φ H fr σ) : FrR c φ' H' fr σ := ⟨h.len, fun i d e => by
  obtain ⟨v, q, r⟩ := h.slot i d e
  exact ⟨v, q, r.stay g⟩⟩
theorem FrR.set {fr : Fr} {σ : L2.St} {i : Nat} {d : D} {v : V} (h : FrR c φ H fr σ) (r : Rep c φ H d v) : FrR c φ H (fr.set i (some d)) (σ.set i (some v)) := ⟨by simp [h.len], fun j e q => by
  by_cases hj : i = j
  · subst hj
    have hl : i < fr.length := by
      have := (List.getElem?_eq_some_iff.mp q).1
      simpa using this
    rw [List.getElem?_set_self hl] at q
    cases q
    exact ⟨v, by rw [List.getElem?_set_self (by rw [← h.len]; exact hl)], r⟩
  · rw [List.getElem?_set_ne hj] at q
    obtain ⟨w, e1, e2⟩ := h.slot j e q
    exact ⟨w, by rw [List.getElem?_set_ne hj]; exact e1, e2⟩⟩
end

/-! ### what is wanted of a result -/
def ExcR (c : Ctx) (φ : List Addr) (H : Hp) (fs : List D) (dx : Addr) : Prop := ∃ gs : List (Str × V), H dx = some (.xd gs) ∧ Reps c φ H fs (gs.map (·.2))
def Goes {α : Type} (c : Ctx) (E : XK) (φ : List Addr) (H : Hp) (r : Re α) (k : α → List Addr → Sto → Hp → Prop) : Prop := match r with
  | .ok a st' => ∀ φ' H', Grow φ H φ' H' → Sim c φ' st' H' → k a φ' st' H'
  | .exc n fs st' => ∀ φ' H' dx, Grow φ H φ' H' → Sim c φ' st' H' → ExcR c φ' H' fs dx → E (.ref (c.xc n)) (some dx) H'
  | .bad => False
section
variable {α β : Type} {c : Ctx} {E : XK} {φ φ' : List Addr} {H H' : Hp}
theorem Goes.imp {r : Re α} {k k' : α → List Addr → Sto → Hp → Prop} (h : Goes c E φ H r k) (i : ∀ a φ' st' H', Grow φ H φ' H' → Sim c φ' st' H' → k a φ' st' H' → k' a φ' st' H') : Goes c E φ H r k' := by
  cases r with
  | ok a st' => exact fun φ' H' g s => i a φ' st' H' g s (h φ' H' g s)
  | exc n fs st' => exact h
  | bad => exact h
/-- later -/
theorem Goes.mono {r : Re α} {k : α → List Addr → Sto → Hp → Prop} (h : Goes c E φ H r k) (g : Grow φ H φ' H') : Goes c E φ' H' r k := by
  cases r with
  | ok a st' => exact fun φ2 H2 g2 s => h φ2 H2 (g.trans g2) s
  | exc n fs st' => exact fun φ2 H2 dx g2 s x => h φ2 H2 dx (g.trans g2) s x
  | bad => exact h
theorem Goes.bind {r : Re α} {f : α → Sto → Re β} {k : β → List Addr → Sto → Hp → Prop} (h : Goes c E φ H (r.bind f) k) : Goes c E φ H r fun a φ' st' H' => Goes c E φ' H' (f a st') k := by
  cases r with
  | ok a st' => exact fun φ' H' g s => Goes.mono (show Goes c E φ H (f a st') k from h) g
  | exc n fs st' => exact h
  | bad => exact h
theorem Goes.ok {a : α} {st : Sto} {k : α → List Addr → Sto → Hp → Prop} (h : Goes c E φ H (.ok a st) k) (g : Grow φ H φ' H') (s : Sim c φ' st H') : k a φ' st H' := h φ' H' g s
theorem Goes.ok0 {a : α} {st : Sto} {k : α → List Addr → Sto → Hp → Prop} (h : Goes c E φ H (.ok a st) k) (s : Sim c φ st H) : k a φ st H := h φ H .refl s

/-- an expression's reading -/
def WD (c : Ctx) (E : XK) (φ : List Addr) (H : Hp) (r : Re D) (Q : VK) : Prop := Goes c E φ H r fun d φ' _ H' => ∀ v, Rep c φ' H' d v → Q v H'
def WL (c : Ctx) (E : XK) (φ : List Addr) (H : Hp) (r : Re (List D)) (Q : List V → Hp → Prop) : Prop := Goes c E φ H r fun ds φ' _ H' => ∀ vs, Reps c φ' H' ds vs → Q vs H'
def WB (c : Ctx) (E : XK) (φ : List Addr) (H : Hp) (r : Re Bool) (Q : Bool → Hp → Prop) : Prop := Goes c E φ H r fun b _ _ H' => Q b H'
def tE (k : Kc) (E : XK) (m : Sh D) : TE := fun σ H Q => ∃ PP φ fr st, FrR (k.w PP) φ H fr σ ∧ Sim (k.w PP) φ st H ∧ WD (k.w PP) E φ H (m fr st) Q
def tL (k : Kc) (E : XK) (m : Sh (List D)) : TA := fun σ H Q => ∃ PP φ fr st, FrR (k.w PP) φ H fr σ ∧ Sim (k.w PP) φ st H ∧ WL (k.w PP) E φ H (m fr st) Q
def tT (k : Kc) (E : XK) (m : Sh Bool) : TT := fun σ H Q => ∃ PP φ fr st, FrR (k.w PP) φ H fr σ ∧ Sim (k.w PP) φ st H ∧ WB (k.w PP) E φ H (m fr st) Q
end

/-! ### weaker readings -/
section
variable {X : Cx} {e : Expr} {es : List Expr} {st : Stmt} {sts : List Stmt}
theorem pe_weak {t t' : TE} (h : PE X e t) (w : ∀ σ H Q, t' σ H Q → t σ H Q) : PE X e t' := ⟨fun pins s σ H Q I q => h.run pins s σ H Q I (w σ H Q q)⟩
theorem pt_weak {t t' : TT} (h : PT X e t) (w : ∀ σ H Q, t' σ H Q → t σ H Q) : PT X e t' := ⟨fun pins s σ H Q I q => h.run pins s σ H Q I (w σ H Q q)⟩
theorem pw_weak {t t' : TT} (h : PW X e t) (w : ∀ σ H Q, t' σ H Q → t σ H Q) : PW X e t' := ⟨fun wh pins s σ H Q I q => h.run wh pins s σ H Q I (w σ H Q q)⟩
theorem pa_weak {t t' : TA} (h : PA X es t) (w : ∀ σ H Q, t' σ H Q → t σ H Q) : PA X es t' := ⟨fun pos pins s σ H Q I q => h.run pos pins s σ H Q I (w σ H Q q)⟩
theorem ps_weak {t t' : TS} (h : PS X st t) (w : ∀ D σ H, t' D σ H → t D σ H) : PS X st t' := ⟨fun pins s σ H D I q => h.run pins s σ H D I (w D σ H q)⟩
theorem pss_weak {t t' : TS} (h : PSs X sts t) (w : ∀ D σ H, t' D σ H → t D σ H) : PSs X sts t' := ⟨fun pins s σ H D I q => h.run pins s σ H D I (w D σ H q)⟩
theorem pe_or2 {t t' : TE} (h : PE X e t) (h' : PE X e t') : PE X e (fun σ H Q => t σ H Q ∨ t' σ H Q) := ⟨fun pins s σ H Q I q => q.elim (h.run pins s σ H Q I) (h'.run pins s σ H Q I)⟩
end

/-! ### operations by values -/
def rO (k : Kc) (E : XK) (g : Sto → D → D → Re D) : R2 := fun x y H Q => ∃ PP φ st dx dy, Sim (k.w PP) φ st H ∧ Rep (k.w PP) φ H dx x ∧ Rep (k.w PP) φ H dy y ∧ WD (k.w PP) E φ H (g st dx dy) Q
def rU1 (k : Kc) (E : XK) (g : Sto → D → Re D) : V → Hp → VK → Prop := fun x H Q => ∃ PP φ st dx, Sim (k.w PP) φ st H ∧ Rep (k.w PP) φ H dx x ∧ WD (k.w PP) E φ H (g st dx) Q
def rC (k : Kc) (E : XK) (g : Sto → List D → Re D) : List V → Hp → VK → Prop := fun xs H Q => ∃ PP φ st ds, Sim (k.w PP) φ st H ∧ Reps (k.w PP) φ H ds xs ∧ WD (k.w PP) E φ H (g st ds) Q

/-! ### combinators -/
def vS (i : Nat) : Sh D := fun fr st => match fr[i]? with
  | some (some d) => .ok d st
  | _ => .bad
def cS (d : D) : Sh D := fun _ st => .ok d st
def op2S (g : Sto → D → D → Re D) (a b : Sh D) : Sh D := fun fr st => (a fr st).bind fun x st1 => (b fr st1).bind fun y st2 => g st2 x y
def op1S (g : Sto → D → Re D) (a : Sh D) : Sh D := fun fr st => (a fr st).bind fun x st1 => g st1 x
def nilS : Sh (List D) := fun _ st => .ok [] st
def consS (a : Sh D) (b : Sh (List D)) : Sh (List D) := fun fr st => (a fr st).bind fun x st1 => (b fr st1).bind fun xs st2 => .ok (x :: xs) st2
def callS (g : Sto → List D → Re D) (a : Sh (List D)) : Sh D := fun fr st => (a fr st).bind fun xs st1 => g st1 xs
def truS (g : Sto → D → Re Bool) (a : Sh D) : Sh Bool := fun fr st => (a fr st).bind fun x st1 => g st1 x
def andS (a b : Sh Bool) : Sh Bool := fun fr st => (a fr st).bind fun x st1 => match x with
  | true => b fr st1
  | false => .ok false st1
def orS (a b : Sh Bool) : Sh Bool := fun fr st => (a fr st).bind fun x st1 => match x with
  | true => .ok true st1
  | false => b fr st1
def notS (a : Sh Bool) : Sh Bool := fun fr st => (a fr st).bind fun x st1 => .ok (!x) st1
def ifS {α : Type} (t : Sh Bool) (a b : Sh α) : Sh α := fun fr st => (t fr st).bind fun x st1 => match x with
  | true => a fr st1
  | false => b fr st1
def blS (a : Sh Bool) : Sh D := fun fr st => (a fr st).bind fun x st1 => .ok (.bl x) st1
def toB : Sto → D → Re Bool := fun st d => match d with
  | .bl b => .ok b st
  | _ => .bad

section
variable {c : Ctx} {k : Kc} {E : XK} {X : Cx} {σ : L2.St} {H : Hp}
/-- one part, then the rest -/
theorem seqD {m : Sh D} {α : Type} {f : D → Sto → Re α} {kk : α → List Addr → Sto → Hp → Prop} {PP : Addr → Prop} {φ : List Addr} {fr : Fr} {st : Sto} {Q : VK} (hf : FrR (k.w PP) φ H fr σ) (hs : Sim (k.w PP) φ st H) (h : Goes (k.w PP) E φ H ((m fr st).bind f) kk)
    (q : ∀ d φ' st' H' v, Grow φ H φ' H' → FrR (k.w PP) φ' H' fr σ → Sim (k.w PP) φ' st' H' → Rep (k.w PP) φ' H' d v → Goes (k.w PP) E φ' H' (f d st') kk → Q v H') : tE k E m σ H Q :=
  ⟨PP, φ, fr, st, hf, hs, h.bind.imp fun d φ' st' H' g s z v r => q d φ' st' H' v g (hf.stay g) s r z⟩
theorem seqB {m : Sh Bool} {α : Type} {f : Bool → Sto → Re α} {kk : α → List Addr → Sto → Hp → Prop} {PP : Addr → Prop} {φ : List Addr} {fr : Fr} {st : Sto} {Q : Bool → Hp → Prop} (hf : FrR (k.w PP) φ H fr σ) (hs : Sim (k.w PP) φ st H) (h : Goes (k.w PP) E φ H ((m fr st).bind f) kk)
    (q : ∀ b φ' st' H', Grow φ H φ' H' → FrR (k.w PP) φ' H' fr σ → Sim (k.w PP) φ' st' H' → Goes (k.w PP) E φ' H' (f b st') kk → Q b H') : tT k E m σ H Q :=
  ⟨PP, φ, fr, st, hf, hs, h.bind.imp fun b φ' st' H' g s z => q b φ' st' H' g (hf.stay g) s z⟩
theorem seqL {m : Sh (List D)} {α : Type} {f : List D → Sto → Re α} {kk : α → List Addr → Sto → Hp → Prop} {PP : Addr → Prop} {φ : List Addr} {fr : Fr} {st : Sto} {Q : List V → Hp → Prop} (hf : FrR (k.w PP) φ H fr σ) (hs : Sim (k.w PP) φ st H) (h : Goes (k.w PP) E φ H ((m fr st).bind f) kk)
    (q : ∀ ds φ' st' H' vs, Grow φ H φ' H' → FrR (k.w PP) φ' H' fr σ → Sim (k.w PP) φ' st' H' → Reps (k.w PP) φ' H' ds vs → Goes (k.w PP) E φ' H' (f ds st') kk → Q vs H') : tL k E m σ H Q :=
  ⟨PP, φ, fr, st, hf, hs, h.bind.imp fun ds φ' st' H' g s z vs r => q ds φ' st' H' vs g (hf.stay g) s r z⟩

theorem e_var {i : Nat} {e : Expr} (h : PE X e (tVar i)) : PE X e (tE k E (vS i)) := pe_weak h fun σ H Q ⟨PP, φ, fr, st, hf, hs, w⟩ => by
  unfold vS at w
  cases q : fr[i]? with
  | none => rw [q] at w; exact w.elim
  | some o =>
    cases o with
    | none => rw [q] at w; exact w.elim
    | some d =>
      rw [q] at w
      obtain ⟨v, e, r⟩ := hf.slot i d q
      exact ⟨v, e, w.ok0 hs v r⟩
theorem e_c {d : D} {v : V} {e : Expr} (h : PE X e (tC v)) (r : ∀ c φ H, Rep c φ H d v) : PE X e (tE k E (cS d)) := pe_weak h fun σ H Q ⟨PP, φ, fr, st, hf, hs, w⟩ => w.ok0 hs v (r _ φ H)
theorem e_op2 {g : Sto → D → D → Re D} {a b : Expr} {ma mb : Sh D} {e : Expr} (h : ∀ ta tb, PE X a ta → PE X b tb → PE X e (tOp (rO k E g) ta tb)) (ha : PE X a (tE k E ma)) (hb : PE X b (tE k E mb)) : PE X e (tE k E (op2S g ma mb)) :=
  pe_weak (h _ _ ha hb) fun σ H Q ⟨PP, φ, fr, st, hf, hs, w⟩ => seqD hf hs w fun x φ1 st1 H1 v1 _ hf1 hs1 r1 w1 => seqD hf1 hs1 w1 fun y φ2 st2 H2 v2 g2 _ hs2 r2 w2 => ⟨PP, φ2, st2, x, y, hs2, r1.stay g2, r2, w2⟩
theorem e_op1 {g : Sto → D → Re D} {a : Expr} {ma : Sh D} {e : Expr} (h : ∀ ta, PE X a ta → PE X e (tUn (rU1 k E g) ta)) (ha : PE X a (tE k E ma)) : PE X e (tE k E (op1S g ma)) :=
  pe_weak (h _ ha) fun σ H Q ⟨PP, φ, fr, st, hf, hs, w⟩ => seqD hf hs w fun x φ1 st1 H1 v1 _ _ hs1 r1 w1 => ⟨PP, φ1, st1, x, hs1, r1, w1⟩
theorem l_nil : PA X [] (tL k E nilS) := pa_weak pa_nil fun σ H Q ⟨PP, φ, fr, st, hf, hs, w⟩ => w.ok0 hs [] .nil
theorem l_cons {e : Expr} {es : List Expr} {ma : Sh D} {mb : Sh (List D)} (ha : PE X e (tE k E ma)) (hb : PA X es (tL k E mb)) (hs : starEach (e :: es) X.env = (false, eval e X.env) :: starEach es X.env := by rfl) : PA X (e :: es) (tL k E (consS ma mb)) :=
  pa_weak (pa_cons ha hb hs) fun σ H Q ⟨PP, φ, fr, st, hf, hs, w⟩ => seqD hf hs w fun x φ1 st1 H1 v1 _ hf1 hs1 r1 w1 => seqL hf1 hs1 w1 fun xs φ2 st2 H2 vs g2 _ hs2 r2 w2 => w2.ok0 hs2 _ (.cons (r1.stay g2) r2)
theorem e_call {g : Sto → List D → Re D} {es : List Expr} {ma : Sh (List D)} {e : Expr} (h : ∀ t, PA X es t → PE X e (tCB (rC k E g) t)) (ha : PA X es (tL k E ma)) : PE X e (tE k E (callS g ma)) :=
  pe_weak (h _ ha) fun σ H Q ⟨PP, φ, fr, st, hf, hs, w⟩ => seqL hf hs w fun xs φ1 st1 H1 vs _ _ hs1 r1 w1 => ⟨PP, φ1, st1, xs, hs1, r1, w1⟩

/-! tests -/
theorem Rep.bl {φ : List Addr} {b : Bool} {v : V} (h : Rep c φ H (.bl b) v) : v = .bl b := by rw [Rep] at h; exact h
theorem Rep.int {φ : List Addr} {b : Int} {v : V} (h : Rep c φ H (.int b) v) : v = .int b := by rw [Rep] at h; exact h
theorem Rep.str {φ : List Addr} {b : Str} {v : V} (h : Rep c φ H (.str b) v) : v = .str b := by rw [Rep] at h; exact h
theorem Rep.non {φ : List Addr} {v : V} (h : Rep c φ H .non v) : v = .non := by rw [Rep] at h; exact h
theorem Rep.ty {φ : List Addr} {n : String} {v : V} (h : Rep c φ H (.ty n) v) : v = .ty n := by rw [Rep] at h; exact h
theorem Rep.mkBl {φ : List Addr} {b : Bool} : Rep c φ H (.bl b) (.bl b) := by rw [Rep]
theorem Rep.mkInt {φ : List Addr} {b : Int} : Rep c φ H (.int b) (.int b) := by rw [Rep]
theorem Rep.mkStr {φ : List Addr} {b : Str} : Rep c φ H (.str b) (.str b) := by rw [Rep]
theorem Rep.mkNon {φ : List Addr} : Rep c φ H .non .non := by rw [Rep]
theorem Rep.mkTy {φ : List Addr} {n : String} : Rep c φ H (.ty n) (.ty n) := by rw [Rep]
/-- an expression whose value is a bool, as a test -/
theorem t_val {e : Expr} {m : Sh D} (h : PE X e (tE k E m)) (he : ∀ whole, isTrue e X.env whole = (do let v ← whole; standAt e.pos; holding [v] (truthy v)) := by intro _; rfl) : PT X e (tT k E (truS toB m)) :=
  pt_weak (pt_val h he) fun σ H Q ⟨PP, φ, fr, st, hf, hs, w⟩ => seqD hf hs w fun x φ1 st1 H1 v1 _ _ hs1 r1 w1 => by
    cases x with
    | bl b =>
      rw [r1.bl]
      exact ⟨b, rfl, w1.ok0 hs1⟩
    | _ => exact w1.elim
theorem t_not {a : Expr} {m : Sh Bool} {pos : Pos} (h : PT X a (tT k E m)) : PT X (.UnaryOp .Not a pos) (tT k E (notS m)) :=
  pt_weak (pt_not h) fun σ H Q ⟨PP, φ, fr, st, hf, hs, w⟩ => seqB hf hs w fun b φ1 st1 H1 _ _ hs1 w1 => w1.ok0 hs1
theorem w_and1 {a : Expr} {m : Sh Bool} {pos : Pos} (h : PT X a (tT k E m)) : PW X (.BoolOp .And [a] pos) (tT k E m) := pw_and1 h
theorem w_or1 {a : Expr} {m : Sh Bool} {pos : Pos} (h : PT X a (tT k E m)) : PW X (.BoolOp .Or [a] pos) (tT k E m) := pw_or1 h
theorem w_and {a b : Expr} {rest : List Expr} {m n : Sh Bool} {pos : Pos} (h : PT X a (tT k E m)) (h2 : PW X (.BoolOp .And (b :: rest) pos) (tT k E n)) : PW X (.BoolOp .And (a :: b :: rest) pos) (tT k E (andS m n)) :=
  pw_weak (pw_and h h2) fun σ H Q ⟨PP, φ, fr, st, hf, hs, w⟩ => seqB hf hs w fun b φ1 st1 H1 _ hf1 hs1 w1 => by
    cases b with
    | true => exact iteT ⟨PP, φ1, fr, st1, hf1, hs1, w1⟩
    | false => exact iteF (w1.ok0 hs1)
theorem w_or {a b : Expr} {rest : List Expr} {m n : Sh Bool} {pos : Pos} (h : PT X a (tT k E m)) (h2 : PW X (.BoolOp .Or (b :: rest) pos) (tT k E n)) : PW X (.BoolOp .Or (a :: b :: rest) pos) (tT k E (orS m n)) :=
  pw_weak (pw_or h h2) fun σ H Q ⟨PP, φ, fr, st, hf, hs, w⟩ => seqB hf hs w fun b φ1 st1 H1 _ hf1 hs1 w1 => by
    cases b with
    | true => exact iteT (w1.ok0 hs1)
    | false => exact iteF ⟨PP, φ1, fr, st1, hf1, hs1, w1⟩
/-- .. as values -/
theorem e_not {a : Expr} {m : Sh D} {pos : Pos} (h : PE X a (tE k E m)) : PE X (.UnaryOp .Not a pos) (tE k E (blS (notS (truS toB m)))) :=
  pe_weak (pe_not h) fun σ H Q ⟨PP, φ, fr, st, hf, hs, w⟩ => ⟨PP, φ, fr, st, hf, hs, ((w.bind).bind.bind).imp fun x φ1 st1 H1 _ hs1 w1 v r => by
    cases x with
    | bl b =>
      rw [r.bl]
      exact ⟨b, rfl, w1.ok0 hs1 |>.ok0 hs1 |>.ok0 hs1 _ .mkBl⟩
    | _ => exact w1.elim⟩
end
section
variable {X : Cx} {k : Kc} {H : Hp} {PP : Addr → Prop} {a : Addr} {xs : List V}
theorem kT (hK : X.K = k.K) (h : SqT (k.w PP).K H a xs) : SqT X.K H a xs := by rw [hK]; exact h
theorem kL (hK : X.K = k.K) (h : SqL (k.w PP).K H a xs) : SqL X.K H a xs := by rw [hK]; exact h
theorem kLT (hK : X.K = k.K) (h : SqL (k.w PP).K H a xs ∨ SqT (k.w PP).K H a xs) : SqL X.K H a xs ∨ SqT X.K H a xs := by rw [hK]; exact h
theorem kD (hK : X.K = k.K) {v : V} {d : PyData} (h : Dp (k.w PP).K H v d) : Dp X.K H v d := by rw [hK]; exact h
end
end Pl
set_option Elab.async false
set_option linter.all false
set_option maxRecDepth 100000
set_option maxHeartbeats 2000000
namespace Pl
open PySem PySem.Spec PyProof.Rows L2
def LIM : Nat := 16777216
theorem lim_line {n : Nat} (h : n ≤ LIM) : n ≤ sizeLine := by rw [sizeLine_eq]; exact h
theorem lim_line_lt {n : Nat} (h : n < LIM) : n < sizeLine := by rw [sizeLine_eq]; exact h
/-- a list's items -/
def asL (st : Sto) : D → Option (List D)
  | .lst ds => some ds
  | .ref i => match st[i]? with
    | some (.lst ds) => some ds
    | none => none
  | _ => none
/-- the items of a list or a tuple -/
def asQ (st : Sto) : D → Option (List D)
  | .tup ds => some ds
  | .scr ns => some (ns.map .int)
  | d => asL st d
section
variable {c : Ctx} {E : XK} {φ : List Addr} {H : Hp} {st : Sto} {d : D} {ds : List D} {v : V}
theorem asL_ok (s : Sim c φ st H) (e : asL st d = some ds) (r : Rep c φ H d v) : ∃ a xs, v = .ref a ∧ H a = some (.lst xs) ∧ Reps c φ H ds xs := by
  cases d with
  | lst es =>
    rw [asL] at e; cases e
    rw [Rep] at r
    obtain ⟨a, xs, e, h1, h2⟩ := r
    exact ⟨a, xs, e, h1.2.2, h2⟩
  | ref i =>
    rw [asL] at e
    rw [Rep] at r
    obtain ⟨a, h1, rfl⟩ := r
    cases q : st[i]? with
    | none => rw [q] at e; cases e
    | some k =>
      cases k with
      | lst es =>
        rw [q] at e; cases e
        obtain ⟨a', xs, h2, _, h3, h4⟩ := s.at q
        rw [h1] at h2; cases h2
        exact ⟨a, xs, rfl, h3, h4⟩
  | _ => simp [asL] at e
theorem reps_ints {ns : List Int} : Reps c φ H (ns.map .int) (ns.map V.int) := by
  induction ns with
  | nil => exact .nil
  | cons n ns ih => exact .cons .mkInt ih
theorem asQ_ok (s : Sim c φ st H) (e : asQ st d = some ds) (r : Rep c φ H d v) : ∃ a xs, v = .ref a ∧ (SqL c.K H a xs ∨ SqT c.K H a xs) ∧ Reps c φ H ds xs := by
  cases d with
  | tup es =>
    rw [asQ] at e; cases e
    rw [Rep] at r
    obtain ⟨a, xs, e, h1, h2⟩ := r
    exact ⟨a, xs, e, .inr h1.sq, h2⟩
  | scr ns =>
    rw [asQ] at e; cases e
    rw [Rep] at r
    obtain ⟨a, e, h1⟩ := r
    exact ⟨a, _, e, .inl h1.sq, reps_ints⟩
  | lst es =>
    obtain ⟨a, xs, e, h, r⟩ := asL_ok s (by simpa [asQ] using e) r
    exact ⟨a, xs, e, .inl (.of h), r⟩
  | ref es =>
    obtain ⟨a, xs, e, h, r⟩ := asL_ok s (by simpa [asQ] using e) r
    exact ⟨a, xs, e, .inl (.of h), r⟩
  | _ => simp [asQ, asL] at e
theorem Rep.mkLst {p : Addr} {xs : List V} (s : Sim c φ st H) (hp : H p = none) (r : Reps c φ H ds xs) : Rep c φ (upd H p (.lst xs)) (.lst ds) (.ref p) := by
  rw [Rep]
  exact ⟨p, xs, rfl, ⟨s.notin hp, s.fresh p hp, upd_same⟩, r.stay (Grow.new hp)⟩
theorem Rep.mkTup {p : Addr} {xs : List V} (s : Sim c φ st H) (hp : H p = none) (r : Reps c φ H ds xs) : Rep c φ (upd H p (.tup xs)) (.tup ds) (.ref p) := by
  rw [Rep]
  exact ⟨p, xs, rfl, .inl ⟨s.notin hp, .inl upd_same⟩, r.stay (Grow.new hp)⟩
/-- a new list, a new tuple is the result -/
theorem newL {p : Addr} {xs : List V} {Q : VK} (w : WD c E φ H (.ok (.lst ds) st) Q) (s : Sim c φ st H) (r : Reps c φ H ds xs) (hp : H p = none) : Q (.ref p) (upd H p (.lst xs)) :=
  w φ _ (Grow.new hp) (s.new hp) _ (.mkLst s hp r)
theorem newT {p : Addr} {xs : List V} {Q : VK} (w : WD c E φ H (.ok (.tup ds) st) Q) (s : Sim c φ st H) (r : Reps c φ H ds xs) (hp : H p = none) : Q (.ref p) (upd H p (.tup xs)) :=
  w φ _ (Grow.new hp) (s.new hp) _ (.mkTup s hp r)
/-- a new list that may change is the result -/
theorem newR {p : Addr} {xs : List V} {Q : VK} (w : WD c E φ H (.ok (.ref st.length) (st ++ [.lst ds])) Q) (s : Sim c φ st H) (r : Reps c φ H ds xs) (hp : H p = none) : Q (.ref p) (upd H p (.lst xs)) :=
  w _ _ (Grow.newRef hp) (s.newRef hp r) _ (by rw [Rep]; exact ⟨p, by rw [← s.len]; simp, rfl⟩)

/-! ### data as the library has it -/
mutual
def toPy (st : Sto) : D → Option PyData
  | .non => some .none
  | .bl b => some (.bool b)
  | .int i => some (.int i)
  | .str x => some (.str x)
  | .tup ds => (toPys st ds).map .tuple
  | .lst ds => (toPys st ds).map .list
  | _ => none
def toPys (st : Sto) : List D → Option (List PyData)
  | [] => some []
  | d :: ds => match toPy st d, toPys st ds with
    | some x, some xs => some (x :: xs)
    | _, _ => none
end
/-- a list that may change, too -/
def toPy1 (st : Sto) : D → Option PyData
  | .ref i => match st[i]? with
    | some (.lst ds) => (toPys st ds).map .list
    | none => none
  | d => toPy st d
mutual
theorem toPy_ok (s : Sim c φ st H) : ∀ {d : D} {v : V} {p : PyData}, toPy st d = some p → Rep c φ H d v → Dp c.K H v p
  | .non, _, _, e, r => by rw [toPy] at e; cases e; rw [r.non]; exact .non
  | .bl b, _, _, e, r => by rw [toPy] at e; cases e; rw [r.bl]; exact .bl b
  | .int b, _, _, e, r => by rw [toPy] at e; cases e; rw [r.int]; exact .int b
  | .str b, _, _, e, r => by rw [toPy] at e; cases e; rw [r.str]; exact .str b
  | .tup ds, _, _, e, r => by
    rw [toPy] at e
    rw [Rep] at r
    obtain ⟨a, xs, rfl, h1, h2⟩ := r
    obtain ⟨ps, e1, rfl⟩ := Option.map_eq_some_iff.mp e
    exact .tup h1.sq (toPys_ok s e1 h2)
  | .lst ds, _, _, e, r => by
    rw [toPy] at e
    rw [Rep] at r
    obtain ⟨a, xs, rfl, h1, h2⟩ := r
    obtain ⟨ps, e1, rfl⟩ := Option.map_eq_some_iff.mp e
    exact .lst (.of h1.2.2) (toPys_ok s e1 h2)
  | .ty _, _, _, e, _ => by simp [toPy] at e
  | .scr _, _, _, e, _ => by simp [toPy] at e
  | .ref _, _, _, e, _ => by simp [toPy] at e
theorem toPys_ok (s : Sim c φ st H) : ∀ {ds : List D} {vs : List V} {ps : List PyData}, toPys st ds = some ps → Reps c φ H ds vs → DpAll c.K H vs ps
  | [], _, _, e, r => by rw [toPys] at e; cases e; rw [r.inv_nil]; exact .nil
  | d :: ds, _, _, e, r => by
    obtain ⟨v, ws, rfl, h1, h2⟩ := r.inv_cons
    rw [toPys] at e
    cases q1 : toPy st d with
    | none => rw [q1] at e; simp at e
    | some x =>
      cases q2 : toPys st ds with
      | none => rw [q1, q2] at e; simp at e
      | some xs =>
        rw [q1, q2] at e
        simp at e
        subst e
        exact .cons (toPy_ok s q1 h1) (toPys_ok s q2 h2)
end
theorem toPy1_ok (s : Sim c φ st H) {p : PyData} (e : toPy1 st d = some p) (r : Rep c φ H d v) : Dp c.K H v p := by
  cases d with
  | ref i =>
    rw [toPy1] at e
    rw [Rep] at r
    obtain ⟨a, h1, rfl⟩ := r
    cases q : st[i]? with
    | none => rw [q] at e; cases e
    | some k =>
      cases k with
      | lst es =>
        rw [q] at e
        obtain ⟨ps, e1, rfl⟩ := Option.map_eq_some_iff.mp e
        obtain ⟨a', xs, h2, _, h3, h4⟩ := s.at q
        rw [h1] at h2; cases h2
        exact .lst (.of h3) (toPys_ok s e1 h4)
  | _ => exact toPy_ok s (by simpa [toPy1] using e) r
end

/-! ### operators -/
def mulOk (i j : Int) : Bool := decide (i.natAbs.log2 + j.natAbs.log2 < 1000000)
def oAdd (st : Sto) : D → D → Re D
  | .int i, .int j => .ok (.int (i + j)) st
  | .str x, .str y => if x.length + y.length ≤ LIM then .ok (.str (x ++ y)) st else .bad
  | .tup xs, .tup ys => if xs.length + ys.length ≤ LIM then .ok (.tup (xs ++ ys)) st else .bad
  | x, y => match asL st x, asL st y with
    | some xs, some ys => if xs.length + ys.length ≤ LIM then .ok (.lst (xs ++ ys)) st else .bad
    | _, _ => .bad
def oSub (st : Sto) : D → D → Re D
  | .int i, .int j => .ok (.int (i - j)) st
  | _, _ => .bad
def oMul (st : Sto) : D → D → Re D
  | .int i, .int j => if mulOk i j then .ok (.int (i * j)) st else .bad
  | .tup xs, .int k => if xs.length ≠ 0 ∧ 2 ≤ k ∧ k ≤ 1000 ∧ xs.length ≤ 1000 then .ok (.tup (List.replicate k.toNat xs).flatten) st else .bad
  | x, .int k => match asL st x with
    | some xs => if 0 ≤ k ∧ k < 2 ^ 63 ∧ xs.length * k.toNat ≤ LIM then .ok (.lst (List.replicate k.toNat xs).flatten) st else .bad
    | none => .bad
  | _, _ => .bad
def oFdiv (st : Sto) : D → D → Re D
  | .int i, .int j => if 0 < j ∧ j.natAbs.log2 < 9000 then .ok (.int (i / j)) st else if j ≠ 0 ∧ j.natAbs < 1073741824 then .ok (.int (i.fdiv j)) st else .bad
  | _, _ => .bad
def oMod (st : Sto) : D → D → Re D
  | .int i, .int j => if 0 < j then .ok (.int (i % j)) st else .bad
  | _, _ => .bad
def oPow (st : Sto) : D → D → Re D
  | .int i, .int j => if 0 ≤ j ∧ j ≤ 1000000 ∧ i.natAbs < 2 ^ 64 then .ok (.int (i ^ j.toNat)) st else .bad
  | _, _ => .bad
def oNeg (st : Sto) : D → Re D
  | .int i => .ok (.int (-i)) st
  | _ => .bad
section
variable {c : Ctx} {k : Kc} {E : XK} {X : Cx}
theorem flat_rep {φ : List Addr} {H : Hp} {ds : List D} {xs : List V} (r : Reps c φ H ds xs) : ∀ (n : Nat), Reps c φ H (List.replicate n ds).flatten (List.replicate n xs).flatten
  | 0 => by simp; exact .nil
  | n + 1 => by simp only [List.replicate_succ, List.flatten_cons]; exact Reps.append r (flat_rep r n)
theorem nil_iff {φ : List Addr} {H : Hp} {ds : List D} {xs : List V} (r : Reps c φ H ds xs) : xs = [] ↔ ds = [] := by
  have := r.length
  constructor
  · intro h; subst h; simpa using this
  · intro h; subst h; simpa using this.symm
theorem opr_add (hK : X.K = k.K) : OpR X (binaryOp .Add) (rO k E oAdd) := by
  intro pins s σ H x y v u Q I rx ry ⟨PP, φ, st, dx, dy, hs, r1, r2, w⟩
  have listy : ∀ xs ys, asL st dx = some xs → asL st dy = some ys → WD (k.w PP) E φ H (if xs.length + ys.length ≤ LIM then .ok (.lst (xs ++ ys)) st else .bad) Q → wpAny (model X.prog X.w) X.A (binaryOp .Add v u) (EP X pins σ Q) X.xe s := fun xs ys e1 e2 w => by
    obtain ⟨a, us, rfl, h1, q1⟩ := asL_ok hs e1 r1
    obtain ⟨b, ws, rfl, h2, q2⟩ := asL_ok hs e2 r2
    by_cases hl : xs.length + ys.length ≤ LIM
    · rw [if_pos hl] at w
      exact op_cat pins s σ H _ _ v u Q I rx ry ⟨a, b, us, ws, rfl, rfl, h1, h2, by rw [← q1.length, ← q2.length]; exact lim_line hl, fun p hp => newL w hs (q1.append q2) hp⟩
    · rw [if_neg hl] at w; exact w.elim
  cases dx with
  | int i =>
    cases dy with
    | int j =>
      rw [r1.int] at rx; rw [r2.int] at ry
      exact op_add pins s σ H _ _ v u Q I rx ry ⟨i, j, rfl, rfl, w.ok0 hs _ .mkInt⟩
    | _ => exact w.elim
  | str i =>
    cases dy with
    | str j =>
      rw [r1.str] at rx; rw [r2.str] at ry
      by_cases hl : i.length + j.length ≤ LIM
      · rw [oAdd, if_pos hl] at w
        exact op_add_str pins s σ H _ _ v u Q I rx ry ⟨i, j, rfl, rfl, lim_line hl, w.ok0 hs _ .mkStr⟩
      · rw [oAdd, if_neg hl] at w; exact w.elim
    | _ => exact w.elim
  | tup xs =>
    cases dy with
    | tup ys =>
      by_cases hl : xs.length + ys.length ≤ LIM
      · rw [oAdd, if_pos hl] at w
        have r1' := r1; have r2' := r2
        rw [Rep] at r1 r2
        obtain ⟨a, us, rfl, h1, q1⟩ := r1
        obtain ⟨b, ws, rfl, h2, q2⟩ := r2
        refine op_catA pins s σ H _ _ v u Q I rx ry ⟨a, b, us, ws, rfl, rfl, kT hK h1.sq, kT hK h2.sq, by rw [← q1.length, ← q2.length]; exact lim_line hl, fun e => ?_, fun e1 e2 => ?_, fun _ _ p hp => newT w hs (q1.append q2) hp⟩
        · have e' := (nil_iff q1).mp e
          subst e'
          exact w.ok0 hs _ r2'
        · have e' := (nil_iff q2).mp e2
          subst e'
          rw [List.append_nil] at w
          exact w.ok0 hs _ r1'
      · rw [oAdd, if_neg hl] at w; exact w.elim
    | _ => exact w.elim
  | lst xs =>
    cases h : asL st dy with
    | none => cases dy <;> simp_all [oAdd, asL, WD, Goes]
    | some ys => exact listy xs ys rfl h (by cases dy <;> simp_all [oAdd, asL])
  | ref i =>
    cases h1 : asL st (.ref i) with
    | none => cases dy <;> simp_all [oAdd, asL, WD, Goes]
    | some xs =>
      cases h : asL st dy with
      | none => cases dy <;> simp_all [oAdd, asL, WD, Goes]
      | some ys => exact listy xs ys h1 h (by cases dy <;> simp_all [oAdd, asL])
  | _ => cases dy <;> exact w.elim
theorem opr_sub : OpR X (binaryOp .Sub) (rO k E oSub) := by
  intro pins s σ H x y v u Q I rx ry ⟨PP, φ, st, dx, dy, hs, r1, r2, w⟩
  cases dx with
  | int i =>
    cases dy with
    | int j =>
      rw [r1.int] at rx; rw [r2.int] at ry
      exact op_sub pins s σ H _ _ v u Q I rx ry ⟨i, j, rfl, rfl, w.ok0 hs _ .mkInt⟩
    | _ => exact w.elim
  | _ => cases dy <;> exact w.elim
theorem opr_fdiv : OpR X (binaryOp .FloorDiv) (rO k E oFdiv) := by
  intro pins s σ H x y v u Q I rx ry ⟨PP, φ, st, dx, dy, hs, r1, r2, w⟩
  cases dx with
  | int i =>
    cases dy with
    | int j =>
      rw [r1.int] at rx; rw [r2.int] at ry
      rw [oFdiv] at w
      by_cases h : 0 < j ∧ j.natAbs.log2 < 9000
      · rw [if_pos h] at w
        exact op_fdivW pins s σ H _ _ v u Q I rx ry ⟨i, j, rfl, rfl, h, w.ok0 hs _ .mkInt⟩
      · rw [if_neg h] at w
        by_cases h2 : j ≠ 0 ∧ j.natAbs < 1073741824
        · rw [if_pos h2] at w
          exact op_fdivN pins s σ H _ _ v u Q I rx ry ⟨i, j, rfl, rfl, h2, w.ok0 hs _ .mkInt⟩
        · rw [if_neg h2] at w; exact w.elim
    | _ => exact w.elim
  | _ => cases dy <;> exact w.elim
theorem opr_mod : OpR X (binaryOp .Mod) (rO k E oMod) := by
  intro pins s σ H x y v u Q I rx ry ⟨PP, φ, st, dx, dy, hs, r1, r2, w⟩
  cases dx with
  | int i =>
    cases dy with
    | int j =>
      rw [r1.int] at rx; rw [r2.int] at ry
      rw [oMod] at w
      by_cases h : 0 < j
      · rw [if_pos h] at w
        exact op_mod pins s σ H _ _ v u Q I rx ry ⟨i, j, rfl, rfl, h, w.ok0 hs _ .mkInt⟩
      · rw [if_neg h] at w; exact w.elim
    | _ => exact w.elim
  | _ => cases dy <;> exact w.elim
theorem opr_pow : OpR X (binaryOp .Pow) (rO k E oPow) := by
  intro pins s σ H x y v u Q I rx ry ⟨PP, φ, st, dx, dy, hs, r1, r2, w⟩
  cases dx with
  | int i =>
    cases dy with
    | int j =>
      rw [r1.int] at rx; rw [r2.int] at ry
      rw [oPow] at w
      by_cases h : 0 ≤ j ∧ j ≤ 1000000 ∧ i.natAbs < 2 ^ 64
      · rw [if_pos h] at w
        exact op_pow pins s σ H _ _ v u Q I rx ry ⟨i, j, rfl, rfl, h, w.ok0 hs _ .mkInt⟩
      · rw [if_neg h] at w; exact w.elim
    | _ => exact w.elim
  | _ => cases dy <;> exact w.elim
theorem opr_mul (hK : X.K = k.K) : OpR X (binaryOp .Mult) (rO k E oMul) := by
  intro pins s σ H x y v u Q I rx ry ⟨PP, φ, st, dx, dy, hs, r1, r2, w⟩
  cases dy with
  | int n =>
    rw [r2.int] at ry
    have listy : ∀ xs, asL st dx = some xs → WD (k.w PP) E φ H (if 0 ≤ n ∧ n < 2 ^ 63 ∧ xs.length * n.toNat ≤ LIM then .ok (.lst (List.replicate n.toNat xs).flatten) st else .bad) Q → wpAny (model X.prog X.w) X.A (binaryOp .Mult v u) (EP X pins σ Q) X.xe s := fun xs e1 w => by
      obtain ⟨a, us, rfl, h1, q1⟩ := asL_ok hs e1 r1
      by_cases hl : 0 ≤ n ∧ n < 2 ^ 63 ∧ xs.length * n.toNat ≤ LIM
      · rw [if_pos hl] at w
        exact op_rep pins s σ H _ _ v u Q I rx ry ⟨a, n, us, rfl, rfl, h1, by omega, hl.2.1, by rw [← q1.length]; exact lim_line hl.2.2, fun p hp => newL w hs (flat_rep q1 _) hp⟩
      · rw [if_neg hl] at w; exact w.elim
    cases dx with
    | int i =>
      rw [r1.int] at rx
      rw [oMul] at w
      by_cases h : mulOk i n = true
      · rw [if_pos h] at w
        exact op_mulW pins s σ H _ _ v u Q I rx ry ⟨i, n, rfl, rfl, (by simpa [mulOk, CMulW] using h), w.ok0 hs _ .mkInt⟩
      · rw [if_neg h] at w; exact w.elim
    | tup xs =>
      rw [oMul] at w
      by_cases h : xs.length ≠ 0 ∧ 2 ≤ n ∧ n ≤ 1000 ∧ xs.length ≤ 1000
      · rw [if_pos h] at w
        rw [Rep] at r1
        obtain ⟨a, us, rfl, h1, q1⟩ := r1
        exact op_repT pins s σ H _ _ v u Q I rx ry ⟨a, n, us, rfl, rfl, kT hK h1.sq, fun e => h.1 (by rw [(nil_iff q1).mp e]; rfl), h.2.1, h.2.2.1, by rw [← q1.length]; exact h.2.2.2, fun p hp => newT w hs (flat_rep q1 _) hp⟩
      · rw [if_neg h] at w; exact w.elim
    | lst xs => exact listy xs rfl w
    | ref i =>
      cases h1 : asL st (.ref i) with
      | none => rw [oMul, h1] at w; exact w.elim; all_goals (intros; simp_all)
      | some xs => exact listy xs h1 (by rw [oMul, h1] at w; exact w; all_goals (intros; simp_all))
    | _ => exact w.elim
  | _ => cases dx <;> exact w.elim
theorem unr_neg : UnR X (unaryOp .USub) (rU1 k E oNeg) := by
  intro pins s σ H x v Q I rx ⟨PP, φ, st, dx, hs, r1, w⟩
  cases dx with
  | int i =>
    rw [r1.int] at rx
    exact un_neg pins s σ H _ v Q I rx ⟨i, rfl, w.ok0 hs _ .mkInt⟩
  | _ => exact w.elim
end
end Pl
set_option Elab.async false
set_option linter.all false
set_option maxRecDepth 100000
set_option maxHeartbeats 2000000
namespace Pl
open PySem PySem.Spec PyProof.Rows L2
/-! ### comparisons -/
def eqD (st : Sto) (x y : D) : Option Bool := match x, y with
  | .int i, .int j => some (decide (i = j))
  | .str i, .str j => some (decide (i = j))
  | x, y => match toPy1 st x, toPy1 st y with
    | some p, some q => if SeqAt.shaped p && SeqAt.shaped q then some (PyData.eqv p q) else none
    | _, _ => none
def oEq (st : Sto) (x y : D) : Re D := match eqD st x y with
  | some b => .ok (.bl b) st
  | none => .bad
def oNe (st : Sto) (x y : D) : Re D := match eqD st x y with
  | some b => .ok (.bl (!b)) st
  | none => .bad
def oLt (st : Sto) : D → D → Re D
  | .int i, .int j => .ok (.bl (decide (i < j))) st
  | .str i, .str j => .ok (.bl (decide (i.cps.toList < j.cps.toList))) st
  | _, _ => .bad
def oLe (st : Sto) : D → D → Re D
  | .int i, .int j => .ok (.bl (decide (i ≤ j))) st
  | _, _ => .bad
def oGt (st : Sto) : D → D → Re D
  | .int i, .int j => .ok (.bl (decide (j < i))) st
  | _, _ => .bad
def oGe (st : Sto) : D → D → Re D
  | .int i, .int j => .ok (.bl (decide (j ≤ i))) st
  | _, _ => .bad
def flatD : D → Bool
  | .non | .bl _ | .int _ | .str _ => true
  | _ => false
/-- == of flat data -/
def eqF : D → D → Bool
  | .non, .non => true
  | .bl a, .bl b => a == b
  | .bl a, .int b => (if a then 1 else 0) == b
  | .int a, .bl b => a == (if b then 1 else 0)
  | .int a, .int b => a == b
  | .str a, .str b => a == b
  | _, _ => false
def inD (st : Sto) (x y : D) : Option Bool := match x, y with
  | .str i, .str j => some (!(Builtin.Str.occurrences j i 0 j.length 1).isEmpty)
  | x, y => match asQ st y with
    | some ds => if flatD x && ds.all flatD then some (ds.any fun d => eqF d x) else none
    | none => none
def oIn (st : Sto) (x y : D) : Re D := match inD st x y with
  | some b => .ok (.bl b) st
  | none => .bad
def oNotIn (st : Sto) (x y : D) : Re D := match inD st x y with
  | some b => .ok (.bl (!b)) st
  | none => .bad
def isNon : D → Bool
  | .non => true
  | _ => false
def oIsN (st : Sto) (x y : D) : Re D := match y with
  | .non => .ok (.bl (isNon x)) st
  | _ => .bad
def oNotN (st : Sto) (x y : D) : Re D := match y with
  | .non => .ok (.bl (!isNon x)) st
  | _ => .bad
section
variable {c : Ctx} {k : Kc} {E : XK} {X : Cx}
theorem isNon_ok {φ : List Addr} {H : Hp} {d : D} {v : V} (r : Rep c φ H d v) : decide (v = .non) = isNon d := by
  cases d with
  | non => rw [r.non]; rfl
  | bl b => rw [r.bl]; rfl
  | int b => rw [r.int]; rfl
  | str b => rw [r.str]; rfl
  | ty b => rw [r.ty]; rfl
  | tup ds => rw [Rep] at r; obtain ⟨a, xs, rfl, _⟩ := r; rfl
  | lst ds => rw [Rep] at r; obtain ⟨a, xs, rfl, _⟩ := r; rfl
  | scr ds => rw [Rep] at r; obtain ⟨a, rfl, _⟩ := r; rfl
  | ref ds => rw [Rep] at r; obtain ⟨a, _, rfl⟩ := r; rfl
theorem opr_isN : OpR X (compareOp .Is) (rO k E oIsN) := by
  intro pins s σ H x y v u Q I rx ry ⟨PP, φ, st, dx, dy, hs, r1, r2, w⟩
  cases dy with
  | non =>
    have q := w.ok0 hs _ .mkBl
    rw [← isNon_ok r1] at q
    exact op_isN pins s σ H _ _ v u Q I rx ry ⟨r2.non, q⟩
  | _ => exact w.elim
theorem opr_notN : OpR X (compareOp .IsNot) (rO k E oNotN) := by
  intro pins s σ H x y v u Q I rx ry ⟨PP, φ, st, dx, dy, hs, r1, r2, w⟩
  cases dy with
  | non =>
    have q := w.ok0 hs _ .mkBl
    rw [← isNon_ok r1] at q
    exact op_notN pins s σ H _ _ v u Q I rx ry ⟨r2.non, q⟩
  | _ => exact w.elim
theorem eqD_py {c : Ctx} {φ : List Addr} {H : Hp} {st : Sto} {dx dy : D} {x y : V} {b : Bool} (hs : Sim c φ st H) (r1 : Rep c φ H dx x) (r2 : Rep c φ H dy y) (e : eqD st dx dy = some b) :
    (∃ i j : Int, x = .int i ∧ y = .int j ∧ b = decide (i = j)) ∨ (∃ i j : Str, x = .str i ∧ y = .str j ∧ b = decide (i = j)) ∨ ∃ p q, Dp c.K H x p ∧ Dp c.K H y q ∧ SeqAt.shaped p = true ∧ SeqAt.shaped q = true ∧ b = PyData.eqv p q := by
  have gen : (match toPy1 st dx, toPy1 st dy with
      | some p, some q => if SeqAt.shaped p && SeqAt.shaped q then some (PyData.eqv p q) else none
      | _, _ => none) = some b → ∃ p q, Dp c.K H x p ∧ Dp c.K H y q ∧ SeqAt.shaped p = true ∧ SeqAt.shaped q = true ∧ b = PyData.eqv p q := fun e => by
    cases e1 : toPy1 st dx with
    | none => rw [e1] at e; simp at e
    | some p =>
      cases e2 : toPy1 st dy with
      | none => rw [e1, e2] at e; simp at e
      | some q =>
        rw [e1, e2] at e
        dsimp only at e
        by_cases h : (SeqAt.shaped p && SeqAt.shaped q) = true
        · rw [if_pos h] at e
          cases e
          obtain ⟨h1, h2⟩ := Bool.and_eq_true_iff.mp h
          exact ⟨p, q, toPy1_ok hs e1 r1, toPy1_ok hs e2 r2, h1, h2, rfl⟩
        · rw [if_neg h] at e; cases e
  unfold eqD at e
  split at e
  · cases e
    exact .inl ⟨_, _, r1.int, r2.int, rfl⟩
  · cases e
    exact .inr (.inl ⟨_, _, r1.str, r2.str, rfl⟩)
  · exact .inr (.inr (gen e))
theorem dec_vint {i j : Int} : decide (V.int i = V.int j) = decide (i = j) := by
  by_cases h : i = j
  · subst h; simp
  · rw [decide_eq_false h, decide_eq_false (fun z => h (V.int.inj z))]
theorem dec_vstr {i j : Str} : decide (V.str i = V.str j) = decide (i = j) := by
  by_cases h : i = j
  · subst h; simp
  · rw [decide_eq_false h, decide_eq_false (fun z => h (V.str.inj z))]
theorem opr_eq (hK : X.K = k.K) (hu : X.A.units + 64 < cLine) : OpR X (compareOp .Eq) (rO k E oEq) := by
  intro pins s σ H x y v u Q I rx ry ⟨PP, φ, st, dx, dy, hs, r1, r2, w⟩
  unfold oEq at w
  cases e : eqD st dx dy with
  | none => rw [e] at w; exact w.elim
  | some b =>
    rw [e] at w
    have q := w.ok0 hs _ .mkBl
    rcases eqD_py hs r1 r2 e with ⟨i, j, rfl, rfl, rfl⟩ | ⟨i, j, rfl, rfl, rfl⟩ | ⟨p, q', h1, h2, h3, h4, rfl⟩
    · exact op_eq pins s σ H _ _ v u Q I rx ry ⟨rfl, by rw [dec_vint]; exact q⟩
    · exact op_eq pins s σ H _ _ v u Q I rx ry ⟨rfl, by rw [dec_vstr]; exact q⟩
    · exact op_eqD hu pins s σ H _ _ v u Q I rx ry ⟨p, q', kD hK h1, kD hK h2, h3, h4, q⟩
theorem opr_ne (hK : X.K = k.K) (hu : X.A.units + 64 < cLine) : OpR X (compareOp .NotEq) (rO k E oNe) := by
  intro pins s σ H x y v u Q I rx ry ⟨PP, φ, st, dx, dy, hs, r1, r2, w⟩
  unfold oNe at w
  cases e : eqD st dx dy with
  | none => rw [e] at w; exact w.elim
  | some b =>
    rw [e] at w
    have q := w.ok0 hs _ .mkBl
    rcases eqD_py hs r1 r2 e with ⟨i, j, rfl, rfl, rfl⟩ | ⟨i, j, rfl, rfl, rfl⟩ | ⟨p, q', h1, h2, h3, h4, rfl⟩
    · exact op_ne pins s σ H _ _ v u Q I rx ry ⟨rfl, by rw [dec_vint]; exact q⟩
    · exact op_ne pins s σ H _ _ v u Q I rx ry ⟨rfl, by rw [dec_vstr]; exact q⟩
    · exact op_neD hu pins s σ H _ _ v u Q I rx ry ⟨p, q', kD hK h1, kD hK h2, h3, h4, q⟩
theorem opr_lt : OpR X (compareOp .Lt) (rO k E oLt) := by
  intro pins s σ H x y v u Q I rx ry ⟨PP, φ, st, dx, dy, hs, r1, r2, w⟩
  cases dx with
  | int i =>
    cases dy with
    | int j =>
      rw [r1.int] at rx; rw [r2.int] at ry
      exact op_lt pins s σ H _ _ v u Q I rx ry ⟨i, j, rfl, rfl, w.ok0 hs _ .mkBl⟩
    | _ => exact w.elim
  | str i =>
    cases dy with
    | str j =>
      rw [r1.str] at rx; rw [r2.str] at ry
      exact op_lt_str pins s σ H _ _ v u Q I rx ry ⟨i, j, rfl, rfl, w.ok0 hs _ .mkBl⟩
    | _ => exact w.elim
  | _ => cases dy <;> exact w.elim
theorem opr_le : OpR X (compareOp .LtE) (rO k E oLe) := by
  intro pins s σ H x y v u Q I rx ry ⟨PP, φ, st, dx, dy, hs, r1, r2, w⟩
  cases dx with
  | int i =>
    cases dy with
    | int j =>
      rw [r1.int] at rx; rw [r2.int] at ry
      exact op_le pins s σ H _ _ v u Q I rx ry ⟨i, j, rfl, rfl, w.ok0 hs _ .mkBl⟩
    | _ => exact w.elim
  | _ => cases dy <;> exact w.elim
theorem opr_gt : OpR X (compareOp .Gt) (rO k E oGt) := by
  intro pins s σ H x y v u Q I rx ry ⟨PP, φ, st, dx, dy, hs, r1, r2, w⟩
  cases dx with
  | int i =>
    cases dy with
    | int j =>
      rw [r1.int] at rx; rw [r2.int] at ry
      exact op_gt pins s σ H _ _ v u Q I rx ry ⟨i, j, rfl, rfl, w.ok0 hs _ .mkBl⟩
    | _ => exact w.elim
  | _ => cases dy <;> exact w.elim
theorem opr_ge : OpR X (compareOp .GtE) (rO k E oGe) := by
  intro pins s σ H x y v u Q I rx ry ⟨PP, φ, st, dx, dy, hs, r1, r2, w⟩
  cases dx with
  | int i =>
    cases dy with
    | int j =>
      rw [r1.int] at rx; rw [r2.int] at ry
      exact op_ge pins s σ H _ _ v u Q I rx ry ⟨i, j, rfl, rfl, w.ok0 hs _ .mkBl⟩
    | _ => exact w.elim
  | _ => cases dy <;> exact w.elim
theorem flat_ok {φ : List Addr} {H : Hp} {d : D} {v : V} (r : Rep c φ H d v) (f : flatD d = true) : flatV v = true := by
  cases d with
  | non => rw [r.non]; rfl
  | bl b => rw [r.bl]; rfl
  | int b => rw [r.int]; rfl
  | str b => rw [r.str]; rfl
  | _ => exact absurd f (by simp [flatD])
theorem eqF_ok {φ : List Addr} {H : Hp} {d e : D} {v u : V} (r : Rep c φ H d v) (q : Rep c φ H e u) (f : flatD d = true) (g : flatD e = true) : eqV v u = eqF d e := by
  cases d with
  | non =>
    rw [r.non]
    cases e with
    | non => rw [q.non]; rfl
    | bl b => rw [q.bl]; rfl
    | int b => rw [q.int]; rfl
    | str b => rw [q.str]; rfl
    | _ => exact absurd g (by simp [flatD])
  | bl b =>
    rw [r.bl]
    cases e with
    | non => rw [q.non]; rfl
    | bl b => rw [q.bl]; rfl
    | int b => rw [q.int]; rfl
    | str b => rw [q.str]; rfl
    | _ => exact absurd g (by simp [flatD])
  | int b =>
    rw [r.int]
    cases e with
    | non => rw [q.non]; rfl
    | bl b => rw [q.bl]; rfl
    | int b => rw [q.int]; rfl
    | str b => rw [q.str]; rfl
    | _ => exact absurd g (by simp [flatD])
  | str b =>
    rw [r.str]
    cases e with
    | non => rw [q.non]; rfl
    | bl b => rw [q.bl]; rfl
    | int b => rw [q.int]; rfl
    | str b => rw [q.str]; rfl
    | _ => exact absurd g (by simp [flatD])
  | _ => exact absurd f (by simp [flatD])
theorem all_flat {φ : List Addr} {H : Hp} : ∀ {ds : List D} {vs : List V}, Reps c φ H ds vs → ds.all flatD = true → vs.all flatV = true
  | [], _, r, _ => by rw [r.inv_nil]; rfl
  | d :: ds, _, r, f => by
    obtain ⟨v, ws, rfl, h1, h2⟩ := r.inv_cons
    rw [List.all_cons, Bool.and_eq_true] at f ⊢
    exact ⟨flat_ok h1 f.1, all_flat h2 f.2⟩
theorem any_eqF {φ : List Addr} {H : Hp} {x : D} {xv : V} (rx : Rep c φ H x xv) (fx : flatD x = true) : ∀ {ds : List D} {vs : List V}, Reps c φ H ds vs → ds.all flatD = true → inV xv vs = ds.any fun d => eqF d x
  | [], _, r, _ => by rw [r.inv_nil]; rfl
  | d :: ds, _, r, f => by
    obtain ⟨v, ws, rfl, h1, h2⟩ := r.inv_cons
    rw [List.all_cons, Bool.and_eq_true] at f
    unfold inV
    rw [List.any_cons, List.any_cons, eqF_ok h1 rx f.1 fx]
    exact congrArg _ (any_eqF rx fx h2 f.2)
theorem inD_ok {φ : List Addr} {H : Hp} {st : Sto} {dx dy : D} {x y : V} {b : Bool} (hs : Sim c φ st H) (r1 : Rep c φ H dx x) (r2 : Rep c φ H dy y) (e : inD st dx dy = some b) :
    (∃ i j : Str, x = .str i ∧ y = .str j ∧ b = !(Builtin.Str.occurrences j i 0 j.length 1).isEmpty) ∨ ∃ p xs, y = .ref p ∧ (SqL c.K H p xs ∨ SqT c.K H p xs) ∧ flatV x = true ∧ xs.all flatV = true ∧ b = inV x xs := by
  have gen : (match asQ st dy with
    | some ds => if flatD dx && ds.all flatD then some (ds.any fun d => eqF d dx) else none
    | none => none) = some b → ∃ p xs, y = .ref p ∧ (SqL c.K H p xs ∨ SqT c.K H p xs) ∧ flatV x = true ∧ xs.all flatV = true ∧ b = inV x xs := fun e => by
    cases e1 : asQ st dy with
    | none => rw [e1] at e; simp at e
    | some ds =>
      rw [e1] at e
      dsimp only at e
      by_cases h : (flatD dx && ds.all flatD) = true
      · rw [if_pos h] at e
        cases e
        obtain ⟨h1, h2⟩ := Bool.and_eq_true_iff.mp h
        obtain ⟨a, xs, rfl, q1, q2⟩ := asQ_ok hs e1 r2
        exact ⟨a, xs, rfl, q1, flat_ok r1 h1, all_flat q2 h2, (any_eqF r1 h1 q2 h2).symm⟩
      · rw [if_neg h] at e; cases e
  unfold inD at e
  split at e
  · cases e
    exact .inl ⟨_, _, r1.str, r2.str, rfl⟩
  · exact .inr (gen e)
theorem opr_in (hK : X.K = k.K) : OpR X (compareOp .In) (rO k E oIn) := by
  intro pins s σ H x y v u Q I rx ry ⟨PP, φ, st, dx, dy, hs, r1, r2, w⟩
  unfold oIn at w
  cases e : inD st dx dy with
  | none => rw [e] at w; exact w.elim
  | some b =>
    rw [e] at w
    have q := w.ok0 hs _ .mkBl
    rcases inD_ok hs r1 r2 e with ⟨i, j, rfl, rfl, rfl⟩ | ⟨p, xs, rfl, h1, h2, h3, rfl⟩
    · exact op_in_str pins s σ H _ _ v u Q I rx ry ⟨i, j, rfl, rfl, q⟩
    · exact op_in_seq pins s σ H _ _ v u Q I rx ry ⟨p, xs, rfl, kLT hK h1, h2, h3, q⟩
theorem opr_notIn (hK : X.K = k.K) : OpR X (compareOp .NotIn) (rO k E oNotIn) := by
  intro pins s σ H x y v u Q I rx ry ⟨PP, φ, st, dx, dy, hs, r1, r2, w⟩
  unfold oNotIn at w
  cases e : inD st dx dy with
  | none => rw [e] at w; exact w.elim
  | some b =>
    rw [e] at w
    have q := w.ok0 hs _ .mkBl
    rcases inD_ok hs r1 r2 e with ⟨i, j, rfl, rfl, rfl⟩ | ⟨p, xs, rfl, h1, h2, h3, rfl⟩
    · exact op_notIn_str pins s σ H _ _ v u Q I rx ry ⟨i, j, rfl, rfl, q⟩
    · exact op_notIn_seq pins s σ H _ _ v u Q I rx ry ⟨p, xs, rfl, kLT hK h1, h2, h3, q⟩
end
end Pl
set_option Elab.async false
set_option linter.all false
set_option maxRecDepth 100000
set_option maxHeartbeats 2000000
namespace Pl
open PySem PySem.Spec PyProof.Rows L2
/-! ### expressions put together -/
def chainS (g1 g2 : Sto → D → D → Re D) (a b c : Sh D) : Sh D := fun fr st => (a fr st).bind fun x st1 => (b fr st1).bind fun y st2 => (g1 st2 x y).bind fun z st3 => match z with
  | .bl true => (c fr st3).bind fun w st4 => g2 st4 y w
  | .bl false => .ok (.bl false) st3
  | _ => .bad
def andV (a b : Sh D) : Sh D := fun fr st => (a fr st).bind fun x st1 => match x with
  | .bl true => b fr st1
  | .bl false => .ok (.bl false) st1
  | _ => .bad
def orV (a b : Sh D) : Sh D := fun fr st => (a fr st).bind fun x st1 => match x with
  | .bl true => .ok (.bl true) st1
  | .bl false => b fr st1
  | _ => .bad
def tupS (m : Sh (List D)) : Sh D := fun fr st => (m fr st).bind fun xs st1 => if xs.length ≤ LIM then .ok (.tup xs) st1 else .bad
def lstS (m : Sh (List D)) : Sh D := fun fr st => (m fr st).bind fun xs st1 => if xs.length ≤ LIM then .ok (.lst xs) st1 else .bad
/-- a list that may change -/
def ownS (m : Sh (List D)) : Sh D := fun fr st => (m fr st).bind fun xs st1 => if xs.length ≤ LIM then .ok (.ref st1.length) (st1 ++ [.lst xs]) else .bad
def starS (a : Sh D) (b : Sh (List D)) : Sh (List D) := fun fr st => (a fr st).bind fun x st1 => match asQ st1 x with
  | some xs => (b fr st1).bind fun ys st2 => .ok (xs ++ ys) st2
  | none => .bad
def oIx (st : Sto) (x y : D) : Re D := match y with
  | .int i => match x with
    | .str z => if z.length ≤ LIM then (match atI z.cps.toList i with
      | some c => .ok (.str ⟨#[c]⟩) st
      | none => .bad) else .bad
    | x => match asQ st x with
      | some ds => (match atI ds i with
        | some d => .ok d st
        | none => .bad)
      | none => .bad
  | _ => .bad
def cutD {α : Type} (xs : List α) (lo hi : Option Int) : List α := (xs.drop (HT.sIx xs.length 0 lo)).take (HT.sIx xs.length xs.length hi - HT.sIx xs.length 0 lo)
def oSl (st : Sto) (x : D) (lo hi : Option Int) : Re D := match x with
  | .str z => if z.length ≤ LIM then .ok (.str (cutS z lo hi)) st else .bad
  | .tup ds => .ok (.tup (cutD ds lo hi)) st
  | .scr ns => .ok (.lst ((cutD ns lo hi).map .int)) st
  | x => match asL st x with
    | some ds => .ok (.lst (cutD ds lo hi)) st
    | none => .bad
def noP : Sh (Option Int) := fun _ st => .ok none st
def partS (m : Sh D) : Sh (Option Int) := fun fr st => (m fr st).bind fun x st1 => match x with
  | .int i => .ok (some i) st1
  | _ => .bad
def slS (a : Sh D) (lo hi : Sh (Option Int)) : Sh D := fun fr st => (a fr st).bind fun x st1 => (lo fr st1).bind fun l st2 => (hi fr st2).bind fun h st3 => oSl st3 x l h
def tP (k : Kc) (E : XK) (m : Sh (Option Int)) : TO := fun σ H Q => ∃ PP φ fr st, FrR (k.w PP) φ H fr σ ∧ Sim (k.w PP) φ st H ∧ Goes (k.w PP) E φ H (m fr st) fun o _ _ H' => Q o H'
section
variable {k : Kc} {E : XK} {X : Cx} {σ : L2.St} {H : Hp}
theorem po_weak {e : Option Expr} {t t' : TO} (h : PO X e t) (w : ∀ σ H Q, t' σ H Q → t σ H Q) : PO X e t' := ⟨fun pins s σ H Q I q => h.run pins s σ H Q I (w σ H Q q)⟩
theorem p_none : PO X none (tP k E noP) := po_weak po_none fun σ H Q ⟨PP, φ, fr, st, hf, hs, w⟩ => w.ok0 hs
theorem p_some {e : Expr} {m : Sh D} (h : PE X e (tE k E m)) : PO X (some e) (tP k E (partS m)) := po_weak (po_some h) fun σ H Q ⟨PP, φ, fr, st, hf, hs, w⟩ => seqD hf hs w fun x φ1 st1 H1 v1 _ _ hs1 r1 w1 => by
  cases x with
  | int i => rw [r1.int]; exact ⟨i, rfl, w1.ok0 hs1⟩
  | _ => exact w1.elim
theorem seqP {m : Sh (Option Int)} {α : Type} {f : Option Int → Sto → Re α} {kk : α → List Addr → Sto → Hp → Prop} {PP : Addr → Prop} {φ : List Addr} {fr : Fr} {st : Sto} {Q : Option Int → Hp → Prop} (hf : FrR (k.w PP) φ H fr σ) (hs : Sim (k.w PP) φ st H) (h : Goes (k.w PP) E φ H ((m fr st).bind f) kk)
    (q : ∀ b φ' st' H', Grow φ H φ' H' → FrR (k.w PP) φ' H' fr σ → Sim (k.w PP) φ' st' H' → Goes (k.w PP) E φ' H' (f b st') kk → Q b H') : tP k E m σ H Q :=
  ⟨PP, φ, fr, st, hf, hs, h.bind.imp fun b φ' st' H' g s z => q b φ' st' H' g (hf.stay g) s z⟩

variable {a b c : Expr} {ma mb mc : Sh D} {pos : Pos}
theorem e_bin {op : Operator} {g : Sto → D → D → Re D} (ho : OpR X (binaryOp op) (rO k E g)) (ha : PE X a (tE k E ma)) (hb : PE X b (tE k E mb)) : PE X (.BinOp a op b pos) (tE k E (op2S g ma mb)) := e_op2 (fun _ _ h1 h2 => pe_op ho h1 h2) ha hb
theorem e_un {op : UnaryOp} {g : Sto → D → Re D} (ho : UnR X (unaryOp op) (rU1 k E g)) (ha : PE X a (tE k E ma)) : PE X (.UnaryOp op a pos) (tE k E (op1S g ma)) := e_op1 (fun _ h1 => pe_un ho h1) ha
theorem e_cmp {op : CmpOp} {g : Sto → D → D → Re D} (ho : OpR X (compareOp op) (rO k E g)) (ha : PE X a (tE k E ma)) (hb : PE X b (tE k E mb)) (hm : behindInMarks op b = false := by first | exact nomark _ | rfl | with_unfolding_all rfl) : PE X (.Compare a [op] [b] pos) (tE k E (op2S g ma mb)) := e_op2 (fun _ _ h1 h2 => pe_cmpR ho h1 h2 hm) ha hb
theorem t_cmp {op : CmpOp} {g : Sto → D → D → Re D} (ho : OpR X (compareOp op) (rO k E g)) (ha : PE X a (tE k E ma)) (hb : PE X b (tE k E mb)) (hm : behindInMarks op b = false := by first | exact nomark _ | rfl | with_unfolding_all rfl) : PT X (.Compare a [op] [b] pos) (tT k E (truS toB (op2S g ma mb))) :=
  pt_weak (pt_cmpR ho ha hb hm) fun σ H Q ⟨PP, φ, fr, st, hf, hs, w⟩ => by
    have w' : Goes (k.w PP) E φ H ((ma fr st).bind fun x st1 => ((mb fr st1).bind fun y st2 => (g st2 x y).bind fun z st3 => toB st3 z)) (fun b _ _ H' => Q b H') := by
      have e : truS toB (op2S g ma mb) fr st = ((ma fr st).bind fun x st1 => ((mb fr st1).bind fun y st2 => (g st2 x y).bind fun z st3 => toB st3 z)) := by
        unfold truS op2S
        cases ma fr st with
        | ok x st1 =>
          dsimp only [Re.bind]
          cases mb fr st1 with
          | ok y st2 => rfl
          | exc _ _ _ => rfl
          | bad => rfl
        | exc _ _ _ => rfl
        | bad => rfl
      have w0 : Goes (k.w PP) E φ H (truS toB (op2S g ma mb) fr st) (fun b _ _ H' => Q b H') := w
      rw [e] at w0
      exact w0
    exact seqD hf hs w' fun x φ1 st1 H1 v1 _ hf1 hs1 r1 w1 => seqD hf1 hs1 w1 fun y φ2 st2 H2 v2 g2 _ hs2 r2 w2 => ⟨PP, φ2, st2, x, y, hs2, r1.stay g2, r2, w2.bind.imp fun d φ3 st3 H3 g3 s3 z v r => by
      cases d with
      | bl b => rw [r.bl]; exact ⟨b, rfl, z.ok0 s3⟩
      | _ => exact z.elim⟩
theorem chain_go {g1 g2 : Sto → D → D → Re D} {Q : VK} {PP : Addr → Prop} {φ : List Addr} {fr : Fr} {st : Sto} (hf : FrR (k.w PP) φ H fr σ) (hs : Sim (k.w PP) φ st H) (w : WD (k.w PP) E φ H (chainS g1 g2 ma mb mc fr st) Q) : tChain (rO k E g1) (rO k E g2) (tE k E ma) (tE k E mb) (tE k E mc) σ H Q :=
  seqD hf hs w fun x φ1 st1 H1 v1 _ hf1 hs1 r1 w1 => seqD hf1 hs1 w1 fun y φ2 st2 H2 v2 gg2 hf2 hs2 r2 w2 => ⟨PP, φ2, st2, x, y, hs2, r1.stay gg2, r2, w2.bind.imp fun d φ3 st3 H3 g3 s3 z v r => by
    cases d with
    | bl b =>
      rw [r.bl]
      refine ⟨b, rfl, ?_⟩
      cases b with
      | true =>
        rw [if_pos rfl]
        exact seqD (hf2.stay g3) s3 z fun d4 φ4 st4 H4 v4 gg4 _ hs4 r4 w4 => ⟨PP, φ4, st4, y, d4, hs4, (r2.stay g3).stay gg4, r4, w4⟩
      | false =>
        rw [if_neg Bool.false_ne_true]
        exact z.ok0 s3 _ .mkBl
    | _ => exact z.elim⟩
theorem e_chain {op op' : CmpOp} {g1 g2 : Sto → D → D → Re D} (ho : OpR X (compareOp op) (rO k E g1)) (ho' : OpR X (compareOp op') (rO k E g2)) (ha : PE X a (tE k E ma)) (hb : PE X b (tE k E mb)) (hc : PE X c (tE k E mc))
    (hm : lastMarks [op, op'] [b, c] = false := by with_unfolding_all rfl) : PE X (.Compare a [op, op'] [b, c] pos) (tE k E (chainS g1 g2 ma mb mc)) :=
  pe_weak (pe_chain ho ho' ha hb hc hm) fun σ H Q ⟨PP, φ, fr, st, hf, hs, w⟩ => chain_go hf hs w
theorem e_if {t : Sh Bool} (ht : PT X c (tT k E t)) (ha : PE X a (tE k E ma)) (hb : PE X b (tE k E mb)) : PE X (.IfExp c a b pos) (tE k E (ifS t ma mb)) :=
  pe_weak (pe_ifExp ht ha hb) fun σ H Q ⟨PP, φ, fr, st, hf, hs, w⟩ => seqB hf hs w fun x φ1 st1 H1 _ hf1 hs1 w1 => by
    cases x with
    | true => exact iteT ⟨PP, φ1, fr, st1, hf1, hs1, w1⟩
    | false => exact iteF ⟨PP, φ1, fr, st1, hf1, hs1, w1⟩
theorem e_one {op} (h : PE X a (tE k E ma)) : PE X (.BoolOp op [a] pos) (tE k E ma) := pe_one h
theorem e_and {rest : List Expr} (ha : PE X a (tE k E ma)) (hb : PE X (.BoolOp .And (b :: rest) pos) (tE k E mb)) : PE X (.BoolOp .And (a :: b :: rest) pos) (tE k E (andV ma mb)) :=
  pe_weak (pe_and ha hb) fun σ H Q ⟨PP, φ, fr, st, hf, hs, w⟩ => seqD hf hs w fun x φ1 st1 H1 v1 _ hf1 hs1 r1 w1 => by
    cases x with
    | bl x =>
      rw [r1.bl]
      refine ⟨x, rfl, ?_⟩
      cases x with
      | true => exact iteT ⟨PP, φ1, fr, st1, hf1, hs1, w1⟩
      | false => exact iteF (w1.ok0 hs1 _ .mkBl)
    | _ => exact w1.elim
theorem e_or {rest : List Expr} (ha : PE X a (tE k E ma)) (hb : PE X (.BoolOp .Or (b :: rest) pos) (tE k E mb)) : PE X (.BoolOp .Or (a :: b :: rest) pos) (tE k E (orV ma mb)) :=
  pe_weak (pe_or ha hb) fun σ H Q ⟨PP, φ, fr, st, hf, hs, w⟩ => seqD hf hs w fun x φ1 st1 H1 v1 _ hf1 hs1 r1 w1 => by
    cases x with
    | bl x =>
      rw [r1.bl]
      refine ⟨x, rfl, ?_⟩
      cases x with
      | true => exact iteT (w1.ok0 hs1 _ .mkBl)
      | false => exact iteF ⟨PP, φ1, fr, st1, hf1, hs1, w1⟩
    | _ => exact w1.elim

/-! displays -/
variable {es : List Expr} {m : Sh (List D)}
theorem e_tup {x1} (h : PA X es (tL k E m)) : PE X (.Tuple es x1 pos) (tE k E (tupS m)) :=
  pe_weak (pe_tup h) fun σ H Q ⟨PP, φ, fr, st, hf, hs, w⟩ => seqL hf hs w fun xs φ1 st1 H1 vs _ _ hs1 r1 w1 => by
    by_cases hl : xs.length ≤ LIM
    · rw [if_pos hl] at w1
      exact ⟨by rw [← r1.length]; exact lim_line hl, fun p hp => newT w1 hs1 r1 hp⟩
    · rw [if_neg hl] at w1; exact w1.elim
theorem e_lst (h : PA X es (tL k E m)) : PE X (.List es pos) (tE k E (lstS m)) :=
  pe_weak (pe_lst h) fun σ H Q ⟨PP, φ, fr, st, hf, hs, w⟩ => seqL hf hs w fun xs φ1 st1 H1 vs _ _ hs1 r1 w1 => by
    by_cases hl : xs.length ≤ LIM
    · rw [if_pos hl] at w1
      exact ⟨by rw [← r1.length]; exact lim_line hl, fun p hp => newL w1 hs1 r1 hp⟩
    · rw [if_neg hl] at w1; exact w1.elim
theorem e_own (h : PA X es (tL k E m)) : PE X (.List es pos) (tE k E (ownS m)) :=
  pe_weak (pe_lst h) fun σ H Q ⟨PP, φ, fr, st, hf, hs, w⟩ => seqL hf hs w fun xs φ1 st1 H1 vs _ _ hs1 r1 w1 => by
    by_cases hl : xs.length ≤ LIM
    · rw [if_pos hl] at w1
      exact ⟨by rw [← r1.length]; exact lim_line hl, fun p hp => newR w1 hs1 r1 hp⟩
    · rw [if_neg hl] at w1; exact w1.elim
theorem l_star {e : Expr} {p : Pos} {mb : Sh (List D)} (hK : X.K = k.K) (ha : PE X e (tE k E ma)) (hb : PA X es (tL k E mb)) (hs : starEach (.Starred e p :: es) X.env = (true, eval e X.env) :: starEach es X.env := by rfl) : PA X (.Starred e p :: es) (tL k E (starS ma mb)) :=
  pa_weak (StX.pa_star ha hb hs) fun σ H Q ⟨PP, φ, fr, st, hf, hs, w⟩ => seqD hf hs w fun x φ1 st1 H1 v1 _ hf1 hs1 r1 w1 => by
    cases e1 : asQ st1 x with
    | none => rw [e1] at w1; exact w1.elim
    | some xs =>
      rw [e1] at w1
      obtain ⟨a, us, rfl, q1, q2⟩ := asQ_ok hs1 e1 r1
      exact ⟨a, us, rfl, (kLT hK q1).symm, seqL hf1 hs1 w1 fun ys φ2 st2 H2 ws g2 _ hs2 r2 w2 => w2.ok0 hs2 _ ((q2.stay g2).append r2)⟩

/-! places and slices -/
theorem atI_rep {c : Ctx} {φ : List Addr} {ds : List D} {xs : List V} {i : Int} {d : D} (r : Reps c φ H ds xs) (e : atI ds i = some d) : ∃ v, atI xs i = some v ∧ Rep c φ H d v := by
  unfold atI at e ⊢
  rw [← r.length]
  cases q : ixN ds.length i with
  | none => rw [q] at e; cases e
  | some j =>
    rw [q] at e
    exact r.get e
theorem e_ix (hK : X.K = k.K) (ha : PE X a (tE k E ma)) (hb : PE X b (tE k E mb)) (hs : PlainIx b := by exact fun _ _ => rfl) : PE X (.Subscript a b pos) (tE k E (op2S oIx ma mb)) :=
  pe_weak (pe_ix ix_seq ha hb hs) fun σ H Q ⟨PP, φ, fr, st, hf, hs, w⟩ => seqD hf hs w fun x φ1 st1 H1 v1 _ hf1 hs1 r1 w1 => seqD hf1 hs1 w1 fun y φ2 st2 H2 v2 g2 _ hs2 r2 w2 => by
    unfold oIx at w2
    cases y with
    | int i =>
      rw [r2.int]
      have gen : WD (k.w PP) E φ2 H2 (match asQ st2 x with
        | some ds => (match atI ds i with
          | some d => .ok d st2
          | none => .bad)
        | none => .bad) Q → rIx X.K v1 (.int i) H2 Q := fun w2 => by
        cases e1 : asQ st2 x with
        | none => rw [e1] at w2; exact w2.elim
        | some ds =>
          rw [e1] at w2
          dsimp only at w2
          cases e2 : atI ds i with
          | none => rw [e2] at w2; exact w2.elim
          | some d =>
            rw [e2] at w2
            obtain ⟨a, us, rfl, q1, q2⟩ := asQ_ok hs2 e1 (r1.stay g2)
            obtain ⟨v, ev, rv⟩ := atI_rep q2 e2
            rcases kLT hK q1 with q | q
            · exact .inl ⟨a, us, i, v, rfl, rfl, q, ev, w2.ok0 hs2 v rv⟩
            · exact .inr (.inl ⟨a, us, i, v, rfl, rfl, q, ev, w2.ok0 hs2 v rv⟩)
      cases x with
      | str z =>
        rw [r1.str]
        dsimp only at w2
        by_cases hl : z.length ≤ LIM
        · rw [if_pos hl] at w2
          cases e2 : atI z.cps.toList i with
          | none => rw [e2] at w2; exact w2.elim
          | some d =>
            rw [e2] at w2
            exact .inr (.inr ⟨z, i, d, rfl, rfl, lim_line hl, e2, w2.ok0 hs2 _ .mkStr⟩)
        · rw [if_neg hl] at w2; exact w2.elim
      | _ => exact gen w2
    | _ => exact w2.elim
theorem cut_rep {c : Ctx} {φ : List Addr} {ds : List D} {xs : List V} (lo hi : Option Int) (r : Reps c φ H ds xs) : Reps c φ H (cutD ds lo hi) (cutV xs lo hi) := by
  unfold cutD cutV
  rw [← r.length]
  exact (r.drop _).take _
theorem slr : SlR X (fun x lo hi H Q => rSlL X.K x lo hi H Q ∨ rSlA X.K x lo hi H Q ∨ rSlS x lo hi H Q) := sl_list.or (sl_tupA.or sl_str)
theorem cut_whole {ds : List D} {lo hi : Option Int} (h : HT.sIx ds.length 0 lo = 0 ∧ HT.sIx ds.length ds.length hi = ds.length) : cutD ds lo hi = ds := by
  unfold cutD
  rw [h.1, h.2]
  simp
theorem cut_map {α β : Type} (f : α → β) (xs : List α) (lo hi : Option Int) : cutD (xs.map f) lo hi = (cutD xs lo hi).map f := by
  unfold cutD
  simp [List.map_drop, List.map_take]
theorem e_sl {lo hi : Option Expr} {ml mh : Sh (Option Int)} {p2 : Pos} (hK : X.K = k.K) (ha : PE X a (tE k E ma)) (hl : PO X lo (tP k E ml)) (hh : PO X hi (tP k E mh)) : PE X (.Subscript a (.Slice lo hi none p2) pos) (tE k E (slS ma ml mh)) :=
  pe_weak (pe_slice slr ha hl hh) fun σ H Q ⟨PP, φ, fr, st, hf, hs, w⟩ => seqD hf hs w fun x φ1 st1 H1 v1 _ hf1 hs1 r1 w1 => seqP hf1 hs1 w1 fun l φ2 st2 H2 g2 hf2 hs2 w2 => seqP hf2 hs2 w2 fun h φ3 st3 H3 g3 hf3 hs3 w3 => by
    show rSlL X.K v1 l h H3 Q ∨ rSlA X.K v1 l h H3 Q ∨ rSlS v1 l h H3 Q
    have r3 := (r1.stay g2).stay g3
    have listy : ∀ ds, asL st3 x = some ds → WD (k.w PP) E φ3 H3 (.ok (.lst (cutD ds l h)) st3) Q → rSlL X.K v1 l h H3 Q := fun ds e w => by
      obtain ⟨a, us, rfl, q1, q2⟩ := asL_ok hs3 e r3
      exact ⟨a, us, rfl, .of q1, fun p hp => newL w hs3 (cut_rep l h q2) hp⟩
    unfold oSl at w3
    cases x with
    | str z =>
      rw [r1.str]
      dsimp only at w3
      by_cases hl : z.length ≤ LIM
      · rw [if_pos hl] at w3
        exact .inr (.inr ⟨z, rfl, lim_line hl, w3.ok0 hs3 _ .mkStr⟩)
      · rw [if_neg hl] at w3; exact w3.elim
    | tup ds =>
      have r3' := r3
      rw [Rep] at r3
      obtain ⟨a, us, rfl, h1, q2⟩ := r3
      refine .inr (.inl ⟨a, us, rfl, kT hK h1.sq, fun hw => ?_, fun _ p hp => newT w3 hs3 (cut_rep l h q2) hp⟩)
      rw [← q2.length] at hw
      have w4 := w3.ok0 hs3
      rw [cut_whole hw] at w4
      exact w4 _ r3'
    | scr ns =>
      rw [Rep] at r3
      obtain ⟨a, rfl, h1⟩ := r3
      refine .inl ⟨a, _, rfl, kL hK h1.sq, fun p hp => ?_⟩
      have q := cut_rep l h (reps_ints (c := k.w PP) (φ := φ3) (H := H3) (ns := ns))
      rw [cut_map] at q
      exact newL w3 hs3 q hp
    | lst ds => exact .inl (listy ds rfl w3)
    | ref i =>
      dsimp only at w3
      cases e : asL st3 (.ref i) with
      | none => rw [e] at w3; exact w3.elim
      | some ds => rw [e] at w3; exact .inl (listy ds e w3)
    | _ => exact w3.elim
end

/-! ### built-in functions -/
/-- of one argument, of two -/
def c1 (g : Sto → D → Re D) (st : Sto) (ds : List D) : Re D := match ds with
  | [d] => g st d
  | _ => .bad
def c12 (g : Sto → D → Re D) (g2 : Sto → D → D → Re D) (st : Sto) (ds : List D) : Re D := match ds with
  | [d] => g st d
  | [d, e] => g2 st d e
  | _ => .bad
def c2 (g2 : Sto → D → D → Re D) (st : Sto) (ds : List D) : Re D := match ds with
  | [d, e] => g2 st d e
  | _ => .bad
def lenQ (st : Sto) (d : D) : Re D := match asQ st d with
  | some ds => .ok (.int ds.length) st
  | none => .bad
def lenD (st : Sto) (d : D) : Re D := match d with
  | .str z => if z.length ≤ LIM then .ok (.int z.length) st else .bad
  | d => lenQ st d
/-- a value's type's name -/
def tyOf : D → Option String
  | .non => some "NoneType"
  | .bl _ => some "bool"
  | .int _ => some "int"
  | .str _ => some "str"
  | .tup _ => some "tuple"
  | .lst _ => some "list"
  | .ref _ => some "list"
  | _ => none
def tyNames : List String := ["NoneType", "bool", "int", "str", "tuple", "list"]
def isiB (a b : String) : Option Bool := if a ∈ tyNames ∧ b ∈ tyNames.tail then some (decide (a = b) || (decide (a = "bool") && decide (b = "int"))) else none
def isiD (st : Sto) (d e : D) : Re D := match e with
  | .ty n => (match (tyOf d).bind fun t => isiB t n with
    | some b => .ok (.bl b) st
    | none => .bad)
  | _ => .bad
def tupL (st : Sto) (d : D) : Re D := match asL st d with
  | some ds => .ok (.tup ds) st
  | none => .bad
def tupD (st : Sto) (d : D) : Re D := match d with
  | .tup ds => .ok (.tup ds) st
  | d => tupL st d
def lstQ (st : Sto) (d : D) : Re D := match asQ st d with
  | some ds => .ok (.lst ds) st
  | none => .bad
def signsD (z : Str) : List D := z.cps.toList.map fun c => .str ⟨#[c]⟩
def lstD (st : Sto) (d : D) : Re D := match d with
  | .str z => if z.length ≤ LIM then .ok (.lst (signsD z)) st else .bad
  | d => lstQ st d
def ints? : List D → Option (List Int)
  | [] => some []
  | .int i :: ds => (ints? ds).map (i :: ·)
  | _ :: _ => none
def bls? : List D → Option (List Bool)
  | [] => some []
  | .bl i :: ds => (bls? ds).map (i :: ·)
  | _ :: _ => none
def strs? : List D → Option (List Str)
  | [] => some []
  | .str i :: ds => (strs? ds).map (i :: ·)
  | _ :: _ => none
def intsOf (st : Sto) (d : D) : Option (List Int) := (asL st d).bind ints?
def blsOf (st : Sto) (d : D) : Option (List Bool) := (asL st d).bind bls?
def strsOf (st : Sto) (d : D) : Option (List Str) := (asL st d).bind strs?
def sumD (st : Sto) (d : D) : Re D := match intsOf st d with
  | some ns => .ok (.int ns.sum) st
  | none => .bad
def minL : List Int → Int
  | [] => 0
  | [a] => a
  | a :: b :: r => if a ≤ minL (b :: r) then a else minL (b :: r)
def maxL : List Int → Int
  | [] => 0
  | [a] => a
  | a :: b :: r => if maxL (b :: r) ≤ a then a else maxL (b :: r)
def minD (st : Sto) (d : D) : Re D := match intsOf st d with
  | some (n :: ns) => .ok (.int (minL (n :: ns))) st
  | _ => .bad
def maxD (st : Sto) (d : D) : Re D := match intsOf st d with
  | some (n :: ns) => .ok (.int (maxL (n :: ns))) st
  | _ => .bad
def min2D (st : Sto) : D → D → Re D
  | .int i, .int j => .ok (.int (if j < i then j else i)) st
  | _, _ => .bad
def max2D (st : Sto) : D → D → Re D
  | .int i, .int j => .ok (.int (if j > i then j else i)) st
  | _, _ => .bad
def allD (st : Sto) (d : D) : Re D := match blsOf st d with
  | some bs => .ok (.bl (bs.all id)) st
  | none => .bad
def anyD (st : Sto) (d : D) : Re D := match blsOf st d with
  | some bs => .ok (.bl (bs.any id)) st
  | none => .bad
def absD (st : Sto) : D → Re D
  | .int i => .ok (.int (if i < 0 then -i else i)) st
  | _ => .bad
def intD (st : Sto) : D → Re D
  | .int i => .ok (.int i) st
  | _ => .bad
section
variable {c : Ctx} {k : Kc} {E : XK} {X : Cx}
theorem Reps.one {φ : List Addr} {H : Hp} {d : D} {vs : List V} (r : Reps c φ H [d] vs) : ∃ v, vs = [v] ∧ Rep c φ H d v := by
  obtain ⟨v, ws, rfl, h1, h2⟩ := r.inv_cons
  rw [h2.inv_nil]
  exact ⟨v, rfl, h1⟩
theorem Reps.two {φ : List Addr} {H : Hp} {d e : D} {vs : List V} (r : Reps c φ H [d, e] vs) : ∃ v u, vs = [v, u] ∧ Rep c φ H d v ∧ Rep c φ H e u := by
  obtain ⟨v, ws, rfl, h1, h2⟩ := r.inv_cons
  obtain ⟨u, rfl, h3⟩ := h2.one
  exact ⟨v, u, rfl, h1, h3⟩
theorem callR_c1 {f : Value} {r : List V → Hp → VK → Prop} {g : Sto → D → Re D} (hr : CallR X f r)
    (h : ∀ PP φ st H d v Q, Sim (k.w PP) φ st H → Rep (k.w PP) φ H d v → WD (k.w PP) E φ H (g st d) Q → r [v] H Q) : CallR X f (rC k E (c1 g)) := by
  intro pins s σ H vs us Q I rv ⟨PP, φ, st, ds, hs, rs, w⟩
  match ds, rs, w with
  | [d], rs, w =>
    obtain ⟨v, rfl, r1⟩ := rs.one
    exact hr pins s σ H _ us Q I rv (h PP φ st H d v Q hs r1 w)
  | [], _, w => exact False.elim w
  | _ :: _ :: _, _, w => exact False.elim w
theorem callR_c2 {f : Value} {r : List V → Hp → VK → Prop} {g : Sto → D → D → Re D} (hr : CallR X f r)
    (h : ∀ PP φ st H d e v u Q, Sim (k.w PP) φ st H → Rep (k.w PP) φ H d v → Rep (k.w PP) φ H e u → WD (k.w PP) E φ H (g st d e) Q → r [v, u] H Q) : CallR X f (rC k E (c2 g)) := by
  intro pins s σ H vs us Q I rv ⟨PP, φ, st, ds, hs, rs, w⟩
  match ds, rs, w with
  | [d, e], rs, w =>
    obtain ⟨v, u, rfl, r1, r2⟩ := rs.two
    exact hr pins s σ H _ us Q I rv (h PP φ st H d e v u Q hs r1 r2 w)
  | [], _, w => exact False.elim w
  | [_], _, w => exact False.elim w
  | _ :: _ :: _ :: _, _, w => exact False.elim w
theorem callR_c12 {f : Value} {r r2 : List V → Hp → VK → Prop} {g : Sto → D → Re D} {g2 : Sto → D → D → Re D} (hr : CallR X f r) (hr2 : CallR X f r2)
    (h : ∀ PP φ st H d v Q, Sim (k.w PP) φ st H → Rep (k.w PP) φ H d v → WD (k.w PP) E φ H (g st d) Q → r [v] H Q)
    (h2 : ∀ PP φ st H d e v u Q, Sim (k.w PP) φ st H → Rep (k.w PP) φ H d v → Rep (k.w PP) φ H e u → WD (k.w PP) E φ H (g2 st d e) Q → r2 [v, u] H Q) : CallR X f (rC k E (c12 g g2)) := by
  intro pins s σ H vs us Q I rv ⟨PP, φ, st, ds, hs, rs, w⟩
  match ds, rs, w with
  | [d], rs, w =>
    obtain ⟨v, rfl, r1⟩ := rs.one
    exact hr pins s σ H _ us Q I rv (h PP φ st H d v Q hs r1 w)
  | [d, e], rs, w =>
    obtain ⟨v, u, rfl, r1, r2⟩ := rs.two
    exact hr2 pins s σ H _ us Q I rv (h2 PP φ st H d e v u Q hs r1 r2 w)
  | [], _, w => exact False.elim w
  | _ :: _ :: _ :: _, _, w => exact False.elim w
theorem ints_ok {φ : List Addr} {H : Hp} : ∀ {ds : List D} {vs : List V} {ns : List Int}, ints? ds = some ns → Reps c φ H ds vs → vs = ns.map V.int
  | [], _, _, e, r => by cases e; rw [r.inv_nil]; rfl
  | d :: ds, _, _, e, r => by
    obtain ⟨v, ws, rfl, h1, h2⟩ := r.inv_cons
    cases d with
    | int i =>
      rw [ints?] at e
      obtain ⟨ns, e1, rfl⟩ := Option.map_eq_some_iff.mp e
      rw [h1.int, ints_ok e1 h2]; rfl
    | _ => simp [ints?] at e
theorem bls_ok {φ : List Addr} {H : Hp} : ∀ {ds : List D} {vs : List V} {ns : List Bool}, bls? ds = some ns → Reps c φ H ds vs → vs = ns.map V.bl
  | [], _, _, e, r => by cases e; rw [r.inv_nil]; rfl
  | d :: ds, _, _, e, r => by
    obtain ⟨v, ws, rfl, h1, h2⟩ := r.inv_cons
    cases d with
    | bl i =>
      rw [bls?] at e
      obtain ⟨ns, e1, rfl⟩ := Option.map_eq_some_iff.mp e
      rw [h1.bl, bls_ok e1 h2]; rfl
    | _ => simp [bls?] at e
theorem strs_ok {φ : List Addr} {H : Hp} : ∀ {ds : List D} {vs : List V} {ns : List Str}, strs? ds = some ns → Reps c φ H ds vs → vs = ns.map V.str
  | [], _, _, e, r => by cases e; rw [r.inv_nil]; rfl
  | d :: ds, _, _, e, r => by
    obtain ⟨v, ws, rfl, h1, h2⟩ := r.inv_cons
    cases d with
    | str i =>
      rw [strs?] at e
      obtain ⟨ns, e1, rfl⟩ := Option.map_eq_some_iff.mp e
      rw [h1.str, strs_ok e1 h2]; rfl
    | _ => simp [strs?] at e
theorem ints_at {φ : List Addr} {H : Hp} {st : Sto} {d : D} {v : V} {ns : List Int} (hs : Sim c φ st H) (e : intsOf st d = some ns) (r : Rep c φ H d v) : ∃ a, v = .ref a ∧ H a = some (.lst (ns.map V.int)) := by
  obtain ⟨ds, e1, e2⟩ := Option.bind_eq_some_iff.mp e
  obtain ⟨a, xs, rfl, h, q⟩ := asL_ok hs e1 r
  rw [ints_ok e2 q] at h
  exact ⟨a, rfl, h⟩
theorem bls_at {φ : List Addr} {H : Hp} {st : Sto} {d : D} {v : V} {ns : List Bool} (hs : Sim c φ st H) (e : blsOf st d = some ns) (r : Rep c φ H d v) : ∃ a, v = .ref a ∧ H a = some (.lst (ns.map V.bl)) := by
  obtain ⟨ds, e1, e2⟩ := Option.bind_eq_some_iff.mp e
  obtain ⟨a, xs, rfl, h, q⟩ := asL_ok hs e1 r
  rw [bls_ok e2 q] at h
  exact ⟨a, rfl, h⟩
theorem strs_at {φ : List Addr} {H : Hp} {st : Sto} {d : D} {v : V} {ns : List Str} (hs : Sim c φ st H) (e : strsOf st d = some ns) (r : Rep c φ H d v) : ∃ a, v = .ref a ∧ H a = some (.lst (ns.map V.str)) := by
  obtain ⟨ds, e1, e2⟩ := Option.bind_eq_some_iff.mp e
  obtain ⟨a, xs, rfl, h, q⟩ := asL_ok hs e1 r
  rw [strs_ok e2 q] at h
  exact ⟨a, rfl, h⟩
theorem minL_spec : ∀ (n : Int) (ns : List Int), minL (n :: ns) ∈ n :: ns ∧ ∀ y ∈ n :: ns, minL (n :: ns) ≤ y
  | n, [] => by simp [minL]
  | n, m :: ns => by
    obtain ⟨h1, h2⟩ := minL_spec m ns
    unfold minL
    by_cases h : n ≤ minL (m :: ns)
    · rw [if_pos h]
      refine ⟨List.mem_cons_self, fun y hy => ?_⟩
      rcases List.mem_cons.mp hy with rfl | hy
      · exact Int.le_refl _
      · exact Int.le_trans h (h2 y hy)
    · rw [if_neg h]
      refine ⟨List.mem_cons_of_mem _ h1, fun y hy => ?_⟩
      rcases List.mem_cons.mp hy with rfl | hy
      · omega
      · exact h2 y hy
theorem maxL_spec : ∀ (n : Int) (ns : List Int), maxL (n :: ns) ∈ n :: ns ∧ ∀ y ∈ n :: ns, y ≤ maxL (n :: ns)
  | n, [] => by simp [maxL]
  | n, m :: ns => by
    obtain ⟨h1, h2⟩ := maxL_spec m ns
    unfold maxL
    by_cases h : maxL (m :: ns) ≤ n
    · rw [if_pos h]
      refine ⟨List.mem_cons_self, fun y hy => ?_⟩
      rcases List.mem_cons.mp hy with rfl | hy
      · exact Int.le_refl _
      · exact Int.le_trans (h2 y hy) h
    · rw [if_neg h]
      refine ⟨List.mem_cons_of_mem _ h1, fun y hy => ?_⟩
      rcases List.mem_cons.mp hy with rfl | hy
      · omega
      · exact h2 y hy
theorem f_sum (hc : X.calm = true) : CallR X (.builtin "sum") (rC k E (c1 sumD)) := callR_c1 (cr_sum hc) fun PP φ st H d v Q hs r w => by
  unfold sumD at w
  cases e : intsOf st d with
  | none => rw [e] at w; exact False.elim w
  | some ns =>
    rw [e] at w
    obtain ⟨a, rfl, h⟩ := ints_at hs e r
    exact ⟨a, ns, rfl, .of h, w.ok0 hs _ .mkInt⟩
theorem f_all (hc : X.calm = true) : CallR X (.builtin "all") (rC k E (c1 allD)) := callR_c1 (cr_all hc) fun PP φ st H d v Q hs r w => by
  unfold allD at w
  cases e : blsOf st d with
  | none => rw [e] at w; exact False.elim w
  | some ns =>
    rw [e] at w
    obtain ⟨a, rfl, h⟩ := bls_at hs e r
    exact ⟨a, ns, rfl, .of h, w.ok0 hs _ .mkBl⟩
theorem f_any (hc : X.calm = true) : CallR X (.builtin "any") (rC k E (c1 anyD)) := callR_c1 (cr_any hc) fun PP φ st H d v Q hs r w => by
  unfold anyD at w
  cases e : blsOf st d with
  | none => rw [e] at w; exact False.elim w
  | some ns =>
    rw [e] at w
    obtain ⟨a, rfl, h⟩ := bls_at hs e r
    exact ⟨a, ns, rfl, .of h, w.ok0 hs _ .mkBl⟩
theorem f_min (hc : X.calm = true) : CallR X (.builtin "min") (rC k E (c12 minD min2D)) := callR_c12 (cr_min hc) (call_min2 hc) (fun PP φ st H d v Q hs r w => by
  unfold minD at w
  cases e : intsOf st d with
  | none => rw [e] at w; exact False.elim w
  | some ns =>
    rw [e] at w
    cases ns with
    | nil => exact False.elim w
    | cons n ns =>
      obtain ⟨a, rfl, h⟩ := ints_at hs e r
      refine ⟨a, n :: ns, rfl, .of h, by simp, fun m hm hle => ?_⟩
      obtain ⟨h1, h2⟩ := minL_spec n ns
      have em : m = minL (n :: ns) := Int.le_antisymm (hle _ h1) (h2 _ hm)
      rw [em]
      exact w.ok0 hs _ .mkInt) fun PP φ st H d e v u Q hs r1 r2 w => by
  cases d with
  | int i =>
    cases e with
    | int j => exact ⟨i, j, by rw [r1.int, r2.int], w.ok0 hs _ .mkInt⟩
    | _ => exact False.elim w
  | _ => cases e <;> exact False.elim w
theorem f_max (hc : X.calm = true) : CallR X (.builtin "max") (rC k E (c12 maxD max2D)) := callR_c12 (cr_max hc) (call_max2 hc) (fun PP φ st H d v Q hs r w => by
  unfold maxD at w
  cases e : intsOf st d with
  | none => rw [e] at w; exact False.elim w
  | some ns =>
    rw [e] at w
    cases ns with
    | nil => exact False.elim w
    | cons n ns =>
      obtain ⟨a, rfl, h⟩ := ints_at hs e r
      refine ⟨a, n :: ns, rfl, .of h, by simp, fun m hm hle => ?_⟩
      obtain ⟨h1, h2⟩ := maxL_spec n ns
      have em : m = maxL (n :: ns) := Int.le_antisymm (h2 _ hm) (hle _ h1)
      rw [em]
      exact w.ok0 hs _ .mkInt) fun PP φ st H d e v u Q hs r1 r2 w => by
  cases d with
  | int i =>
    cases e with
    | int j => exact ⟨i, j, by rw [r1.int, r2.int], w.ok0 hs _ .mkInt⟩
    | _ => exact False.elim w
  | _ => cases e <;> exact False.elim w
theorem f_abs : CallR X (.builtin "abs") (rC k E (c1 absD)) := callR_c1 call_abs fun PP φ st H d v Q hs r w => by
  cases d with
  | int i => exact ⟨i, by rw [r.int], w.ok0 hs _ .mkInt⟩
  | _ => exact False.elim w
theorem f_int : CallR X (.type "int") (rC k E (c1 intD)) := callR_c1 call_int1 fun PP φ st H d v Q hs r w => by
  cases d with
  | int i => exact .inl ⟨i, by rw [r.int], w.ok0 hs _ .mkInt⟩
  | _ => exact False.elim w
theorem f_len (hK : X.K = k.K) : CallR X (.builtin "len") (rC k E (c1 lenD)) := callR_c1 call_len fun PP φ st H d v Q hs r w => by
  have gen : WD (k.w PP) E φ H (lenQ st d) Q → ∃ x n, [v] = [x] ∧ LenV X.K x H n ∧ Q (.int n) H := fun w => by
    unfold lenQ at w
    cases e : asQ st d with
    | none => rw [e] at w; exact False.elim w
    | some xs =>
      rw [e] at w
      obtain ⟨a, ws, rfl, q1, q2⟩ := asQ_ok hs e r
      refine ⟨.ref a, ws.length, rfl, ?_, by rw [← q2.length]; exact w.ok0 hs _ .mkInt⟩
      rcases kLT hK q1 with q | q
      · exact .inl ⟨ws, q, rfl⟩
      · exact .inr ⟨ws, q, rfl⟩
  cases d with
  | str z =>
    unfold lenD at w
    dsimp only at w
    by_cases hl : z.length ≤ LIM
    · rw [if_pos hl] at w
      exact ⟨.str z, z.length, by rw [r.str], ⟨lim_line hl, rfl⟩, w.ok0 hs _ .mkInt⟩
    · rw [if_neg hl] at w; exact False.elim w
  | _ => exact gen w
theorem f_tuple (hK : X.K = k.K) : CallR X (.type "tuple") (rC k E (c1 tupD)) := callR_c1 call_tuple_of fun PP φ st H d v Q hs r w => by
  have gen : WD (k.w PP) E φ H (tupL st d) Q → ∃ p ys, [v] = [V.ref p] ∧ ((SqL X.K H p ys ∧ ∀ l, H l = none → Q (.ref l) (upd H l (.tup ys))) ∨ (SqT X.K H p ys ∧ Q (.ref p) H)) := fun w => by
    unfold tupL at w
    cases e : asL st d with
    | none => rw [e] at w; exact False.elim w
    | some xs =>
      rw [e] at w
      obtain ⟨a, ws, rfl, q1, q2⟩ := asL_ok hs e r
      exact ⟨a, ws, rfl, .inl ⟨.of q1, fun p hp => newT w hs q2 hp⟩⟩
  cases d with
  | tup ds =>
    have r' := r
    rw [Rep] at r
    obtain ⟨a, ws, rfl, h1, q2⟩ := r
    exact ⟨a, ws, rfl, .inr ⟨kT hK h1.sq, w.ok0 hs _ r'⟩⟩
  | _ => exact gen w
theorem call_list_text (hc : X.calm = true) : CallR X (.type "list") (fun xs H Q => ∃ z : Str, xs = [.str z] ∧ z.length ≤ sizeLine ∧ ∀ l, H l = none → Q (.ref l) (upd H l (.lst (z.cps.toList.map fun c => V.str ⟨#[c]⟩)))) := by
  intro pins s σ H xs us Q I r h
  obtain ⟨z, rfl, hz, q⟩ := h
  obtain ⟨u, rfl, t, rfl⟩ := vals1 r
  refine PySem.call_list_str (I.ok.hd hc) z t (hn := hz) fun h' tk acc' c' hk hS hacc => ?_
  have hv : Vals (z.cps.toList.map fun c => V.str ⟨#[c]⟩) acc'.toList := by
    have hl : acc'.toList.length = (z.cps.toList.map fun c => V.str ⟨#[c]⟩).length := by rw [Array.length_toList, hacc.1]; simp
    have key : ∀ (xs : List V) (us : List Value), us.length = xs.length → (∀ (i : Nat) (x : V) (u : Value), xs[i]? = some x → us[i]? = some u → RelV x u) → Vals xs us := by
      intro xs
      induction xs with
      | nil => intro us hl _; cases us with
        | nil => exact .nil
        | cons _ _ => simp at hl
      | cons x xs ih => intro us hl hr; cases us with
        | nil => simp at hl
        | cons u us => exact .cons (hr 0 x u rfl rfl) (ih us (by simpa using hl) fun i x' u' h1 h2 => hr (i + 1) x' u' (by simpa using h1) (by simpa using h2))
    refine key _ _ hl fun i x u h1 h2 => ?_
    rw [List.getElem?_map] at h1
    obtain ⟨cc, e1, rfl⟩ := Option.map_eq_some_iff.mp h1
    obtain ⟨c2, t2, e2, rfl⟩ := hacc.2 i u (by simpa using h2)
    have e3 : z.cps.toList[i]? = some c2 := by simpa using e2
    rw [e1] at e3
    cases e3
    exact ⟨t2, rfl⟩
  exact ⟨.ref s.heap.objs.size, _, I.laid (t' := tk) hk (Nat.le_refl _) (show ObjOk X.prog X.w _ h' _ (.lst _) from ⟨by simpa [Str.length] using hz, acc'.toList, c', hv, by simpa using hS⟩), rfl, q _ (I.hok.fresh (Nat.le_refl _))⟩
theorem reps_signs {φ : List Addr} {H : Hp} {z : Str} : Reps c φ H (signsD z) (z.cps.toList.map fun c => V.str ⟨#[c]⟩) := by
  unfold signsD
  induction z.cps.toList with
  | nil => exact .nil
  | cons n ns ih => exact .cons .mkStr ih
theorem f_list (hK : X.K = k.K) (hc : X.calm = true) : CallR X (.type "list") (rC k E (c1 lstD)) := callR_c1 ((call_list_text hc).or call_list_of) fun PP φ st H d v Q hs r w => by
  have gen : WD (k.w PP) E φ H (lstQ st d) Q → ∃ p ys, [v] = [V.ref p] ∧ (SqL X.K H p ys ∨ SqT X.K H p ys) ∧ ∀ l, H l = none → Q (.ref l) (upd H l (.lst ys)) := fun w => by
    unfold lstQ at w
    cases e : asQ st d with
    | none => rw [e] at w; exact False.elim w
    | some xs =>
      rw [e] at w
      obtain ⟨a, ws, rfl, q1, q2⟩ := asQ_ok hs e r
      exact ⟨a, ws, rfl, kLT hK q1, fun p hp => newL w hs q2 hp⟩
  cases d with
  | str z =>
    unfold lstD at w
    dsimp only at w
    by_cases hl : z.length ≤ LIM
    · rw [if_pos hl] at w
      exact .inl ⟨z, by rw [r.str], lim_line hl, fun p hp => newL w hs reps_signs hp⟩
    · rw [if_neg hl] at w; exact False.elim w
  | _ => exact .inr (gen w)
theorem tyOf_ok {φ : List Addr} {H : Hp} {PP : Addr → Prop} {st : Sto} {d : D} {v : V} {t : String} (hK : X.K = k.K) (hs : Sim (k.w PP) φ st H) (e : tyOf d = some t) (r : Rep (k.w PP) φ H d v) : TyX X.K H v (.type t) := by
  cases d with
  | non => cases e; rw [r.non]; exact .base .non
  | bl b => cases e; rw [r.bl]; exact .base (.bl b)
  | int b => cases e; rw [r.int]; exact .base (.int b)
  | str b => cases e; rw [r.str]; exact .base (.str b)
  | tup ds =>
    cases e
    rw [Rep] at r
    obtain ⟨a, xs, rfl, h1, _⟩ := r
    rcases kT hK h1.sq with (h | ⟨o, h⟩) | ⟨o, its, n, h, hc, _⟩
    · exact .base (.tup h)
    · exact .fTuple h
    · exact .kTuple h hc
  | lst ds =>
    cases e
    rw [Rep] at r
    obtain ⟨a, xs, rfl, h1, _⟩ := r
    exact .base (.lst h1.2.2)
  | ref i =>
    cases e
    rw [Rep] at r
    obtain ⟨a, h1, rfl⟩ := r
    have hl : i < st.length := by rw [← hs.len]; exact (List.getElem?_eq_some_iff.mp h1).1
    cases q : st[i]? with
    | none => rw [List.getElem?_eq_getElem hl] at q; cases q
    | some kk =>
      cases kk with
      | lst es =>
        obtain ⟨a', xs, h2, _, h3, _⟩ := hs.at q
        rw [h1] at h2; cases h2
        exact .base (.lst h3)
  | _ => simp [tyOf] at e
theorem isiB_ok {a b : String} {r : Bool} (h : isiB a b = some r) {K : PySem.W.Frag} : PySem.W.kitOne K (.type a) (.type b) = some r := by
  unfold isiB at h
  split at h
  · rename_i hm
    obtain ⟨h1, h2⟩ := hm
    cases h
    simp only [tyNames, List.tail_cons, List.mem_cons, List.not_mem_nil, or_false] at h1 h2
    rcases h1 with rfl | rfl | rfl | rfl | rfl | rfl <;> rcases h2 with rfl | rfl | rfl | rfl | rfl <;> exact kit_ty (by decide +kernel)
  · cases h
theorem f_isi (hK : X.K = k.K) : CallR X (.builtin "isinstance") (rC k E (c2 isiD)) := callR_c2 call_isi fun PP φ st H d e v u Q hs r1 r2 w => by
  unfold isiD at w
  cases e with
  | ty n =>
    dsimp only at w
    cases e2 : (tyOf d).bind fun t => isiB t n with
    | none => rw [e2] at w; exact False.elim w
    | some b =>
      rw [e2] at w
      obtain ⟨t, e3, e4⟩ := Option.bind_eq_some_iff.mp e2
      rw [r2.ty]
      exact ⟨v, .ty n, _, _, b, rfl, .ty n, tyOf_ok hK hs e3 r1, isiB_ok e4, w.ok0 hs _ .mkBl⟩
  | _ => exact False.elim w
end
end Pl
set_option Elab.async false
set_option linter.all false
set_option maxRecDepth 100000
set_option maxHeartbeats 2000000
namespace Pl
open PySem PySem.Spec PyProof.Rows L2
/-! ### statements -/
inductive SRe where
  | nx (fr : Fr) (st : Sto) | rt (d : D) (st : Sto) | bk (fr : Fr) (st : Sto) | ct (fr : Fr) (st : Sto)
  | exc (n : Str) (fs : List D) (st : Sto)
  | bad
abbrev Sm := Fr → Sto → SRe
def Re.toS {α : Type} (r : Re α) (f : α → Sto → SRe) : SRe := match r with
  | .ok a st => f a st
  | .exc n fs st => .exc n fs st
  | .bad => .bad
def SRe.seq (r : SRe) (f : Sm) : SRe := match r with
  | .nx fr st => f fr st
  | r => r
def GoesS (c : Ctx) (E : XK) (φ : List Addr) (H : Hp) (D : Ends) (r : SRe) : Prop := match r with
  | .nx fr st' => ∀ φ' H' σ', Grow φ H φ' H' → Sim c φ' st' H' → FrR c φ' H' fr σ' → D.nx σ' H'
  | .rt d st' => ∀ φ' H' v, Grow φ H φ' H' → Sim c φ' st' H' → Rep c φ' H' d v → D.rt v H'
  | .bk fr st' => ∀ φ' H' σ', Grow φ H φ' H' → Sim c φ' st' H' → FrR c φ' H' fr σ' → D.bk σ' H'
  | .ct fr st' => ∀ φ' H' σ', Grow φ H φ' H' → Sim c φ' st' H' → FrR c φ' H' fr σ' → D.ct σ' H'
  | .exc n fs st' => ∀ φ' H' dx, Grow φ H φ' H' → Sim c φ' st' H' → ExcR c φ' H' fs dx → E (.ref (c.xc n)) (some dx) H'
  | .bad => False
def tS (k : Kc) (E : XK) (m : Sm) : TS := fun D σ H => ∃ PP φ fr st, FrR (k.w PP) φ H fr σ ∧ Sim (k.w PP) φ st H ∧ GoesS (k.w PP) E φ H D (m fr st)
theorem GoesS.mono {c : Ctx} {E : XK} {φ φ' : List Addr} {H H' : Hp} {D : Ends} {r : SRe} (h : GoesS c E φ H D r) (g : Grow φ H φ' H') : GoesS c E φ' H' D r := by
  cases r with
  | nx fr st' => exact fun φ2 H2 σ2 g2 s f => h φ2 H2 σ2 (g.trans g2) s f
  | rt d st' => exact fun φ2 H2 σ2 g2 s f => h φ2 H2 σ2 (g.trans g2) s f
  | bk fr st' => exact fun φ2 H2 σ2 g2 s f => h φ2 H2 σ2 (g.trans g2) s f
  | ct fr st' => exact fun φ2 H2 σ2 g2 s f => h φ2 H2 σ2 (g.trans g2) s f
  | exc n fs st' => exact fun φ2 H2 dx g2 s x => h φ2 H2 dx (g.trans g2) s x
  | bad => exact h
/-- a target: what it does to the slots, which ones it writes -/
structure Tg where
  go : D → Fr → Option Fr
  ws : List Nat
def SameOut (ws : List Nat) (σ σ' : L2.St) : Prop := ∀ vs : List Nat, (∀ i ∈ ws, i ∈ vs) → wipe σ' vs = wipe σ vs
def tG (k : Kc) (tg : Tg) : TG := fun v σ H Q => ∃ PP φ fr st d, FrR (k.w PP) φ H fr σ ∧ Sim (k.w PP) φ st H ∧ Rep (k.w PP) φ H d v ∧ ∃ fr', tg.go d fr = some fr' ∧ ∀ σ', FrR (k.w PP) φ H fr' σ' → SameOut tg.ws σ σ' → Q σ' H
def tGs (k : Kc) (go : List D → Fr → Option Fr) (ws : List Nat) : TGs := fun vs σ H Q => ∃ PP φ fr st ds, FrR (k.w PP) φ H fr σ ∧ Sim (k.w PP) φ st H ∧ Reps (k.w PP) φ H ds vs ∧ ∃ fr', go ds fr = some fr' ∧ ∀ σ', FrR (k.w PP) φ H fr' σ' → SameOut ws σ σ' → Q σ' H
def nameT (i : Nat) : Tg := ⟨fun d fr => some (fr.set i (some d)), [i]⟩
def nilT : List D → Fr → Option Fr := fun ds fr => match ds with
  | [] => some fr
  | _ => none
def consT (t : Tg) (u : List D → Fr → Option Fr) : List D → Fr → Option Fr := fun ds fr => match ds with
  | d :: r => (t.go d fr).bind fun fr' => u r fr'
  | [] => none
def tupT (n : Nat) (go : List D → Fr → Option Fr) (ws : List Nat) : Tg := ⟨fun d fr => match d with
  | .tup ds => if ds.length = n then go ds fr else none
  | _ => none, ws⟩
def asgS (tg : Tg) (e : Sh D) : Sm := fun fr st => (e fr st).toS fun d st1 => match tg.go d fr with
  | some fr' => .nx fr' st1
  | none => .bad
def seqM (a b : Sm) : Sm := fun fr st => (a fr st).seq b
def skipM : Sm := fun fr st => .nx fr st
def retM (e : Sh D) : Sm := fun fr st => (e fr st).toS fun d st1 => .rt d st1
def dropM (e : Sh D) : Sm := fun fr st => (e fr st).toS fun _ st1 => .nx fr st1
def ifM (t : Sh Bool) (a b : Sm) : Sm := fun fr st => (t fr st).toS fun x st1 => match x with
  | true => a fr st1
  | false => b fr st1
section
variable {k : Kc} {E : XK} {X : Cx} {σ : L2.St} {H : Hp}
theorem wipe_set {i : Nat} {v : Option V} : ∀ {vs : List Nat} {σ : L2.St}, i ∈ vs → wipe (σ.set i v) vs = wipe σ vs
  | [], _, h => by simp at h
  | w :: vs, σ, h => by
    unfold wipe
    by_cases e : i = w
    · subst e
      by_cases h2 : i ∈ vs
      · rw [wipe_set h2]
      · have hcomm : wipe (σ.set i v) vs = (wipe σ vs).set i v := by
          clear h
          induction vs with
          | nil => rfl
          | cons u us ih =>
            simp only [List.mem_cons, not_or] at h2
            unfold wipe
            rw [ih h2.2, List.set_comm _ _ h2.1]
        rw [hcomm, List.set_set]
    · have h2 : i ∈ vs := by
        rcases List.mem_cons.mp h with z | z
        · exact absurd z e
        · exact z
      rw [wipe_set h2]
theorem SameOut.refl {ws : List Nat} : SameOut ws σ σ := fun _ _ => rfl
theorem SameOut.set {i : Nat} {v : V} : SameOut [i] σ (σ.set i (some v)) := fun vs h => wipe_set (h i (by simp))
theorem SameOut.trans {w1 w2 : List Nat} {σ1 σ2 : L2.St} (a : SameOut w1 σ σ1) (b : SameOut w2 σ1 σ2) : SameOut (w1 ++ w2) σ σ2 := fun vs h => (b vs fun i hi => h i (List.mem_append_right _ hi)).trans (a vs fun i hi => h i (List.mem_append_left _ hi))
theorem pg_weak {tg : Expr} {t t' : TG} (h : PG X tg t) (w : ∀ v σ H Q, t' v σ H Q → t v σ H Q) : PG X tg t' := ⟨fun pins s σ H v u Q I r q => h.run pins s σ H v u Q I r (w v σ H Q q)⟩
theorem pgs_weak {tgs : List Expr} {t t' : TGs} (h : PGs X tgs t) (w : ∀ v σ H Q, t' v σ H Q → t v σ H Q) : PGs X tgs t' := ⟨fun pins s σ H v u Q I r q => h.run pins s σ H v u Q I r (w v σ H Q q)⟩
theorem g_name {i : Nat} {e : Expr} (h : PG X e (gName i)) : PG X e (tG k (nameT i)) := pg_weak h fun v σ H Q ⟨PP, φ, fr, st, d, hf, hs, r, fr', e, q⟩ => by
  cases e
  exact q _ (hf.set r) .set
theorem gs_nil : PGs X [] (tGs k nilT []) := pgs_weak pgs_nil fun v σ H Q ⟨PP, φ, fr, st, ds, hf, hs, r, fr', e, q⟩ => by
  cases ds with
  | nil =>
    cases e
    exact ⟨r.inv_nil, q _ hf .refl⟩
  | cons d ds => simp [nilT] at e
theorem gs_cons {e : Expr} {es : List Expr} {t : Tg} {go : List D → Fr → Option Fr} {ws : List Nat} (h1 : PG X e (tG k t)) (h2 : PGs X es (tGs k go ws))
    (hs : (assignEach (e :: es) X.env).map (·.2) = assign e X.env :: (assignEach es X.env).map (·.2) := by rfl) : PGs X (e :: es) (tGs k (consT t go) (t.ws ++ ws)) :=
  pgs_weak (pgs_cons h1 h2 hs) fun v σ H Q ⟨PP, φ, fr, st, ds, hf, hs, r, fr', e, q⟩ => by
    cases ds with
    | nil => simp [consT] at e
    | cons d ds =>
      obtain ⟨u, us, rfl, r1, r2⟩ := r.inv_cons
      obtain ⟨fr1, e1, e2⟩ := Option.bind_eq_some_iff.mp (show (t.go d fr).bind (fun fr' => go ds fr') = some fr' from e)
      exact ⟨u, us, rfl, PP, φ, fr, st, d, hf, hs, r1, fr1, e1, fun σ1 hf1 o1 => ⟨PP, φ, fr1, st, ds, hf1, hs, r2, fr', e2, fun σ2 hf2 o2 => q σ2 hf2 (o1.trans o2)⟩⟩
theorem g_tup {es : List Expr} {kk : Nat} {go : List D → Fr → Option Fr} {ws : List Nat} {n : Nat} {pos : Pos} (hK : X.K = k.K) (hc : X.calm = true) (h : PGs X es (tGs k go ws))
    (hn : (assignEach es X.env).length = n := by rfl) (hst : (assignEach es X.env).findIdx? (·.1) = none := by rfl) : PG X (.Tuple es kk pos) (tG k (tupT n go ws)) :=
  pg_weak (pg_tup hc h hn hst) fun v σ H Q ⟨PP, φ, fr, st, d, hf, hs, r, fr', e, q⟩ => by
    cases d with
    | tup ds =>
      rw [Rep] at r
      obtain ⟨a, xs, rfl, h1, h2⟩ := r
      have e : (if ds.length = n then go ds fr else none) = some fr' := e
      by_cases hl : ds.length = n
      · rw [if_pos hl] at e
        exact ⟨a, xs, rfl, kT hK h1.sq, by rw [← h2.length]; exact hl, PP, φ, fr, st, ds, hf, hs, h2, fr', e, q⟩
      · rw [if_neg hl] at e; cases e
    | _ => simp [tupT] at e

theorem seqSD {m : Sh D} {f : D → Sto → SRe} {DD : Ends} {PP : Addr → Prop} {φ : List Addr} {fr : Fr} {st : Sto} {Q : VK} (hf : FrR (k.w PP) φ H fr σ) (hs : Sim (k.w PP) φ st H) (h : GoesS (k.w PP) E φ H DD ((m fr st).toS f))
    (q : ∀ d φ' st' H' v, Grow φ H φ' H' → FrR (k.w PP) φ' H' fr σ → Sim (k.w PP) φ' st' H' → Rep (k.w PP) φ' H' d v → GoesS (k.w PP) E φ' H' DD (f d st') → Q v H') : tE k E m σ H Q := by
  refine ⟨PP, φ, fr, st, hf, hs, ?_⟩
  cases e : m fr st with
  | ok d st' =>
    rw [e] at h
    exact fun φ' H' g s v r => q d φ' st' H' v g (hf.stay g) s r (GoesS.mono (show GoesS (k.w PP) E φ H DD (f d st') from h) g)
  | exc n fs st' => rw [e] at h; exact h
  | bad => rw [e] at h; exact h
theorem seqSB {m : Sh Bool} {f : Bool → Sto → SRe} {DD : Ends} {PP : Addr → Prop} {φ : List Addr} {fr : Fr} {st : Sto} {Q : Bool → Hp → Prop} (hf : FrR (k.w PP) φ H fr σ) (hs : Sim (k.w PP) φ st H) (h : GoesS (k.w PP) E φ H DD ((m fr st).toS f))
    (q : ∀ d φ' st' H', Grow φ H φ' H' → FrR (k.w PP) φ' H' fr σ → Sim (k.w PP) φ' st' H' → GoesS (k.w PP) E φ' H' DD (f d st') → Q d H') : tT k E m σ H Q := by
  refine ⟨PP, φ, fr, st, hf, hs, ?_⟩
  cases e : m fr st with
  | ok d st' =>
    rw [e] at h
    exact fun φ' H' g s => q d φ' st' H' g (hf.stay g) s (GoesS.mono (show GoesS (k.w PP) E φ H DD (f d st') from h) g)
  | exc n fs st' => rw [e] at h; exact h
  | bad => rw [e] at h; exact h
theorem asg_go {tg : Tg} {m : Sh D} {DD : Ends} (h : tS k E (asgS tg m) DD σ H) : tAsg (tE k E m) (tG k tg) DD σ H := by
  obtain ⟨PP, φ, fr, st, hf, hs, w⟩ := h
  refine seqSD hf hs w fun d φ1 st1 H1 v1 g1 hf1 hs1 r1 w1 => ?_
  cases e : tg.go d fr with
  | none => rw [e] at w1; exact False.elim w1
  | some fr' =>
    rw [e] at w1
    exact ⟨PP, φ1, fr, st1, d, hf1, hs1, r1, fr', e, fun σ' hf2 _ => w1 φ1 H1 σ' .refl hs1 hf2⟩
theorem s_asg {tg e : Expr} {t : Tg} {m : Sh D} {pos : Pos} (he : PE X e (tE k E m)) (hg : PG X tg (tG k t)) (hs : swapsWithSole [tg] e pos.line X.env = pure false := by rfl) (hw : swappedStores [tg] e X.env = pure none := by rfl)
    (h1 : (assignEach [tg] X.env).map (·.2) = [assign tg X.env] := by rfl) : PS X (.Assign [tg] e pos) (tS k E (asgS t m)) := ps_weak (ps_asg he hg hs hw h1) fun D σ H w => asg_go w
theorem s_set {i : Nat} {x : Str} {e : Expr} {m : Sh D} {pos pos' : Pos} (hN : X.N.Nodup) (hi : X.N[i]? = some x) (hx : Loc X.env.scope x) (he : PE X e (tE k E m)) (hs : swapsWith e (some (.Name x pos')) pos.line X.env = pure false := by rfl) (hf : X.fn x = true ∨ X.env.scope.names.lookup x = some .local := by first | exact .inl rfl | exact .inr rfl | assumption) :
    PS X (.Assign [.Name x pos'] e pos) (tS k E (asgS (nameT i) m)) := ps_weak (ps_set hN hi hx he hs hf) fun D σ H w => by
  obtain ⟨PP, φ, fr, st, hf, hs, w⟩ := w
  exact seqSD hf hs w fun d φ1 st1 H1 v1 g1 hf1 hs1 r1 w1 => w1 φ1 H1 _ .refl hs1 (hf1.set r1)
theorem s_ret {e : Expr} {m : Sh D} {pos : Pos} (he : PE X e (tE k E m)) : PS X (.Return (some e) pos) (tS k E (retM m)) := ps_weak (ps_ret he) fun D σ H ⟨PP, φ, fr, st, hf, hs, w⟩ =>
  seqSD hf hs w fun d φ1 st1 H1 v1 g1 hf1 hs1 r1 w1 => w1 φ1 H1 v1 .refl hs1 r1
theorem s_retN {pos : Pos} : PS X (.Return none pos) (tS k E (retM (cS .non))) := ps_weak ps_retN fun D σ H ⟨PP, φ, fr, st, hf, hs, w⟩ => w φ H _ .refl hs .mkNon
theorem s_expr {e : Expr} {m : Sh D} {pos : Pos} (he : PE X e (tE k E m)) (hs : swapsWith e none pos.line X.env = pure false := by rfl) : PS X (.Expr e pos) (tS k E (dropM m)) := ps_weak (ps_expr he hs) fun D σ H ⟨PP, φ, fr, st, hf, hs, w⟩ =>
  seqSD hf hs w fun d φ1 st1 H1 v1 g1 hf1 hs1 r1 w1 => w1 φ1 H1 σ .refl hs1 hf1
theorem s_if {c : Expr} {a b : List Stmt} {t : Sh Bool} {m n : Sm} {pos : Pos} (hc : PT X c (tT k E t)) (ha : PSs X a (tS k E m)) (hb : PSs X b (tS k E n)) : PS X (.If c a b pos) (tS k E (ifM t m n)) :=
  ps_weak (ps_if hc ha hb) fun D σ H ⟨PP, φ, fr, st, hf, hs, w⟩ => seqSB hf hs w fun d φ1 st1 H1 g1 hf1 hs1 w1 => by
    cases d with
    | true => exact iteT ⟨PP, φ1, fr, st1, hf1, hs1, w1⟩
    | false => exact iteF ⟨PP, φ1, fr, st1, hf1, hs1, w1⟩
theorem ss_nil : PSs X [] (tS k E skipM) := pss_weak pss_nil fun D σ H ⟨PP, φ, fr, st, hf, hs, w⟩ => w φ H σ .refl hs hf
theorem ss_one {st : Stmt} {m : Sm} (h : PS X st (tS k E m)) : PSs X [st] (tS k E m) := pss_one h
theorem ss_cons {st : Stmt} {rest : List Stmt} {m n : Sm} (h : PS X st (tS k E m)) (h2 : PSs X rest (tS k E n)) : PSs X (st :: rest) (tS k E (seqM m n)) :=
  pss_weak (pss_cons h h2) fun D σ H ⟨PP, φ, fr, st, hf, hs, w⟩ => by
    refine ⟨PP, φ, fr, st, hf, hs, ?_⟩
    unfold seqM at w
    cases e : m fr st with
    | nx fr1 st1 =>
      rw [e] at w
      exact fun φ1 H1 σ1 g1 hs1 hf1 => ⟨PP, φ1, fr1, st1, hf1, hs1, GoesS.mono (show GoesS (k.w PP) E φ H D (n fr1 st1) from w) g1⟩
    | rt _ _ => rw [e] at w; exact w
    | bk _ _ => rw [e] at w; exact w
    | ct _ _ => rw [e] at w; exact w
    | exc _ _ _ => rw [e] at w; exact w
    | bad => rw [e] at w; exact w
theorem s_pass {pos : Pos} : PS X (.Pass pos) (tS k E skipM) := ps_weak ps_pass fun D σ H ⟨PP, φ, fr, st, hf, hs, w⟩ => w φ H σ .refl hs hf
theorem s_break {pos : Pos} : PS X (.Break pos) (tS k E fun fr st => .bk fr st) := ps_weak ps_break fun D σ H ⟨PP, φ, fr, st, hf, hs, w⟩ => w φ H σ .refl hs hf
theorem s_continue {pos : Pos} : PS X (.Continue pos) (tS k E fun fr st => .ct fr st) := ps_weak ps_continue fun D σ H ⟨PP, φ, fr, st, hf, hs, w⟩ => w φ H σ .refl hs hf

/-! xs.append(e), xs[i] = e -/
def appD (st : Sto) (i : Nat) (y : D) : Re D := match st[i]? with
  | some (.lst ds) => if ds.length < LIM then .ok .non (st.set i (.lst (ds ++ [y]))) else .bad
  | none => .bad
def appS (a b : Sh D) : Sh D := fun fr st => (a fr st).bind fun x st1 => match x with
  | .ref i => (b fr st1).bind fun y st2 => appD st2 i y
  | _ => .bad
def setIx (st : Sto) (o i v : D) : Option Sto := match o, i with
  | .ref r, .int n => (match st[r]? with
    | some (.lst ds) => (match ixN ds.length n with
      | some j => some (st.set r (.lst (ds.set j v)))
      | none => none)
    | none => none)
  | _, _ => none
def setM (e o i : Sh D) : Sm := fun fr st => (e fr st).toS fun v st1 => (o fr st1).toS fun x st2 => (i fr st2).toS fun y st3 => match setIx st3 x y v with
  | some st4 => .nx fr st4
  | none => .bad
theorem e_append {o e : Expr} {a b : Sh D} {apos cpos : Pos} (ho : PE X o (tE k E a)) (he : PE X e (tE k E b)) (hbase : attributeBase o "append" X.env (eval o X.env) = eval o X.env := by rfl)
    (hfew : ((backTo cpos (starEach (e :: []) X.env)).all (fun x => !x.1) && (backToKw cpos (keywordEach [] X.env)).all (fun x => x.1.isSome)
      && decide ((e :: ([] : List Expr)).length + ([] : List Keyword).length + (if ([] : List Keyword).isEmpty then 0 else 1) < 30)) = true := by rfl)
    (hline : (apos.endLine == cpos.line) = true := by rfl) (hs1 : starEach (e :: []) X.env = (false, eval e X.env) :: starEach [] X.env := by rfl) : PE X (.Call (.Attribute o "append" apos) [e] [] cpos) (tE k E (appS a b)) :=
  pe_weak (pe_bm PySem.F.plainAttrs_list PySem.F.slot_list_append PySem.F.type_list_append mt_append ho (pa_cons he pa_nil hs1) hbase hfew hline hs1) fun σ H Q ⟨PP, φ, fr, st, hf, hs, w⟩ => seqD hf hs w fun x φ1 st1 H1 v1 _ hf1 hs1 r1 w1 => by
    cases x with
    | ref i =>
      obtain ⟨a1, q1, q2⟩ : ∃ a1, φ1[i]? = some a1 ∧ v1 = .ref a1 := by rw [Rep] at r1; exact r1
      subst q2
      have hl : i < st1.length := by rw [← hs1.len]; exact (List.getElem?_eq_some_iff.mp q1).1
      obtain ⟨kk, hk⟩ : ∃ kk, st1[i]? = some kk := ⟨_, List.getElem?_eq_getElem hl⟩
      cases kk with
      | lst es =>
        obtain ⟨a', xs', h2, _, h3, _⟩ := hs1.at hk
        rw [q1] at h2; cases h2
        refine ⟨.inl ⟨rfl, _, .of h3⟩, seqD hf1 hs1 w1 fun y φ2 st2 H2 v2 g2 hf2 hs2 r2 w2 => ?_⟩
        unfold appD at w2
        cases q : st2[i]? with
        | none => rw [q] at w2; exact False.elim w2
        | some kk =>
          cases kk with
          | lst ds =>
            rw [q] at w2
            dsimp only at w2
            by_cases hl : ds.length < LIM
            · rw [if_pos hl] at w2
              obtain ⟨a2, xs, h4, hm, h5, h6⟩ := hs2.at q
              have h7 := g2.refs i a1 q1
              rw [h7] at h4; cases h4
              refine ⟨a1, xs, v2, rfl, rfl, h5, by rw [← h6.length]; exact lim_line_lt hl, ?_⟩
              exact w2 φ2 _ (Grow.mut hm) (hs2.set h7 (h6.append (.cons r2 .nil))) _ .mkNon
            · rw [if_neg hl] at w2; exact False.elim w2
    | _ => exact False.elim w1
theorem s_sub {o i e : Expr} {mo mi me : Sh D} {pos spos : Pos} (he : PE X e (tE k E me)) (ho : PE X o (tE k E mo)) (hi : PE X i (tE k E mi)) (hs : swapsWithSole [.Subscript o i spos] e pos.line X.env = pure false := by rfl) (hw : swappedStores [.Subscript o i spos] e X.env = pure none := by rfl)
    (h1 : (assignEach [.Subscript o i spos] X.env).map (·.2) = [assign (.Subscript o i spos) X.env] := by rfl)
    (ha : ∀ v, assign (.Subscript o i spos) X.env v = (do
      let ov ← holding [v] (eval o X.env)
      let iv ← holding [v, ov] (eval i X.env)
      standAt spos
      holding [v, ov, iv] (setItem ov iv v)
      release [v, ov, iv] []) := by intro _; rfl) : PS X (.Assign [.Subscript o i spos] e pos) (tS k E (setM me mo mi)) :=
  ps_weak (ps_asg he (pg_sub ho hi set_list ha) hs hw h1) fun D σ H ⟨PP, φ, fr, st, hf, hs, w⟩ =>
    seqSD hf hs w fun v φ1 st1 H1 u1 g1 hf1 hs1 r1 w1 => seqSD hf1 hs1 w1 fun x φ2 st2 H2 u2 g2 hf2 hs2 r2 w2 => seqSD hf2 hs2 w2 fun y φ3 st3 H3 u3 g3 hf3 hs3 r3 w3 => by
      unfold setIx at w3
      cases x with
      | ref r =>
        cases y with
        | int n =>
          dsimp only at w3
          cases q : st3[r]? with
          | none => rw [q] at w3; exact False.elim w3
          | some kk =>
            cases kk with
            | lst ds =>
              rw [q] at w3
              dsimp only at w3
              cases q2 : ixN ds.length n with
              | none => rw [q2] at w3; exact False.elim w3
              | some j =>
                rw [q2] at w3
                obtain ⟨a2, xs, h4, hm, h5, h6⟩ := hs3.at q
                have r2' := r2.stay g3
                rw [Rep] at r2'
                obtain ⟨a3, h7, rfl⟩ := r2'
                obtain rfl : a3 = a2 := Option.some.inj (h7.symm.trans h4)
                refine ⟨a3, xs, n, j, rfl, r3.int, h5, by rw [← h6.length]; exact q2, ?_⟩
                have g := Grow.mut (φ := φ3) (H := H3) (o := .lst (xs.set j u1)) hm
                exact w3 φ3 _ _ g (hs3.set h7 (h6.set ((r1.stay g2).stay g3) j)) (hf3.stay g)
        | _ => exact False.elim w3
      | _ => exact False.elim w3
end
end Pl
set_option Elab.async false
set_option linter.all false
set_option maxRecDepth 100000
set_option maxHeartbeats 2000000
/-! P4e: enumerate(..) over a tuple. -/
namespace Pe
open PySem PySem.Spec PyProof.Rows L2
open AutoSeq1 (wpAny_loadPart')
abbrev ti (l : Addr) : Obj := { cls := .type "tuple_iterator", data := .fields #[.ref l, .int 0 0] }
abbrev en (it : Addr) : Obj := { cls := .type "enumerate", data := .fields #[.none, .bool false, .ref it, rawInt 0, .none, .none] }
theorem meets_new (l : Addr) (items : Array Value) (n : Nat) (dct : Option Addr) (sl : Array (Option Value)) :
    Meets (Builtin.«enumerate.__new__» ⟨[.type "enumerate", .ref l], []⟩) (fun _ R s => s.heap.get? l = some { cls := .type "tuple", dict := dct, data := .seq items n, slots := sl } ∧
      R (.ok (.ret (.ref (s.heap.push (ti l)).objs.size))) { s with heap := (s.heap.push (ti l)).push (en s.heap.objs.size) }) :=
  .of_wp fun prog w A R s h => by
    obtain ⟨hp, g, d, tk, os⟩ := s; obtain ⟨hl, h⟩ := h
    have hsub := sub_enumerate
    have hL : Heap.IsTuple (Shared.heap ⟨hp, g, d, tk, os⟩) l items := ⟨_, hl, rfl, n, rfl⟩
    wp_walk using wpAny_loadPart' hl
    refine wpAny_stack_any fun st => wpAny_pure ?_
    split
    · rename_i c _ _ _ _ _
      cases (c == Value.type "enumerate")
      · wp_walk using wpAny_loadPart' hl, wpAny_pyIter_tuple hL
        exact ⟨_, rfl, h⟩
      · wp_walk using wpAny_loadPart' hl, wpAny_pyIter_tuple hL
        exact ⟨_, rfl, h⟩
    · wp_walk using wpAny_loadPart' hl, wpAny_pyIter_tuple hL
      exact ⟨_, rfl, h⟩
section
variable {prog : Program} {w : World} {A : Around} {E : Value → Shared → Prop} {s : Shared}
theorem call_enumT {l : Addr} {items : Array Value} {Q : Value → Shared → Prop} (hL : s.heap.IsTuple l items)
    (h : ∀ h', IsEnum h' (s.heap.objs.size + 1) s.heap.objs.size 0 .none → h'.IsTupleIter s.heap.objs.size l 0 → h'.objs.size = s.heap.objs.size + 2 →
      (∀ b o, s.heap.get? b = some o → h'.get? b = some o) → Q (.ref (s.heap.objs.size + 1)) { s with heap := h' }) :
    wpAny (model prog w) A (call (.type "enumerate") [.ref l]) Q E s := by
  obtain ⟨⟨c, dct, dt, sl⟩, hl, hc, n, hd⟩ := hL
  replace hc : c = .type "tuple" := hc
  replace hd : dt = .seq items n := hd
  subst hc hd
  refine callType_new F.called_enumerate (by decide) (F.typeCall_enumerate_1 _) (F.newCall_enumerate_1 _) (fun obj => F.args_object_init_2 obj _) F.entry_enumerate_new
    (meets_new l items n dct sl) ⟨hl, ?_⟩
  have hz : (s.heap.push (ti l)).objs.size = s.heap.objs.size + 1 := Heap.size_push ..
  show _ ∧ _
  rw [hz]
  have he : IsEnum ((s.heap.push (ti l)).push (en s.heap.objs.size)) (s.heap.objs.size + 1) s.heap.objs.size 0 .none := by
    have := Heap.get?_push_size (s.heap.push (ti l)) (o := en s.heap.objs.size) rfl
    rw [hz] at this; exact this
  refine ⟨⟨_, he, rfl⟩, h _ he ⟨_, Heap.get?_push_of_some _ (Heap.get?_push_size _ rfl), rfl, rfl⟩ (by rw [Heap.size_push, hz]) fun b o x => Heap.get?_push_of_some _ (Heap.get?_push_of_some _ x)⟩
theorem pyNext_end {e it l : Addr} {i : Nat} {c : Int} {items : Array Value} {old : Value} {Q : Option Value → Shared → Prop} (hh : A.handled = none)
    (he : IsEnum s.heap e it c old) (hit : s.heap.IsTupleIter it l i) (hl : s.heap.IsTuple l items) (hx : items[i]? = none)
    (hQ : ∀ h', Heap.ExtBut it s.heap h' → Q none { s with heap := h' }) : wpAny (model prog w) A (pyNext (.ref e)) Q E s := by
  have hT : s.TypeIs (.ref e) "enumerate" := ⟨_, he, rfl⟩
  unfold pyNext
  refine wpAny_bind (wpAny_attempt (wpAny_callSpecial?_slot (name := Str.ofString "__next__") hT F.slot_enumerate_next
    (wpAny_call_entry F.slot_enumerate_next hT F.entry_enumerate_next ?_ (F.args_enumerate_next_1 _))))
  show wpAny _ _ (field (.ref e) 2 >>= _) _ _ _
  refine wpAny_bind (wpAny_field he rfl (x := .ref it) rfl ?_)
  refine wpAny_bind (wpAny_nextOf_tuple_end (A := A.in1) (by simpa using hh) hit hl hx fun h' x he' hx' => ?_)
  obtain ⟨o, ho, hc⟩ := hx'
  refine wpAny_bind (wpAny_isInstance (T := "StopIteration") (b := true) ⟨o, ho, hc⟩ isSubtype_stop ?_)
  exact wpAny_pure (hQ _ he')
end
/-- the tuple at a, each item in a new pair -/
def IteT (K : PySem.W.Frag) (a : Addr) : It :=
  ⟨fun i H => ∃ (xs : List V) (x : V), SqT K H a xs ∧ xs[i]? = some x, fun i H v H' => ∃ T x, v = .ref T ∧ H T = none ∧ H' = upd H T (.tup [.int (i : Nat), x]) ∧ ∀ xs, SqT K H a xs → xs[i]? = some x, fun i H => ∃ xs : List V, SqT K H a xs ∧ xs.length ≤ i⟩
theorem turn_enumT {P : Program} {w : World} {K : PySem.W.Frag} {elts : List Expr} {kk : Nat} {tpos : Pos} (a e it : Addr) (hai : a ≠ it) (hae : a ≠ e) :
    Turn P w K (.Tuple elts kk tpos) (IteT K a) [e, it] e (fun i h => (∃ old, IsEnum h e it ((i : Nat) : Int) old) ∧ h.IsTupleIter it a i ∧ e ≠ it) where
  mem := by simp
  obj := fun i h st b hb => by
    obtain ⟨⟨old, he⟩, ⟨o, ho, hc, hd⟩, _⟩ := st
    have e' : b = e ∨ b = it := by simpa using hb
    rcases e' with z | z
    · rw [z]; exact ⟨_, he, fun v q => nomatch q⟩
    · rw [z]; exact ⟨o, ho, fun v q => by rw [hd] at q; cases q⟩
  keep := fun i h h' st k => let ⟨⟨old, he⟩, hi, hne⟩ := st; ⟨⟨old, k e (by simp) _ he⟩, hi.at fun o q => k it (by simp) o q, hne⟩
  item := by
    intro X hP hw hK hc i pins s σ H E I hf st hg
    subst hP hw hK
    obtain ⟨⟨old, he⟩, hit, hne⟩ := st
    obtain ⟨xs, x, hq, hx⟩ := hg
    obtain ⟨its, rv, p, hz⟩ := I.tuple hq
    obtain ⟨u, hu, ru⟩ := rv.get hx
    have hel : e < s.heap.objs.size := Heap.lt_size he
    have hil : it < s.heap.objs.size := by obtain ⟨_, q, _⟩ := hit; exact Heap.lt_size q
    have hi : i < its.toArray.size := by
      have := (List.getElem?_eq_some_iff.mp hu).1
      simpa using this
    have pt : s.heap.IsTuple a its.toArray := p
    refine wpAny_pyNext_enum_itemD (Draws.tuple (by simpa using I.ok.hd hc) it a hai its.toArray) he ⟨hit, pt⟩ hi hne (by simp [hne, Ne.symm hae]) fun y h' tk hy ho st' hT hsz hk => ?_
    have ey : y = u := by
      rw [← Array.getElem?_toList] at hy
      exact Option.some.inj (hy.symm.trans hu)
    subst ey
    refine ⟨_, rfl, wpAny_letOwnedTupleGo_enum (s := { s with heap := h', toks := tk + 1 }) ho fun h'' he' sb => ?_⟩
    have hT2 : h''.get? s.heap.objs.size = some { cls := .type "tuple", data := .seq #[.int i tk, y] } := (sb.2 _ (Nat.ne_of_gt hel)).trans hT
    have new : ObjOk X.prog X.w (upd H s.heap.objs.size (.tup [.int (i : Nat), x])) h'' s.heap.objs.size (.tup [.int (i : Nat), x]) :=
      ⟨by show 2 ≤ sizeLine; decide, [.int i tk, y], .cons ⟨_, rfl⟩ (.cons ru .nil), ⟨_, hT2, rfl, _, rfl⟩⟩
    have I1 : Inv X pins σ (upd H s.heap.objs.size (.tup [.int (i : Nat), x])) { s with heap := h'', toks := tk + 1 } :=
      I.turnedNew (ch := [e, it]) (fun b ob hb q => (sb.2 b (fun z => hb (by simp [z]))).trans (hk b ob (fun z => hb (by simp [z])) (fun z => hb (by simp [z])) q)) hf (Nat.le_refl _) new
    refine ⟨.ref s.heap.objs.size, _, I1, rfl, ⟨_, x, rfl, I.hok.fresh (Nat.le_refl _), rfl, fun ys hy => by rw [I.tuple_inj hy hq]; exact hx⟩, ⟨⟨y, ?_⟩, st'.1.at fun o q => (sb.2 it (Ne.symm hne)).trans q, hne⟩, fun b hb => ?_⟩
    · have e1 : ((i + 1 : Nat) : Int) = (i : Int) + 1 := by omega
      rw [e1]; exact he'
    · have hb' : b < s.heap.objs.size := by
        have e' : b = e ∨ b = it := by simpa using hb
        rcases e' with z | z
        · rw [z]; exact hel
        · rw [z]; exact hil
      rw [upd_ne (Nat.ne_of_lt hb')]
      exact (hf b hb).1
  done := by
    intro X hP hw hK hc i pins s σ H E I hf st hg
    subst hP hw hK
    obtain ⟨⟨old, he⟩, hit, hne⟩ := st
    obtain ⟨xs, hq, hx⟩ := hg
    obtain ⟨its, rv, p, hz⟩ := I.tuple hq
    obtain ⟨f0, f1, f2, f3, f4, f5⟩ := hf it (by simp)
    have hl := rv.length
    have pt : s.heap.IsTuple a its.toArray := p
    refine pyNext_end (I.ok.hd hc) he hit pt (by simp; omega) fun h' eb => ⟨rfl, I.turned (t' := s.toks) (fun b o hb q => eb b o hb q) f0 f1 f3 f4 f5⟩
  self := fun A i s Q E st h => let ⟨⟨_, he⟩, _⟩ := st; wpAny_pyIter_enum he h
def iEnumT (K : PySem.W.Frag) (ta : TA) : TI := fun σ H R => ta σ H fun vs H1 => ∃ a xs, vs = [.ref a] ∧ SqT K H1 a xs ∧ R (IteT K a) H1
theorem pi_enumT {X : Cx} {e : Expr} {ta : TA} {p pos tpos : Pos} {elts : List Expr} {kk : Nat} (hg : Gl X "enumerate") (hm : X.mg "enumerate" = none) (ha : PA X [e] ta) (hs : starEach [e] X.env = [(false, eval e X.env)] := by rfl) :
    PI X (.Tuple elts kk tpos) (.Call (.Name "enumerate" p) [e] [] pos) (iEnumT X.K ta) := by
  refine ⟨fun pins s σ H R I h => ?_⟩
  refine Call_ (ld_blt I hg hm boot_enumerate (PyProof.Rows.callWith_type1 (thn (ha.run pos pins s σ H _ I h) fun us s1 ⟨vs, H1, I1, r1, q1⟩ => ?_) hs rfl))
  obtain ⟨a, xs, ex, hq, q⟩ := q1
  subst ex
  cases r1 with
  | cons r rr =>
    cases rr
    cases r
    obtain ⟨its, rv, p', hz⟩ := I1.tuple hq
    have pt : s1.heap.IsTuple a its.toArray := p'
    have al : a < s1.heap.objs.size := by obtain ⟨o, ho, _⟩ := id pt; exact Heap.lt_size ho
    refine call_enumT pt fun h' he hit hsz hk => wpAny_pyIter_enum he ?_
    have I2 : Inv X pins σ H1 { s1 with heap := h' } := I1.kept (t' := s1.toks) hk
    refine ⟨s1.heap.objs.size + 1, [s1.heap.objs.size + 1, s1.heap.objs.size], _, _, H1, rfl, I2, turn_enumT a (s1.heap.objs.size + 1) s1.heap.objs.size (Nat.ne_of_lt al) (Nat.ne_of_lt (Nat.lt_succ_of_lt al)), ⟨⟨.none, he⟩, hit, Nat.succ_ne_self _⟩, fun b hb => ?_, q⟩
    have e' : b = s1.heap.objs.size + 1 ∨ b = s1.heap.objs.size := by simpa using hb
    have hle : s1.heap.objs.size ≤ b := by
      rcases e' with z | z
      · rw [z]; exact Nat.le_add_right _ _
      · rw [z]; exact Nat.le_refl _
    exact I1.fpOk hle (I1.hok.fresh hle)
theorem walk_enumT {K : PySem.W.Frag} {a : Addr} {xs : List V} : Walk (IteT K a) xs.length (fun H => SqT K H a xs) (fun i H v H' => ∃ T u w, v = .ref T ∧ H T = none ∧ H' = upd H T (.tup [u, w]) ∧ some (V.int (i : Nat)) = some u ∧ xs[i]? = some w) := by
  refine ⟨fun i _ hi q => ⟨xs, xs[i], q, by simp [hi]⟩, fun _ q => ⟨xs, q, Nat.le_refl _⟩, fun i H v H' _ q y => ?_⟩
  obtain ⟨T, x, h1, h2, h3, h4⟩ := y
  exact ⟨T, _, x, h1, h2, h3, rfl, h4 xs q⟩
end Pe
set_option Elab.async false
set_option linter.all false
set_option maxRecDepth 100000
set_option maxHeartbeats 2000000
namespace Pl
open PySem PySem.Spec PyProof.Rows L2
/-! ### what is walked -/
inductive ItD where
  | fix (ds : List D)
  | live (id n : Nat)
def ItD.len : ItD → Nat
  | .fix ds => ds.length
  | .live _ n => n
def liveAt (st : Sto) (id n : Nat) : Option (List D) := match st[id]? with
  | some (.lst ds) => if ds.length = n then some ds else none
  | none => none
/-- the i-th item, if all stands as it should -/
def ItD.at (it : ItD) (st : Sto) (i : Nat) : Option D := match it with
  | .fix ds => ds[i]?
  | .live id n => (liveAt st id n).bind fun ds => ds[i]?
def ItD.ok (it : ItD) (st : Sto) : Bool := match it with
  | .fix _ => true
  | .live id n => (liveAt st id n).isSome
abbrev Si := Fr → Sto → Re ItD
def rngL (lo : Int) (n : Nat) : List D := (List.range n).map fun (i : Nat) => .int (lo + (i : Int))
/-- the machine's walk, and what it gives -/
inductive ItR (c : Ctx) (φ : List Addr) (H : Hp) : ItD → It → Prop where
  | tup {ds : List D} {a : Addr} {xs : List V} : TupR c φ H a xs → Reps c φ H ds xs → ItR c φ H (.fix ds) (Itt c.K a)
  | lst {ds : List D} {a : Addr} {xs : List V} : LstR c φ H a xs → Reps c φ H ds xs → ItR c φ H (.fix ds) (Itl c.K a)
  | live {id n : Nat} {a : Addr} : φ[id]? = some a → ItR c φ H (.live id n) (Itl c.K a)
  | rng (lo : Int) (n : Nat) : ItR c φ H (.fix (rngL lo n)) (Itr lo n)
  | str (z : Str) : ItR c φ H (.fix (z.cps.toList.map fun c => .str ⟨#[c]⟩)) (Its z)
  | zipT {ds es : List D} {a b : Addr} {xs ys : List V} : TupR c φ H a xs → Reps c φ H ds xs → TupR c φ H b ys → Reps c φ H es ys → ItR c φ H (.fix (List.zipWith (fun x y => .tup [x, y]) ds es)) (RZ.ItzT c.K a b)
  | zipL {ds es : List D} {a b : Addr} {xs ys : List V} : LstR c φ H a xs → Reps c φ H ds xs → LstR c φ H b ys → Reps c φ H es ys → ItR c φ H (.fix (List.zipWith (fun x y => .tup [x, y]) ds es)) (Itz c.K a b)
  | enum {ds : List D} {a : Addr} {xs : List V} : LstR c φ H a xs → Reps c φ H ds xs → ItR c φ H (.fix (ds.mapIdx fun i x => .tup [.int i, x])) (Ite c.K a)
  | enumT {ds : List D} {a : Addr} {xs : List V} : TupR c φ H a xs → Reps c φ H ds xs → ItR c φ H (.fix (ds.mapIdx fun i x => .tup [.int i, x])) (Pe.IteT c.K a)
section
variable {c : Ctx} {k : Kc} {E : XK} {X : Cx} {φ φ' : List Addr} {H H' : Hp}
/-- what a loop may lean on -/
structure ItOk (c : Ctx) (φ : List Addr) (H : Hp) (it : ItD) (J : It) where
  G : Hp → Prop
  Y : Nat → Hp → V → Hp → Prop
  walk : Walk J it.len G Y
  stay : ∀ φ' st' H', Grow φ H φ' H' → Sim c φ' st' H' → it.ok st' = true → G H'
  item : ∀ φ' st' H' i d x Hb, Grow φ H φ' H' → Sim c φ' st' H' → it.at st' i = some d → Y i H' x Hb → Grow φ' H' φ' Hb ∧ Sim c φ' st' Hb ∧ Rep c φ' Hb d x
theorem walk_live {K : PySem.W.Frag} {a : Addr} {n : Nat} : Walk (Itl K a) n (fun H => ∃ xs, SqL K H a xs ∧ xs.length = n) (fun i H x H' => H' = H ∧ ∀ xs, SqL K H a xs → xs[i]? = some x) :=
  ⟨fun i _ hi ⟨xs, q, l⟩ => ⟨xs, xs[i]'(by rw [l]; exact hi), q, by simp [l, hi]⟩, fun _ ⟨xs, q, l⟩ => ⟨xs, q, Nat.le_of_eq l⟩, fun _ _ _ _ _ _ y => y⟩
theorem walk_zipT' {K : PySem.W.Frag} {a b : Addr} {xs ys : List V} {n : Nat} (hn : n = min xs.length ys.length) : Walk (RZ.ItzT K a b) n (fun H => SqT K H a xs ∧ SqT K H b ys) (YPair (fun i => xs[i]?) (fun i => ys[i]?)) := by
  subst hn
  refine ⟨fun i _ hi q => ?_, fun _ q => ⟨xs, ys, q.1, q.2, by omega⟩, fun i H v H' _ q y => ?_⟩
  · have h1 : i < xs.length := by omega
    have h2 : i < ys.length := by omega
    exact ⟨xs, ys, xs[i], ys[i], q.1, q.2, by simp [h1], by simp [h2]⟩
  · obtain ⟨T, x, z, h1, h2, h3, h4, h5⟩ := y
    exact ⟨T, x, z, h1, h2, h3, h4 xs q.1, h5 ys q.2⟩
theorem pair_new {st : Sto} {T : Addr} {d e : D} {x y : V} (s : Sim c φ st H) (hT : H T = none) (r1 : Rep c φ H d x) (r2 : Rep c φ H e y) : Grow φ H φ (upd H T (.tup [x, y])) ∧ Sim c φ st (upd H T (.tup [x, y])) ∧ Rep c φ (upd H T (.tup [x, y])) (.tup [d, e]) (.ref T) :=
  ⟨.new hT, s.new hT, .mkTup s hT (.cons r1 (.cons r2 .nil))⟩
theorem ItR.use {it : ItD} {J : It} (r : ItR c φ H it J) : Nonempty (ItOk c φ H it J) := by
  cases r with
  | @tup ds a xs h q =>
    refine ⟨⟨_, _, (by rw [show (ItD.fix ds).len = xs.length from q.length]; exact walk_tup (xs := xs)), fun φ' st' H' g s _ => (g.tup h).sq, fun φ' st' H' i d x Hb g s e y => ?_⟩⟩
    obtain ⟨rfl, e2⟩ := y
    obtain ⟨v, e3, r⟩ := q.get (show ds[i]? = some d from e)
    rw [e3] at e2; cases e2
    exact ⟨.refl, s, r.stay g⟩
  | @lst ds a xs h q =>
    refine ⟨⟨_, _, (by rw [show (ItD.fix ds).len = xs.length from q.length]; exact walk_list (xs := xs)), fun φ' st' H' g s _ => (g.lst h).sq, fun φ' st' H' i d x Hb g s e y => ?_⟩⟩
    obtain ⟨rfl, e2⟩ := y
    obtain ⟨v, e3, r⟩ := q.get (show ds[i]? = some d from e)
    rw [e3] at e2; cases e2
    exact ⟨.refl, s, r.stay g⟩
  | @live id n a h =>
    have key : ∀ (φ' : List Addr) (st' : Sto) (H' : Hp) (ds : List D), Grow φ H φ' H' → Sim c φ' st' H' → liveAt st' id n = some ds → ∃ xs, SqL c.K H' a xs ∧ xs.length = n ∧ Reps c φ' H' ds xs := fun φ' st' H' ds g s e => by
      unfold liveAt at e
      cases q : st'[id]? with
      | none => rw [q] at e; cases e
      | some kk =>
        cases kk with
        | lst es =>
          rw [q] at e
          dsimp only at e
          by_cases hl : es.length = n
          · rw [if_pos hl] at e; cases e
            obtain ⟨a', xs, h1, _, h2, h3⟩ := s.at q
            rw [g.refs id a h] at h1; cases h1
            exact ⟨xs, .of h2, by rw [← h3.length]; exact hl, h3⟩
          · rw [if_neg hl] at e; cases e
    refine ⟨⟨_, _, walk_live (n := n), fun φ' st' H' g s o => ?_, fun φ' st' H' i d x Hb g s e y => ?_⟩⟩
    · obtain ⟨ds, e⟩ := Option.isSome_iff_exists.mp (show (liveAt st' id n).isSome = true from o)
      obtain ⟨xs, h1, h2, _⟩ := key φ' st' H' ds g s e
      exact ⟨xs, h1, h2⟩
    · obtain ⟨ds, e1, e2⟩ := Option.bind_eq_some_iff.mp (show (liveAt st' id n).bind (fun ds => ds[i]?) = some d from e)
      obtain ⟨xs, h1, h2, h3⟩ := key φ' st' H' ds g s e1
      obtain ⟨rfl, y2⟩ := y
      obtain ⟨v, e3, r⟩ := h3.get e2
      have e4 := y2 xs h1
      rw [e3] at e4; cases e4
      exact ⟨.refl, s, r⟩
  | rng lo n =>
    refine ⟨⟨_, _, (by rw [show (ItD.fix (rngL lo n)).len = n by simp [ItD.len, rngL]]; exact walk_range (lo := lo) (n := n)), fun _ _ _ _ _ _ => trivial, fun φ' st' H' i d x Hb g s e y => ?_⟩⟩
    obtain ⟨rfl, rfl⟩ := y
    have e' : (rngL lo n)[i]? = some d := e
    unfold rngL at e'
    rw [List.getElem?_map] at e'
    obtain ⟨j, e1, rfl⟩ := Option.map_eq_some_iff.mp e'
    have hj : j = i := by
      obtain ⟨h1, h2⟩ := List.getElem?_eq_some_iff.mp e1
      rw [List.getElem_range] at h2
      exact h2.symm
    subst hj
    exact ⟨.refl, s, .mkInt⟩
  | str z =>
    refine ⟨⟨_, _, (by rw [show (ItD.fix (z.cps.toList.map fun c => D.str ⟨#[c]⟩)).len = z.cps.size by simp [ItD.len]]; exact walk_str (z := z)), fun _ _ _ _ _ _ => trivial, fun φ' st' H' i d x Hb g s e y => ?_⟩⟩
    obtain ⟨rfl, cc, e1, rfl⟩ := y
    have e' : (z.cps.toList.map fun c => D.str ⟨#[c]⟩)[i]? = some d := e
    rw [List.getElem?_map] at e'
    obtain ⟨j, e2, rfl⟩ := Option.map_eq_some_iff.mp e'
    have e3 : z.cps.toList[i]? = some cc := by simpa using e1
    rw [e3] at e2; cases e2
    exact ⟨.refl, s, .mkStr⟩
  | @zipT ds es a b xs ys h1 q1 h2 q2 =>
    refine ⟨⟨_, _, (by rw [show (ItD.fix (List.zipWith (fun x y => D.tup [x, y]) ds es)).len = min xs.length ys.length by simp [ItD.len, q1.length, q2.length]]; exact walk_zipT' (xs := xs) (ys := ys) rfl), fun φ' st' H' g s _ => And.intro (g.tup h1).sq (g.tup h2).sq, fun φ' st' H' i d x Hb g s e y => ?_⟩⟩
    obtain ⟨T, u, v, rfl, hT, rfl, eu, ev⟩ := y
    have e' : (List.zipWith (fun x y => D.tup [x, y]) ds es)[i]? = some d := e
    rw [List.getElem?_zipWith] at e'
    cases e1 : ds[i]? with
    | none => rw [e1] at e'; cases es[i]? <;> cases e'
    | some d1 =>
      cases e2 : es[i]? with
      | none => rw [e1, e2] at e'; cases e'
      | some d2 =>
        rw [e1, e2] at e'; cases e'
        obtain ⟨u', e3, r1⟩ := q1.get e1
        obtain ⟨v', e4, r2⟩ := q2.get e2
        obtain rfl : u' = u := Option.some.inj (e3.symm.trans eu)
        obtain rfl : v' = v := Option.some.inj (e4.symm.trans ev)
        exact pair_new s hT (r1.stay g) (r2.stay g)
  | @zipL ds es a b xs ys h1 q1 h2 q2 =>
    refine ⟨⟨_, _, (by rw [show (ItD.fix (List.zipWith (fun x y => D.tup [x, y]) ds es)).len = min xs.length ys.length by simp [ItD.len, q1.length, q2.length]]; exact walk_zip (xs := xs) (ys := ys) rfl), fun φ' st' H' g s _ => And.intro (g.lst h1).sq (g.lst h2).sq, fun φ' st' H' i d x Hb g s e y => ?_⟩⟩
    obtain ⟨T, u, v, rfl, hT, rfl, eu, ev⟩ := y
    have e' : (List.zipWith (fun x y => D.tup [x, y]) ds es)[i]? = some d := e
    rw [List.getElem?_zipWith] at e'
    cases e1 : ds[i]? with
    | none => rw [e1] at e'; cases es[i]? <;> cases e'
    | some d1 =>
      cases e2 : es[i]? with
      | none => rw [e1, e2] at e'; cases e'
      | some d2 =>
        rw [e1, e2] at e'; cases e'
        obtain ⟨u', e3, r1⟩ := q1.get e1
        obtain ⟨v', e4, r2⟩ := q2.get e2
        obtain rfl : u' = u := Option.some.inj (e3.symm.trans eu)
        obtain rfl : v' = v := Option.some.inj (e4.symm.trans ev)
        exact pair_new s hT (r1.stay g) (r2.stay g)
  | @enum ds a xs h1 q1 =>
    refine ⟨⟨_, _, (by rw [show (ItD.fix (ds.mapIdx fun i x => D.tup [D.int i, x])).len = xs.length by simp [ItD.len, q1.length]]; exact walk_enum (xs := xs)), fun φ' st' H' g s _ => (g.lst h1).sq, fun φ' st' H' i d x Hb g s e y => ?_⟩⟩
    obtain ⟨T, u, v, rfl, hT, rfl, eu, ev⟩ := y
    cases eu
    have e' : (ds.mapIdx fun i x => D.tup [D.int i, x])[i]? = some d := e
    rw [List.getElem?_mapIdx] at e'
    obtain ⟨j, e2, rfl⟩ := Option.map_eq_some_iff.mp e'
    obtain ⟨v', e4, r2⟩ := q1.get e2
    obtain rfl : v' = v := Option.some.inj (e4.symm.trans ev)
    exact pair_new s hT .mkInt (r2.stay g)
  | @enumT ds a xs h1 q1 =>
    refine ⟨⟨_, _, (by rw [show (ItD.fix (ds.mapIdx fun i x => D.tup [D.int i, x])).len = xs.length by simp [ItD.len, q1.length]]; exact Pe.walk_enumT (xs := xs)), fun φ' st' H' g s _ => (g.tup h1).sq, fun φ' st' H' i d x Hb g s e y => ?_⟩⟩
    obtain ⟨T, u, v, rfl, hT, rfl, eu, ev⟩ := y
    cases eu
    have e' : (ds.mapIdx fun i x => D.tup [D.int i, x])[i]? = some d := e
    rw [List.getElem?_mapIdx] at e'
    obtain ⟨j, e2, rfl⟩ := Option.map_eq_some_iff.mp e'
    obtain ⟨v', e4, r2⟩ := q1.get e2
    obtain rfl : v' = v := Option.some.inj (e4.symm.trans ev)
    exact pair_new s hT .mkInt (r2.stay g)

/-! ### its readings -/
def tI (k : Kc) (E : XK) (m : Si) : TI := fun σ H R => ∃ PP φ fr st, FrR (k.w PP) φ H fr σ ∧ Sim (k.w PP) φ st H ∧ Goes (k.w PP) E φ H (m fr st) fun it φ' _ H' => ∀ J, ItR (k.w PP) φ' H' it J → R J H'
theorem pi_weak {tg it : Expr} {t t' : TI} (h : PI X tg it t) (w : ∀ σ H Q, t' σ H Q → t σ H Q) : PI X tg it t' := ⟨fun pins s σ H Q I q => h.run pins s σ H Q I (w σ H Q q)⟩
theorem pi_or {tg it : Expr} {t t' : TI} (h : PI X tg it t) (h' : PI X tg it t') : PI X tg it (fun σ H Q => t σ H Q ∨ t' σ H Q) := ⟨fun pins s σ H Q I q => q.elim (h.run pins s σ H Q I) (h'.run pins s σ H Q I)⟩
def itD (st : Sto) (d : D) : Re ItD := match d with
  | .tup ds => .ok (.fix ds) st
  | .lst ds => .ok (.fix ds) st
  | .scr ns => .ok (.fix (ns.map .int)) st
  | .str z => .ok (.fix (z.cps.toList.map fun c => .str ⟨#[c]⟩)) st
  | .ref i => (match st[i]? with
    | some (.lst ds) => .ok (.live i ds.length) st
    | none => .bad)
  | _ => .bad
def itS (m : Sh D) : Si := fun fr st => (m fr st).bind fun x st1 => itD st1 x
end
end Pl
set_option Elab.async false
set_option linter.all false
set_option maxRecDepth 100000
set_option maxHeartbeats 2000000
namespace Pl
open PySem PySem.Spec PyProof.Rows L2
def lohi (i : Int) : Bool := decide (i.natAbs < 4611686018427387904)
theorem lohi_spec {i : Int} (h : lohi i = true) : -(2 ^ 62) ≤ i ∧ i < 2 ^ 62 := by
  have := of_decide_eq_true h
  omega
def itR1 (m : Sh (List D)) : Si := fun fr st => (m fr st).bind fun ds st1 => match ds with
  | [.int j] => if lohi j then .ok (.fix (rngL 0 j.toNat)) st1 else .bad
  | _ => .bad
def itR2 (m : Sh (List D)) : Si := fun fr st => (m fr st).bind fun ds st1 => match ds with
  | [.int i, .int j] => if lohi i && lohi j then .ok (.fix (rngL i (j - i).toNat)) st1 else .bad
  | _ => .bad
def zipD (st : Sto) (x y : D) : Re ItD := match x, y with
  | .tup ds, .tup es => .ok (.fix (List.zipWith (fun x y => .tup [x, y]) ds es)) st
  | .lst ds, .lst es => .ok (.fix (List.zipWith (fun x y => .tup [x, y]) ds es)) st
  | _, _ => .bad
def itZip (m : Sh (List D)) : Si := fun fr st => (m fr st).bind fun ds st1 => match ds with
  | [x, y] => zipD st1 x y
  | _ => .bad
def itEnum (m : Sh (List D)) : Si := fun fr st => (m fr st).bind fun ds st1 => match ds with
  | [.lst ds] => .ok (.fix (ds.mapIdx fun i x => .tup [.int i, x])) st1
  | [.tup ds] => .ok (.fix (ds.mapIdx fun i x => .tup [.int i, x])) st1
  | _ => .bad
section
variable {k : Kc} {E : XK} {X : Cx} {σ : L2.St} {H : Hp}
theorem i_any {tg e : Expr} {m : Sh D} (hK : X.K = k.K) (he : PE X e (tE k E m)) : PI X tg e (tI k E (itS m)) :=
  pi_weak (pi_or (pi_list he) (pi_or (pi_tup he) (pi_str he))) fun σ H R ⟨PP, φ, fr, st, hf, hs, w⟩ => by
    -- the value first: which of the three it is
    cases e1 : m fr st with
    | bad => unfold itS at w; rw [e1] at w; exact False.elim w
    | exc n fs st' =>
      unfold itS at w
      rw [e1] at w
      exact .inl ⟨PP, φ, fr, st, hf, hs, by rw [e1]; exact w⟩
    | ok d st1 =>
      unfold itS at w
      rw [e1] at w
      have w : Goes (k.w PP) E φ H (itD st1 d) fun it φ' _ H' => ∀ J, ItR (k.w PP) φ' H' it J → R J H' := w
      cases d with
      | tup ds =>
        refine .inr (.inl ⟨PP, φ, fr, st, hf, hs, ?_⟩)
        rw [e1]
        intro φ1 H1 g1 s1 v r
        rw [Rep] at r
        obtain ⟨a, xs, rfl, h1, h2⟩ := r
        refine ⟨a, rfl, ⟨xs, kT hK h1.sq⟩, ?_⟩
        rw [hK]
        exact w φ1 H1 g1 s1 _ (.tup h1 h2)
      | lst ds =>
        refine .inl ⟨PP, φ, fr, st, hf, hs, ?_⟩
        rw [e1]
        intro φ1 H1 g1 s1 v r
        rw [Rep] at r
        obtain ⟨a, xs, rfl, h1, h2⟩ := r
        refine ⟨a, rfl, ⟨xs, .of h1.2.2⟩, ?_⟩
        rw [hK]
        exact w φ1 H1 g1 s1 _ (.lst (.inl ⟨h1.1, h1.2.1, .inl h1.2.2⟩) h2)
      | scr ns =>
        refine .inl ⟨PP, φ, fr, st, hf, hs, ?_⟩
        rw [e1]
        intro φ1 H1 g1 s1 v r
        rw [Rep] at r
        obtain ⟨a, rfl, h1⟩ := r
        refine ⟨a, rfl, ⟨_, kL hK h1.sq⟩, ?_⟩
        rw [hK]
        exact w φ1 H1 g1 s1 _ (.lst h1 reps_ints)
      | ref i =>
        have w : Goes (k.w PP) E φ H (match st1[i]? with
          | some (.lst ds) => .ok (.live i ds.length) st1
          | none => .bad) fun it φ' _ H' => ∀ J, ItR (k.w PP) φ' H' it J → R J H' := w
        cases q : st1[i]? with
        | none => rw [q] at w; exact False.elim w
        | some kk =>
          cases kk with
          | lst ds =>
            rw [q] at w
            refine .inl ⟨PP, φ, fr, st, hf, hs, ?_⟩
            rw [e1]
            intro φ1 H1 g1 s1 v r
            rw [Rep] at r
            obtain ⟨a, h1, rfl⟩ := r
            obtain ⟨a', xs, h2, _, h3, _⟩ := s1.at q
            rw [h1] at h2; cases h2
            refine ⟨a, rfl, ⟨xs, .of h3⟩, ?_⟩
            rw [hK]
            exact w φ1 H1 g1 s1 _ (.live h1)
      | str z =>
        refine .inr (.inr ⟨PP, φ, fr, st, hf, hs, ?_⟩)
        rw [e1]
        intro φ1 H1 g1 s1 v r
        exact ⟨z, r.str, w φ1 H1 g1 s1 _ (.str z)⟩
      | _ => exact False.elim w
theorem i_r1 {tg a : Expr} {m : Sh (List D)} {p pos : Pos} (hg : Gl X "range") (hm : X.mg "range" = none) (ha : PA X [a] (tL k E m)) (hs1 : starEach [a] X.env = [(false, eval a X.env)] := by rfl) : PI X tg (.Call (.Name "range" p) [a] [] pos) (tI k E (itR1 m)) :=
  pi_weak (pi_range1 hg hm ha hs1) fun σ H R ⟨PP, φ, fr, st, hf, hs, w⟩ => seqL hf hs w fun ds φ1 st1 H1 vs g1 hf1 hs1 r1 w1 => by
    match ds, r1, w1 with
    | [.int j], r1, w1 =>
      obtain ⟨v, rfl, r2⟩ := r1.one
      dsimp only at w1
      by_cases h : lohi j = true
      · rw [if_pos h] at w1
        obtain ⟨h1, h2⟩ := lohi_spec h
        exact ⟨j, by rw [r2.int], h1, h2, w1.ok0 hs1 _ (.rng 0 j.toNat)⟩
      · rw [if_neg h] at w1; exact False.elim w1
    | [], _, w1 => exact False.elim w1
    | [.non], _, w1 => exact False.elim w1
    | [.bl _], _, w1 => exact False.elim w1
    | [.str _], _, w1 => exact False.elim w1
    | [.ty _], _, w1 => exact False.elim w1
    | [.tup _], _, w1 => exact False.elim w1
    | [.lst _], _, w1 => exact False.elim w1
    | [.scr _], _, w1 => exact False.elim w1
    | [.ref _], _, w1 => exact False.elim w1
    | x :: _ :: _, _, w1 => cases x <;> exact False.elim w1
theorem i_r2 {tg a b : Expr} {m : Sh (List D)} {p pos : Pos} (hg : Gl X "range") (hm : X.mg "range" = none) (ha : PA X [a, b] (tL k E m)) (hs1 : starEach [a, b] X.env = [(false, eval a X.env), (false, eval b X.env)] := by rfl) (hs2 : starEach [b] X.env = [(false, eval b X.env)] := by rfl) :
    PI X tg (.Call (.Name "range" p) [a, b] [] pos) (tI k E (itR2 m)) :=
  pi_weak (pi_range2 hg hm ha hs1 hs2) fun σ H R ⟨PP, φ, fr, st, hf, hs, w⟩ => seqL hf hs w fun ds φ1 st1 H1 vs g1 hf1 hs1 r1 w1 => by
    have key : ∀ i j : Int, ds = [.int i, .int j] → ∃ i j : Int, vs = [.int i, .int j] ∧ (-(2 ^ 62) ≤ i ∧ i < 2 ^ 62 ∧ -(2 ^ 62) ≤ j ∧ j < 2 ^ 62) ∧ R (Itr i (j - i).toNat) H1 := fun i j e => by
      subst e
      obtain ⟨v, u, rfl, r2, r3⟩ := r1.two
      dsimp only at w1
      by_cases h : (lohi i && lohi j) = true
      · rw [if_pos h] at w1
        obtain ⟨a1, a2⟩ := Bool.and_eq_true_iff.mp h
        obtain ⟨h1, h2⟩ := lohi_spec a1
        obtain ⟨h3, h4⟩ := lohi_spec a2
        exact ⟨i, j, by rw [r2.int, r3.int], ⟨h1, h2, h3, h4⟩, w1.ok0 hs1 _ (.rng i _)⟩
      · rw [if_neg h] at w1; exact False.elim w1
    split at w1
    · exact key _ _ rfl
    · exact False.elim w1
theorem i_zip {e e2 : Expr} {m : Sh (List D)} {p pos tpos : Pos} {elts : List Expr} {kk : Nat} (hK : X.K = k.K) (hg : Gl X "zip") (hm : X.mg "zip" = none) (ha : PA X [e, e2] (tL k E m)) (hh : ∀ t, PA X [e, e2] t → PI X (.Tuple elts kk tpos) (.Call (.Name "zip" p) [e, e2] [] pos) (RZ.iZipA X.K t)) :
    PI X (.Tuple elts kk tpos) (.Call (.Name "zip" p) [e, e2] [] pos) (tI k E (itZip m)) :=
  pi_weak (hh _ ha) fun σ H R ⟨PP, φ, fr, st, hf, hs, w⟩ => seqL hf hs w fun ds φ1 st1 H1 vs g1 hf1 hs1 r1 w1 => by
    have key : ∀ x y : D, ds = [x, y] → Goes (k.w PP) E φ1 H1 (zipD st1 x y) (fun it φ' _ H' => ∀ J, ItR (k.w PP) φ' H' it J → R J H') → ∃ a b xs ys, vs = [.ref a, .ref b] ∧ ((SqL X.K H1 a xs ∧ SqL X.K H1 b ys ∧ R (Itz X.K a b) H1) ∨ (SqT X.K H1 a xs ∧ SqT X.K H1 b ys ∧ R (RZ.ItzT X.K a b) H1)) := fun x y e w1 => by
      subst e
      obtain ⟨v, u, rfl, r2, r3⟩ := r1.two
      cases x with
      | tup ds =>
        cases y with
        | tup es =>
          rw [Rep] at r2 r3
          obtain ⟨a, xs, rfl, h1, h2⟩ := r2
          obtain ⟨b, ys, rfl, h3, h4⟩ := r3
          refine ⟨a, b, xs, ys, rfl, .inr ⟨kT hK h1.sq, kT hK h3.sq, ?_⟩⟩
          rw [hK]
          exact w1.ok0 hs1 _ (.zipT h1 h2 h3 h4)
        | _ => exact False.elim w1
      | lst ds =>
        cases y with
        | lst es =>
          rw [Rep] at r2 r3
          obtain ⟨a, xs, rfl, h1, h2⟩ := r2
          obtain ⟨b, ys, rfl, h3, h4⟩ := r3
          refine ⟨a, b, xs, ys, rfl, .inl ⟨.of h1.2.2, .of h3.2.2, ?_⟩⟩
          rw [hK]
          exact w1.ok0 hs1 _ (.zipL (.inl ⟨h1.1, h1.2.1, .inl h1.2.2⟩) h2 (.inl ⟨h3.1, h3.2.1, .inl h3.2.2⟩) h4)
        | _ => exact False.elim w1
      | _ => cases y <;> exact False.elim w1
    split at w1
    · exact key _ _ rfl w1
    · exact False.elim w1

theorem i_enum {e : Expr} {m : Sh (List D)} {p pos tpos : Pos} {elts : List Expr} {kk : Nat} (hK : X.K = k.K) (hg : Gl X "enumerate") (hm : X.mg "enumerate" = none) (ha : PA X [e] (tL k E m)) (hs1 : starEach [e] X.env = [(false, eval e X.env)] := by rfl) :
    PI X (.Tuple elts kk tpos) (.Call (.Name "enumerate" p) [e] [] pos) (tI k E (itEnum m)) :=
  pi_weak (pi_or (pi_enum hg hm ha hs1) (Pe.pi_enumT hg hm ha hs1)) fun σ H R ⟨PP, φ, fr, st, hf, hs, w⟩ => by
    cases e1 : m fr st with
    | bad => unfold itEnum at w; rw [e1] at w; exact False.elim w
    | exc n fs st' =>
      unfold itEnum at w
      rw [e1] at w
      exact .inl ⟨PP, φ, fr, st, hf, hs, by rw [e1]; exact w⟩
    | ok ds st1 =>
      unfold itEnum at w
      rw [e1] at w
      dsimp only [Re.bind] at w
      match ds, e1, w with
      | [.lst ds], e1, w =>
        refine .inl ⟨PP, φ, fr, st, hf, hs, ?_⟩
        rw [e1]
        intro φ1 H1 g1 s1 vs r
        obtain ⟨v, rfl, r2⟩ := r.one
        rw [Rep] at r2
        obtain ⟨a, xs, rfl, h1, h2⟩ := r2
        refine ⟨a, xs, rfl, .of h1.2.2, ?_⟩
        rw [hK]
        exact w φ1 H1 g1 s1 _ (.enum (.inl ⟨h1.1, h1.2.1, .inl h1.2.2⟩) h2)
      | [.tup ds], e1, w =>
        refine .inr ⟨PP, φ, fr, st, hf, hs, ?_⟩
        rw [e1]
        intro φ1 H1 g1 s1 vs r
        obtain ⟨v, rfl, r2⟩ := r.one
        rw [Rep] at r2
        obtain ⟨a, xs, rfl, h1, h2⟩ := r2
        refine ⟨a, xs, rfl, kT hK h1.sq, ?_⟩
        rw [hK]
        exact w φ1 H1 g1 s1 _ (.enumT h1 h2)
      | [], _, w => exact False.elim w
      | [.non], _, w => exact False.elim w
      | [.bl _], _, w => exact False.elim w
      | [.int _], _, w => exact False.elim w
      | [.str _], _, w => exact False.elim w
      | [.ty _], _, w => exact False.elim w
      | [.scr _], _, w => exact False.elim w
      | [.ref _], _, w => exact False.elim w
      | x :: _ :: _, _, w => cases x <;> exact False.elim w

/-! ### loops -/
def forLoop (it : ItD) (tg : Tg) (body : Sm) : Nat → Nat → Fr → Sto → SRe
  | 0, _, fr, st => if it.ok st then .nx fr st else .bad
  | m + 1, i, fr, st => match it.at st i with
    | none => .bad
    | some d => match tg.go d fr with
      | none => .bad
      | some fr1 => match body fr1 st with
        | .nx fr2 st2 => forLoop it tg body m (i + 1) fr2 st2
        | .ct fr2 st2 => forLoop it tg body m (i + 1) fr2 st2
        | .bk fr2 st2 => .nx fr2 st2
        | r => r
def forM (it : Si) (tg : Tg) (body : Sm) : Sm := fun fr st => (it fr st).toS fun it st1 => forLoop it tg body it.len 0 fr st1
theorem at_ok {it : ItD} {st : Sto} {i : Nat} {d : D} (h : it.at st i = some d) : it.ok st = true := by
  cases it with
  | fix ds => rfl
  | live id n =>
    obtain ⟨ds, e1, _⟩ := Option.bind_eq_some_iff.mp (show (liveAt st id n).bind (fun ds => ds[i]?) = some d from h)
    show (liveAt st id n).isSome = true
    rw [e1]; rfl
theorem for_go {it : ItD} {J : It} {tg : Tg} {body : Sm} {g : TG} {tb : TS} {D : Ends} {PP : Addr → Prop} {φ : List Addr} {fr : Fr} {st : Sto} (ok : ItOk (k.w PP) φ H it J) (hf : FrR (k.w PP) φ H fr σ) (hs : Sim (k.w PP) φ st H)
    (hg : ∀ v σ H Q, tG k tg v σ H Q → g v σ H Q) (hb : ∀ D σ H, tS k E body D σ H → tb D σ H) (w : GoesS (k.w PP) E φ H D (forLoop it tg body it.len 0 fr st)) :
    ∃ W : Nat → Nat → L2.St → Hp → Prop, (∃ m, W 0 m σ H) ∧ ∀ i m σ H, W i m σ H →
      (J.stop i H ∧ D.nx σ H) ∨ (J.go i H ∧ ∃ N : L2.St → Hp → Prop, (∀ σ' H', N σ' H' → ∃ m', m' < m ∧ W (i + 1) m' σ' H') ∧ ∀ x H', J.yld i H x H' → g x σ H' fun σ2 H2 => tb { D with nx := N, ct := N, bk := D.nx } σ2 H2) := by
  have loopOk : ∀ (m i : Nat) (fr : Fr) (st : Sto) (φ2 : List Addr) (H2 : Hp), GoesS (k.w PP) E φ2 H2 D (forLoop it tg body m i fr st) → it.ok st = true := fun m i fr st φ2 H2 w => by
    cases m with
    | zero =>
      unfold forLoop at w
      by_cases h : it.ok st = true
      · exact h
      · rw [if_neg h] at w; exact False.elim w
    | succ m =>
      unfold forLoop at w
      cases e : it.at st i with
      | none => rw [e] at w; exact False.elim w
      | some d => exact at_ok e
  refine for_it ok.walk (fun i σ' H' => ∃ φ' fr' st', Grow φ H φ' H' ∧ FrR (k.w PP) φ' H' fr' σ' ∧ Sim (k.w PP) φ' st' H' ∧ GoesS (k.w PP) E φ' H' D (forLoop it tg body (it.len - i) i fr' st'))
    ⟨φ, fr, st, .refl, hf, hs, by simpa using w⟩ (fun i σ' H' hi ⟨φ', fr', st', g', hf', hs', w'⟩ => ok.stay φ' st' H' g' hs' (loopOk _ _ _ _ _ _ w')) ?_ ?_
  · rintro i x σ1 H1 Hb hi ⟨φ1, fr1, st1, g1, hf1, hs1, w1⟩ y
    have e0 : it.len - i = (it.len - (i + 1)) + 1 := by omega
    rw [e0, forLoop] at w1
    cases e : it.at st1 i with
    | none => rw [e] at w1; exact False.elim w1
    | some d =>
      rw [e] at w1
      dsimp only at w1
      obtain ⟨gb, sb, rb⟩ := ok.item φ1 st1 H1 i d x Hb g1 hs1 e y
      cases e2 : tg.go d fr1 with
      | none => rw [e2] at w1; exact False.elim w1
      | some fr2 =>
        rw [e2] at w1
        dsimp only at w1
        refine hg _ _ _ _ ⟨PP, φ1, fr1, st1, d, hf1.stay gb, sb, rb, fr2, e2, fun σ2 hf2 _ => hb _ _ _ ⟨PP, φ1, fr2, st1, hf2, sb, ?_⟩⟩
        have gg := g1.trans gb
        cases e3 : body fr2 st1 with
        | nx fr3 st3 =>
          rw [e3] at w1
          exact fun φ3 H3 σ3 g3 s3 f3 => ⟨φ3, fr3, st3, gg.trans g3, f3, s3, GoesS.mono w1 (gb.trans g3)⟩
        | ct fr3 st3 =>
          rw [e3] at w1
          exact fun φ3 H3 σ3 g3 s3 f3 => ⟨φ3, fr3, st3, gg.trans g3, f3, s3, GoesS.mono w1 (gb.trans g3)⟩
        | bk fr3 st3 =>
          rw [e3] at w1
          exact fun φ3 H3 σ3 g3 s3 f3 => w1 φ3 H3 σ3 (gb.trans g3) s3 f3
        | rt d st3 =>
          rw [e3] at w1
          exact fun φ3 H3 v g3 s3 f3 => w1 φ3 H3 v (gb.trans g3) s3 f3
        | exc n fs st3 =>
          rw [e3] at w1
          exact fun φ3 H3 v g3 s3 f3 => w1 φ3 H3 v (gb.trans g3) s3 f3
        | bad => rw [e3] at w1; exact False.elim w1
  · rintro σ1 H1 ⟨φ1, fr1, st1, g1, hf1, hs1, w1⟩
    rw [Nat.sub_self, forLoop] at w1
    by_cases h : it.ok st1 = true
    · rw [if_pos h] at w1
      exact w1 φ1 H1 σ1 .refl hs1 hf1
    · rw [if_neg h] at w1; exact False.elim w1
theorem s_for {tgt iter : Expr} {body : List Stmt} {it : Si} {tg : Tg} {m : Sm} {pos : Pos} (hp : PassesOwn (model X.prog X.w) X.A X.env X.xe) (hc : X.calm = true) (hi : PI X tgt iter (tI k E it)) (hg : PG X tgt (tG k tg)) (hb : PSs X body (tS k E m))
    (hs : ∀ x, foldedSetIterable iter X.env x = pure x := by intro _; rfl) : PS X (.For tgt iter body [] pos) (tS k E (forM it tg m)) :=
  ps_weak (ps_for hp hc hi hg hb hs) fun D σ H ⟨PP, φ, fr, st, hf, hs, w⟩ => by
    unfold forM at w
    refine ⟨PP, φ, fr, st, hf, hs, ?_⟩
    cases e : it fr st with
    | bad => rw [e] at w; exact False.elim w
    | exc n fs st' => rw [e] at w; exact w
    | ok itd st1 =>
      rw [e] at w
      intro φ1 H1 g1 s1 J r
      obtain ⟨ok⟩ := r.use
      exact for_go (E := E) ok (hf.stay g1) s1 (fun _ _ _ _ z => z) (fun _ _ _ z => z) (GoesS.mono w g1)
end
end Pl
set_option Elab.async false
set_option linter.all false
set_option maxRecDepth 100000
set_option maxHeartbeats 2000000
namespace Pl
open PySem PySem.Spec PyProof.Rows L2
/-! ### comprehensions -/
def wipeF (fr : Fr) : List Nat → Fr
  | [] => fr
  | v :: vs => (wipeF fr vs).set v none
def lcLoop (it : ItD) (tg : Tg) (tt : Sh Bool) (te : Sh D) (fr0 : Fr) : Nat → Nat → List D → Sto → Re (List D)
  | 0, _, acc, st => if it.ok st then .ok acc st else .bad
  | m + 1, i, acc, st => match it.at st i with
    | none => .bad
    | some d => match tg.go d fr0 with
      | none => .bad
      | some fr1 => match tt fr1 st with
        | .ok true st1 => (match te fr1 st1 with
          | .ok y st2 => if acc.length < LIM then lcLoop it tg tt te fr0 m (i + 1) (acc ++ [y]) st2 else .bad
          | _ => .bad)
        | .ok false st1 => lcLoop it tg tt te fr0 m (i + 1) acc st1
        | _ => .bad
def lcS (it : Si) (vs : List Nat) (tg : Tg) (tt : Sh Bool) (te : Sh D) : Sh (List D) := fun fr st => (it fr st).bind fun itd st1 => lcLoop itd tg tt te (wipeF fr vs) itd.len 0 [] st1
def yesS : Sh Bool := fun _ st => .ok true st
def frzS (m : Sh (List D)) : Sh D := fun fr st => (m fr st).bind fun acc st1 => .ok (.lst acc) st1
def newS (m : Sh (List D)) : Sh D := fun fr st => (m fr st).bind fun acc st1 => .ok (.ref st1.length) (st1 ++ [.lst acc])
abbrev Ne (PP : Addr → Prop) (D : Addr) : Addr → Prop := fun a => PP a ∧ a ≠ D
section
variable {k : Kc} {E : XK} {X : Cx} {σ : L2.St} {H : Hp} {φ : List Addr} {PP : Addr → Prop} {D : Addr}
mutual
theorem Rep.strong (hD : H D = none) : ∀ {d : Pl.D} {v : V}, Rep (k.w PP) φ H d v → Rep (k.w (Ne PP D)) φ H d v
  | .non, _, h => by rw [Rep] at h ⊢; exact h
  | .bl _, _, h => by rw [Rep] at h ⊢; exact h
  | .int _, _, h => by rw [Rep] at h ⊢; exact h
  | .str _, _, h => by rw [Rep] at h ⊢; exact h
  | .ty _, _, h => by rw [Rep] at h ⊢; exact h
  | .tup ds, _, h => by
    rw [Rep] at h ⊢
    obtain ⟨a, xs, e, h1, h2⟩ := h
    exact ⟨a, xs, e, h1, Reps.strong hD h2⟩
  | .lst ds, _, h => by
    rw [Rep] at h ⊢
    obtain ⟨a, xs, e, ⟨h1, h2, h3⟩, h4⟩ := h
    exact ⟨a, xs, e, ⟨h1, ⟨h2, ne_of_none h3 hD⟩, h3⟩, Reps.strong hD h4⟩
  | .scr ns, _, h => by
    rw [Rep] at h ⊢
    obtain ⟨a, e, h1⟩ := h
    refine ⟨a, e, ?_⟩
    rcases h1 with ⟨h1, h2, h3⟩ | h1
    · refine .inl ⟨h1, ⟨h2, ?_⟩, h3⟩
      rcases h3 with h3 | ⟨o, h3⟩
      · exact ne_of_none h3 hD
      · exact ne_of_none h3 hD
    · exact .inr h1
  | .ref i, _, h => by rw [Rep] at h ⊢; exact h
theorem Reps.strong (hD : H D = none) : ∀ {ds : List Pl.D} {vs : List V}, Reps (k.w PP) φ H ds vs → Reps (k.w (Ne PP D)) φ H ds vs
  | [], _, h => by rw [Reps] at h ⊢; exact h
  | d :: ds, _, h => by
    rw [Reps] at h ⊢
    obtain ⟨v, ws, e, h1, h2⟩ := h
    exact ⟨v, ws, e, Rep.strong hD h1, Reps.strong hD h2⟩
end
theorem LstR.strong {a : Addr} {xs : List V} (hD : H D = none) (h : LstR (k.w PP) φ H a xs) : LstR (k.w (Ne PP D)) φ H a xs := by
  rcases h with ⟨h1, h2, h3⟩ | h1
  · refine .inl ⟨h1, ⟨h2, ?_⟩, h3⟩
    rcases h3 with h3 | ⟨o, h3⟩
    · exact ne_of_none h3 hD
    · exact ne_of_none h3 hD
  · exact .inr h1
theorem ItR.strong {it : ItD} {J : It} (hD : H D = none) (h : ItR (k.w PP) φ H it J) : ItR (k.w (Ne PP D)) φ H it J := by
  cases h with
  | tup h q => exact .tup (c := k.w (Ne PP D)) h (q.strong hD)
  | lst h q => exact .lst (c := k.w (Ne PP D)) (h.strong hD) (q.strong hD)
  | live h => exact .live (c := k.w (Ne PP D)) h
  | rng lo n => exact .rng lo n
  | str z => exact .str z
  | zipT h1 q1 h2 q2 => exact .zipT (c := k.w (Ne PP D)) h1 (q1.strong hD) h2 (q2.strong hD)
  | zipL h1 q1 h2 q2 => exact .zipL (c := k.w (Ne PP D)) (h1.strong hD) (q1.strong hD) (h2.strong hD) (q2.strong hD)
  | enum h q => exact .enum (c := k.w (Ne PP D)) (h.strong hD) (q.strong hD)
  | enumT h q => exact .enumT (c := k.w (Ne PP D)) h (q.strong hD)
mutual
theorem Rep.loose : ∀ {d : Pl.D} {v : V}, Rep (k.w (Ne PP D)) φ H d v → Rep (k.w PP) φ H d v
  | .non, _, h => by rw [Rep] at h ⊢; exact h
  | .bl _, _, h => by rw [Rep] at h ⊢; exact h
  | .int _, _, h => by rw [Rep] at h ⊢; exact h
  | .str _, _, h => by rw [Rep] at h ⊢; exact h
  | .ty _, _, h => by rw [Rep] at h ⊢; exact h
  | .tup ds, _, h => by
    rw [Rep] at h ⊢
    obtain ⟨a, xs, e, h1, h2⟩ := h
    exact ⟨a, xs, e, h1, Reps.loose h2⟩
  | .lst ds, _, h => by
    rw [Rep] at h ⊢
    obtain ⟨a, xs, e, ⟨h1, h2, h3⟩, h4⟩ := h
    exact ⟨a, xs, e, ⟨h1, h2.1, h3⟩, Reps.loose h4⟩
  | .scr ns, _, h => by
    rw [Rep] at h ⊢
    obtain ⟨a, e, h1⟩ := h
    refine ⟨a, e, ?_⟩
    rcases h1 with ⟨h1, h2, h3⟩ | h1
    · exact .inl ⟨h1, h2.1, h3⟩
    · exact .inr h1
  | .ref i, _, h => by rw [Rep] at h ⊢; exact h
theorem Reps.loose : ∀ {ds : List Pl.D} {vs : List V}, Reps (k.w (Ne PP D)) φ H ds vs → Reps (k.w PP) φ H ds vs
  | [], _, h => by rw [Reps] at h ⊢; exact h
  | d :: ds, _, h => by
    rw [Reps] at h ⊢
    obtain ⟨v, ws, e, h1, h2⟩ := h
    exact ⟨v, ws, e, Rep.loose h1, Reps.loose h2⟩
end
/-- D becomes one of the mutable ones -/
theorem rd_ne {H : Hp} {a D : Addr} {xs us : List V} (h : Rd H a (.tup xs)) (hD : H D = some (.lst us)) : a ≠ D := by
  rintro rfl
  rcases h with h | ⟨o, h⟩
  · rw [hD] at h; cases h
  · rw [hD] at h; cases h
mutual
theorem Rep.addD {us : List V} (hD : H D = some (.lst us)) : ∀ {d : Pl.D} {v : V}, Rep (k.w (Ne PP D)) φ H d v → Rep (k.w PP) (φ ++ [D]) H d v
  | .non, _, h => by rw [Rep] at h ⊢; exact h
  | .bl _, _, h => by rw [Rep] at h ⊢; exact h
  | .int _, _, h => by rw [Rep] at h ⊢; exact h
  | .str _, _, h => by rw [Rep] at h ⊢; exact h
  | .ty _, _, h => by rw [Rep] at h ⊢; exact h
  | .tup ds, _, h => by
    rw [Rep] at h ⊢
    obtain ⟨a, xs, e, h1, h2⟩ := h
    refine ⟨a, xs, e, ?_, Reps.addD hD h2⟩
    rcases h1 with ⟨h1, h3⟩ | h1
    · exact .inl ⟨by simp [h1, rd_ne h3 hD], h3⟩
    · exact .inr h1
  | .lst ds, _, h => by
    rw [Rep] at h ⊢
    obtain ⟨a, xs, e, ⟨h1, h2, h3⟩, h4⟩ := h
    exact ⟨a, xs, e, ⟨by simp [h1, h2.2], h2.1, h3⟩, Reps.addD hD h4⟩
  | .scr ns, _, h => by
    rw [Rep] at h ⊢
    obtain ⟨a, e, h1⟩ := h
    refine ⟨a, e, ?_⟩
    rcases h1 with ⟨h1, h2, h3⟩ | h1
    · exact .inl ⟨by simp [h1, h2.2], h2.1, h3⟩
    · exact .inr h1
  | .ref i, _, h => by
    rw [Rep] at h ⊢
    obtain ⟨a, h1, e⟩ := h
    exact ⟨a, by rw [List.getElem?_append_left (List.getElem?_eq_some_iff.mp h1).1]; exact h1, e⟩
theorem Reps.addD {us : List V} (hD : H D = some (.lst us)) : ∀ {ds : List Pl.D} {vs : List V}, Reps (k.w (Ne PP D)) φ H ds vs → Reps (k.w PP) (φ ++ [D]) H ds vs
  | [], _, h => by rw [Reps] at h ⊢; exact h
  | d :: ds, _, h => by
    rw [Reps] at h ⊢
    obtain ⟨v, ws, e, h1, h2⟩ := h
    exact ⟨v, ws, e, Rep.addD hD h1, Reps.addD hD h2⟩
end
mutual
theorem Rep.updD {us : List V} {o : HO} (hD : H D = some (.lst us)) : ∀ {d : Pl.D} {v : V}, Rep (k.w (Ne PP D)) φ H d v → Rep (k.w (Ne PP D)) φ (upd H D o) d v
  | .non, _, h => by rw [Rep] at h ⊢; exact h
  | .bl _, _, h => by rw [Rep] at h ⊢; exact h
  | .int _, _, h => by rw [Rep] at h ⊢; exact h
  | .str _, _, h => by rw [Rep] at h ⊢; exact h
  | .ty _, _, h => by rw [Rep] at h ⊢; exact h
  | .tup ds, _, h => by
    rw [Rep] at h ⊢
    obtain ⟨a, xs, e, h1, h2⟩ := h
    refine ⟨a, xs, e, ?_, Reps.updD hD h2⟩
    rcases h1 with ⟨h1, h3⟩ | h1
    · have ne := rd_ne h3 hD
      refine .inl ⟨h1, ?_⟩
      rcases h3 with h3 | ⟨o, h3⟩
      · exact .inl (by rw [upd_ne ne]; exact h3)
      · exact .inr ⟨o, by rw [upd_ne ne]; exact h3⟩
    · exact .inr h1
  | .lst ds, _, h => by
    rw [Rep] at h ⊢
    obtain ⟨a, xs, e, ⟨h1, h2, h3⟩, h4⟩ := h
    exact ⟨a, xs, e, ⟨h1, h2, by rw [upd_ne h2.2]; exact h3⟩, Reps.updD hD h4⟩
  | .scr ns, _, h => by
    rw [Rep] at h ⊢
    obtain ⟨a, e, h1⟩ := h
    refine ⟨a, e, ?_⟩
    rcases h1 with ⟨h1, h2, h3⟩ | h1
    · refine .inl ⟨h1, h2, ?_⟩
      rcases h3 with h3 | ⟨o, h3⟩
      · exact .inl (by rw [upd_ne h2.2]; exact h3)
      · exact .inr ⟨o, by rw [upd_ne h2.2]; exact h3⟩
    · exact .inr h1
  | .ref i, _, h => by rw [Rep] at h ⊢; exact h
theorem Reps.updD {us : List V} {o : HO} (hD : H D = some (.lst us)) : ∀ {ds : List Pl.D} {vs : List V}, Reps (k.w (Ne PP D)) φ H ds vs → Reps (k.w (Ne PP D)) φ (upd H D o) ds vs
  | [], _, h => by rw [Reps] at h ⊢; exact h
  | d :: ds, _, h => by
    rw [Reps] at h ⊢
    obtain ⟨v, ws, e, h1, h2⟩ := h
    exact ⟨v, ws, e, Rep.updD hD h1, Reps.updD hD h2⟩
end
theorem Sim.updD {st : Sto} {us : List V} {o : HO} (s : Sim (k.w (Ne PP D)) φ st H) (hD : H D = some (.lst us)) (hn : D ∉ φ) : Sim (k.w (Ne PP D)) φ st (upd H D o) where
  len := s.len
  nd := s.nd
  cells := fun i a kk h1 h2 => by
    have ha : a ≠ D := fun e => hn (by rw [← e]; exact List.mem_of_getElem? h1)
    have h3 := s.cells i a kk h1 h2
    cases kk with
    | lst ds =>
      obtain ⟨xs, e, r⟩ := h3
      exact ⟨xs, by rw [upd_ne ha]; exact e, r.updD hD⟩
  pp := s.pp
  fresh := fun b hb => s.fresh b (by
    by_cases z : b = D
    · subst z; rw [upd_same] at hb; cases hb
    · rw [upd_ne z] at hb; exact hb)
theorem Sim.start {st : Sto} (s : Sim (k.w PP) φ st H) (hD : H D = none) : Sim (k.w (Ne PP D)) φ st (upd H D (.lst [])) where
  len := s.len
  nd := s.nd
  cells := fun i a kk h1 h2 => by
    have h3 := (s.new (o := .lst []) hD).cells i a kk h1 h2
    have ha : a ∈ φ := List.mem_of_getElem? h1
    cases kk with
    | lst ds =>
      obtain ⟨xs, e, r⟩ := h3
      obtain ⟨xs', e', r'⟩ := s.cells i a _ h1 h2
      exact ⟨xs', by rw [upd_ne (ne_of_none e' hD)]; exact e', (r'.strong hD).stay (.new hD)⟩
  pp := fun a ha => ⟨s.pp a ha, fun e => s.notin hD (e ▸ ha)⟩
  fresh := fun b hb => by
    by_cases z : b = D
    · subst z; rw [upd_same] at hb; cases hb
    · rw [upd_ne z] at hb; exact ⟨s.fresh b hb, z⟩
theorem Sim.loose {st : Sto} (s : Sim (k.w (Ne PP D)) φ st H) : Sim (k.w PP) φ st H where
  len := s.len
  nd := s.nd
  cells := fun i a kk h1 h2 => by
    have h3 := s.cells i a kk h1 h2
    cases kk with
    | lst ds =>
      obtain ⟨xs, e, r⟩ := h3
      exact ⟨xs, e, r.loose⟩
  pp := fun a ha => (s.pp a ha).1
  fresh := fun b hb => (s.fresh b hb).1
theorem Sim.addD {st : Sto} {us : List V} {ds : List Pl.D} (s : Sim (k.w (Ne PP D)) φ st H) (hD : H D = some (.lst us)) (hn : D ∉ φ) (hp : PP D) (r : Reps (k.w (Ne PP D)) φ H ds us) : Sim (k.w PP) (φ ++ [D]) (st ++ [.lst ds]) H where
  len := by simp [s.len]
  nd := by
    rw [List.nodup_append]
    refine ⟨s.nd, by simp, fun x hx y hy e => ?_⟩
    simp at hy
    subst hy; subst e
    exact hn hx
  cells := fun i b kk h1 h2 => by
    by_cases hi : i < φ.length
    · rw [List.getElem?_append_left hi] at h1
      rw [List.getElem?_append_left (by rw [← s.len]; exact hi)] at h2
      have h3 := s.cells i b kk h1 h2
      cases kk with
      | lst es =>
        obtain ⟨xs, e, q⟩ := h3
        exact ⟨xs, e, q.addD hD⟩
    · rw [List.getElem?_append_right (by omega)] at h1
      rw [List.getElem?_append_right (by rw [← s.len]; omega)] at h2
      have e0 : i - φ.length = 0 := by
        have := (List.getElem?_eq_some_iff.mp h1).1
        simp at this
        omega
      have e1 : i - st.length = 0 := by rw [← s.len]; exact e0
      rw [e0] at h1; rw [e1] at h2
      simp at h1 h2
      subst h1; subst h2
      exact ⟨us, hD, r.addD hD⟩
  pp := fun b hb => by
    rcases List.mem_append.mp hb with z | z
    · exact (s.pp b z).1
    · simp at z; subst z; exact hp
  fresh := fun b hb => (s.fresh b hb).1
theorem wipe_idem : ∀ {vs : List Nat} {σ : L2.St}, wipe (wipe σ vs) vs = wipe σ vs := by
  have key : ∀ (vs : List Nat) (σ : L2.St) (i : Nat), i ∈ vs → (wipe σ vs).set i none = wipe σ vs := by
    intro vs
    induction vs with
    | nil => intro σ i h; simp at h
    | cons v vs ih =>
      intro σ i h
      unfold wipe
      by_cases e : i = v
      · subst e; rw [List.set_set]
      · have h2 : i ∈ vs := by
          rcases List.mem_cons.mp h with z | z
          · exact absurd z e
          · exact z
        rw [List.set_comm _ _ (Ne.symm e), ih σ i h2]
  have key2 : ∀ (ws vs : List Nat) (σ : L2.St), (∀ i ∈ ws, i ∈ vs) → wipe (wipe σ vs) ws = wipe σ vs := by
    intro ws
    induction ws with
    | nil => intro vs σ h; rfl
    | cons w ws ih =>
      intro vs σ h
      show (wipe (wipe σ vs) ws).set w none = wipe σ vs
      rw [ih vs σ fun i hi => h i (List.mem_cons_of_mem _ hi)]
      exact key vs σ w (h w List.mem_cons_self)
  intro vs σ
  exact key2 vs vs σ fun _ h => h
theorem FrR.wipe {c : Ctx} {fr : Fr} {σ : L2.St} (h : FrR c φ H fr σ) : ∀ vs : List Nat, FrR c φ H (wipeF fr vs) (wipe σ vs)
  | [] => h
  | v :: vs => by
    have ih := FrR.wipe h vs
    refine ⟨by unfold wipeF L2.wipe; simp [ih.len], fun j e q => ?_⟩
    unfold wipeF at q
    unfold L2.wipe
    by_cases hj : v = j
    · subst hj
      have hl : v < (wipeF fr vs).length := by
        have := (List.getElem?_eq_some_iff.mp q).1
        simpa using this
      rw [List.getElem?_set_self hl] at q
      cases q
    · rw [List.getElem?_set_ne hj] at q
      obtain ⟨w, e1, e2⟩ := ih.slot j e q
      exact ⟨w, by rw [List.getElem?_set_ne hj]; exact e1, e2⟩
theorem FrR.strong {fr : Fr} {σ : L2.St} (hD : H D = none) (h : FrR (k.w PP) φ H fr σ) : FrR (k.w (Ne PP D)) φ H fr σ := ⟨h.len, fun i d e => by
  obtain ⟨v, q, r⟩ := h.slot i d e
  exact ⟨v, q, r.strong hD⟩⟩
theorem FrR.updD {fr : Fr} {σ : L2.St} {us : List V} {o : HO} (hD : H D = some (.lst us)) (h : FrR (k.w (Ne PP D)) φ H fr σ) : FrR (k.w (Ne PP D)) φ (upd H D o) fr σ := ⟨h.len, fun i d e => by
  obtain ⟨v, q, r⟩ := h.slot i d e
  exact ⟨v, q, r.updD hD⟩⟩
theorem Grow.updD {φ' : List Addr} {H' : Hp} {o : HO} (g : Grow φ H φ' H') (hD : H D = Option.none) : Grow φ H φ' (upd H' D o) :=
  ⟨g.pre, fun a u ha e => by rw [upd_ne (ne_of_none e hD)]; exact g.keep a u ha e, fun a u e => by rw [upd_ne (ne_of_none e hD)]; exact g.live a u e⟩
theorem Grow.addD {φ' : List Addr} {H' : Hp} (g : Grow φ H φ' H') (hD : H D = Option.none) : Grow φ H (φ' ++ [D]) H' := by
  obtain ⟨⟨ψ, rfl, hn⟩, kp, lv⟩ := g
  refine ⟨⟨ψ ++ [D], by simp, fun a ha => ?_⟩, kp, lv⟩
  rcases List.mem_append.mp ha with z | z
  · exact hn a z
  · simp at z; subst z; exact hD
/-- how a comprehension ends: its list stands at D -/
structure LcEnd (k : Kc) (PP : Addr → Prop) (H0 : Hp) (φ' : List Addr) (st' : Sto) (H' : Hp) (acc : List Pl.D) (D : Addr) : Prop where
  new : H0 D = none
  out : D ∉ φ'
  pp : PP D
  obj : ∃ us, H' D = some (.lst us) ∧ Reps (k.w (Ne PP D)) φ' H' acc us
  sim : Sim (k.w (Ne PP D)) φ' st' H'
theorem lc_go {it : Si} {tg : Tg} {tt : Sh Bool} {te : Sh Pl.D} {vs : List Nat} {fr : Fr} {st : Sto} {Q : VK} (hw : ∀ i ∈ tg.ws, i ∈ vs) (hf : FrR (k.w PP) φ H fr σ) (hs : Sim (k.w PP) φ st H)
    (w : Goes (k.w PP) E φ H (lcS it vs tg tt te fr st) fun acc φ' st' H' => ∀ D, LcEnd k PP H φ' st' H' acc D → Q (.ref D) H') : tLc (tI k E it) (tG k tg) (tT k E0 tt) (tE k E0 te) vs σ H Q := by
  refine ⟨PP, φ, fr, st, hf, hs, ?_⟩
  unfold lcS at w
  cases e0 : it fr st with
  | bad => rw [e0] at w; exact False.elim w
  | exc n fs st' => rw [e0] at w; exact w
  | ok itd st1 =>
    rw [e0] at w
    have w : Goes (k.w PP) E φ H (lcLoop itd tg tt te (wipeF fr vs) itd.len 0 [] st1) fun acc φ' st' H' => ∀ D, LcEnd k PP H φ' st' H' acc D → Q (.ref D) H' := w
    intro φ1 H1 g1 s1 J rJ D hD
    obtain ⟨ok⟩ := (rJ.strong hD).use
    have loopOk : ∀ (m i : Nat) (acc : List Pl.D) (st : Sto), Goes (k.w PP) E φ H (lcLoop itd tg tt te (wipeF fr vs) m i acc st) (fun acc φ' st' H' => ∀ D, LcEnd k PP H φ' st' H' acc D → Q (.ref D) H') → itd.ok st = true := fun m i acc st w => by
      cases m with
      | zero =>
        unfold lcLoop at w
        by_cases h : itd.ok st = true
        · exact h
        · rw [if_neg h] at w; exact False.elim w
      | succ m =>
        unfold lcLoop at w
        cases e : itd.at st i with
        | none => rw [e] at w; exact False.elim w
        | some d => exact at_ok e
    refine lc_it ok.walk (fun i H' => ∃ φ' st' acc us, Grow φ1 H1 φ' H' ∧ FrR (k.w (Ne PP D)) φ' H' (wipeF fr vs) (wipe σ vs) ∧ Sim (k.w (Ne PP D)) φ' st' H' ∧ D ∉ φ' ∧ H' D = some (.lst us) ∧ Reps (k.w (Ne PP D)) φ' H' acc us ∧
        Goes (k.w PP) E φ H (lcLoop itd tg tt te (wipeF fr vs) (itd.len - i) i acc st') fun acc φ' st' H' => ∀ D, LcEnd k PP H φ' st' H' acc D → Q (.ref D) H')
      ⟨φ1, st1, [], [], .new hD, (((hf.stay g1).strong hD).wipe vs).stay (.new hD), s1.start hD, s1.notin hD, upd_same, .nil, by simpa using w⟩
      (fun i H' hi ⟨φ', st', acc, us, g', f', s', n', o', r', w'⟩ => ok.stay φ' st' H' g' s' (loopOk _ _ _ _ w')) ?_ ?_
    · rintro i x H' Hb hi ⟨φ', st', acc, us, g', f', s', n', o', r', w'⟩ y
      have ei : itd.len - i = (itd.len - (i + 1)) + 1 := by omega
      rw [ei, lcLoop] at w'
      cases e : itd.at st' i with
      | none => rw [e] at w'; exact False.elim w'
      | some d =>
        rw [e] at w'
        dsimp only at w'
        obtain ⟨gb, sb, rb⟩ := ok.item φ' st' H' i d x Hb g' s' e y
        cases e2 : tg.go d (wipeF fr vs) with
        | none => rw [e2] at w'; exact False.elim w'
        | some fr1 =>
          rw [e2] at w'
          dsimp only at w'
          refine ⟨Ne PP D, φ', wipeF fr vs, st', d, f'.stay gb, sb, rb, fr1, e2, fun σ2 f2 so => ⟨(so vs hw).trans wipe_idem, ?_⟩⟩
          refine ⟨Ne PP D, φ', fr1, st', f2, sb, ?_⟩
          have oD : Hb D = some (.lst us) := gb.keep D _ n' o'
          cases e3 : tt fr1 st' with
          | bad => rw [e3] at w'; exact False.elim w'
          | exc _ _ _ => rw [e3] at w'; exact False.elim w'
          | ok b st2 =>
            rw [e3] at w'
            intro φ3 H3 g3 s3
            have oD3 : H3 D = some (.lst us) := g3.keep D _ n' oD
            have nD3 : D ∉ φ3 := g3.apart D _ n' oD
            cases b with
            | false =>
              dsimp only
              rw [if_neg Bool.false_ne_true]
              exact ⟨φ3, st2, acc, us, (g'.trans gb).trans g3, (f'.stay gb).stay g3, s3, nD3, oD3, (r'.stay gb).stay g3, w'⟩
            | true =>
              dsimp only
              rw [if_pos rfl]
              refine ⟨Ne PP D, φ3, fr1, st2, f2.stay g3, s3, ?_⟩
              dsimp only at w'
              cases e4 : te fr1 st2 with
              | bad => rw [e4] at w'; exact False.elim w'
              | exc _ _ _ => rw [e4] at w'; exact False.elim w'
              | ok z st4 =>
                rw [e4] at w'
                dsimp only at w'
                intro φ4 H4 g4 s4 zv rz
                have oD4 : H4 D = some (.lst us) := g4.keep D _ nD3 oD3
                have nD4 : D ∉ φ4 := g4.apart D _ nD3 oD3
                by_cases hl : acc.length < LIM
                · rw [if_pos hl] at w'
                  refine ⟨us, oD4, by rw [← r'.length]; exact lim_line_lt hl, φ4, st4, acc ++ [z], us ++ [zv], ?_, ?_, s4.updD oD4 nD4, nD4, upd_same, ?_, w'⟩
                  · exact (((g'.trans gb).trans g3).trans g4).updD hD
                  · exact ((((f'.stay gb).stay g3).stay g4)).updD oD4
                  · exact ((((r'.stay gb).stay g3).stay g4).append (.cons rz .nil)).updD oD4
                · rw [if_neg hl] at w'; exact False.elim w'
    · rintro H' ⟨φ', st', acc, us, g', f', s', n', o', r', w'⟩
      rw [Nat.sub_self, lcLoop] at w'
      by_cases h : itd.ok st' = true
      · rw [if_pos h] at w'
        exact w' φ' H' (g1.trans g') s'.loose D ⟨g1.none hD, n', s1.fresh D hD, ⟨us, o', r'⟩, s'⟩
      · rw [if_neg h] at w'; exact False.elim w'
theorem LcEnd.frz {H0 H' : Hp} {φ' : List Addr} {st' : Sto} {acc : List Pl.D} {D : Addr} (e : LcEnd k PP H0 φ' st' H' acc D) : Rep (k.w PP) φ' H' (.lst acc) (.ref D) := by
  obtain ⟨us, h, r⟩ := e.obj
  rw [Rep]
  exact ⟨D, us, rfl, ⟨e.out, e.pp, h⟩, r.loose⟩
theorem lcF {it : Si} {tg : Tg} {tt : Sh Bool} {te : Sh Pl.D} {vs : List Nat} {fr : Fr} {st : Sto} {Q : VK} (w : WD (k.w PP) E φ H (frzS (lcS it vs tg tt te) fr st) Q) : Goes (k.w PP) E φ H (lcS it vs tg tt te fr st) fun acc φ' st' H' => ∀ D, LcEnd k PP H φ' st' H' acc D → Q (.ref D) H' := by
  unfold frzS at w
  cases e : lcS it vs tg tt te fr st with
  | bad => rw [e] at w; exact False.elim w
  | exc n fs st' => rw [e] at w; exact w
  | ok acc st' =>
    rw [e] at w
    exact fun φ' H' g s D le => w φ' H' g s _ le.frz
theorem lcN {it : Si} {tg : Tg} {tt : Sh Bool} {te : Sh Pl.D} {vs : List Nat} {fr : Fr} {st : Sto} {Q : VK} (w : WD (k.w PP) E φ H (newS (lcS it vs tg tt te) fr st) Q) : Goes (k.w PP) E φ H (lcS it vs tg tt te fr st) fun acc φ' st' H' => ∀ D, LcEnd k PP H φ' st' H' acc D → Q (.ref D) H' := by
  unfold newS at w
  cases e : lcS it vs tg tt te fr st with
  | bad => rw [e] at w; exact False.elim w
  | exc n fs st' => rw [e] at w; exact w
  | ok acc st' =>
    rw [e] at w
    intro φ' H' g s D le
    obtain ⟨us, h, r⟩ := le.obj
    exact w (φ' ++ [D]) H' (g.addD le.new) (le.sim.addD h le.out le.pp r) _ (by rw [Rep]; exact ⟨D, by rw [← s.len]; simp, rfl⟩)
theorem pts_weak {es : List Expr} {t t' : TT} (h : PTs X es t) (w : ∀ σ H Q, t' σ H Q → t σ H Q) : PTs X es t' := ⟨fun pins s σ H Q I q => h.run pins s σ H Q I (w σ H Q q)⟩
theorem ts_nil : PTs X [] (tT k E yesS) := pts_weak pts_nil fun σ H Q ⟨PP, φ, fr, st, hf, hs, w⟩ => w.ok0 hs
theorem ts_one {c : Expr} {t : Sh Bool} (h : PT X c (tT k E t)) : PTs X [c] (tT k E t) := pts_one h
variable {elt tgt iter : Expr} {ifs : List Expr} {scope : Scope} {own : List (Str × Nat)} {pos : Pos} {it : Si} {tg : Tg} {tt : Sh Bool} {te : Sh Pl.D}
theorem e_lc (hc : X.calm = true) (hN : X.N.Nodup) (hi : PI X tgt iter (tI k E it)) (ok : BlkOk X.N X.env.scope scope own) (hw : ∀ i ∈ tg.ws, i ∈ own.map (·.2))
    (hg : ∀ (s : Shared) (H : Hp) (C : Addr) (cl : List (Str × Addr)) (fp : List Addr), PG (X.blk s H scope (compEnvC scope cl C X.env) fp) tgt (tG k tg)) (ht : ∀ (s : Shared) (H : Hp) (C : Addr) (cl : List (Str × Addr)) (fp : List Addr), PTs (X.blk s H scope (compEnvC scope cl C X.env) fp) ifs (tT k E0 tt))
    (he : ∀ (s : Shared) (H : Hp) (C : Addr) (cl : List (Str × Addr)) (fp : List Addr), PE (X.blk s H scope (compEnvC scope cl C X.env) fp) elt (tE k E0 te)) (hs : ∀ x, foldedSetIterable iter X.env x = pure x := by intro _; rfl) :
    PE X (.ListComp elt [⟨tgt, iter, ifs, 0⟩] scope pos) (tE k E (frzS (lcS it (own.map (·.2)) tg tt te))) :=
  pe_weak (pe_lc hc hN hi ok hg ht he hs) fun σ H Q ⟨PP, φ, fr, st, hf, hs, w⟩ => lc_go hw hf hs (lcF w)
theorem e_lcN (hc : X.calm = true) (hN : X.N.Nodup) (hi : PI X tgt iter (tI k E it)) (ok : BlkOk X.N X.env.scope scope own) (hw : ∀ i ∈ tg.ws, i ∈ own.map (·.2))
    (hg : ∀ (s : Shared) (H : Hp) (C : Addr) (cl : List (Str × Addr)) (fp : List Addr), PG (X.blk s H scope (compEnvC scope cl C X.env) fp) tgt (tG k tg)) (ht : ∀ (s : Shared) (H : Hp) (C : Addr) (cl : List (Str × Addr)) (fp : List Addr), PTs (X.blk s H scope (compEnvC scope cl C X.env) fp) ifs (tT k E0 tt))
    (he : ∀ (s : Shared) (H : Hp) (C : Addr) (cl : List (Str × Addr)) (fp : List Addr), PE (X.blk s H scope (compEnvC scope cl C X.env) fp) elt (tE k E0 te)) (hs : ∀ x, foldedSetIterable iter X.env x = pure x := by intro _; rfl) :
    PE X (.ListComp elt [⟨tgt, iter, ifs, 0⟩] scope pos) (tE k E (newS (lcS it (own.map (·.2)) tg tt te))) :=
  pe_weak (pe_lc hc hN hi ok hg ht he hs) fun σ H Q ⟨PP, φ, fr, st, hf, hs, w⟩ => lc_go hw hf hs (lcN w)
end
end Pl
set_option Elab.async false
set_option linter.all false
set_option maxRecDepth 100000
set_option maxHeartbeats 4000000
/-! P7g: promises of defs that also lean on there being no guard on the stack (so repr of lists and tuples can be shown). Turned from the library's own. -/
namespace Pg
open PySem PySem.Spec PyProof.Rows L2
structure RoomG (k : Nat) (A : Around) : Prop extends Room k A where
  gd : A.guards = some []
theorem RoomG.mono {j k : Nat} {A : Around} (r : RoomG k A) (h : j ≤ k) : RoomG j A := ⟨r.toRoom.mono h, r.gd⟩
theorem RoomG.deeper' {k : Nat} {A : Around} (r : RoomG (k + 1) A) (env : Env) : RoomG k (A.deeper env) := ⟨r.toRoom.deeper env, r.gd⟩
structure FnG (P : Program) (w : World) (K : PySem.W.Frag) (mg : Str → Option Value) (base : Heap) (CX : CXT) (k : Nat) (f : Addr) (fd : FuncData) (ps : List Str) (sp : Sp) : Prop where
  len : ∀ vs H Q E, sp vs H Q E → vs.length = ps.length
  run : ∀ (A : Around) (outer : List Env) (s : Shared) (H : Hp) (args : Args) (us : List Value) (vs : List V) (Q : VK) (E : XK), RoomG k A → Env0 P w K mg base A outer s H → BindsTo s fd args (ps.zip us) → Vals vs us → sp vs H Q E →
    codeAny (model P w) A (.call (.ref f) args) (CR CX outer P w H s Q E) s
theorem fnG_of {CX : CXT} {P : Program} {w : World} {K : PySem.W.Frag} {mg : Str → Option Value} {base : Heap} {k : Nat} {f : Addr} {name qual : Str} {params : Arguments} {body : List Stmt} {scope : Scope} {dV kV doc pm cdv ct oc : Value} {an od : Option Addr}
    {osl : Array (Option Value)} {N ps : List Str} {sp : Sp} (lk : K.lookup f = some ⟨oc, od, .func (PySem.W.fnOf name qual params body scope dV kV doc pm an cdv ct), osl⟩) (hcd : PySem.W.codeIn K cdv qual = true) (S : FnScope N ps scope)
    (len : ∀ vs H Q E, sp vs H Q E → vs.length = ps.length)
    (hbody : ∀ (A : Around) (outer : List Env) (s : Shared) (H : Hp) (vs : List V) (Q : VK) (E : XK), RoomG k (A.deeper (envOfC qual scope s.heap.objs.size f cdv)) → sp vs H Q E →
      ∃ t, PSs (cxOf CX P w K mg base N qual scope f cdv A outer s H E) body t ∧ t { nx := fun _ H' => Q .non H', rt := Q } (start N vs) H) :
    FnG P w K mg base CX (k + 1) f (PySem.W.fnOf name qual params body scope dV kV doc pm an cdv ct) ps sp := by
  refine ⟨len, fun A outer s H args us vs Q E hr e0 hb r hsp => ?_⟩
  have hl := len _ _ _ _ hsp
  have KX : K.In s.heap := e0.mod.kin.keeps fun b o e => (e0.bs b o e).1
  have lim : s.heap.NoLimit := e0.mod.nolimit.keeps fun b o e => (e0.bs b o e).1
  have hkind : ∀ y ∈ ps.zip us, scope.names.lookup y.1 = some .local ∨ (scope.names.lookup y.1 = some .cell ∧ ((cellsFrom (s.heap.objs.size + 1) scope.names []).lookup y.1).isSome = true) := fun ⟨n, v⟩ hy => by
    rcases S.par n (List.of_mem_zip hy).1 with q | q
    · exact .inl q
    · exact .inr ⟨q, PySem.W.cellsFrom_some _ _ _ (.inl q)⟩
  refine codeAny_call_function hr.depth (KX _ _ lk) rfl S.co S.gen rfl (PySem.W.codeRec_of KX hcd) (hb _ _ _ _ ?_)
  refine wpAny_newFunctionEnv_cells S.kind hkind fun env he s1 x => ?_
  subst he
  refine ⟨lim.keeps x.toInCall.keep, codeAny_func ?_⟩
  obtain ⟨t, ht, hq⟩ := hbody A outer s H vs Q E (hr.deeper' _) hsp
  have I : Inv (cxOf CX P w K mg base N qual scope f cdv A outer s H E) [] (start N vs) H s1 := inv_start S hr.hd e0 hl r x
  refine wpAny_mono (ht.run [] s1 (start N vs) H _ I hq) (fun fl s' hs => ?_) fun e s' hs => hs
  have fin : ∀ {σ' : L2.St} {H' : Hp} {v : V} {u : Value}, Inv (cxOf CX P w K mg base N qual scope f cdv A outer s H E) [] σ' H' s' → RelV v u → Q v H' → CE outer P w H s Q u s' :=
    fun {σ' H' v u} J rv q => ⟨v, H', J.os, J.bare, J.base, J.hok, rv, q⟩
  cases fl with
  | ret u =>
    obtain ⟨v, σ', H', J, rv, q⟩ := hs
    exact fin J rv q
  | next =>
    obtain ⟨σ', H', J, q⟩ := hs
    exact fin (v := V.non) (u := Value.none) J rfl q
  | brk =>
    obtain ⟨_, _, _, q⟩ := hs
    exact False.elim q
  | cont =>
    obtain ⟨_, _, _, q⟩ := hs
    exact False.elim q
section
variable {K : PySem.W.Frag} {P : Program} {w : World} {mg : Str → Option Value} {base : Heap} {f : Addr} {fd : FuncData} {x qual : Str} {params : Arguments} {body : List Stmt} {scope : Scope} {dvs : List V} {kws : List (Str × V)}
theorem okG {CX : CXT} {N ps : List Str} {k : Nat} {sp : Sp} (F : FunD K x qual params body scope dvs kws f fd) (S : FnScope N ps scope) (len : ∀ vs H Q E, sp vs H Q E → vs.length = ps.length)
    (hbody : ∀ (cdv : Value) (A : Around) (outer : List Env) (s : Shared) (H : Hp) (vs : List V) (Q : VK) (E : XK), RoomG k (A.deeper (envOfC qual scope s.heap.objs.size f cdv)) → sp vs H Q E →
      ∃ t, PSs (cxOf CX P w K mg base N qual scope f cdv A outer s H E) body t ∧ t { nx := fun _ H' => Q .non H', rt := Q } (start N vs) H) : FnG P w K mg base CX (k + 1) f fd ps sp := by
  obtain ⟨oc, od, dV, kV, doc, pm, an, cdv, ct, osl, rfl, lk, hcd, _, _⟩ := F.ex
  exact fnG_of lk hcd S len fun A outer s H vs Q E hr hsp => hbody cdv A outer s H vs Q E hr hsp
end
section
variable {X : Cx} {CX : CXT} {k : Nat} {f C : Addr} {fd : FuncData} {ps : List Str} {sp : Sp} {dvs : List V} {ds : List Value} {E : XK} {x m : Str} {p pos apos : Pos} {e o : Expr} {es : List Expr} {ta : TE} {t : TA}
theorem run_fnG {pins : List (Addr × Obj)} {σ : L2.St} {H : Hp} {s : Shared} {Q : VK} {us : List Value} {vs : List V} (F : FnG X.prog X.w X.K X.mg X.base CX k f fd ps sp) (hr : RoomG k X.A) (hb : Binds X.K fd ps ds) (hd : Vals dvs ds) (hx : Passes CX X E)
    (I : Inv X pins σ H s) (r : Vals vs us) (h : sp (vs ++ dvs) H Q E) : wpAny (model X.prog X.w) X.A (call (.ref f) us) (EP X pins σ Q) X.xe s := by
  have r2 : Vals (vs ++ dvs) (us ++ ds) := r.append hd
  have hl : (us ++ ds).length = ps.length := by rw [← r2.length]; exact F.len _ _ _ _ h
  refine wpAny_call (codeAny_mono (F.run X.A X.stack s H ⟨us, []⟩ (us ++ ds) (vs ++ dvs) Q E hr I.env0 (hb s us I.kIn hl) r2 h) fun r s' hq => ?_)
  cases r with
  | error e => exact hx pins σ H s e s' I hq
  | ok fl =>
    cases fl with
    | ret u => exact I.after hq
    | next => exact False.elim hq
    | brk => exact False.elim hq
    | cont => exact False.elim hq
theorem pe_callG (F : FnG X.prog X.w X.K X.mg X.base CX k f fd ps sp) (hr : RoomG k X.A) (hg : Gl X x) (hm : X.mg x = some (.ref f)) (hk : PySem.W.keepIn X.K (.ref f) = true) (hb : Binds X.K fd ps ds) (hd : Vals dvs ds) (hx : Passes CX X E)
    (ha : PA X (e :: es) t) (hdb : (x == ("__debug__" : Str)) = false := by decide) (he : starEach (e :: es) X.env = (false, eval e X.env) :: starEach es X.env := by rfl) (hpl : (backTo pos (starEach es X.env)).any (·.1) = false := by rfl) :
    PE X (.Call (.Name x p) (e :: es) [] pos) (tCall sp dvs E t) := by
  refine ⟨fun pins s σ H Q I h => ?_⟩
  refine wpAny_Call_Name_kw (ld_glob I hg hm ?_ hdb)
  refine PySem.W.callWith_K (h₀ := X.base) I.ok.mod.kin hk (thn (ha.run pos pins s σ H _ I h) fun us s1 ⟨vs, H1, I1, r, q⟩ => ⟨I1.kIn, ?_⟩) he hpl
  exact run_fnG F hr hb hd hx I1 r q
end
theorem law_callG {P : Program} {w : World} {K : PySem.W.Frag} {mg mb : Str → Option Value} {CX : CXT} {k : Nat} {fa a : Addr} {fd : FuncData} {x : Str} {sp : Sp} {s₁ : Shared} {vs : List Value} {ns : List Int}
    (KX : K.In s₁.heap) (hns : s₁.heap.Ns mainGlobals mg) (hb : s₁.heap.Ns builtinsNs mb) (hbb : ∀ x : Str, x ≠ "__name__" → mb x = bootBuiltins x) (hlim : s₁.heap.NoLimit) (hg : s₁.gens = #[])
    (ha : s₁.heap.get? a = some { cls := .type "list", data := .seq vs.toArray }) (hi : IntsAre vs ns) (hl : ns.length ≤ sizeLine) (hr : RoomG k callerA)
    (F : ∀ base : Heap, K.In base → base.Ns mainGlobals mg → FnG P w K mg base CX k fa fd [x] sp) (hbind : ∀ (s : Shared) (u : Value), BindsTo s fd ⟨[u], []⟩ [(x, u)])
    (hsp : ∀ H : Hp, Only H → SqL K H a (ns.map V.int) → sp [.ref a] H (fun v _ => v = .bl true) fun _ _ _ => False)
    (hCX : ∀ H e s', CX [] H s₁ (fun _ _ _ => False) e s' → False) :
    codeAny (model P w) callerA (.call (.ref fa) ⟨[.ref a], []⟩) (fun r s' => r = .ok (.ret (.bool true)) ∧ OldK s₁.heap s'.heap ∧ s'.os = s₁.os ∧ AllBare s'.gens) s₁ := by
  have rv := vals_ints hi
  have lenV := hi.length
  -- from an abstract heap in which nothing but the script may be tracked
  have core : ∀ H : Hp, Only H → SqL K H a (ns.map V.int) → HOk P w H s₁.heap → (∀ b, H b ≠ none → b = a) → (H a ≠ none → K.lookup a = none) →
      codeAny (model P w) callerA (.call (.ref fa) ⟨[.ref a], []⟩) (fun r s' => r = .ok (.ret (.bool true)) ∧ OldK s₁.heap s'.heap ∧ s'.os = s₁.os ∧ AllBare s'.gens) s₁ := by
    intro H hO hS hok hA hK
    have base_of : ∀ {b : Addr} {o : Obj}, s₁.heap.get? b = some o → H b = none → (hidT s₁.heap H).get? b = some o := fun e n => hidT_get e n
    have noA : ∀ {b : Addr} {o : Obj} {es : Array DictEntry} {ep : Nat}, s₁.heap.get? b = some o → o.data = .dict es ep → H b = none := fun {b o es ep} e d => by
      cases q : H b with
      | none => rfl
      | some u =>
        have e' : b = a := hA b (by rw [q]; simp)
        subst e'
        rw [ha] at e; cases e
        have d' : Data.seq vs.toArray _ = Data.dict es ep := d
        cases d'
    have nsK : ∀ {b : Addr} {m : Str → Option Value}, s₁.heap.Ns b m → (hidT s₁.heap H).Ns b m := fun {b m} ⟨o, es, ep, e, d, r⟩ => ⟨o, es, ep, base_of e (noA e d), d, r⟩
    have hKb : K.In (hidT s₁.heap H) := fun b o e => base_of (KX b o e) (by
      cases q : H b with
      | none => rfl
      | some u =>
        have e' : b = a := hA b (by rw [q]; simp)
        subst e'
        rw [hK (by rw [q]; simp)] at e; cases e)
    have hM : Mod K mg (hidT s₁.heap H) := ⟨hKb, nsK hns, ⟨mb, nsK hb, hbb⟩, let ⟨mc, h1, h2⟩ := hlim; ⟨mc, nsK h1, h2⟩⟩
    have e0 : Env0 P w K mg (hidT s₁.heap H) callerA [] s₁ H := ⟨rfl, hM, fun b o e => of_hidT e, Nat.le_of_eq (hidT_size _ _), trivial, fun b hb => absurd (show b ∈ ([] : List Addr) from hb) (by simp), hok, .of_eq hg⟩
    refine codeAny_mono ((F _ hKb (nsK hns)).run callerA [] s₁ H ⟨[.ref a], []⟩ [.ref a] [.ref a] _ _ hr e0 (hbind s₁ (.ref a)) (.cons rfl .nil) (hsp H hO hS)) fun r s' h => ?_
    cases r with
    | error e => exact (hCX H e s' h).elim
    | ok fl =>
      cases fl with
      | next => exact False.elim h
      | brk => exact False.elim h
      | cont => exact False.elim h
      | ret u =>
        obtain ⟨v, H', os, bare, un, hok', r', q⟩ := h
        have q' : v = .bl true := q
        subst q'
        obtain rfl : u = Value.bool true := r'
        refine ⟨rfl, OldK.of_keep fun b o e => ?_, os, bare⟩
        cases q : H b with
        | none => exact un.keep b o e q (by intro z; exact absurd (show b ∈ ([] : List Addr) from z) (by simp)) (by simp)
        | some u =>
          rcases hO b with z | ⟨ob, xs, z⟩
          · rw [q] at z; cases z
          · have z2 := un.frzs b ob _ z
            obtain ⟨e1, _⟩ := hok b _ z
            obtain ⟨e2, _⟩ := hok' b _ z2
            rw [e] at e1; cases e1
            exact e2
  cases hk : K.lookup a with
  | some o =>
    -- the script is one of the module's own objects
    have e := KX a o hk
    rw [ha] at e
    cases e
    refine core (fun _ => none) (fun _ => .inl rfl) (.inr ⟨_, vs.toArray, _, hk, rfl, rfl, rfl, by rw [List.size_toArray, lenV]; exact hl, by simpa using rv⟩) (fun b u z => by have z' : (none : Option HO) = some u := z; cases z') (fun b z => absurd rfl z) fun z => absurd rfl z
  | none =>
    refine core (fun b => if b = a then some (.frz { cls := .type "list", data := .seq vs.toArray } (.lst (ns.map V.int))) else none) (fun b => ?_) (.inl (.inr ⟨{ cls := .type "list", data := .seq vs.toArray }, if_pos rfl⟩)) (fun b u z => ?_) (fun b z => ?_) fun _ => hk
    · by_cases hb : b = a
      · exact .inr ⟨_, _, if_pos hb⟩
      · exact .inl (if_neg hb)
    · by_cases hb : b = a
      · have z' := (if_pos hb).symm.trans z
        cases z'
        subst hb
        exact ⟨ha, by rw [List.length_map]; exact hl, vs, _, rv, ha⟩
      · have z' := (if_neg hb).symm.trans z
        cases z'
    · by_cases hb : b = a
      · exact hb
      · exact absurd (if_neg hb) z
theorem walk_ofEG {l : PySem.W.OpenLaw} {n k : Nat} {q : Program} {loose : List Str} {XP : (Str → Option Value) → Heap → Prop} {YP : World → Heap → Prop} {d : DefRec} {CX : CXT} {x : Str}
    (hn : l.most = some n) (hn2 : n ≤ sizeLine) (hdf : d.params.defaults = []) (hr : RoomG k callerA)
    (F : ∀ (w : World) (mg : Str → Option Value) (fa : Addr) (h : Heap), YP w h → h.Ns mainGlobals mg → mg d.name = some (.ref fa) →
      ∃ (K : PySem.W.Frag) (fd : FuncData) (sp : Sp), K.In h ∧ (∀ (s : Shared) (u : Value), BindsTo s fd ⟨[u], []⟩ [(x, u)]) ∧
        (∀ (H : Hp) (a : Addr) (ns : List Int), ns.length ≤ n → Only H → SqL K H a (ns.map V.int) → sp [.ref a] H (fun v _ => v = .bl true) fun _ _ _ => False) ∧
        ∀ base : Heap, K.In base → base.Ns mainGlobals mg → FnG l.prog w K mg base CX k fa fd [x] sp)
    (hCX : ∀ (H : Hp) (s : Shared) (e : Value) (s' : Shared), CX [] H s (fun _ _ _ => False) e s' → False) :
    PySem.W.WalkO q loose XP YP l.row.toRowW d [] (fun f vs => PySem.call f vs) := by
  refine Att.attach_call hn hdf fun w s₀ s₁ mg mb fa o pm cd doc a vs ns G Y ho hd hcd hmg hobj hints hlen hg => ?_
  obtain ⟨K, fd, sp, KX, hb, hsp, hF⟩ := F w mg fa _ Y G.T.g hmg
  exact law_callG KX G.T.g G.T.b G.T.builtins G.T.nolimit hg hobj hints (Nat.le_trans hlen hn2) hr hF hb (fun H hO hS => hsp H a ns hlen hO hS) fun H e s' => hCX H s₁ e s'
end Pg
set_option Elab.async false
set_option linter.all false
set_option maxRecDepth 100000
set_option maxHeartbeats 2000000
namespace Pl
open PySem PySem.Spec PyProof.Rows L2 Pg
/-! ### leaving a def: what it made becomes data -/
def FUEL : Nat := 40
def res (n : Nat) (st : Sto) : Nat → D → Option D
  | 0, _ => none
  | f + 1, d => match d with
    | .tup ds => (ds.mapM (res n st f)).map .tup
    | .lst ds => (ds.mapM (res n st f)).map .lst
    | .ref i => if i < n then some (.ref i) else match st[i]? with
      | some (.lst ds) => (ds.mapM (res n st f)).map .lst
      | none => none
    | d => some d
def resC (n : Nat) (st : Sto) : Cell → Option Cell
  | .lst ds => (ds.mapM (res n st FUEL)).map .lst
def finD (st : Sto) (d : D) (st' : Sto) : Re D := if st'.length = st.length then .ok d st' else match res st.length st' FUEL d, (st'.take st.length).mapM (resC st.length st') with
  | some d', some st'' => .ok d' st''
  | _, _ => .bad
def startF (N : Nat) (ds : List D) : Fr := ds.map some ++ List.replicate (N - ds.length) none
abbrev Fn := List D → Sto → Re D
/-- a def's body as a function; nothing is raised -/
def fnF (N : Nat) (body : Sm) : Fn := fun ds st => match body (startF N ds) st with
  | .nx _ st' => finD st .non st'
  | .rt d st' => finD st d st'
  | _ => .bad
def spM (k : Kc) (n : Nat) (F : Fn) : Sp := fun vs H Q _ => vs.length = n ∧ ∃ PP φ ds st, Sim (k.w PP) φ st H ∧ Reps (k.w PP) φ H ds vs ∧ WD (k.w PP) E0 φ H (F ds st) Q
section
variable {c : Ctx} {k : Kc} {E : XK} {X : Cx} {σ : L2.St} {H : Hp} {φ : List Addr}
theorem mapM_ok {α β : Type} {f : α → Option β} : ∀ {xs : List α} {ys : List β}, xs.mapM f = some ys → ys.length = xs.length ∧ ∀ (i : Nat) (y : β), ys[i]? = some y → ∃ x, xs[i]? = some x ∧ f x = some y
  | [], ys, h => by
    simp at h
    subst h
    simp
  | x :: xs, ys, h => by
    rw [List.mapM_cons] at h
    obtain ⟨y, e1, h⟩ := Option.bind_eq_some_iff.mp h
    obtain ⟨zs, e2, h⟩ := Option.bind_eq_some_iff.mp h
    cases h
    obtain ⟨l, g⟩ := mapM_ok e2
    refine ⟨by simp [l], fun i z e => ?_⟩
    cases i with
    | zero => simp at e; subst e; exact ⟨x, rfl, e1⟩
    | succ i => exact g i z (by simpa using e)
theorem mapM_reps {f : D → Option D} {φ' : List Addr} (hf : ∀ d d' v, f d = some d' → Rep c φ H d v → Rep c φ' H d' v) : ∀ {ds es : List D} {vs : List V}, ds.mapM f = some es → Reps c φ H ds vs → Reps c φ' H es vs
  | [], es, vs, h, r => by
    simp at h
    subst h
    rw [r.inv_nil]; exact .nil
  | d :: ds, es, vs, h, r => by
    rw [List.mapM_cons] at h
    obtain ⟨y, e1, h⟩ := Option.bind_eq_some_iff.mp h
    obtain ⟨zs, e2, h⟩ := Option.bind_eq_some_iff.mp h
    cases h
    obtain ⟨v, ws, rfl, h1, h2⟩ := r.inv_cons
    exact .cons (hf d y v e1 h1) (mapM_reps hf e2 h2)
theorem notin_take {n i : Nat} {a : Addr} (nd : φ.Nodup) (h : φ[i]? = some a) (hn : ¬ i < n) : a ∉ φ.take n := fun hm => by
  obtain ⟨j, hj, e⟩ := List.getElem_of_mem hm
  have hj2 : j < n := by have := hj; simp at this; omega
  have hj3 : j < φ.length := by have := hj; simp at this; omega
  obtain ⟨hi, e2⟩ := List.getElem?_eq_some_iff.mp h
  rw [List.getElem_take] at e
  have := (List.getElem_inj nd).mp (e.trans e2.symm)
  omega
theorem res_ok {st : Sto} {n : Nat} (s : Sim c φ st H) : ∀ (f : Nat) (d d' : D) (v : V), res n st f d = some d' → Rep c φ H d v → Rep c (φ.take n) H d' v
  | 0, _, _, _, h, _ => by cases h
  | f + 1, d, d', v, h, r => by
    have ih := res_ok (n := n) s f
    have sub : ∀ a, a ∉ φ → a ∉ φ.take n := fun a ha hm => ha (List.mem_of_mem_take hm)
    cases d with
    | non => cases h; rw [Rep] at r ⊢; exact r
    | bl b => cases h; rw [Rep] at r ⊢; exact r
    | int b => cases h; rw [Rep] at r ⊢; exact r
    | str b => cases h; rw [Rep] at r ⊢; exact r
    | ty b => cases h; rw [Rep] at r ⊢; exact r
    | tup ds =>
      obtain ⟨es, e, rfl⟩ := Option.map_eq_some_iff.mp (show (ds.mapM (res n st f)).map .tup = some d' from h)
      rw [Rep] at r ⊢
      obtain ⟨a, xs, e2, h1, h2⟩ := r
      refine ⟨a, xs, e2, ?_, mapM_reps ih e h2⟩
      rcases h1 with ⟨h1, h3⟩ | h1
      · exact .inl ⟨sub a h1, h3⟩
      · exact .inr h1
    | lst ds =>
      obtain ⟨es, e, rfl⟩ := Option.map_eq_some_iff.mp (show (ds.mapM (res n st f)).map .lst = some d' from h)
      rw [Rep] at r ⊢
      obtain ⟨a, xs, e2, ⟨h1, h3, h4⟩, h2⟩ := r
      exact ⟨a, xs, e2, ⟨sub a h1, h3, h4⟩, mapM_reps ih e h2⟩
    | scr ns =>
      cases h
      rw [Rep] at r ⊢
      obtain ⟨a, e2, h1⟩ := r
      refine ⟨a, e2, ?_⟩
      rcases h1 with ⟨h1, h3, h4⟩ | h1
      · exact .inl ⟨sub a h1, h3, h4⟩
      · exact .inr h1
    | ref i =>
      have h : (if i < n then some (D.ref i) else match st[i]? with
        | some (.lst ds) => (ds.mapM (res n st f)).map .lst
        | none => none) = some d' := h
      rw [Rep] at r
      obtain ⟨a, h1, rfl⟩ := r
      by_cases hi : i < n
      · rw [if_pos hi] at h
        cases h
        rw [Rep]
        exact ⟨a, by rw [List.getElem?_take_of_lt hi]; exact h1, rfl⟩
      · rw [if_neg hi] at h
        cases q : st[i]? with
        | none => rw [q] at h; cases h
        | some kk =>
          cases kk with
          | lst ds =>
            rw [q] at h
            obtain ⟨es, e, rfl⟩ := Option.map_eq_some_iff.mp (show (ds.mapM (res n st f)).map .lst = some d' from h)
            obtain ⟨a', xs, h2, hm, h3, h4⟩ := s.at q
            rw [h1] at h2; cases h2
            rw [Rep]
            exact ⟨a, xs, rfl, ⟨notin_take s.nd h1 hi, s.pp a hm, h3⟩, mapM_reps ih e h4⟩
theorem Sim.fin {st st'' : Sto} {n : Nat} (s : Sim c φ st H) (e : (st.take n).mapM (resC n st) = some st'') : Sim c (φ.take n) st'' H := by
  obtain ⟨l, g⟩ := mapM_ok e
  refine ⟨by rw [l]; simp [s.len], s.nd.sublist (List.take_sublist _ _), fun i a kk h1 h2 => ?_, fun a ha => s.pp a (List.mem_of_mem_take ha), s.fresh⟩
  obtain ⟨k0, e1, e2⟩ := g i kk h2
  have hi : i < n := by
    have := (List.getElem?_eq_some_iff.mp e1).1
    simp at this; omega
  rw [List.getElem?_take_of_lt hi] at e1 h1
  cases k0 with
  | lst ds =>
    obtain ⟨xs, o, r⟩ := s.cells i a _ h1 e1
    obtain ⟨es, e3, rfl⟩ := Option.map_eq_some_iff.mp (show (ds.mapM (res n st FUEL)).map .lst = some kk from e2)
    exact ⟨xs, o, mapM_reps (res_ok s FUEL) e3 r⟩
/-- behind a body -/
theorem fin_go {st st' : Sto} {d : D} {Q : VK} (w : WD c E φ H (finD st d st') Q) (hl : φ.length = st.length) : ∀ φ' H' v, Grow φ H φ' H' → Sim c φ' st' H' → Rep c φ' H' d v → Q v H' := fun φ' H' v g s r => by
  unfold finD at w
  by_cases h : st'.length = st.length
  · rw [if_pos h] at w
    exact w φ' H' g s v r
  · rw [if_neg h] at w
    cases e1 : res st.length st' FUEL d with
    | none => rw [e1] at w; exact False.elim w
    | some d' =>
      cases e2 : (st'.take st.length).mapM (resC st.length st') with
      | none => rw [e1, e2] at w; exact False.elim w
      | some st'' =>
        rw [e1, e2] at w
        have ep : φ'.take st.length = φ := by
          obtain ⟨ψ, e, _⟩ := g.pre
          rw [e, ← hl]
          simp
        have s2 := s.fin e2
        have r2 := res_ok (n := st.length) s FUEL d d' v e1 r
        rw [ep] at s2 r2
        exact w φ H' ⟨⟨[], by simp, by simp⟩, g.keep, g.live⟩ s2 v r2
theorem startF_ok {N : List Str} {ds : List D} {vs : List V} (r : Reps c φ H ds vs) : FrR c φ H (startF N.length ds) (L2.start N vs) := by
  unfold startF L2.start
  refine ⟨by simp [r.length], fun i d e => ?_⟩
  by_cases hi : i < ds.length
  · rw [List.getElem?_append_left (by simpa using hi), List.getElem?_map] at e
    obtain ⟨d', e1, e2⟩ := Option.map_eq_some_iff.mp e
    cases e2
    obtain ⟨v, e3, r3⟩ := r.get e1
    exact ⟨v, by rw [List.getElem?_append_left (by rw [List.length_map, ← r.length]; exact hi), List.getElem?_map, e3]; rfl, r3⟩
  · rw [List.getElem?_append_right (by simpa using hi), List.getElem?_replicate] at e
    split at e <;> cases e
/-- THE RULE of a def that raises nothing -/
theorem fn_ok {P : Program} {w : World} {K : PySem.W.Frag} {mg : Str → Option Value} {base : Heap} {x qual : Str} {params : Arguments} {body : List Stmt} {scope : Scope} {dvs : List V} {kws : List (Str × V)} {f : Addr} {fd : FuncData} {N ps : List Str} {lv : Nat} {xc : Str → Addr} {m : Sm}
    (F : FunD K x qual params body scope dvs kws f fd) (S : FnScope N ps scope)
    (hb : ∀ (cdv : Value) (A : Around) (outer : List Env) (s : Shared) (H : Hp) (E : XK), RoomG lv (A.deeper (envOfC qual scope s.heap.objs.size f cdv)) → PSs (cxOf CX0 P w K mg base N qual scope f cdv A outer s H E).nox body (tS ⟨K, xc⟩ E0 m)) :
    FnG P w K mg base CX0 (lv + 1) f fd ps (spM ⟨K, xc⟩ ps.length (fnF N.length m)) :=
  okG F S (fun vs H Q E h => h.1) fun cdv A outer s H vs Q E hr ⟨hl, PP, φ, ds, st, hs, r, w⟩ => ⟨_, PSs.nox (hb cdv A outer s H E hr), PP, φ, startF N.length ds, st, startF_ok r, hs, by
    unfold fnF at w
    cases e : m (startF N.length ds) st with
    | nx fr st' =>
      rw [e] at w
      exact fun φ' H' σ' g s' f' => fin_go w hs.len φ' H' .non g s' .mkNon
    | rt d st' =>
      rw [e] at w
      exact fun φ' H' v g s' r' => fin_go w hs.len φ' H' v g s' r'
    | _ => rw [e] at w; exact False.elim w⟩

/-! ### calls -/
def noLst : Nat → D → Bool
  | 0, _ => false
  | f + 1, d => match d with
    | .tup ds => ds.all (noLst f)
    | .lst _ => false
    | .scr _ => false
    | .ref _ => false
    | _ => true
def hasRef : Nat → D → Bool
  | 0, _ => true
  | f + 1, d => match d with
    | .tup ds => ds.any (hasRef f)
    | .lst ds => ds.any (hasRef f)
    | .ref _ => true
    | _ => false
def noX {α : Type} (r : Re α) : Re α := match r with
  | .ok a st => .ok a st
  | _ => .bad
/-- the arguments as they are; the store goes with them -/
def callM (F : Fn) (dfl : List D) (m : Sh (List D)) : Sh D := fun fr st => (m fr st).bind fun ds st1 => noX (F (ds ++ dfl) st1)
/-- the arguments as data; the store stays -/
def runP (F : Fn) (b : Bool) (ds : List D) (st : Sto) : Re D := match F ds [] with
  | .ok d [] => if b && !noLst FUEL d then .bad else .ok d st
  | _ => .bad
def callP (F : Fn) (dfl : List D) (m : Sh (List D)) : Sh D := fun fr st => (m fr st).bind fun ds st1 => match st1 with
  | [] => noX (F (ds ++ dfl) [])
  | _ => if ds.any (hasRef FUEL) then (match ds.mapM (res 0 st1 FUEL) with
    | some es => runP F true (es ++ dfl) st1
    | none => .bad) else runP F false (ds ++ dfl) st1
theorem noX_ok {α : Type} {r : Re α} {kk : α → List Addr → Sto → Hp → Prop} (h : Goes c E φ H (noX r) kk) : Goes c E0 φ H r kk := by
  cases r with
  | ok a st => exact h
  | exc _ _ _ => exact False.elim h
  | bad => exact False.elim h
mutual
theorem rep_flat {k : Kc} {PP PP0 : Addr → Prop} {φ : List Addr} {H : Hp} {st : Sto} (s : Sim (k.w PP) φ st H) : ∀ (f : Nat) (d : D) (v : V), noLst f d = true → Rep (k.w PP0) [] H d v → Rep (k.w PP) φ H d v
  | 0, _, _, h, _ => by cases h
  | f + 1, .non, _, h, r => by rw [Rep] at r ⊢; exact r
  | f + 1, .bl _, _, h, r => by rw [Rep] at r ⊢; exact r
  | f + 1, .int _, _, h, r => by rw [Rep] at r ⊢; exact r
  | f + 1, .str _, _, h, r => by rw [Rep] at r ⊢; exact r
  | f + 1, .ty _, _, h, r => by rw [Rep] at r ⊢; exact r
  | f + 1, .tup ds, _, h, r => by
    rw [Rep] at r ⊢
    obtain ⟨a, xs, e, h1, h2⟩ := r
    refine ⟨a, xs, e, ?_, reps_flat s f ds xs (show ds.all (noLst f) = true from h) h2⟩
    rcases h1 with ⟨_, h3⟩ | h1
    · refine .inl ⟨fun hm => ?_, h3⟩
      obtain ⟨i, hi, rfl⟩ := List.getElem_of_mem hm
      have h4 : i < st.length := by rw [← s.len]; exact hi
      have h5 := s.cells i φ[i] st[i] (List.getElem?_eq_getElem hi) (List.getElem?_eq_getElem h4)
      cases q : st[i] with
      | lst es =>
        rw [q] at h5
        obtain ⟨us, e5, _⟩ := h5
        exact rd_ne h3 e5 rfl
    · exact .inr h1
  | f + 1, .lst _, _, h, _ => by cases h
  | f + 1, .scr _, _, h, _ => by cases h
  | f + 1, .ref _, _, h, _ => by cases h
theorem reps_flat {k : Kc} {PP PP0 : Addr → Prop} {φ : List Addr} {H : Hp} {st : Sto} (s : Sim (k.w PP) φ st H) : ∀ (f : Nat) (ds : List D) (vs : List V), ds.all (noLst f) = true → Reps (k.w PP0) [] H ds vs → Reps (k.w PP) φ H ds vs
  | f, [], _, h, r => by rw [Reps] at r ⊢; exact r
  | f, d :: ds, _, h, r => by
    rw [Reps] at r ⊢
    obtain ⟨v, ws, e, h1, h2⟩ := r
    rw [List.all_cons, Bool.and_eq_true] at h
    exact ⟨v, ws, e, rep_flat s f d v h.1 h1, reps_flat s f ds ws h.2 h2⟩
end
abbrev Out (PP : Addr → Prop) (φ : List Addr) : Addr → Prop := fun a => PP a ∧ a ∉ φ
theorem tup_out {k : Kc} {PP : Addr → Prop} {φ : List Addr} {H : Hp} {st : Sto} {a : Addr} {xs : List V} (s : Sim (k.w PP) φ st H) (h3 : Rd H a (.tup xs)) : a ∉ φ := fun hm => by
  obtain ⟨i, hi, rfl⟩ := List.getElem_of_mem hm
  have h4 : i < st.length := by rw [← s.len]; exact hi
  have h5 := s.cells i φ[i] st[i] (List.getElem?_eq_getElem hi) (List.getElem?_eq_getElem h4)
  cases q : st[i] with
  | lst es =>
    rw [q] at h5
    obtain ⟨us, e5, _⟩ := h5
    exact rd_ne h3 e5 rfl
mutual
theorem rep_in {k : Kc} {PP : Addr → Prop} {φ : List Addr} {H : Hp} : ∀ (f : Nat) (d : D) (v : V), hasRef f d = false → Rep (k.w PP) φ H d v → Rep (k.w (Out PP φ)) [] H d v
  | 0, _, _, h, _ => by cases h
  | f + 1, .non, _, h, r => by rw [Rep] at r ⊢; exact r
  | f + 1, .bl _, _, h, r => by rw [Rep] at r ⊢; exact r
  | f + 1, .int _, _, h, r => by rw [Rep] at r ⊢; exact r
  | f + 1, .str _, _, h, r => by rw [Rep] at r ⊢; exact r
  | f + 1, .ty _, _, h, r => by rw [Rep] at r ⊢; exact r
  | f + 1, .tup ds, _, h, r => by
    rw [Rep] at r ⊢
    obtain ⟨a, xs, e, h1, h2⟩ := r
    refine ⟨a, xs, e, ?_, reps_in f ds xs (show ds.any (hasRef f) = false from h) h2⟩
    rcases h1 with ⟨h1, h3⟩ | h1
    · exact .inl ⟨by simp, h3⟩
    · exact .inr h1
  | f + 1, .lst ds, _, h, r => by
    rw [Rep] at r ⊢
    obtain ⟨a, xs, e, ⟨h1, h3, h4⟩, h2⟩ := r
    exact ⟨a, xs, e, ⟨by simp, ⟨h3, h1⟩, h4⟩, reps_in f ds xs (show ds.any (hasRef f) = false from h) h2⟩
  | f + 1, .scr _, _, h, r => by
    rw [Rep] at r ⊢
    obtain ⟨a, e, h1⟩ := r
    refine ⟨a, e, ?_⟩
    rcases h1 with ⟨h1, h3, h4⟩ | h1
    · exact .inl ⟨by simp, ⟨h3, h1⟩, h4⟩
    · exact .inr h1
  | f + 1, .ref _, _, h, _ => by cases h
theorem reps_in {k : Kc} {PP : Addr → Prop} {φ : List Addr} {H : Hp} : ∀ (f : Nat) (ds : List D) (vs : List V), ds.any (hasRef f) = false → Reps (k.w PP) φ H ds vs → Reps (k.w (Out PP φ)) [] H ds vs
  | f, [], _, h, r => by rw [Reps] at r ⊢; exact r
  | f, d :: ds, _, h, r => by
    rw [Reps] at r ⊢
    obtain ⟨v, ws, e, h1, h2⟩ := r
    rw [List.any_cons, Bool.or_eq_false_iff] at h
    exact ⟨v, ws, e, rep_in f d v h.1 h1, reps_in f ds ws h.2 h2⟩
end
mutual
theorem rep_back {k : Kc} {PP : Addr → Prop} {φ : List Addr} {H : Hp} {st : Sto} (s : Sim (k.w PP) φ st H) : ∀ (d : D) (v : V), Rep (k.w (Out PP φ)) [] H d v → Rep (k.w PP) φ H d v
  | .non, _, r => by rw [Rep] at r ⊢; exact r
  | .bl _, _, r => by rw [Rep] at r ⊢; exact r
  | .int _, _, r => by rw [Rep] at r ⊢; exact r
  | .str _, _, r => by rw [Rep] at r ⊢; exact r
  | .ty _, _, r => by rw [Rep] at r ⊢; exact r
  | .tup ds, _, r => by
    rw [Rep] at r ⊢
    obtain ⟨a, xs, e, h1, h2⟩ := r
    refine ⟨a, xs, e, ?_, reps_back s ds xs h2⟩
    rcases h1 with ⟨_, h3⟩ | h1
    · exact .inl ⟨tup_out s h3, h3⟩
    · exact .inr h1
  | .lst ds, _, r => by
    rw [Rep] at r ⊢
    obtain ⟨a, xs, e, ⟨h1, h3, h4⟩, h2⟩ := r
    exact ⟨a, xs, e, ⟨h3.2, h3.1, h4⟩, reps_back s ds xs h2⟩
  | .scr _, _, r => by
    rw [Rep] at r ⊢
    obtain ⟨a, e, h1⟩ := r
    refine ⟨a, e, ?_⟩
    rcases h1 with ⟨h1, h3, h4⟩ | h1
    · exact .inl ⟨h3.2, h3.1, h4⟩
    · exact .inr h1
  | .ref i, _, r => by
    rw [Rep] at r
    obtain ⟨a, e, _⟩ := r
    simp at e
theorem reps_back {k : Kc} {PP : Addr → Prop} {φ : List Addr} {H : Hp} {st : Sto} (s : Sim (k.w PP) φ st H) : ∀ (ds : List D) (vs : List V), Reps (k.w (Out PP φ)) [] H ds vs → Reps (k.w PP) φ H ds vs
  | [], _, r => by rw [Reps] at r ⊢; exact r
  | d :: ds, _, r => by
    rw [Reps] at r ⊢
    obtain ⟨v, ws, e, h1, h2⟩ := r
    exact ⟨v, ws, e, rep_back s d v h1, reps_back s ds ws h2⟩
end
theorem Sim.empty {k : Kc} {PP PP0 : Addr → Prop} {st : Sto} (s : Sim (k.w PP) φ st H) (h : ∀ a, H a = none → PP0 a) : Sim (k.w PP0) [] [] H := ⟨rfl, by simp, fun i a kk e => by simp at e, fun a ha => by simp at ha, h⟩
/-- the store is as it was behind a call that had no part of it -/
theorem Sim.kept {k : Kc} {PP : Addr → Prop} {st : Sto} {H' : Hp} (s : Sim (k.w PP) φ st H) (g : ∀ (a : Addr) (o : HO), H a = some o → H' a = some o) : Sim (k.w PP) φ st H' := ⟨s.len, s.nd, fun i a kk h1 h2 => by
  obtain ⟨o, e⟩ := s.has (List.mem_of_getElem? h1)
  exact (s.cells i a kk h1 h2).stay (.same g) (by rw [g a o e, e]), s.pp, fun a ha => s.fresh a (by
    cases q : H a with
    | none => rfl
    | some o => rw [g a o q] at ha; cases ha)⟩
theorem runP_ok {k : Kc} {PP : Addr → Prop} {st : Sto} {F : Fn} {b : Bool} {ds : List D} {vs : List V} {n : Nat} {Q : VK} (s : Sim (k.w PP) φ st H) (hl : vs.length = n)
    (r : (b = false ∧ Reps (k.w (Out PP φ)) [] H ds vs) ∨ (b = true ∧ Reps (k.w PP) [] H ds vs)) (w : WD (k.w PP) E φ H (runP F b ds st) Q) : spM k n F vs H Q E0 := by
  unfold runP at w
  cases e : F ds [] with
  | bad => rw [e] at w; exact False.elim w
  | exc _ _ _ => rw [e] at w; exact False.elim w
  | ok d st' =>
    rw [e] at w
    cases st' with
    | cons _ _ => exact False.elim w
    | nil =>
      have w : WD (k.w PP) E φ H (if (b && !noLst FUEL d) = true then .bad else .ok d st) Q := w
      have same : ∀ {φ' : List Addr} {H' : Hp}, Grow [] H φ' H' → ∀ (a : Addr) (o : HO), H a = some o → H' a = some o := fun g a o e => g.keep a o (by simp) e
      rcases r with ⟨rfl, r⟩ | ⟨rfl, r⟩
      · refine ⟨hl, Out PP φ, [], ds, [], s.empty fun a ha => ⟨s.fresh a ha, s.notin ha⟩, r, ?_⟩
        rw [e]
        intro φ' H' g s' v rv
        have e' : φ' = [] := List.eq_nil_of_length_eq_zero s'.len
        subst e'
        have sk := s.kept (same g)
        exact w φ H' (.same (same g)) sk v (rep_back sk d v rv)
      · refine ⟨hl, PP, [], ds, [], s.empty s.fresh, r, ?_⟩
        rw [e]
        intro φ' H' g s' v rv
        have e' : φ' = [] := List.eq_nil_of_length_eq_zero s'.len
        subst e'
        have sk := s.kept (same g)
        by_cases hn : noLst FUEL d = true
        · rw [hn] at w
          exact w φ H' (.same (same g)) sk v (rep_flat sk FUEL d v hn rv)
        · rw [Bool.not_eq_true] at hn
          rw [hn] at w
          exact False.elim w
variable {CX : CXT} {f : Addr} {fd : FuncData} {ps : List Str} {x : Str} {p pos : Pos} {e : Expr} {es : List Expr} {F : Fn} {dvs : List V} {dds : List D} {bds : List Value} {lv : Nat} {m : Sh (List D)}
theorem Reps.const {dvs : List V} {dds : List D} (h : ∀ c φ H, Reps c φ H dds dvs) : Reps c φ H dds dvs := h c φ H
/-- f(e, ..) of a def of the module that raises nothing, the store with it -/
theorem e_callM (G : FnG X.prog X.w X.K X.mg X.base CX0 lv f fd ps (spM k ps.length F)) (hr : RoomG lv X.A) (hg : Gl X x) (hm : X.mg x = some (.ref f)) (hk : PySem.W.keepIn X.K (.ref f) = true) (hb : Binds X.K fd ps bds) (hd : Vals dvs bds) (hdd : ∀ c φ H, Reps c φ H dds dvs)
    (hn : (e :: es).length + dvs.length = ps.length) (ha : PA X (e :: es) (tL k E m)) (hlen : ∀ fr st ds st', m fr st = .ok ds st' → ds.length = (e :: es).length) (hdb : (x == ("__debug__" : Str)) = false := by decide) (he : starEach (e :: es) X.env = (false, eval e X.env) :: starEach es X.env := by rfl) (hpl : (backTo pos (starEach es X.env)).any (·.1) = false := by rfl) :
    PE X (.Call (.Name x p) (e :: es) [] pos) (tE k E (callM F dds m)) :=
  pe_weak (pe_callG G hr hg hm hk hb hd (pass0 (X := X)) ha hdb he hpl) fun σ H Q ⟨PP, φ, fr, st, hf, hs, w⟩ => by
    unfold callM at w
    refine ⟨PP, φ, fr, st, hf, hs, ?_⟩
    cases e1 : m fr st with
    | bad => rw [e1] at w; exact False.elim w
    | exc n fs st' => rw [e1] at w; exact w
    | ok ds st1 =>
      rw [e1] at w
      intro φ1 H1 g1 s1 vs r1
      refine ⟨?_, PP, φ1, ds ++ dds, st1, s1, r1.append (hdd _ _ _), noX_ok (Goes.mono w g1)⟩
      rw [List.length_append, ← r1.length, hlen _ _ _ _ e1, hn]
/-- .. the arguments as data -/
theorem e_callP (G : FnG X.prog X.w X.K X.mg X.base CX0 lv f fd ps (spM k ps.length F)) (hr : RoomG lv X.A) (hg : Gl X x) (hm : X.mg x = some (.ref f)) (hk : PySem.W.keepIn X.K (.ref f) = true) (hb : Binds X.K fd ps bds) (hd : Vals dvs bds) (hdd : ∀ c φ H, Reps c φ H dds dvs)
    (hn : (e :: es).length + dvs.length = ps.length) (ha : PA X (e :: es) (tL k E m)) (hlen : ∀ fr st ds st', m fr st = .ok ds st' → ds.length = (e :: es).length) (hdb : (x == ("__debug__" : Str)) = false := by decide) (he : starEach (e :: es) X.env = (false, eval e X.env) :: starEach es X.env := by rfl) (hpl : (backTo pos (starEach es X.env)).any (·.1) = false := by rfl) :
    PE X (.Call (.Name x p) (e :: es) [] pos) (tE k E (callP F dds m)) :=
  pe_weak (pe_callG G hr hg hm hk hb hd (pass0 (X := X)) ha hdb he hpl) fun σ H Q ⟨PP, φ, fr, st, hf, hs, w⟩ => by
    unfold callP at w
    refine ⟨PP, φ, fr, st, hf, hs, ?_⟩
    cases e1 : m fr st with
    | bad => rw [e1] at w; exact False.elim w
    | exc n fs st' => rw [e1] at w; exact w
    | ok ds st1 =>
      rw [e1] at w
      intro φ1 H1 g1 s1 vs r1
      have hl : (vs ++ dvs).length = ps.length := by rw [List.length_append, ← r1.length, hlen _ _ _ _ e1, hn]
      cases st1 with
      | nil =>
        refine ⟨hl, PP, φ1, ds ++ dds, [], s1, r1.append (hdd _ _ _), noX_ok (Goes.mono w g1)⟩
      | cons cc cs =>
        have w : WD (k.w PP) E φ H (if ds.any (hasRef FUEL) then (match ds.mapM (res 0 (cc :: cs) FUEL) with
          | some es => runP F true (es ++ dds) (cc :: cs)
          | none => .bad) else runP F false (ds ++ dds) (cc :: cs)) Q := w
        have w := Goes.mono w g1
        by_cases hb : ds.any (hasRef FUEL) = true
        · rw [if_pos hb] at w
          cases e2 : ds.mapM (res 0 (cc :: cs) FUEL) with
          | none => rw [e2] at w; exact False.elim w
          | some es' =>
            rw [e2] at w
            have r2 : Reps (k.w PP) (φ1.take 0) H1 es' vs := mapM_reps (res_ok (n := 0) s1 FUEL) e2 r1
            exact runP_ok s1 hl (.inr ⟨rfl, Reps.append r2 (hdd _ _ _)⟩) w
        · rw [if_neg hb] at w
          rw [Bool.not_eq_true] at hb
          exact runP_ok s1 hl (.inl ⟨rfl, Reps.append (reps_in FUEL ds vs hb r1) (hdd _ _ _)⟩) w
/-- how many arguments are written -/
theorem nil_len : ∀ fr st ds st', nilS fr st = .ok ds st' → ds.length = 0 := fun fr st ds st' h => by cases h; rfl
theorem cons_len {a : Sh D} {b : Sh (List D)} {n : Nat} (h : ∀ fr st ds st', b fr st = .ok ds st' → ds.length = n) : ∀ fr st ds st', consS a b fr st = .ok ds st' → ds.length = n + 1 := fun fr st ds st' e => by
  unfold consS at e
  cases e1 : a fr st with
  | bad => rw [e1] at e; cases e
  | exc _ _ _ => rw [e1] at e; cases e
  | ok x st1 =>
    rw [e1] at e
    have e : (b fr st1).bind (fun xs st2 => Re.ok (x :: xs) st2) = .ok ds st' := e
    cases e2 : b fr st1 with
    | bad => rw [e2] at e; cases e
    | exc _ _ _ => rw [e2] at e; cases e
    | ok xs st2 =>
      rw [e2] at e
      cases e
      simp [h _ _ _ _ e2]
end
end Pl
set_option Elab.async false
set_option linter.all false
set_option maxRecDepth 100000
set_option maxHeartbeats 2000000
namespace Pl
open PySem PySem.Spec PyProof.Rows L2 Pg
/-- a def of the module that keeps its promise; dds: what fills up -/
def Good (K : PySem.W.Frag) (xc : Str → Addr) (P : Program) (w : World) (mg : Str → Option Value) (base : Heap) (x : Str) (lv n : Nat) (dds : List D) (F : Fn) : Prop :=
  ∃ (f : Addr) (fd : FuncData) (ps : List Str) (bds : List Value) (dvs : List V), mg x = some (.ref f) ∧ PySem.W.keepIn K (.ref f) = true ∧ ps.length = n ∧ Binds K fd ps bds ∧ Vals dvs bds ∧ (∀ c φ H, Reps c φ H dds dvs) ∧ FnG P w K mg base CX0 lv f fd ps (spM ⟨K, xc⟩ ps.length F)
theorem Reps.none {c : Ctx} {φ : List Addr} {H : Hp} : Reps c φ H [] [] := .nil
section
variable {k : Kc} {E : XK} {X : Cx} {σ : L2.St} {H : Hp} {x : Str} {p pos : Pos} {e : Expr} {es : List Expr} {F : Fn} {dds : List D} {lv n : Nat} {m : Sh (List D)}
theorem reps_len {c : Ctx} {φ : List Addr} {dvs : List V} (h : ∀ c φ H, Reps c φ H dds dvs) : dvs.length = dds.length := ((h ⟨[], fun _ => True, fun _ => 0⟩ [] fun _ => none).length).symm
theorem e_fM (G : Good X.K k.xc X.prog X.w X.mg X.base x lv n dds F) (hK : X.K = k.K) (hr : RoomG lv X.A) (hg : Gl X x) (hn : (e :: es).length + dds.length = n) (ha : PA X (e :: es) (tL k E m)) (hlen : ∀ fr st ds st', m fr st = .ok ds st' → ds.length = (e :: es).length)
    (hdb : (x == ("__debug__" : Str)) = false := by decide) (he : starEach (e :: es) X.env = (false, eval e X.env) :: starEach es X.env := by rfl) (hpl : (backTo pos (starEach es X.env)).any (·.1) = false := by rfl) :
    PE X (.Call (.Name x p) (e :: es) [] pos) (tE k E (callM F dds m)) := by
  obtain ⟨f, fd, ps, bds, dvs, h1, h2, h3, h4, h5, h6, h7⟩ := G
  have ek : (⟨X.K, k.xc⟩ : Kc) = k := by rw [hK]
  rw [ek] at h7
  exact e_callM h7 hr hg h1 h2 h4 h5 h6 (by rw [reps_len (c := ⟨[], fun _ => True, fun _ => 0⟩) (φ := []) h6, h3]; exact hn) ha hlen hdb he hpl
theorem e_fP (G : Good X.K k.xc X.prog X.w X.mg X.base x lv n dds F) (hK : X.K = k.K) (hr : RoomG lv X.A) (hg : Gl X x) (hn : (e :: es).length + dds.length = n) (ha : PA X (e :: es) (tL k E m)) (hlen : ∀ fr st ds st', m fr st = .ok ds st' → ds.length = (e :: es).length)
    (hdb : (x == ("__debug__" : Str)) = false := by decide) (he : starEach (e :: es) X.env = (false, eval e X.env) :: starEach es X.env := by rfl) (hpl : (backTo pos (starEach es X.env)).any (·.1) = false := by rfl) :
    PE X (.Call (.Name x p) (e :: es) [] pos) (tE k E (callP F dds m)) := by
  obtain ⟨f, fd, ps, bds, dvs, h1, h2, h3, h4, h5, h6, h7⟩ := G
  have ek : (⟨X.K, k.xc⟩ : Kc) = k := by rw [hK]
  rw [ek] at h7
  exact e_callP h7 hr hg h1 h2 h4 h5 h6 (by rw [reps_len (c := ⟨[], fun _ => True, fun _ => 0⟩) (φ := []) h6, h3]; exact hn) ha hlen hdb he hpl
/-! constants -/
theorem e_int {i : Int} {j : Nat} : PE X (.Constant (.int i) j pos) (tE k E (cS (.int i))) := e_c pe_int fun _ _ _ => .mkInt
theorem e_bl {b : Bool} {j : Nat} : PE X (.Constant (.bool b) j pos) (tE k E (cS (.bl b))) := e_c pe_bl fun _ _ _ => .mkBl
theorem e_non {j : Nat} : PE X (.Constant .none j pos) (tE k E (cS .non)) := e_c pe_non fun _ _ _ => .mkNon
theorem e_str {z : Str} {j : Nat} : PE X (.Constant (.str z) j pos) (tE k E (cS (.str z))) := e_c pe_str fun _ _ _ => .mkStr
theorem e_gint {i : Int} (hm : ∃ t, X.mg x = some (.int i t)) (hg : Gl X x := by rfl) (hd : (x == ("__debug__" : Str)) = false := by decide) : PE X (.Name x pos) (tE k E (cS (.int i))) := by
  obtain ⟨t, h⟩ := hm
  exact e_c (pe_glob (v := .int i) hg h ⟨t, rfl⟩ hd) fun _ _ _ => .mkInt
theorem e_gstr {z : Str} (hm : ∃ t, X.mg x = some (.str z t)) (hg : Gl X x := by rfl) (hd : (x == ("__debug__" : Str)) = false := by decide) : PE X (.Name x pos) (tE k E (cS (.str z))) := by
  obtain ⟨t, h⟩ := hm
  exact e_c (pe_glob (v := .str z) hg h ⟨t, rfl⟩ hd) fun _ _ _ => .mkStr
theorem e_ty {n : String} (hm : X.mg x = none) (hv : bootBuiltins x = some (.type n)) (hg : Gl X x := by rfl) (hn : x ≠ "__name__" := by decide) (hd : (x == ("__debug__" : Str)) = false := by decide) : PE X (.Name x pos) (tE k E (cS (.ty n))) := e_c (pe_bltn (v := .ty n) hg hm hv rfl hn hd) fun _ _ _ => .mkTy
theorem e_blt {id : String} {g : Sto → List D → Re D} (hc : CallR X (.builtin id) (rC k E g)) (hv : bootBuiltins x = some (.builtin id)) (hm : X.mg x = none) (ha : PA X (e :: es) (tL k E m)) (hg : Gl X x := by rfl) (hn : x ≠ "__name__" := by decide) (hdb : (x == ("__debug__" : Str)) = false := by decide)
    (he : starEach (e :: es) X.env = (false, eval e X.env) :: starEach es X.env := by rfl) (hpl : (backTo pos (starEach es X.env)).any (·.1) = false := by rfl) : PE X (.Call (.Name x p) (e :: es) [] pos) (tE k E (callS g m)) :=
  e_call (fun _ h => pe_callB hc hg hm hv h hn hdb he hpl) ha
theorem e_bty {id : String} {g : Sto → List D → Re D} (hc : CallR X (.type id) (rC k E g)) (hv : bootBuiltins x = some (.type id)) (hm : X.mg x = none) (ha : PA X (e :: es) (tL k E m)) (hg : Gl X x := by rfl) (hn : x ≠ "__name__" := by decide) (hdb : (x == ("__debug__" : Str)) = false := by decide)
    (he : starEach (e :: es) X.env = (false, eval e X.env) :: starEach es X.env := by rfl) (hpl : (backTo pos (starEach es X.env)).any (·.1) = false := by rfl) : PE X (.Call (.Name x p) (e :: es) [] pos) (tE k E (callS g m)) :=
  e_call (fun _ h => pe_callTy hc hg hm hv h hn hdb he hpl) ha
/-! y = [..] on one line -/
variable {elt tgt iter : Expr} {ifs : List Expr} {scope : Scope} {own : List (Str × Nat)} {it : Si} {tg : Tg} {tt : Sh Bool} {te : Sh D} {i : Nat} {y : Str} {py spos : Pos}
theorem s_lcF (hc : X.calm = true) (hN : X.N.Nodup) (hy : X.N[i]? = some y) (hyl : X.env.scope.names.lookup y = some .local) (hsw : swapsWith (.ListComp elt [⟨tgt, iter, ifs, 0⟩] scope pos) (some (.Name y py)) spos.line X.env = pure true) (hi : PI X tgt iter (tI k E it)) (ok : BlkOk X.N X.env.scope scope own) (hw : ∀ i ∈ tg.ws, i ∈ own.map (·.2))
    (hg : ∀ (s : Shared) (H : Hp) (C : Addr) (cl : List (Str × Addr)) (fp : List Addr), PG (X.blk s H scope (compEnvC scope cl C X.env) fp) tgt (tG k tg)) (ht : ∀ (s : Shared) (H : Hp) (C : Addr) (cl : List (Str × Addr)) (fp : List Addr), PTs (X.blk s H scope (compEnvC scope cl C X.env) fp) ifs (tT k E0 tt))
    (he : ∀ (s : Shared) (H : Hp) (C : Addr) (cl : List (Str × Addr)) (fp : List Addr), PE (X.blk s H scope (compEnvC scope cl C X.env) fp) elt (tE k E0 te)) (hs : ∀ x, foldedSetIterable iter X.env x = pure x := by intro _; rfl) :
    PS X (.Assign [.Name y py] (.ListComp elt [⟨tgt, iter, ifs, 0⟩] scope pos) spos) (tS k E (asgS (nameT i) (frzS (lcS it (own.map (·.2)) tg tt te)))) :=
  ps_weak (ps_setLc hc hN hy hyl hsw hi ok hg ht he hs) fun D σ H ⟨PP, φ, fr, st, hf, hs, w⟩ => lc_go hw hf hs (by
    unfold asgS frzS at w
    cases e : lcS it (own.map (·.2)) tg tt te fr st with
    | bad => rw [e] at w; exact False.elim w
    | exc n fs st' => rw [e] at w; exact w
    | ok acc st' =>
      rw [e] at w
      exact fun φ' H' g s DD le => w φ' H' _ g s ((hf.stay g).set le.frz))
theorem s_lcN (hc : X.calm = true) (hN : X.N.Nodup) (hy : X.N[i]? = some y) (hyl : X.env.scope.names.lookup y = some .local) (hsw : swapsWith (.ListComp elt [⟨tgt, iter, ifs, 0⟩] scope pos) (some (.Name y py)) spos.line X.env = pure true) (hi : PI X tgt iter (tI k E it)) (ok : BlkOk X.N X.env.scope scope own) (hw : ∀ i ∈ tg.ws, i ∈ own.map (·.2))
    (hg : ∀ (s : Shared) (H : Hp) (C : Addr) (cl : List (Str × Addr)) (fp : List Addr), PG (X.blk s H scope (compEnvC scope cl C X.env) fp) tgt (tG k tg)) (ht : ∀ (s : Shared) (H : Hp) (C : Addr) (cl : List (Str × Addr)) (fp : List Addr), PTs (X.blk s H scope (compEnvC scope cl C X.env) fp) ifs (tT k E0 tt))
    (he : ∀ (s : Shared) (H : Hp) (C : Addr) (cl : List (Str × Addr)) (fp : List Addr), PE (X.blk s H scope (compEnvC scope cl C X.env) fp) elt (tE k E0 te)) (hs : ∀ x, foldedSetIterable iter X.env x = pure x := by intro _; rfl) :
    PS X (.Assign [.Name y py] (.ListComp elt [⟨tgt, iter, ifs, 0⟩] scope pos) spos) (tS k E (asgS (nameT i) (newS (lcS it (own.map (·.2)) tg tt te)))) :=
  ps_weak (ps_setLc hc hN hy hyl hsw hi ok hg ht he hs) fun D σ H ⟨PP, φ, fr, st, hf, hs, w⟩ => lc_go hw hf hs (by
    unfold asgS newS at w
    cases e : lcS it (own.map (·.2)) tg tt te fr st with
    | bad => rw [e] at w; exact False.elim w
    | exc n fs st' => rw [e] at w; exact w
    | ok acc st' =>
      rw [e] at w
      intro φ' H' g s DD le
      obtain ⟨us, h, r⟩ := le.obj
      exact w (φ' ++ [DD]) H' _ (g.addD le.new) (le.sim.addD h le.out le.pp r) ((hf.stay (g.addD le.new)).set (by rw [Rep]; exact ⟨DD, by rw [← s.len]; simp, rfl⟩)))
/-! a, b = x, y with plain local names -/
def parM (is : List Nat) (m : Sh (List D)) : Sm := fun fr st => (m fr st).toS fun ds st1 => match is, ds with
  | [i, j], [a, b] => .nx ((fr.set i (some a)).set j (some b)) st1
  | [i, j, l], [a, b, d] => .nx (((fr.set i (some a)).set j (some b)).set l (some d)) st1
  | _, _ => .bad
theorem seqSL {m : Sh (List D)} {f : List D → Sto → SRe} {DD : Ends} {PP : Addr → Prop} {φ : List Addr} {fr : Fr} {st : Sto} {Q : List V → Hp → Prop} (hf : FrR (k.w PP) φ H fr σ) (hs : Sim (k.w PP) φ st H) (h : GoesS (k.w PP) E φ H DD ((m fr st).toS f))
    (q : ∀ d φ' st' H' v, Grow φ H φ' H' → FrR (k.w PP) φ' H' fr σ → Sim (k.w PP) φ' st' H' → Reps (k.w PP) φ' H' d v → GoesS (k.w PP) E φ' H' DD (f d st') → Q v H') : tL k E m σ H Q := by
  refine ⟨PP, φ, fr, st, hf, hs, ?_⟩
  cases e : m fr st with
  | ok d st' =>
    rw [e] at h
    exact fun φ' H' g s v r => q d φ' st' H' v g (hf.stay g) s r (GoesS.mono (show GoesS (k.w PP) E φ H DD (f d st') from h) g)
  | exc n fs st' => rw [e] at h; exact h
  | bad => rw [e] at h; exact h
theorem s_par2 {i j : Nat} {x y : Str} {a b : Expr} {px py pt : Pos} {kt k2 pt2} (hc : X.calm = true) (hN : X.N.Nodup) (hi : X.N[i]? = some x) (hj : X.N[j]? = some y) (hij : i ≠ j)
    (hx : X.env.scope.names.lookup x = some .local) (hy : X.env.scope.names.lookup y = some .local) (ha : PA X [a, b] (tL k E m))
    (hw : swappedStores [.Tuple [.Name x px, .Name y py] kt pt] (.Tuple [a, b] k2 pt2) X.env = pure (some [x, y]))
    (hs : swapsWithSole [.Tuple [.Name x px, .Name y py] kt pt] (.Tuple [a, b] k2 pt2) pos.line X.env = pure false := by rfl) :
    PS X (.Assign [.Tuple [.Name x px, .Name y py] kt pt] (.Tuple [a, b] k2 pt2) pos) (tS k E (parM [i, j] m)) :=
  ps_weak (ps_par hc hN hi hj hij hx hy ha hw hs) fun D σ H ⟨PP, φ, fr, st, hf, hs, w⟩ => seqSL hf hs w fun ds φ1 st1 H1 vs g1 hf1 hs1 r1 w1 => by
    match ds, r1, w1 with
    | [a, b], r1, w1 =>
      obtain ⟨u, v, rfl, r2, r3⟩ := r1.two
      exact ⟨u, v, rfl, w1 φ1 H1 _ .refl hs1 ((hf1.set r2).set r3)⟩
    | [], _, w1 => exact False.elim w1
    | [_], _, w1 => exact False.elim w1
    | _ :: _ :: _ :: _, _, w1 => exact False.elim w1
theorem s_par3 {i j l : Nat} {x y z : Str} {a b c : Expr} {px py pz pt : Pos} {kt k2 pt2} (hc : X.calm = true) (hN : X.N.Nodup) (hi : X.N[i]? = some x) (hj : X.N[j]? = some y) (hl : X.N[l]? = some z) (hij : i ≠ j) (hil : i ≠ l) (hjl : j ≠ l)
    (hx : X.env.scope.names.lookup x = some .local) (hy : X.env.scope.names.lookup y = some .local) (hz : X.env.scope.names.lookup z = some .local) (ha : PA X [a, b, c] (tL k E m))
    (hw : swappedStores [.Tuple [.Name x px, .Name y py, .Name z pz] kt pt] (.Tuple [a, b, c] k2 pt2) X.env = pure (some [x, y, z]))
    (hs : swapsWithSole [.Tuple [.Name x px, .Name y py, .Name z pz] kt pt] (.Tuple [a, b, c] k2 pt2) pos.line X.env = pure false := by rfl) :
    PS X (.Assign [.Tuple [.Name x px, .Name y py, .Name z pz] kt pt] (.Tuple [a, b, c] k2 pt2) pos) (tS k E (parM [i, j, l] m)) :=
  ps_weak (L2.ps_par3 hc hN hi hj hl hij hil hjl hx hy hz ha hw hs) fun D σ H ⟨PP, φ, fr, st, hf, hs, w⟩ => seqSL hf hs w fun ds φ1 st1 H1 vs g1 hf1 hs1 r1 w1 => by
    match ds, r1, w1 with
    | [a, b, d], r1, w1 =>
      obtain ⟨u, ws, rfl, r2, r4⟩ := r1.inv_cons
      obtain ⟨v, t, rfl, r3, r5⟩ := r4.two
      exact ⟨u, v, t, rfl, w1 φ1 H1 _ .refl hs1 (((hf1.set r2).set r3).set r5)⟩
    | [], _, w1 => exact False.elim w1
    | [_], _, w1 => exact False.elim w1
    | [_, _], _, w1 => exact False.elim w1
    | _ :: _ :: _ :: _ :: _, _, w1 => exact False.elim w1
end
/-! ### a def that hands back what it made as it is -/
def fnK (N : Nat) (body : Sm) : Fn := fun ds st => match body (startF N ds) st with
  | .nx _ st' => .ok .non st'
  | .rt d st' => .ok d st'
  | _ => .bad
theorem fn_okK {P : Program} {w : World} {K : PySem.W.Frag} {mg : Str → Option Value} {base : Heap} {x qual : Str} {params : Arguments} {body : List Stmt} {scope : Scope} {dvs : List V} {kws : List (Str × V)} {f : Addr} {fd : FuncData} {N ps : List Str} {lv : Nat} {xc : Str → Addr} {m : Sm}
    (F : FunD K x qual params body scope dvs kws f fd) (S : FnScope N ps scope)
    (hb : ∀ (cdv : Value) (A : Around) (outer : List Env) (s : Shared) (H : Hp) (E : XK), RoomG lv (A.deeper (envOfC qual scope s.heap.objs.size f cdv)) → PSs (cxOf CX0 P w K mg base N qual scope f cdv A outer s H E).nox body (tS ⟨K, xc⟩ E0 m)) :
    FnG P w K mg base CX0 (lv + 1) f fd ps (spM ⟨K, xc⟩ ps.length (fnK N.length m)) :=
  okG F S (fun vs H Q E h => h.1) fun cdv A outer s H vs Q E hr ⟨hl, PP, φ, ds, st, hs, r, w⟩ => ⟨_, PSs.nox (hb cdv A outer s H E hr), PP, φ, startF N.length ds, st, startF_ok r, hs, by
    unfold fnK at w
    cases e : m (startF N.length ds) st with
    | nx fr st' =>
      rw [e] at w
      exact fun φ' H' σ' g s' f' => w φ' H' g s' _ .mkNon
    | rt d st' =>
      rw [e] at w
      exact fun φ' H' v g s' r' => w φ' H' g s' v r'
    | _ => rw [e] at w; exact False.elim w⟩
theorem bb_sum : bootBuiltins "sum" = some (.builtin "sum") := by decide +kernel
theorem bb_min : bootBuiltins "min" = some (.builtin "min") := by decide +kernel
theorem bb_max : bootBuiltins "max" = some (.builtin "max") := by decide +kernel
theorem bb_all : bootBuiltins "all" = some (.builtin "all") := by decide +kernel
theorem bb_any : bootBuiltins "any" = some (.builtin "any") := by decide +kernel
theorem bb_abs : bootBuiltins "abs" = some (.builtin "abs") := by decide +kernel
theorem bb_len : bootBuiltins "len" = some (.builtin "len") := by decide +kernel
theorem bb_isinstance : bootBuiltins "isinstance" = some (.builtin "isinstance") := by decide +kernel
theorem bb_repr : bootBuiltins "repr" = some (.builtin "repr") := by decide +kernel
theorem bb_sorted : bootBuiltins "sorted" = some (.builtin "sorted") := by decide +kernel
theorem bb_int : bootBuiltins "int" = some (.type "int") := by decide +kernel
theorem bb_bool : bootBuiltins "bool" = some (.type "bool") := by decide +kernel
theorem bb_str : bootBuiltins "str" = some (.type "str") := by decide +kernel
theorem bb_list : bootBuiltins "list" = some (.type "list") := by decide +kernel
theorem bb_tuple : bootBuiltins "tuple" = some (.type "tuple") := by decide +kernel
theorem bb_set : bootBuiltins "set" = some (.type "set") := by decide +kernel
end Pl
set_option Elab.async false
set_option linter.all false
set_option maxRecDepth 100000
set_option maxHeartbeats 4000000
/-! P10: the set of a list or tuple of texts, as many as there are; sorted(..) of it. -/
namespace Pz
open PySem PySem.Spec PyProof.Rows L2
def tOf (e : Int × Value) : Str := match e.2 with
  | .str x _ => x
  | _ => Str.empty
def GoodT (w : World) (e : Int × Value) : Prop := ∃ x tk, e.2 = Value.str x tk ∧ e.1 = hashStr w x
/-- the set of texts at a -/
def TSet (w : World) (h : Heap) (a : Addr) (S : Str → Bool) (n : Nat) : Prop :=
  ∃ o es ep t, h.get? a = some o ∧ o.ExactSet ∧ o.data = .set es ep t ∧ (∀ e ∈ es.toList, GoodT w e) ∧ (es.toList.map tOf).Nodup ∧ (∀ k, S k = true ↔ k ∈ es.toList.map tOf) ∧
    es.size < scanBound ∧ t.fits es.size = true ∧ es.size = n ∧ Ris t.place.toList ∧ (w.params.followText "set-order" = true ∨ t.led = true)
section
variable {P : Program} {w : World} {h h' : Heap} {a : Addr} {S : Str → Bool} {n : Nat}
theorem TSet.at (R : TSet w h a S n) (k : ∀ o, h.get? a = some o → h'.get? a = some o) : TSet w h' a S n := by
  obtain ⟨o, es, ep, t, ho, r⟩ := R
  exact ⟨o, es, ep, t, k o ho, r⟩
theorem goodT_elems {l : List (Int × Value)} (g : ∀ e ∈ l, GoodT w e) : ElemsOf (PySem.strKind P w) l := fun e he => by
  obtain ⟨x, tk, h1, h2⟩ := g e he
  exact ⟨⟨x, by rw [h1]; exact strKind_is P w x tk, h2⟩, by rw [h1] <;> rfl⟩
theorem goodT_is {e : Int × Value} (g : GoodT w e) (k : Str) : (PySem.strKind P w).is k e.2 = true ↔ tOf e = k := by
  obtain ⟨x, tk, h1, _⟩ := g
  unfold tOf
  rw [h1]
  show ((x == k) = true) ↔ x = k
  exact beq_iff_eq
theorem goodT_mem {l : List (Int × Value)} (g : ∀ e ∈ l, GoodT w e) (k : Str) : k ∈ l.map tOf ↔ ∃ e ∈ l, (PySem.strKind P w).is k e.2 = true := by
  rw [List.mem_map]
  exact ⟨fun ⟨e, he, q⟩ => ⟨e, he, (goodT_is (g e he) k).2 q⟩, fun ⟨e, he, q⟩ => ⟨e, he, (goodT_is (g e he) k).1 q⟩⟩
theorem TSet.congr {S' : Str → Bool} {m : Nat} (R : TSet w h a S n) (e : ∀ k, S' k = S k) (em : m = n) : TSet w h a S' m := by
  rw [show S' = S from funext e, em]; exact R
theorem TSet.setOf (R : TSet w h a S n) : h.SetOf (PySem.strKind P w) a S n := by
  obtain ⟨o, es, ep, t, ho, hx, hd, g, nd, hm, hb, hf, hn, _⟩ := R
  exact ⟨o, es, ep, t, ho, hx, hd, goodT_elems g, fun k => (hm k).trans (goodT_mem g k), hb, hf, hn⟩
end
section
variable {P : Program} {w : World} {A : Around} {E : Value → Shared → Prop} {s : Shared} {a : Addr} {S : Str → Bool} {n : Nat}
theorem tset_tail {g : Bool → Sem Unit} (hg : ∀ (b : Bool) (s₁ : Shared) (Q' : Unit → Shared → Prop), Q' () s₁ → wpAny (model P w) A (g b) Q' E s₁)
    {o : Obj} {es : Array (Int × Value)} {ep : Nat} {t : SetTable} (ho : s.heap.get? a = some o) (hex : o.ExactSet) (hd : o.data = .set es ep t)
    {es1 : Array (Int × Value)} {t2 : SetTable} {S' : Str → Bool} (g1 : ∀ e ∈ es1.toList, GoodT w e) (nd1 : (es1.toList.map tOf).Nodup) (m1 : ∀ k, S' k = true ↔ k ∈ es1.toList.map tOf)
    (hb1 : es1.size < scanBound) (hf2 : t2.fits es1.size = true) (hr : Ris t2.place.toList) (hl : w.params.followText "set-order" = true ∨ t2.led = true) {wasDummy : Bool} {R : Option Bool → Shared → Prop}
    (hR : ∀ h', Heap.SameBut a s.heap h' → TSet w h' a S' es1.size → R (some true) { s with heap := h' }) :
    wpAny (model P w) A (do
        storeSet a es1 t2
        if (!wasDummy && t2.tooFull) = true then do
            g (relayAll t2 es1 (SetTable.grown es1.size)).2.2
            storeSet a (relayAll t2 es1 (SetTable.grown es1.size)).1 (relayAll t2 es1 (SetTable.grown es1.size)).2.1
            pure (some true)
          else pure (some true)) R E s := by
  refine wpAny_bind (wpAny_storeSet_of ho hd ?_ (fits_of_scanBound hb1))
  have ho1 := store_at (es' := es1) (t' := t2) ho hd
  have sb1 := Heap.SameBut.update s.heap a (Obj.putSet es1 t2)
  split
  · have pm := relayAll_perm t2 es1 (SetTable.grown es1.size)
    have hf3 := relayAll_fits t2 es1 (SetTable.grown es1.size)
    have hr3 := relayAll_ris t2 es1 (SetTable.grown es1.size)
    have hl3 := relayAll_led t2 es1 (SetTable.grown es1.size)
    generalize relayAll t2 es1 (SetTable.grown es1.size) = Z at pm hf3 hr3 hl3 ⊢
    obtain ⟨es2, t3, gave⟩ := Z
    dsimp only at pm hf3 hr3 hl3 ⊢
    have hsz : es2.size = es1.size := by rw [← Array.length_toList, pm.length_eq, Array.length_toList]
    have hb2 : es2.size < scanBound := by rw [hsz]; exact hb1
    refine wpAny_bind (hg _ _ _ (wpAny_bind (wpAny_storeSet_of ho1 rfl ?_ (fits_of_scanBound hb2))))
    have ho2 := store_at (es' := es2) (t' := t3) ho1 rfl
    refine wpAny_pure (hR _ (sb1.trans (Heap.SameBut.update _ a _)) ?_)
    exact ⟨_, es2, _, t3, ho2, hex, rfl, fun e he => g1 e (pm.mem_iff.mp he), (pm.map tOf).nodup_iff.mpr nd1, fun k => (m1 k).trans (pm.map tOf).mem_iff.symm, hb2, hf3, hsz, hr3,
      hl.imp id fun z => by rw [hl3]; exact z⟩
  · exact wpAny_pure (hR _ sb1 ⟨_, es1, _, t2, ho1, hex, rfl, g1, nd1, m1, hb1, hf2, rfl, hr, hl⟩)
theorem tset_add {k : Str} {tk : Tok} {Q : Bool → Shared → Prop} (R : TSet w s.heap a S n) (room : n + 1 < scanBound)
    (hQ : ∀ h', Heap.SameBut a s.heap h' → TSet w h' a (fun j => S j || decide (j = k)) (if S k = true then n else n + 1) → Q (!S k) { s with heap := h' }) :
    wpAny (model P w) A (setAddHashed a (.str k tk) ((PySem.strKind P w).hash k)) Q E s := by
  obtain ⟨o, es, ep, t, ho, hex, hd, g, nd, hm, hb, hf, hn, hr, hl⟩ := R
  have hkey : (PySem.strKind P w).is k (.str k tk) = true := strKind_is P w k tk
  have hsc : (Value.str k tk).scannable = true := rfl
  have hel : ElemsOf (PySem.strKind P w) es.toList := goodT_elems g
  unfold setAddHashed setAddHashedIn
  refine wpAny_holding (wpAny_bind (wpAny_setState_of ho hd hf ?_))
  dsimp only
  rw [byScan_of hsc hb hel]
  simp only [↓reduceIte]
  unfold setAddByScan
  refine wpAny_bind ?_
  refine wpAny_bind (wpAny_rule ?_)
  refine wpAny_bind (wpAny_setScan_of hkey ho hd hf hel ?_)
  cases hfi : List.findIdx? (fun e => (PySem.strKind P w).is k e.2) es.toList with
  | some j =>
    dsimp only
    obtain ⟨hj, pj, _⟩ := List.findIdx?_eq_some_iff_getElem.mp hfi
    have hSk : S k = true := (hm k).2 ((goodT_mem (P := P) (w := w) g k).2 ⟨es.toList[j], List.getElem_mem hj, pj⟩)
    refine wpAny_pure (wpAny_pure ?_)
    have q := hQ s.heap (Heap.SameBut.refl a s.heap) ⟨o, es, ep, t, ho, hex, hd, g, nd, fun i => by
      rw [Bool.or_eq_true, decide_eq_true_eq, ← hm i]
      exact ⟨fun z => z.elim id (fun e => e ▸ hSk), .inl⟩, hb, hf, by rw [if_pos hSk]; exact hn, hr, hl⟩
    rw [hSk] at q
    exact q
  | none =>
    dsimp only
    have hnk : k ∉ es.toList.map tOf := fun z => by
      obtain ⟨e, he, q⟩ := (goodT_mem (P := P) (w := w) g k).1 z
      have c := List.findIdx?_eq_none_iff.mp hfi e he
      rw [q] at c
      cases c
    have hSk : S k = false := by
      cases q : S k with
      | false => rfl
      | true => exact absurd ((hm k).1 q) hnk
    have hgw : ∀ (b : Bool) {s₁ : Shared} {Q' : Unit → Shared → Prop}, Q' () s₁ → wpAny (model P w) A (match b with | true => rule "set.scan.the-table-gave-way" | false => pure ()) Q' E s₁ :=
      fun b s₁ Q' q => by cases b <;> first | exact wpAny_pure q | exact wpAny_rule q
    have pm := layNew_perm t es ((PySem.strKind P w).hash k) (.str k tk)
    have hf1 := layNew_fits t es ((PySem.strKind P w).hash k) (.str k tk)
    have hr1 := layNew_ris t es ((PySem.strKind P w).hash k) (.str k tk) hr
    have hl1 := layNew_led t es ((PySem.strKind P w).hash k) (.str k tk)
    generalize layNew t es ((PySem.strKind P w).hash k) (.str k tk) = Z at pm hf1 hr1 hl1 ⊢
    obtain ⟨es1, t1, wasDummy, gave⟩ := Z
    dsimp only at pm hf1 hr1 hl1 ⊢
    rw [Array.toList_push] at pm
    have pc : es1.toList.Perm (((PySem.strKind P w).hash k, Value.str k tk) :: es.toList) := pm.trans (List.perm_append_singleton _ _)
    have pk : (es1.toList.map tOf).Perm (k :: es.toList.map tOf) := pc.map tOf
    have g1 : ∀ e ∈ es1.toList, GoodT w e := fun e he => by
      rcases List.mem_cons.mp (pc.mem_iff.mp he) with z | z
      · rw [z]; exact ⟨k, tk, rfl, rfl⟩
      · exact g e z
    have nd1 : (es1.toList.map tOf).Nodup := pk.nodup_iff.mpr (List.nodup_cons.mpr ⟨hnk, nd⟩)
    have m1 : ∀ i, (S i || decide (i = k)) = true ↔ i ∈ es1.toList.map tOf := fun i => by
      rw [Bool.or_eq_true, decide_eq_true_eq, hm i, pk.mem_iff, List.mem_cons]
      exact Or.comm
    have hsz : es1.size = n + 1 := by rw [← Array.length_toList, pc.length_eq, List.length_cons, Array.length_toList, hn]
    have hb1 : es1.size < scanBound := by rw [hsz]; exact room
    have hled : w.params.followText "set-order" = true ∨ t1.led = true := hl.imp id fun z => by rw [hl1]; exact z
    have fin : ∀ h', Heap.SameBut a s.heap h' → TSet w h' a (fun j => S j || decide (j = k)) es1.size → Q true { s with heap := h' } := fun h' sb r => by
      have q := hQ h' sb
      rw [hSk] at q
      rw [hsz] at r
      exact q r
    refine wpAny_bind (hgw _ ?_)
    split
    · refine wpAny_bind ?_
      rw [hashByValue_scannable 8 hsc]
      refine wpAny_pure ?_
      refine tset_tail ?_ ho hex hd g1 nd1 m1 hb1 ?_ ?_ ?_ ?_
      · intro b s₁ Q' q; cases b <;> first | exact wpAny_pure q | exact wpAny_rule q
      · first | (split <;> first | exact hf1 | exact SetTable.fits_plain_off hf1) | exact hf1
      · first | (split <;> exact hr1) | exact hr1
      · first | (split <;> exact hled) | exact hled
      · intro h' sb r; dsimp only; exact wpAny_pure (fin h' sb r)
    · refine wpAny_bind (wpAny_pure ?_)
      simp only [↓reduceIte]
      refine tset_tail ?_ ho hex hd g1 nd1 m1 hb1 hf1 hr1 hled ?_
      · intro b s₁ Q' q; cases b <;> first | exact wpAny_pure q | exact wpAny_rule q
      · intro h' sb r; dsimp only; exact wpAny_pure (fin h' sb r)
end
/-- how many texts, each once -/
def many (xs : List Str) : Nat := match xs with
  | [] => 0
  | x :: r => if r.any (· == x) then many r else many r + 1
def cnt (xs : List Str) : Nat → Nat
  | 0 => 0
  | i + 1 => if (xs.take i).any (· == xs.getD i Str.empty) then cnt xs i else cnt xs i + 1
theorem cnt_le (xs : List Str) : ∀ i, cnt xs i ≤ i
  | 0 => Nat.le_refl _
  | i + 1 => by
    unfold cnt
    have := cnt_le xs i
    split <;> omega
theorem take_any (xs : List Str) (i : Nat) (hi : i < xs.length) (k : Str) : (xs.take (i + 1)).any (· == k) = ((xs.take i).any (· == k) || decide (k = xs.getD i Str.empty)) := by
  rw [List.take_succ, List.any_append, List.getElem?_eq_getElem hi]
  congr 1
  simp only [Option.toList_some, List.any_cons, List.any_nil, Bool.or_false]
  rw [List.getD_eq_getElem?_getD, List.getElem?_eq_getElem hi]
  simp only [Option.getD_some]
  by_cases h : k = xs[i]
  · subst h; simp
  · rw [decide_eq_false h]
    exact beq_eq_false_iff_ne.mpr fun e => h e.symm
section
variable {prog : Program} {w : World} {A : Around} {R : Result → Shared → Prop} {I : Addr} {fp wr : List Addr} {G : Array GenState → Array GenState → Prop} {n : Nat} {P : Nat → Value → Prop} {St : Nat → Shared → Prop}
theorem loopT (W : WalksS prog w A.in1 I fp wr G n P St) (D : Addr) (hSf : D ∉ fp) (xs : List Str) (hsz : xs.length = n) (hn1 : n + 1 < scanBound) (hval : ∀ i v, P i v → ∃ t, v = .str (xs.getD i Str.empty) t) :
    ∀ (k i : Nat) (s : Shared), n - i = k → i ≤ n → St i s → TSet w s.heap D (fun k' => (xs.take i).any (· == k')) (cnt xs i) →
      (∀ s', Moved (D :: wr) G s s' → TSet w s'.heap D (fun k' => (xs.take n).any (· == k')) (cnt xs n) → R (.ok (.ret .none)) s') →
      codeAny (model prog w) A (.builtin "set.update.loop" ⟨[.ref D, .ref I], []⟩) R s := by
  have hSw : D ∉ wr := fun h => hSf (W.sub _ h)
  have hsub : ∀ b ∈ wr, b ∈ D :: wr := fun b hb => List.mem_cons_of_mem _ hb
  intro k
  induction k with
  | zero =>
    intro i s hk hi hst hS hR
    obtain rfl : i = n := by omega
    refine codeAny_builtin PyProof.Rows.F.entry_set_update_loop ?_
    rw [Around.under_plainId PyProof.Rows.F.plain_set_update_loop _]
    show wpAny _ A.in1 (pyNext (.ref I) >>= _) _ _ s
    refine wpAny_bind (W.done s _ _ hst fun s' hm => ?_)
    show wpAny _ A.in1 (ret Value.none) _ _ s'
    exact wpAny_pure (hR s' (hm.mono hsub) (hS.at fun o ho => hm.heap D _ hSw ho))
  | succ k ih =>
    intro i s hk hi hst hS hR
    have hlt : i < n := by omega
    refine codeAny_builtin PyProof.Rows.F.entry_set_update_loop ?_
    rw [Around.under_plainId PyProof.Rows.F.plain_set_update_loop _]
    show wpAny _ A.in1 (pyNext (.ref I) >>= _) _ _ s
    refine wpAny_bind (W.item i s _ _ hlt hst fun v s' hP hst' hm => ?_)
    obtain ⟨t, rfl⟩ := hval i v hP
    have hS' : TSet w s'.heap D (fun k' => (xs.take i).any (· == k')) (cnt xs i) := hS.at fun o ho => hm.heap D _ hSw ho
    show wpAny _ A.in1 (holding [Value.str (xs.getD i Str.empty) t] (setAdd D (.str (xs.getD i Str.empty) t)) >>= _) _ _ s'
    refine wpAny_bind (wpAny_holding ?_)
    unfold setAdd
    refine wpAny_holding ?_
    refine wpAny_bind ((PySem.strKind prog w).pyHash (k := xs.getD i Str.empty) (strKind_is _ _ _ _) ?_)
    refine tset_add (s := { s' with toks := s'.toks + 1 }) hS' (by have := cnt_le xs i; omega) fun h' hsb hS2 => ?_
    have hSi : TSet w h' D (fun k' => (xs.take (i + 1)).any (· == k')) (cnt xs (i + 1)) := hS2.congr (fun k' => take_any xs i (by omega) k') rfl
    refine wpAny_pure ⟨plainId_quiet PyProof.Rows.F.plain_set_update_loop _, ih (i + 1) _ (by omega) hlt (W.frame _ s' _ _ hst' (Nat.le_succ _) fun b hb o e => ?_) hSi fun s'' hm'' hS'' => ?_⟩
    · rw [hsb.2 b (fun h : b = D => hSf (by rw [← h]; exact hb))]; exact e
    · refine hR s'' (Moved.trans W.gtrans ((hm.mono hsub).then_heap (Nat.le_succ _) fun b o hb e => ?_) hm'') hS''
      rw [hsb.2 b (fun h : b = D => hb (by rw [h]; exact List.mem_cons_self))]; exact e
end
theorem tset_fresh {h h' : Heap} {a : Addr} (w : World) (e : h.get? a = some { cls := .type "set", dict := none, data := .set #[] 0 (.fresh 0 0 (!w.params.followText "set-order")) }) : TSet w h a (fun _ => false) 0 :=
  ⟨_, #[], 0, _, e, ⟨rfl, rfl, rfl⟩, rfl, (fun e he => by simp at he), (by simp), (fun k => by simp), (by decide), (by rfl), rfl, List.Pairwise.nil, by
    show _ ∨ (!w.params.followText "set-order") = true
    cases w.params.followText "set-order"
    · exact .inr rfl
    · exact .inl rfl⟩

abbrev fo (w : World) : Obj := { cls := .type "set", dict := none, data := .set #[] 0 (.fresh 0 0 (!w.params.followText "set-order")) }
section
variable {prog : Program} {w : World} {A : Around} {E : Value → Shared → Prop} {s : Shared}

set_option maxHeartbeats 3200000 in
theorem call_set_lt {l : Addr} {items : Array Value} {xs : List Str} {Q : Value → Shared → Prop}
    (hh : A.handled = none) (hl : s.heap.IsList l items) (hi : PyProof.Rows.StrsAre items.toList xs) (hn1 : xs.length + 1 < scanBound)
    (h : ∀ (h' : Heap) (tk : Nat), TSet w h' s.heap.objs.size (fun k' => (xs.take items.size).any (· == k')) (cnt xs items.size) →
      (∀ b o, s.heap.get? b = some o → h'.get? b = some o) → Q (.ref s.heap.objs.size) { s with heap := h', toks := tk }) :
    wpAny (model prog w) A (call (.type "set") [.ref l]) Q E s := by
  obtain ⟨c, tl, hmro⟩ := PySem.F.called_set.mro
  have hmade := PySem.F.called_set.made
  have hsub := PySem.F.called_set.sub
  refine wpAny_call (codeAny_of_tree ?_)
  show wpAny _ _ (callAny (.type "set") _) _ _ _
  refine wpAny_pure ⟨Code.quiet_builtin _ (by decide +kernel), codeAny_builtin PySem.F.entry_type_call ?_⟩
  rw [Around.under_plain (weight_type_call_type "set" [.ref l] []) rfl]
  have h1 := PySem.F.called_set.notType
  have h2 := PySem.F.called_set.canCreate
  have hct := PySem.F.typeCall_set_1 (.ref l)
  repeat (any_goals (first | assumption | wp_step))
  refine codeAny_mono (code_set_led1 (.ref l) (E := E) (Q₁ := fun obj s₁ => obj = .ref s.heap.objs.size ∧ s₁ = { s with heap := s.heap.push (fo w) }) ⟨rfl, rfl⟩) fun r s₁ hr => ?_
  cases r with
  | error e => exact hr
  | ok fl =>
    cases fl with
    | ret obj =>
      obtain ⟨rfl, rfl⟩ := hr
      have hS : (s.heap.push (fo w)).get? s.heap.objs.size = some (fo w) := Heap.get?_push_size _ rfl
      have hT : Shared.TypeIs { s with heap := s.heap.push (fo w) } (.ref s.heap.objs.size) "set" := ⟨_, hS, rfl⟩
      have hli := PySem.F.called_set.init.lookup
      have hbi := PySem.F.called_set.init.bind (.ref s.heap.objs.size)
      repeat (any_goals (first | assumption | wp_step))
      refine codeAny_mono (codeAny_call_builtin (R := wants (fun r s₂ => r = .none ∧ ∃ h' tk, s₂ = { s with heap := h', toks := tk } ∧
          TSet w h' s.heap.objs.size (fun k' => (xs.take items.size).any (· == k')) (cnt xs items.size) ∧
          (∀ b o, s.heap.get? b = some o → h'.get? b = some o)) E) PySem.F.called_set.init.plain PySem.F.entry_set_init (check_set_init_1 hT ?_)) fun r₂ s₂ hr₂ => ?_
      · obtain ⟨ol, hol, hcl, nl, hdl⟩ := hl
        obtain ⟨ocls, odict, odata, oslots⟩ := ol
        simp only at hcl hdl
        subst hcl; subst hdl
        have hol' : (s.heap.push (fo w)).get? l = some { cls := .type "list", dict := odict, data := .seq items nl, slots := oslots } := Heap.get?_push_of_some _ hol
        have hsls := PySem.F.sub_list_set
        have hslf := PySem.F.sub_list_frozenset
        have hne : (Value.type "list" == Value.type "dict") = false := by decide
        have hl1 : (s.heap.push (fo w)).IsList l items := ⟨_, hol', rfl, nl, rfl⟩
        unfold Builtin.«set.__init__» noKeywords Builtin.Frozenset.updateFrom
        generalize hPI : pyIter = PI
        wp_walk
        subst hPI
        refine wpAny_pyIter_list hl1 ?_
        refine wpAny_bind (wpAny_runValue ?_)
        have hlS : l < s.heap.objs.size := Heap.lt_size hol
        have hh3 : A.in1.in1.in1.handled = none := by simp [hh]
        have hneI : l ≠ (s.heap.push (fo w)).objs.size := by rw [Heap.size_push]; exact Nat.ne_of_lt (Nat.lt_succ_of_lt hlS)
        have hSf : s.heap.objs.size ∉ [(s.heap.push (fo w)).objs.size, l] := by
          rw [Heap.size_push]; simp only [List.mem_cons, List.mem_singleton, List.not_mem_nil, or_false, not_or]
          exact ⟨Nat.ne_of_lt (Nat.lt_succ_self _), Nat.ne_of_gt hlS⟩
        have hsz : xs.length = items.size := by rw [← StrsAre.len_eq hi, Array.length_toList]
        have hval : ∀ (i : Nat) (v : Value), items[i]? = some v → ∃ t, v = .str (xs.getD i Str.empty) t := fun i v hv => SS.strs_at hi i v (by rw [Array.getElem?_toList]; exact hv)
        refine loopT ((Walks.list hh3 _ l hneI items).toS) s.heap.objs.size
          hSf xs hsz (by rw [← hsz]; exact hn1) hval (items.size - 0) 0 _ (by omega) (Nat.zero_le _)
          ⟨⟨_, Heap.get?_push_size _ rfl, rfl, rfl⟩, (hl1.push _)⟩ ?hS0 ?hR
        case hS0 => exact (tset_fresh (h' := s.heap) w (Heap.get?_push_of_some _ hS)).congr (fun _ => rfl) rfl
        case hR =>
          intro s' hm hS'
          obtain ⟨h', g', d', tk', os'⟩ := s'
          obtain rfl : g' = s.gens := hm.gens
          obtain rfl : d' = s.drawn := hm.drawn
          obtain rfl : os' = s.os := hm.os
          show wpAny _ _ _ _ _ _
          refine wpAny_pure ?_
          show wpAny _ _ (ret Value.none) _ _ _
          refine wpAny_pure ⟨rfl, h', tk', rfl, hS', fun b o e => ?_⟩
          have hb := Heap.lt_size e
          have hb1 : b ≠ s.heap.objs.size := Nat.ne_of_lt hb
          have hb2 : b ≠ (s.heap.push (fo w)).objs.size := by rw [Heap.size_push]; exact Nat.ne_of_lt (Nat.lt_succ_of_lt hb)
          exact hm.heap b o (by simp only [List.mem_cons, List.mem_singleton, List.not_mem_nil, or_false, not_or]; exact ⟨hb1, hb2⟩) (Heap.get?_push_of_some _ (Heap.get?_push_of_some _ e))
      · cases r₂ with
        | error e => exact hr₂
        | ok fl₂ =>
          cases fl₂ with
          | ret r =>
            obtain ⟨rfl, h', tk, rfl, hS', hk'⟩ := hr₂
            repeat (any_goals (first | assumption | wp_step))
            exact h _ _ hS' hk'
          | _ => exact hr₂.elim
    | _ => exact hr.elim

set_option maxHeartbeats 3200000 in
theorem call_set_tt {l : Addr} {items : Array Value} {xs : List Str} {Q : Value → Shared → Prop}
    (hh : A.handled = none) (hl : s.heap.IsTuple l items) (hi : PyProof.Rows.StrsAre items.toList xs) (hn1 : xs.length + 1 < scanBound)
    (h : ∀ (h' : Heap) (tk : Nat), TSet w h' s.heap.objs.size (fun k' => (xs.take items.size).any (· == k')) (cnt xs items.size) →
      (∀ b o, s.heap.get? b = some o → h'.get? b = some o) → Q (.ref s.heap.objs.size) { s with heap := h', toks := tk }) :
    wpAny (model prog w) A (call (.type "set") [.ref l]) Q E s := by
  obtain ⟨c, tl, hmro⟩ := PySem.F.called_set.mro
  have hmade := PySem.F.called_set.made
  have hsub := PySem.F.called_set.sub
  refine wpAny_call (codeAny_of_tree ?_)
  show wpAny _ _ (callAny (.type "set") _) _ _ _
  refine wpAny_pure ⟨Code.quiet_builtin _ (by decide +kernel), codeAny_builtin PySem.F.entry_type_call ?_⟩
  rw [Around.under_plain (weight_type_call_type "set" [.ref l] []) rfl]
  have h1 := PySem.F.called_set.notType
  have h2 := PySem.F.called_set.canCreate
  have hct := PySem.F.typeCall_set_1 (.ref l)
  repeat (any_goals (first | assumption | wp_step))
  refine codeAny_mono (code_set_led1 (.ref l) (E := E) (Q₁ := fun obj s₁ => obj = .ref s.heap.objs.size ∧ s₁ = { s with heap := s.heap.push (fo w) }) ⟨rfl, rfl⟩) fun r s₁ hr => ?_
  cases r with
  | error e => exact hr
  | ok fl =>
    cases fl with
    | ret obj =>
      obtain ⟨rfl, rfl⟩ := hr
      have hS : (s.heap.push (fo w)).get? s.heap.objs.size = some (fo w) := Heap.get?_push_size _ rfl
      have hT : Shared.TypeIs { s with heap := s.heap.push (fo w) } (.ref s.heap.objs.size) "set" := ⟨_, hS, rfl⟩
      have hli := PySem.F.called_set.init.lookup
      have hbi := PySem.F.called_set.init.bind (.ref s.heap.objs.size)
      repeat (any_goals (first | assumption | wp_step))
      refine codeAny_mono (codeAny_call_builtin (R := wants (fun r s₂ => r = .none ∧ ∃ h' tk, s₂ = { s with heap := h', toks := tk } ∧
          TSet w h' s.heap.objs.size (fun k' => (xs.take items.size).any (· == k')) (cnt xs items.size) ∧
          (∀ b o, s.heap.get? b = some o → h'.get? b = some o)) E) PySem.F.called_set.init.plain PySem.F.entry_set_init (check_set_init_1 hT ?_)) fun r₂ s₂ hr₂ => ?_
      · obtain ⟨ol, hol, hcl, nl, hdl⟩ := hl
        obtain ⟨ocls, odict, odata, oslots⟩ := ol
        simp only at hcl hdl
        subst hcl; subst hdl
        have hol' : (s.heap.push (fo w)).get? l = some { cls := .type "tuple", dict := odict, data := .seq items nl, slots := oslots } := Heap.get?_push_of_some _ hol
        have hsls := PySem.F.sub_tuple_set
        have hslf := PySem.F.sub_tuple_frozenset
        have hne : (Value.type "tuple" == Value.type "dict") = false := by decide
        have hl1 : (s.heap.push (fo w)).IsTuple l items := ⟨_, hol', rfl, nl, rfl⟩
        unfold Builtin.«set.__init__» noKeywords Builtin.Frozenset.updateFrom
        generalize hPI : pyIter = PI
        wp_walk
        subst hPI
        refine wpAny_pyIter_tuple hl1 ?_
        refine wpAny_bind (wpAny_runValue ?_)
        have hlS : l < s.heap.objs.size := Heap.lt_size hol
        have hh3 : A.in1.in1.in1.handled = none := by simp [hh]
        have hneI : l ≠ (s.heap.push (fo w)).objs.size := by rw [Heap.size_push]; exact Nat.ne_of_lt (Nat.lt_succ_of_lt hlS)
        have hSf : s.heap.objs.size ∉ [(s.heap.push (fo w)).objs.size, l] := by
          rw [Heap.size_push]; simp only [List.mem_cons, List.mem_singleton, List.not_mem_nil, or_false, not_or]
          exact ⟨Nat.ne_of_lt (Nat.lt_succ_self _), Nat.ne_of_gt hlS⟩
        have hsz : xs.length = items.size := by rw [← StrsAre.len_eq hi, Array.length_toList]
        have hval : ∀ (i : Nat) (v : Value), items[i]? = some v → ∃ t, v = .str (xs.getD i Str.empty) t := fun i v hv => SS.strs_at hi i v (by rw [Array.getElem?_toList]; exact hv)
        refine loopT ((Walks.tuple hh3 _ l hneI items).toS) s.heap.objs.size
          hSf xs hsz (by rw [← hsz]; exact hn1) hval (items.size - 0) 0 _ (by omega) (Nat.zero_le _)
          ⟨⟨_, Heap.get?_push_size _ rfl, rfl, rfl⟩, (hl1.push _)⟩ ?hS0 ?hR
        case hS0 => exact (tset_fresh (h' := s.heap) w (Heap.get?_push_of_some _ hS)).congr (fun _ => rfl) rfl
        case hR =>
          intro s' hm hS'
          obtain ⟨h', g', d', tk', os'⟩ := s'
          obtain rfl : g' = s.gens := hm.gens
          obtain rfl : d' = s.drawn := hm.drawn
          obtain rfl : os' = s.os := hm.os
          show wpAny _ _ _ _ _ _
          refine wpAny_pure ?_
          show wpAny _ _ (ret Value.none) _ _ _
          refine wpAny_pure ⟨rfl, h', tk', rfl, hS', fun b o e => ?_⟩
          have hb := Heap.lt_size e
          have hb1 : b ≠ s.heap.objs.size := Nat.ne_of_lt hb
          have hb2 : b ≠ (s.heap.push (fo w)).objs.size := by rw [Heap.size_push]; exact Nat.ne_of_lt (Nat.lt_succ_of_lt hb)
          exact hm.heap b o (by simp only [List.mem_cons, List.mem_singleton, List.not_mem_nil, or_false, not_or]; exact ⟨hb1, hb2⟩) (Heap.get?_push_of_some _ (Heap.get?_push_of_some _ e))
      · cases r₂ with
        | error e => exact hr₂
        | ok fl₂ =>
          cases fl₂ with
          | ret r =>
            obtain ⟨rfl, h', tk, rfl, hS', hk'⟩ := hr₂
            repeat (any_goals (first | assumption | wp_step))
            exact h _ _ hS' hk'
          | _ => exact hr₂.elim
    | _ => exact hr.elim

/-- sorted(..) of fewer than 64 -/
theorem sorted_tset {a : Addr} {S : Str → Bool} {n : Nat} {Q : Value → Shared → Prop} (R : TSet w s.heap a S n) (hh : A.handled = none) (h64 : n < 64)
    (hQ : ∀ s' p (out : Array Value) (c : Nat) (ys : List Str), (∀ b o, s.heap.get? b = some o → s'.heap.get? b = some o) → s'.gens = s.gens → s'.os = s.os → s.heap.objs.size ≤ p →
      s'.heap.get? p = some (seqObj "list" out c) → StrsAre out.toList ys → sortedS ys = true → ys.Nodup → (∀ k, k ∈ ys ↔ S k = true) → ys.length = n → Q (.ref p) s') :
    wpAny (model prog w) A (call (.builtin "sorted") [.ref a]) Q E s := by
  obtain ⟨o, es, ep, t, ho, hex, hd, g, nd, hm, hb, hf, hn, hr, hl⟩ := R
  refine Calls.call_function_entry kind_sorted plain_sorted entry_sorted (args_sorted1 _) ?_
  unfold Builtin.«sorted»
  refine wpAny_bind (m := checkCount "sorted" 1 1 _) (wpAny_pure ?_)
  refine wpAny_bind (collect_set (A := A.in1) hh ⟨o, ho, hex.1, hd⟩ hf hb hr hl fun s1 vs k1 hz g1 o1 pm => ?_)
  have hvl : vs.length = n := by rw [pm.length_eq, List.length_map, Array.length_toList]; exact hn
  have hI : StrsAre vs (vs.map strOf) := strsAre_map vs fun v hv => by
    obtain ⟨e, he, q⟩ := List.mem_map.mp (pm.mem_iff.mp hv)
    obtain ⟨k, tk, h1, _⟩ := g e he
    exact ⟨k, tk, by rw [← q]; exact h1⟩
  have pk : (vs.map strOf).Perm (es.toList.map tOf) := by
    have q := pm.map strOf
    rw [List.map_map] at q
    exact q
  refine wpAny_bind (wpAny_newList ?_ (by rw [hvl, sizeLine_eq]; omega))
  have hoL : (s1.heap.push (seqObj "list" vs.toArray 0)).get? s1.heap.objs.size = some (seqObj "list" vs.toArray 0) := Heap.get?_push_size _ rfl
  refine wpAny_bind (wpAny_holding (wpAny_call_entry slot_list_sort ⟨_, hoL, rfl⟩ entry_list_sort (list_sort_treeK strKind_oneLt hoL hI.keysOf (fun v₁ v₂ rest e => keyKind_strs (by rw [← e]; exact hI)) (by rw [hvl]; exact h64) fun st' hp hs => ⟨_, rfl, ?_⟩) (args_list_sort _)))
  obtain ⟨ys, a1, a2, a3⟩ := sorted_out_str hI hp hs
  obtain ⟨c, hc⟩ := sortedHeap_at (vs := vs) (out := (arrOf st').map (·.2)) hoL
  have pn : ys.Perm (es.toList.map tOf) := a2.trans pk
  refine wpAny_pure ⟨_, rfl, hQ _ s1.heap.objs.size _ c ys (fun b u e => ?_) g1 o1 hz hc a1 a3 (pn.nodup_iff.mpr nd) (fun k => by rw [pn.mem_iff, ← hm k]) ?_⟩
  · have q := k1 b u e
    have hlt := Heap.lt_size q
    show (sortedHeap (s1.heap.push (seqObj "list" vs.toArray 0)) s1.heap.objs.size vs _).get? b = some u
    rw [sortedHeap_old (Nat.ne_of_lt hlt) (by rw [size_push']; exact Nat.lt_succ_of_lt hlt)]
    exact Heap.get?_push_of_some _ q
  · rw [pn.length_eq, List.length_map, Array.length_toList]; exact hn
end
end Pz
set_option Elab.async false
set_option linter.all false
set_option maxRecDepth 100000
set_option maxHeartbeats 2000000
/-! P11: repr, join, sorted, tuple(sorted(set(..))), a raise that never comes. -/
namespace Pl
open PySem PySem.Spec PyProof.Rows L2 Pg
/-! ### repr -/
def showOk (p : PyData) : Bool := p.showable && !p.hasDict && decide (p.depth < 60) && decide (p.shown.length ≤ LIM)
def reprD (st : Sto) (d : D) : Re D := match toPy1 st d with
  | some p => if showOk p then .ok (.str p.shown) st else .bad
  | none => .bad
section
variable {c : Ctx} {k : Kc} {E : XK} {X : Cx} {σ : L2.St} {H : Hp} {lv : Nat}
theorem run_repr {pins : List (Addr × Obj)} {s : Shared} {v : V} {u : Value} {p : PyData} {Q : VK} (hr : RoomG lv X.A) (I : Inv X pins σ H s) (d : Dp X.K H v p) (r : RelV v u) (ok : showOk p = true) (q : Q (.str p.shown) H) :
    wpAny (model X.prog X.w) X.A (call (.builtin "repr") [u]) (EP X pins σ Q) X.xe s := by
  unfold showOk at ok
  simp only [Bool.and_eq_true, Bool.not_eq_true', decide_eq_true_eq] at ok
  obtain ⟨⟨⟨o1, o2⟩, o3⟩, o4⟩ := ok
  have o4 := lim_line o4
  have fin : ∀ h' u' tk, (∀ b o, s.heap.get? b = some o → h'.get? b = some o) → EP X pins σ Q (.str p.shown u') { s with heap := h', toks := tk } := fun h' u' tk hk => ⟨.str p.shown, H, I.kept hk, ⟨u', rfl⟩, q⟩
  obtain ⟨as, hd⟩ := d.reads I _ _ _ r
  have room : X.A.units + (p.depth + 1) < cLine := by have := hr.un; omega
  cases d with
  | non =>
    cases r
    exact P.repr_of_none (fin s.heap s.toks _ fun _ _ e => e)
  | bl b =>
    cases r
    exact P.repr_of_bool (fin s.heap s.toks _ fun _ _ e => e)
  | int i =>
    obtain ⟨t, rfl⟩ := r
    exact P.repr_of_int (by simpa [PyData.showable] using o1) (fin s.heap s.toks _ fun _ _ e => e)
  | str x =>
    obtain ⟨t, rfl⟩ := r
    exact P.repr_of_str (fin s.heap s.toks _ fun _ _ e => e) o4
  | lst h1 h2 =>
    cases r
    exact repr_of_reads' hd o1 (PyData.noDict_hsm o2) hr.gd room (fun _ _ e => e) (fun h' u' tk hk => fin h' u' tk hk) o4
  | tup h1 h2 =>
    cases r
    exact repr_of_reads' hd o1 (PyData.noDict_hsm o2) hr.gd room (fun _ _ e => e) (fun h' u' tk hk => fin h' u' tk hk) o4
theorem f_repr (hK : X.K = k.K) (hr : RoomG lv X.A) : CallR X (.builtin "repr") (rC k E (c1 reprD)) := by
  intro pins s σ H vs us Q I rv ⟨PP, φ, st, ds, hs, rs, w⟩
  match ds, rs, w with
  | [d], rs, w =>
    obtain ⟨v, rfl, r1⟩ := rs.one
    have w : WD (k.w PP) E φ H (reprD st d) Q := w
    unfold reprD at w
    cases e : toPy1 st d with
    | none => rw [e] at w; exact False.elim w
    | some p =>
      rw [e] at w
      dsimp only at w
      by_cases ok : showOk p = true
      · rw [if_pos ok] at w
        cases rv with
        | cons r t =>
          cases t
          exact run_repr hr I (kD hK (toPy1_ok hs e r1)) r ok (w.ok0 hs _ .mkStr)
      · rw [if_neg ok] at w; exact False.elim w
  | [], _, w => exact False.elim w
  | _ :: _ :: _, _, w => exact False.elim w

/-! ### join -/
def seqStrs (st : Sto) (d : D) : Option (List Str) := (asQ st d).bind strs?
def joinD (st : Sto) (a : Str) (y : D) : Re D := match seqStrs st y with
  | some ys => if (ys.map (·.length)).sum + ys.length * a.length ≤ LIM then .ok (.str (Txt.join a ys)) st else .bad
  | none => .bad
def joinS (mo me : Sh D) : Sh D := fun fr st => (mo fr st).bind fun x st1 => match x with
  | .str a => (me fr st1).bind fun y st2 => joinD st2 a y
  | _ => .bad
theorem seqStrs_at {φ : List Addr} {st : Sto} {d : D} {v : V} {ns : List Str} (hs : Sim c φ st H) (e : seqStrs st d = some ns) (r : Rep c φ H d v) : ∃ a, v = .ref a ∧ (SqL c.K H a (ns.map V.str) ∨ SqT c.K H a (ns.map V.str)) := by
  obtain ⟨ds, e1, e2⟩ := Option.bind_eq_some_iff.mp e
  obtain ⟨a, xs, rfl, h, q⟩ := asQ_ok hs e1 r
  rw [strs_ok e2 q] at h
  exact ⟨a, rfl, h⟩
theorem e_join {o e : Expr} {mo me : Sh D} {apos pos : Pos} (hK : X.K = k.K) (ho : PE X o (tE k E mo)) (he : PE X e (tE k E me)) (hs : starEach [e] X.env = [(false, eval e X.env)] := by rfl) (hbase : attributeBase o "join" X.env (eval o X.env) = eval o X.env := by rfl) (hline : (apos.endLine == pos.line) = true := by rfl) :
    PE X (.Call (.Attribute o "join" apos) [e] [] pos) (tE k E (joinS mo me)) :=
  pe_weak (pe_join ho he hs hbase hline) fun σ H Q ⟨PP, φ, fr, st, hf, hs, w⟩ => seqD hf hs w fun x φ1 st1 H1 v1 _ hf1 hs1 r1 w1 => by
    cases x with
    | str a =>
      rw [r1.str]
      refine ⟨⟨a, rfl⟩, seqD hf1 hs1 w1 fun y φ2 st2 H2 v2 g2 _ hs2 r2 w2 => ?_⟩
      unfold joinD at w2
      cases e : seqStrs st2 y with
      | none => rw [e] at w2; exact False.elim w2
      | some ys =>
        rw [e] at w2
        dsimp only at w2
        by_cases hl : (ys.map (·.length)).sum + ys.length * a.length ≤ LIM
        · rw [if_pos hl] at w2
          obtain ⟨p, rfl, q⟩ := seqStrs_at hs2 e r2
          exact ⟨a, p, ys, rfl, rfl, kLT hK q, hl, w2.ok0 hs2 _ .mkStr⟩
        · rw [if_neg hl] at w2; exact False.elim w2
    | _ => exact False.elim w1
/-! ### a raise that never comes -/
def badM : Sm := fun _ _ => .bad
theorem s_never {st : Stmt} : PS X st (tS k E badM) := ⟨fun pins s σ H D I ⟨PP, φ, fr, st, hf, hs, w⟩ => False.elim w⟩
/-! ### texts in order -/
def sLe (a b : Str) : Bool := !decide (b.cps.toList < a.cps.toList)
def sIns (a : Str) : List Str → List Str
  | [] => [a]
  | b :: r => if sLe a b then a :: b :: r else b :: sIns a r
def sSort : List Str → List Str
  | [] => []
  | a :: r => sIns a (sSort r)
theorem sLe_total (a b : Str) : sLe a b = true ∨ sLe b a = true := by
  unfold sLe
  by_cases h : b.cps.toList < a.cps.toList
  · right
    simp only [Bool.not_eq_true', decide_eq_false_iff_not]
    exact fun z => List.lt_asymm h z
  · left
    simp [h]
theorem sLe_trans {a b d : Str} (h1 : sLe a b = true) (h2 : sLe b d = true) : sLe a d = true := by
  unfold sLe at *
  simp only [Bool.not_eq_true', decide_eq_false_iff_not] at *
  intro z
  have h1' : a.cps.toList ≤ b.cps.toList := List.not_lt.mp h1
  have h2' : b.cps.toList ≤ d.cps.toList := List.not_lt.mp h2
  exact absurd z (List.not_lt.mpr (List.le_trans h1' h2'))
theorem str_ext {a b : Str} (h : a.cps.toList = b.cps.toList) : a = b := by
  cases a; cases b
  simp only [Str.mk.injEq]
  exact Array.toList_inj.mp h
theorem sLe_anti {a b : Str} (h1 : sLe a b = true) (h2 : sLe b a = true) : a = b := by
  unfold sLe at *
  simp only [Bool.not_eq_true', decide_eq_false_iff_not] at *
  exact str_ext (List.le_antisymm (List.not_lt.mp h1) (List.not_lt.mp h2))
theorem sIns_perm (a : Str) : ∀ l, (sIns a l).Perm (a :: l)
  | [] => .refl _
  | b :: r => by
    unfold sIns
    split
    · exact .refl _
    · exact ((sIns_perm a r).cons b).trans (.swap a b r)
theorem sSort_perm : ∀ l, (sSort l).Perm l
  | [] => .refl _
  | a :: r => (sIns_perm a _).trans ((sSort_perm r).cons a)
theorem sIns_sorted (a : Str) : ∀ l, l.Pairwise (fun x y => sLe x y = true) → (sIns a l).Pairwise (fun x y => sLe x y = true)
  | [], _ => by unfold sIns; simp
  | b :: r, h => by
    obtain ⟨h1, h2⟩ := List.pairwise_cons.mp h
    unfold sIns
    split
    · rename_i hab
      refine List.pairwise_cons.mpr ⟨fun y hy => ?_, h⟩
      rcases List.mem_cons.mp hy with rfl | hy
      · exact hab
      · exact sLe_trans hab (h1 y hy)
    · rename_i hab
      have hba : sLe b a = true := (sLe_total a b).resolve_left hab
      refine List.pairwise_cons.mpr ⟨fun y hy => ?_, sIns_sorted a r h2⟩
      rcases List.mem_cons.mp ((sIns_perm a r).mem_iff.mp hy) with rfl | hy
      · exact hba
      · exact h1 y hy
theorem sSort_sorted : ∀ l, (sSort l).Pairwise (fun x y => sLe x y = true)
  | [] => .nil
  | a :: r => sIns_sorted a _ (sSort_sorted r)
theorem pw_of_rising : ∀ (p : Str) (l : List Str), risingS p l = true → (p :: l).Pairwise (fun x y => sLe x y = true)
  | p, [], _ => by simp
  | p, x :: r, h => by
    unfold risingS at h
    rw [Bool.and_eq_true, Bool.not_eq_true', ltCps_eq] at h
    have ih := pw_of_rising x r h.2
    have hpx : sLe p x = true := by unfold sLe; rw [h.1]; rfl
    refine List.pairwise_cons.mpr ⟨fun y hy => ?_, ih⟩
    rcases List.mem_cons.mp hy with rfl | hy
    · exact hpx
    · exact sLe_trans hpx ((List.pairwise_cons.mp ih).1 y hy)
theorem pw_of_sorted : ∀ (l : List Str), sortedS l = true → l.Pairwise (fun x y => sLe x y = true)
  | [], _ => .nil
  | x :: r, h => pw_of_rising x r h
theorem sort_uniq {l m : List Str} (p : l.Perm m) (hl : l.Pairwise (fun x y => sLe x y = true)) (hm : m.Pairwise (fun x y => sLe x y = true)) : l = m :=
  List.Perm.eq_of_pairwise (le := fun x y => sLe x y = true) (fun a b _ _ h1 h2 => sLe_anti h1 h2) hl hm p
def sortD (st : Sto) (d : D) : Re D := match strsOf st d with
  | some ys => if ys.length < 64 then .ok (.lst ((sSort ys).map .str)) st else .bad
  | none => .bad
theorem reps_strs {φ : List Addr} {ns : List Str} : Reps c φ H (ns.map .str) (ns.map V.str) := by
  induction ns with
  | nil => exact .nil
  | cons n ns ih => exact .cons .mkStr ih
theorem f_sortedS : CallR X (.builtin "sorted") (rC k E (c1 sortD)) := callR_c1 cr_sortedS fun PP φ st H d v Q hs r w => by
  unfold sortD at w
  cases e : strsOf st d with
  | none => rw [e] at w; exact False.elim w
  | some ys =>
    rw [e] at w
    dsimp only at w
    by_cases hl : ys.length < 64
    · rw [if_pos hl] at w
      obtain ⟨a, rfl, h⟩ := strs_at hs e r
      refine ⟨a, ys, rfl, .of h, hl, fun zs p h1 h2 hp => ?_⟩
      rw [sort_uniq (h1.trans (sSort_perm ys).symm) (pw_of_sorted zs h2) (sSort_sorted ys)]
      exact newL w hs reps_strs hp
    · rw [if_neg hl] at w; exact False.elim w
/-! ### tuple(sorted(set(..))) -/
def sDup : List Str → List Str
  | [] => []
  | a :: r => if r.any (· == a) then sDup r else a :: sDup r
theorem mem_sDup {x : Str} : ∀ l, x ∈ sDup l ↔ x ∈ l
  | [] => .rfl
  | a :: r => by
    unfold sDup
    by_cases h : r.any (· == a) = true
    · rw [if_pos h, mem_sDup r, List.mem_cons]
      refine ⟨.inr, fun z => z.elim (fun e => ?_) id⟩
      obtain ⟨b, hb, e2⟩ := List.any_eq_true.mp h
      rw [e, ← eq_of_beq e2]; exact hb
    · rw [if_neg h, List.mem_cons, List.mem_cons, mem_sDup r]
theorem nodup_sDup : ∀ l, (sDup l).Nodup
  | [] => .nil
  | a :: r => by
    unfold sDup
    by_cases h : r.any (· == a) = true
    · rw [if_pos h]; exact nodup_sDup r
    · rw [if_neg h]
      refine List.nodup_cons.mpr ⟨fun z => h (List.any_eq_true.mpr ⟨a, (mem_sDup r).mp z, by simp⟩), nodup_sDup r⟩
def tssD (st : Sto) (d : D) : Re D := match seqStrs st d with
  | some ys => if ys.length < 64 then .ok (.tup ((sSort (sDup ys)).map .str)) st else .bad
  | none => .bad
/-- the set of texts at a -/
def TSO (w : World) (a : Addr) (S : Str → Bool) (n : Nat) : HO := .ext fun h => Pz.TSet w h a S n
theorem tso_new {w : World} {P : Program} {H : Hp} {h : Heap} {a : Addr} {S : Str → Bool} {n : Nat} (R : Pz.TSet w h a S n) : ObjOk P w H h a (TSO w a S n) := by
  have ⟨o, _, _, _, ho, _⟩ := R
  exact ⟨R, ⟨o, ho⟩, fun h1 h2 p k => Pz.TSet.at p k⟩
def rSetT (K : PySem.W.Frag) (w : World) : List V → Hp → VK → Prop := fun xs H Q => ∃ (l : Addr) (ys : List Str), xs = [V.ref l] ∧ (SqL K H l (ys.map V.str) ∨ SqT K H l (ys.map V.str)) ∧ ys.length < 64 ∧
  ∀ a n, H a = none → n ≤ ys.length → Q (.ref a) (upd H a (TSO w a (fun z => ys.any (· == z)) n))
theorem cr_setT (hc : X.calm = true) : CallR X (.type "set") (rSetT X.K X.w) := by
  intro pins s σ H xs us Q I r h
  obtain ⟨l, ys, rfl, hq, hf, q⟩ := h
  rw [Vals.ref1 r]
  have hn : H s.heap.objs.size = none := I.hok.fresh (Nat.le_refl _)
  have fin : ∀ (its : List Value), Vals (ys.map V.str) its → ∀ (h' : Heap) (tk : Nat), Pz.TSet X.w h' s.heap.objs.size (fun k' => (ys.take its.toArray.size).any (· == k')) (Pz.cnt ys its.toArray.size) → (∀ b o, s.heap.get? b = some o → h'.get? b = some o) →
      EP X pins σ Q (.ref s.heap.objs.size) { s with heap := h', toks := tk } := fun its rv h' tk R k => by
    have hl : its.toArray.size = ys.length := by rw [List.size_toArray, ← rv.length, List.length_map]
    rw [hl, List.take_length] at R
    exact ⟨.ref s.heap.objs.size, _, I.laid (t' := tk) k (Nat.le_refl _) (tso_new R), rfl, q _ _ hn (Pz.cnt_le ys ys.length)⟩
  rcases hq with hq | hq
  · obtain ⟨its, rv, pl, hz⟩ := I.list hq
    exact Pz.call_set_lt (I.ok.hd hc) pl.isList (by simpa using strsAre_of rv) (by unfold scanBound; omega) fun h' tk R k => fin its rv h' tk R k
  · obtain ⟨its, rv, pl, hz⟩ := I.tuple hq
    exact Pz.call_set_tt (I.ok.hd hc) (show s.heap.IsTuple l its.toArray from pl) (by simpa using strsAre_of rv) (by unfold scanBound; omega) fun h' tk R k => fin its rv h' tk R k
def rSortT (w : World) : List V → Hp → VK → Prop := fun vs H Q => ∃ (a : Addr) (S : Str → Bool) (n : Nat), vs = [V.ref a] ∧ H a = some (TSO w a S n) ∧ n < 64 ∧
  ∀ (ys : List Str) (p : Addr), sortedS ys = true → ys.Nodup → (∀ z, z ∈ ys ↔ S z = true) → ys.length = n → H p = none → Q (.ref p) (upd H p (.lst (ys.map V.str)))
theorem cr_sortT (hc : X.calm = true) : CallR X (.builtin "sorted") (rSortT X.w) := by
  intro pins s σ H vs us Q I r h
  obtain ⟨a, S, n, rfl, ha, h64, q⟩ := h
  have R : Pz.TSet X.w s.heap a S n := (I.hok a _ ha).1
  rw [Vals.ref1 r]
  refine Pz.sorted_tset R (I.ok.hd hc) h64 fun s' p out c ys k g o hp hg hi hs hnd hm hl => ?_
  have hlen : (ys.map V.str).length ≤ sizeLine := by rw [List.length_map, hl, sizeLine_eq]; omega
  have hn : H p = none := I.hok.fresh hp
  have J : Inv X pins σ (upd H p (.lst (ys.map V.str))) { s with heap := s'.heap, gens := s'.gens, drawn := s'.drawn, toks := s'.toks } :=
    I.call (ch := []) (Un.laid k hp hn) (I.hok.laid k hp ⟨hlen, out.toList, c, vals_of_strs hi, hg⟩) (by rw [g]; exact I.bare) (fun _ z => nomatch z)
  have e : s' = { s with heap := s'.heap, gens := s'.gens, drawn := s'.drawn, toks := s'.toks } := by
    cases s'
    cases s
    cases o
    rfl
  rw [e]
  exact ⟨.ref p, _, J, rfl, q ys p hs hnd hm hl hn⟩
theorem e_tss {a : Expr} {m : Sh D} {p1 p2 p3 q1 q2 q3 : Pos} (hK : X.K = k.K) (hc : X.calm = true) (ht : X.mg "tuple" = none) (hso : X.mg "sorted" = none) (hse : X.mg "set" = none) (ha : PE X a (tE k E m)) (g1 : Gl X "tuple" := by rfl) (g2 : Gl X "sorted" := by rfl) (g3 : Gl X "set" := by rfl)
    (hs : starEach [a] X.env = [(false, eval a X.env)] := by rfl) (hs2 : starEach [.Call (.Name "set" p3) [a] [] q3] X.env = [(false, eval (.Call (.Name "set" p3) [a] [] q3) X.env)] := by rfl)
    (hs1 : starEach [.Call (.Name "sorted" p2) [.Call (.Name "set" p3) [a] [] q3] [] q2] X.env = [(false, eval (.Call (.Name "sorted" p2) [.Call (.Name "set" p3) [a] [] q3] [] q2) X.env)] := by rfl) :
    PE X (.Call (.Name "tuple" p1) [.Call (.Name "sorted" p2) [.Call (.Name "set" p3) [a] [] q3] [] q2] [] q1) (tE k E (op1S tssD m)) := by
  refine pe_weak (pe_callTy call_tuple_of g1 ht bb_tuple (pa_cons (pe_callB (cr_sortT hc) g2 hso bb_sorted (pa_cons (pe_callTy (cr_setT hc) g3 hse bb_set (pa_cons ha pa_nil hs) (he := hs) (hpl := rfl)) pa_nil hs2) (he := hs2) (hpl := rfl)) pa_nil hs1) (he := hs1) (hpl := rfl)) ?_
  intro σ H Q ⟨PP, φ, fr, st, hf, hs, w⟩
  refine seqD hf hs w fun x φ1 st1 H1 v1 _ hf1 hs1 r1 w1 => ?_
  unfold tssD at w1
  cases e : seqStrs st1 x with
  | none => rw [e] at w1; exact False.elim w1
  | some ys =>
    rw [e] at w1
    dsimp only at w1
    by_cases hl : ys.length < 64
    · rw [if_pos hl] at w1
      obtain ⟨l, rfl, q⟩ := seqStrs_at hs1 e r1
      refine ⟨l, ys, rfl, kLT hK q, hl, fun b n hb hn => ⟨b, _, n, rfl, upd_same, by omega, fun zs p h1 h2 h3 h4 hp => ?_⟩⟩
      have ez : zs = sSort (sDup ys) := by
        refine sort_uniq ?_ (pw_of_sorted zs h1) (sSort_sorted _)
        refine .trans ?_ (sSort_perm _).symm
        refine (List.perm_ext_iff_of_nodup h2 (nodup_sDup ys)).mpr fun z => ?_
        rw [h3, mem_sDup, List.any_eq_true]
        exact ⟨fun ⟨y, hy, e⟩ => by rw [← eq_of_beq e]; exact hy, fun hz => ⟨z, hz, by simp⟩⟩
      rw [← ez] at w1
      have sb := hs1.new (o := TSO X.w b (fun z => ys.any (· == z)) n) hb
      refine ⟨p, zs.map V.str, rfl, .inl ⟨.of upd_same, fun l2 hl2 => ?_⟩⟩
      have sc := sb.new (o := .lst (zs.map V.str)) hp
      have gg := (Grow.new (φ := φ1) (o := TSO X.w b (fun z => ys.any (· == z)) n) hb).trans (Grow.new (φ := φ1) (o := .lst (zs.map V.str)) hp)
      exact newT (Goes.mono w1 gg) sc reps_strs hl2
    · rw [if_neg hl] at w1; exact False.elim w1
end
end Pl
set_option Elab.async false
set_option linter.all false
set_option maxRecDepth 100000
set_option maxHeartbeats 2000000
/-! P12: comprehensions with two fors. -/
namespace Pl
open PySem PySem.Spec PyProof.Rows L2 Pg
def lc2Loop (it : ItD) (tg : Tg) (tt : Sh Bool) (it1 : Si) (vs1 : List Nat) (tg1 : Tg) (tt1 : Sh Bool) (te : Sh D) (fr0 : Fr) : Nat → Nat → List D → Sto → Re (List D)
  | 0, _, acc, st => if it.ok st then .ok acc st else .bad
  | m + 1, i, acc, st => match it.at st i with
    | none => .bad
    | some d => match tg.go d fr0 with
      | none => .bad
      | some fr1 => match tt fr1 st with
        | .ok true st1 => (match it1 fr1 st1 with
          | .ok itd1 st2 => (match lcLoop itd1 tg1 tt1 te (wipeF fr1 vs1) itd1.len 0 acc st2 with
            | .ok acc' st3 => lc2Loop it tg tt it1 vs1 tg1 tt1 te fr0 m (i + 1) acc' st3
            | _ => .bad)
          | _ => .bad)
        | .ok false st1 => lc2Loop it tg tt it1 vs1 tg1 tt1 te fr0 m (i + 1) acc st1
        | _ => .bad
def lc2S (it : Si) (vs : List Nat) (tg : Tg) (tt : Sh Bool) (it1 : Si) (vs1 : List Nat) (tg1 : Tg) (tt1 : Sh Bool) (te : Sh D) : Sh (List D) := fun fr st => (it fr st).bind fun itd st1 => lc2Loop itd tg tt it1 vs1 tg1 tt1 te (wipeF fr vs) itd.len 0 [] st1
section
variable {k : Kc} {E : XK} {X : Cx} {σ : L2.St} {H : Hp} {φ : List Addr} {PP : Addr → Prop} {D : Addr}
theorem walk_it {J : It} {n : Nat} {H0 : Hp} {Qd : Hp → Prop} {B : (Hp → Prop) → V → Hp → Prop} (Pv : Nat → Hp → Prop) (h0 : Pv 0 H0) (hgo : ∀ i H, i < n → Pv i H → J.go i H) (hst : ∀ H, Pv n H → J.stop n H ∧ Qd H)
    (hs : ∀ i x H H', i < n → Pv i H → J.yld i H x H' → B (Pv (i + 1)) x H') :
    ∃ W : Nat → Nat → Hp → Prop, (∃ m, W 0 m H0) ∧ ∀ i m H, W i m H → (J.stop i H ∧ Qd H) ∨ (J.go i H ∧ ∃ Nx : Hp → Prop, (∀ H', Nx H' → ∃ m', m' < m ∧ W (i + 1) m' H') ∧ ∀ x H', J.yld i H x H' → B Nx x H') := by
  refine ⟨fun i m H => m = n - i ∧ i ≤ n ∧ Pv i H, ⟨n, by simp, Nat.zero_le _, h0⟩, ?_⟩
  rintro i m H ⟨rfl, hi, p⟩
  by_cases hlt : i < n
  · exact .inr ⟨hgo i H hlt p, Pv (i + 1), fun H' p' => ⟨n - (i + 1), by omega, rfl, hlt, p'⟩, fun x H' y => hs i x H H' hlt p y⟩
  · obtain rfl : i = n := by omega
    exact .inl (hst H p)
structure Keep (D : Addr) (I : List Addr → Hp → Prop) : Prop where
  g : ∀ {φ φ' : List Addr} {H H' : Hp}, Grow φ H φ' H' → I φ H → I φ' H'
  u : ∀ {φ : List Addr} {H : Hp} {us : List V} {o : HO}, H D = some (.lst us) → I φ H → I φ (upd H D o)
theorem Keep.and {I I' : List Addr → Hp → Prop} (a : Keep D I) (b : Keep D I') : Keep D (fun φ H => I φ H ∧ I' φ H) := ⟨fun g h => ⟨a.g g h.1, b.g g h.2⟩, fun e h => ⟨a.u e h.1, b.u e h.2⟩⟩
theorem Keep.fr {fr : Fr} {σ : L2.St} : Keep D (fun φ H => FrR (k.w (Ne PP D)) φ H fr σ) := ⟨fun g h => h.stay g, fun e h => h.updD e⟩
theorem Keep.base {φ0 : List Addr} {H0 : Hp} (h0 : H0 D = none) : Keep D (fun φ H => Grow φ0 H0 φ H) := ⟨fun g h => h.trans g, fun e h => h.updD h0⟩
theorem TupR.updD {a : Addr} {xs us : List V} {o : HO} (hD : H D = some (.lst us)) (h : TupR (k.w (Ne PP D)) φ H a xs) : TupR (k.w (Ne PP D)) φ (upd H D o) a xs := by
  rcases h with ⟨h1, h3⟩ | h1
  · have ne := rd_ne h3 hD
    refine .inl ⟨h1, ?_⟩
    rcases h3 with h3 | ⟨o, h3⟩
    · exact .inl (by rw [upd_ne ne]; exact h3)
    · exact .inr ⟨o, by rw [upd_ne ne]; exact h3⟩
  · exact .inr h1
theorem LstR.updD {a : Addr} {xs us : List V} {o : HO} (hD : H D = some (.lst us)) (h : LstR (k.w (Ne PP D)) φ H a xs) : LstR (k.w (Ne PP D)) φ (upd H D o) a xs := by
  rcases h with ⟨h1, h2, h3⟩ | h1
  · refine .inl ⟨h1, h2, ?_⟩
    rcases h3 with h3 | ⟨o, h3⟩
    · exact .inl (by rw [upd_ne h2.2]; exact h3)
    · exact .inr ⟨o, by rw [upd_ne h2.2]; exact h3⟩
  · exact .inr h1
theorem ItR.stay {c : Ctx} {φ' : List Addr} {H' : Hp} {it : ItD} {J : It} (g : Grow φ H φ' H') (h : ItR c φ H it J) : ItR c φ' H' it J := by
  cases h with
  | tup h q => exact .tup (g.tup h) (q.stay g)
  | lst h q => exact .lst (g.lst h) (q.stay g)
  | live h => exact .live (g.refs _ _ h)
  | rng lo n => exact .rng lo n
  | str z => exact .str z
  | zipT h1 q1 h2 q2 => exact .zipT (g.tup h1) (q1.stay g) (g.tup h2) (q2.stay g)
  | zipL h1 q1 h2 q2 => exact .zipL (g.lst h1) (q1.stay g) (g.lst h2) (q2.stay g)
  | enum h q => exact .enum (g.lst h) (q.stay g)
  | enumT h q => exact .enumT (g.tup h) (q.stay g)
theorem ItR.updD {it : ItD} {J : It} {us : List V} {o : HO} (hD : H D = some (.lst us)) (h : ItR (k.w (Ne PP D)) φ H it J) : ItR (k.w (Ne PP D)) φ (upd H D o) it J := by
  cases h with
  | tup h q => exact .tup (c := k.w (Ne PP D)) (h.updD hD) (q.updD hD)
  | lst h q => exact .lst (c := k.w (Ne PP D)) (h.updD hD) (q.updD hD)
  | live h => exact .live (c := k.w (Ne PP D)) h
  | rng lo n => exact .rng lo n
  | str z => exact .str z
  | zipT h1 q1 h2 q2 => exact .zipT (c := k.w (Ne PP D)) (h1.updD hD) (q1.updD hD) (h2.updD hD) (q2.updD hD)
  | zipL h1 q1 h2 q2 => exact .zipL (c := k.w (Ne PP D)) (h1.updD hD) (q1.updD hD) (h2.updD hD) (q2.updD hD)
  | enum h q => exact .enum (c := k.w (Ne PP D)) (h.updD hD) (q.updD hD)
  | enumT h q => exact .enumT (c := k.w (Ne PP D)) (h.updD hD) (q.updD hD)
theorem Keep.it {it : ItD} {J : It} : Keep D (fun φ H => ItR (k.w (Ne PP D)) φ H it J) := ⟨fun g h => h.stay g, fun e h => h.updD e⟩
/-- how such a loop ends -/
def Post (k : Kc) (PP : Addr → Prop) (D : Addr) (I : List Addr → Hp → Prop) (Qd : Hp → Prop) (r : Re (List Pl.D)) : Prop := match r with
  | .ok acc st => ∀ φ H us, I φ H → Sim (k.w (Ne PP D)) φ st H → D ∉ φ → H D = some (.lst us) → Reps (k.w (Ne PP D)) φ H acc us → Qd H
  | _ => False
theorem lcl {itd : ItD} {J : It} {tg : Tg} {tt : Sh Bool} {te : Sh Pl.D} {vs : List Nat} {fr : Fr} {σ : L2.St} {st0 : Sto} {acc0 : List Pl.D} {us0 : List V} {φ0 : List Addr} {H0 : Hp} {Qd : Hp → Prop} {I : List Addr → Hp → Prop} (kp : Keep D I) (hw : ∀ i ∈ tg.ws, i ∈ vs)
    (hf : ∀ φ H, I φ H → FrR (k.w (Ne PP D)) φ H (wipeF fr vs) (wipe σ vs)) (hi : ∀ φ H, I φ H → ItR (k.w (Ne PP D)) φ H itd J) (h0 : I φ0 H0) (hs : Sim (k.w (Ne PP D)) φ0 st0 H0) (hn : D ∉ φ0) (hD : H0 D = some (.lst us0)) (hr : Reps (k.w (Ne PP D)) φ0 H0 acc0 us0)
    (w : Post k PP D I Qd (lcLoop itd tg tt te (wipeF fr vs) itd.len 0 acc0 st0)) :
    ∃ W : Nat → Nat → Hp → Prop, (∃ m, W 0 m H0) ∧ ∀ i m H, W i m H → (J.stop i H ∧ Qd H) ∨ (J.go i H ∧ ∃ Nx : Hp → Prop, (∀ H', Nx H' → ∃ m', m' < m ∧ W (i + 1) m' H') ∧ ∀ x H', J.yld i H x H' →
      tG k tg x (wipe σ vs) H' fun σ2 H2 => wipe σ2 vs = wipe σ vs ∧ tT k E0 tt σ2 H2 fun b H3 => if b = true then tE k E0 te σ2 H3 fun y H4 => ∃ acc, H4 D = some (.lst acc) ∧ acc.length < sizeLine ∧ Nx (upd H4 D (.lst (acc ++ [y]))) else Nx H3) := by
  have loopOk : ∀ (m i : Nat) (acc : List Pl.D) (st : Sto), Post k PP D I Qd (lcLoop itd tg tt te (wipeF fr vs) m i acc st) → itd.ok st = true := fun m i acc st w => by
    cases m with
    | zero =>
      unfold lcLoop at w
      by_cases h : itd.ok st = true
      · exact h
      · rw [if_neg h] at w; exact False.elim w
    | succ m =>
      unfold lcLoop at w
      cases e : itd.at st i with
      | none => rw [e] at w; exact False.elim w
      | some d => exact at_ok e
  refine walk_it (n := itd.len) (B := fun Nx x H' => tG k tg x (wipe σ vs) H' fun σ2 H2 => wipe σ2 vs = wipe σ vs ∧ tT k E0 tt σ2 H2 fun b H3 => if b = true then tE k E0 te σ2 H3 fun y H4 => ∃ acc, H4 D = some (.lst acc) ∧ acc.length < sizeLine ∧ Nx (upd H4 D (.lst (acc ++ [y]))) else Nx H3)
    (fun i H => ∃ φ st acc us, I φ H ∧ Sim (k.w (Ne PP D)) φ st H ∧ D ∉ φ ∧ H D = some (.lst us) ∧ Reps (k.w (Ne PP D)) φ H acc us ∧ Post k PP D I Qd (lcLoop itd tg tt te (wipeF fr vs) (itd.len - i) i acc st))
    ⟨φ0, st0, acc0, us0, h0, hs, hn, hD, hr, by simpa using w⟩ ?_ ?_ ?_
  · rintro i H hlt ⟨φ, st, acc, us, hI, s, n, o, r, w⟩
    obtain ⟨ok⟩ := (hi φ H hI).use
    exact ok.walk.goes i H hlt (ok.stay φ st H .refl s (loopOk _ _ _ _ w))
  · rintro H ⟨φ, st, acc, us, hI, s, n, o, r, w⟩
    obtain ⟨ok⟩ := (hi φ H hI).use
    refine ⟨ok.walk.stops H (ok.stay φ st H .refl s (loopOk _ _ _ _ w)), ?_⟩
    rw [Nat.sub_self, lcLoop] at w
    by_cases h : itd.ok st = true
    · rw [if_pos h] at w
      exact w φ H us hI s n o r
    · rw [if_neg h] at w; exact False.elim w
  · rintro i x H Hb hlt ⟨φ, st, acc, us, hI, s, n, o, r, w⟩ y
    obtain ⟨ok⟩ := (hi φ H hI).use
    have yy := ok.walk.yields i H x Hb hlt (ok.stay φ st H .refl s (loopOk _ _ _ _ w)) y
    have ei : itd.len - i = (itd.len - (i + 1)) + 1 := by omega
    rw [ei, lcLoop] at w
    cases e : itd.at st i with
    | none => rw [e] at w; exact False.elim w
    | some d =>
      rw [e] at w
      dsimp only at w
      obtain ⟨gb, sb, rb⟩ := ok.item φ st H i d x Hb .refl s e yy
      cases e2 : tg.go d (wipeF fr vs) with
      | none => rw [e2] at w; exact False.elim w
      | some fr1 =>
        rw [e2] at w
        dsimp only at w
        refine ⟨Ne PP D, φ, wipeF fr vs, st, d, (hf φ H hI).stay gb, sb, rb, fr1, e2, fun σ2 f2 so => ⟨(so vs hw).trans wipe_idem, Ne PP D, φ, fr1, st, f2, sb, ?_⟩⟩
        have oD : Hb D = some (.lst us) := gb.keep D _ n o
        cases e3 : tt fr1 st with
        | bad => rw [e3] at w; exact False.elim w
        | exc _ _ _ => rw [e3] at w; exact False.elim w
        | ok b st2 =>
          rw [e3] at w
          intro φ3 H3 g3 s3
          have oD3 : H3 D = some (.lst us) := g3.keep D _ n oD
          have nD3 : D ∉ φ3 := g3.apart D _ n oD
          cases b with
          | false =>
            dsimp only
            rw [if_neg Bool.false_ne_true]
            exact ⟨φ3, st2, acc, us, kp.g (gb.trans g3) hI, s3, nD3, oD3, (r.stay gb).stay g3, w⟩
          | true =>
            dsimp only
            rw [if_pos rfl]
            refine ⟨Ne PP D, φ3, fr1, st2, f2.stay g3, s3, ?_⟩
            dsimp only at w
            cases e4 : te fr1 st2 with
            | bad => rw [e4] at w; exact False.elim w
            | exc _ _ _ => rw [e4] at w; exact False.elim w
            | ok z st4 =>
              rw [e4] at w
              dsimp only at w
              intro φ4 H4 g4 s4 zv rz
              have oD4 : H4 D = some (.lst us) := g4.keep D _ nD3 oD3
              have nD4 : D ∉ φ4 := g4.apart D _ nD3 oD3
              by_cases hl : acc.length < LIM
              · rw [if_pos hl] at w
                exact ⟨us, oD4, by rw [← r.length]; exact lim_line_lt hl, φ4, st4, acc ++ [z], us ++ [zv], kp.u oD4 (kp.g ((gb.trans g3).trans g4) hI), s4.updD oD4 nD4, nD4, upd_same, ((((r.stay gb).stay g3).stay g4).append (.cons rz .nil)).updD oD4, w⟩
              · rw [if_neg hl] at w; exact False.elim w
theorem lc2_go {it it1 : Si} {tg tg1 : Tg} {tt tt1 : Sh Bool} {te : Sh Pl.D} {vs vs1 : List Nat} {fr : Fr} {st : Sto} {Q : VK} (hw : ∀ i ∈ tg.ws, i ∈ vs) (hw1 : ∀ i ∈ tg1.ws, i ∈ vs1) (hf : FrR (k.w PP) φ H fr σ) (hs : Sim (k.w PP) φ st H)
    (w : Goes (k.w PP) E φ H (lc2S it vs tg tt it1 vs1 tg1 tt1 te fr st) fun acc φ' st' H' => ∀ D, LcEnd k PP H φ' st' H' acc D → Q (.ref D) H') : tLc2 (tI k E it) (tG k tg) (tT k E0 tt) (tI k E0 it1) (tG k tg1) (tT k E0 tt1) (tE k E0 te) vs vs1 σ H Q := by
  refine ⟨PP, φ, fr, st, hf, hs, ?_⟩
  unfold lc2S at w
  cases e0 : it fr st with
  | bad => rw [e0] at w; exact False.elim w
  | exc n fs st' => rw [e0] at w; exact w
  | ok itd st1 =>
    rw [e0] at w
    have w : Goes (k.w PP) E φ H (lc2Loop itd tg tt it1 vs1 tg1 tt1 te (wipeF fr vs) itd.len 0 [] st1) fun acc φ' st' H' => ∀ D, LcEnd k PP H φ' st' H' acc D → Q (.ref D) H' := w
    intro φ1 H1 g1 s1 J rJ D hD
    have loopOk : ∀ (m i : Nat) (acc : List Pl.D) (st : Sto), Goes (k.w PP) E φ H (lc2Loop itd tg tt it1 vs1 tg1 tt1 te (wipeF fr vs) m i acc st) (fun acc φ' st' H' => ∀ D, LcEnd k PP H φ' st' H' acc D → Q (.ref D) H') → itd.ok st = true := fun m i acc st w => by
      cases m with
      | zero =>
        unfold lc2Loop at w
        by_cases h : itd.ok st = true
        · exact h
        · rw [if_neg h] at w; exact False.elim w
      | succ m =>
        unfold lc2Loop at w
        cases e : itd.at st i with
        | none => rw [e] at w; exact False.elim w
        | some d => exact at_ok e
    -- what stays
    have kp := (Keep.base (D := D) (φ0 := φ1) hD).and ((Keep.fr (k := k) (PP := PP) (D := D) (fr := wipeF fr vs) (σ := wipe σ vs)).and (Keep.it (k := k) (PP := PP) (D := D) (it := itd) (J := J)))
    refine walk_it (n := itd.len) (B := fun Nx x H' => tG k tg x (wipe σ vs) H' fun σ2 H2 => wipe σ2 vs = wipe σ vs ∧ tT k E0 tt σ2 H2 fun b H3 =>
      if b = true then tI k E0 it1 σ2 H3 fun J1 H4 => ∃ W1 : Nat → Nat → Hp → Prop, (∃ m, W1 0 m H4) ∧ ∀ j k' H, W1 j k' H →
        (J1.stop j H ∧ Nx H) ∨ (J1.go j H ∧ ∃ Nx1 : Hp → Prop, (∀ H', Nx1 H' → ∃ k2, k2 < k' ∧ W1 (j + 1) k2 H') ∧ ∀ x H', J1.yld j H x H' → tG k tg1 x (wipe σ2 vs1) H' fun σ3 H5 => wipe σ3 vs1 = wipe σ2 vs1 ∧ tT k E0 tt1 σ3 H5 fun b H6 =>
          if b = true then tE k E0 te σ3 H6 fun y H7 => ∃ acc, H7 D = some (.lst acc) ∧ acc.length < sizeLine ∧ Nx1 (upd H7 D (.lst (acc ++ [y]))) else Nx1 H6)
      else Nx H3)
      (fun i H' => ∃ φ' st' acc us, (Grow φ1 H1 φ' H' ∧ FrR (k.w (Ne PP D)) φ' H' (wipeF fr vs) (wipe σ vs) ∧ ItR (k.w (Ne PP D)) φ' H' itd J) ∧ Sim (k.w (Ne PP D)) φ' st' H' ∧ D ∉ φ' ∧ H' D = some (.lst us) ∧ Reps (k.w (Ne PP D)) φ' H' acc us ∧
        Goes (k.w PP) E φ H (lc2Loop itd tg tt it1 vs1 tg1 tt1 te (wipeF fr vs) (itd.len - i) i acc st') fun acc φ' st' H' => ∀ D, LcEnd k PP H φ' st' H' acc D → Q (.ref D) H')
      ⟨φ1, st1, [], [], ⟨.new hD, (((hf.stay g1).strong hD).wipe vs).stay (.new hD), (rJ.strong hD).stay (.new hD)⟩, s1.start hD, s1.notin hD, upd_same, .nil, by simpa using w⟩ ?_ ?_ ?_
    · rintro i H' hlt ⟨φ', st', acc, us, hI, s', n', o', r', w'⟩
      obtain ⟨ok⟩ := hI.2.2.use
      exact ok.walk.goes i H' hlt (ok.stay φ' st' H' .refl s' (loopOk _ _ _ _ w'))
    · rintro H' ⟨φ', st', acc, us, hI, s', n', o', r', w'⟩
      obtain ⟨ok⟩ := hI.2.2.use
      refine ⟨ok.walk.stops H' (ok.stay φ' st' H' .refl s' (loopOk _ _ _ _ w')), ?_⟩
      rw [Nat.sub_self, lc2Loop] at w'
      by_cases h : itd.ok st' = true
      · rw [if_pos h] at w'
        exact w' φ' H' (g1.trans hI.1) s'.loose D ⟨g1.none hD, n', s1.fresh D hD, ⟨us, o', r'⟩, s'⟩
      · rw [if_neg h] at w'; exact False.elim w'
    · rintro i x H' Hb hlt ⟨φ', st', acc, us, hI, s', n', o', r', w'⟩ y
      obtain ⟨ok⟩ := hI.2.2.use
      have yy := ok.walk.yields i H' x Hb hlt (ok.stay φ' st' H' .refl s' (loopOk _ _ _ _ w')) y
      have ei : itd.len - i = (itd.len - (i + 1)) + 1 := by omega
      rw [ei, lc2Loop] at w'
      cases e : itd.at st' i with
      | none => rw [e] at w'; exact False.elim w'
      | some d =>
        rw [e] at w'
        dsimp only at w'
        obtain ⟨gb, sb, rb⟩ := ok.item φ' st' H' i d x Hb .refl s' e yy
        cases e2 : tg.go d (wipeF fr vs) with
        | none => rw [e2] at w'; exact False.elim w'
        | some fr1 =>
          rw [e2] at w'
          dsimp only at w'
          refine ⟨Ne PP D, φ', wipeF fr vs, st', d, hI.2.1.stay gb, sb, rb, fr1, e2, fun σ2 f2 so => ⟨(so vs hw).trans wipe_idem, Ne PP D, φ', fr1, st', f2, sb, ?_⟩⟩
          have oD : Hb D = some (.lst us) := gb.keep D _ n' o'
          cases e3 : tt fr1 st' with
          | bad => rw [e3] at w'; exact False.elim w'
          | exc _ _ _ => rw [e3] at w'; exact False.elim w'
          | ok b st2 =>
            rw [e3] at w'
            intro φ3 H3 g3 s3
            have oD3 : H3 D = some (.lst us) := g3.keep D _ n' oD
            have nD3 : D ∉ φ3 := g3.apart D _ n' oD
            have hI3 := kp.g (gb.trans g3) hI
            cases b with
            | false =>
              dsimp only
              rw [if_neg Bool.false_ne_true]
              exact ⟨φ3, st2, acc, us, hI3, s3, nD3, oD3, (r'.stay gb).stay g3, w'⟩
            | true =>
              dsimp only
              rw [if_pos rfl]
              refine ⟨Ne PP D, φ3, fr1, st2, f2.stay g3, s3, ?_⟩
              dsimp only at w'
              cases e4 : it1 fr1 st2 with
              | bad => rw [e4] at w'; exact False.elim w'
              | exc _ _ _ => rw [e4] at w'; exact False.elim w'
              | ok itd1 st4 =>
                rw [e4] at w'
                dsimp only at w'
                intro φ4 H4 g4 s4 J1 rJ1
                have oD4 : H4 D = some (.lst us) := g4.keep D _ nD3 oD3
                have nD4 : D ∉ φ4 := g4.apart D _ nD3 oD3
                have hI4 := kp.g g4 hI3
                have f4 : FrR (k.w (Ne PP D)) φ4 H4 (wipeF fr1 vs1) (wipe σ2 vs1) := ((f2.stay g3).stay g4).wipe vs1
                have kp1 := kp.and ((Keep.fr (k := k) (PP := PP) (D := D) (fr := wipeF fr1 vs1) (σ := wipe σ2 vs1)).and (Keep.it (k := k) (PP := PP) (D := D) (it := itd1) (J := J1)))
                refine lcl kp1 hw1 (fun φ H h => h.2.1) (fun φ H h => h.2.2) ⟨hI4, f4, rJ1⟩ s4 nD4 oD4 (((r'.stay gb).stay g3).stay g4) ?_
                cases e5 : lcLoop itd1 tg1 tt1 te (wipeF fr1 vs1) itd1.len 0 acc st4 with
                | bad => rw [e5] at w'; exact False.elim w'
                | exc _ _ _ => rw [e5] at w'; exact False.elim w'
                | ok acc5 st5 =>
                  rw [e5] at w'
                  exact fun φ5 H5 us5 hI5 s5 n5 o5 r5 => ⟨φ5, st5, acc5, us5, hI5.1, s5, n5, o5, r5, w'⟩
theorem lcF2 {m : Sh (List Pl.D)} {fr : Fr} {st : Sto} {Q : VK} (w : WD (k.w PP) E φ H (frzS m fr st) Q) : Goes (k.w PP) E φ H (m fr st) fun acc φ' st' H' => ∀ D, LcEnd k PP H φ' st' H' acc D → Q (.ref D) H' := by
  unfold frzS at w
  cases e : m fr st with
  | bad => rw [e] at w; exact False.elim w
  | exc n fs st' => rw [e] at w; exact w
  | ok acc st' =>
    rw [e] at w
    exact fun φ' H' g s D le => w φ' H' g s _ le.frz
theorem lcN2 {m : Sh (List Pl.D)} {fr : Fr} {st : Sto} {Q : VK} (w : WD (k.w PP) E φ H (newS m fr st) Q) : Goes (k.w PP) E φ H (m fr st) fun acc φ' st' H' => ∀ D, LcEnd k PP H φ' st' H' acc D → Q (.ref D) H' := by
  unfold newS at w
  cases e : m fr st with
  | bad => rw [e] at w; exact False.elim w
  | exc n fs st' => rw [e] at w; exact w
  | ok acc st' =>
    rw [e] at w
    intro φ' H' g s D le
    obtain ⟨us, h, r⟩ := le.obj
    exact w (φ' ++ [D]) H' (g.addD le.new) (le.sim.addD h le.out le.pp r) _ (by rw [Rep]; exact ⟨D, by rw [← s.len]; simp, rfl⟩)
variable {elt tgt iter tgt1 iter1 : Expr} {ifs ifs1 : List Expr} {scope : Scope} {own : List (Str × Nat)} {vs1 : List Nat} {pos spos py : Pos} {it it1 : Si} {tg tg1 : Tg} {tt tt1 : Sh Bool} {te : Sh Pl.D} {i : Nat} {y : Str}
abbrev AtBlk (X : Cx) (scope : Scope) (Pr : Cx → Prop) : Prop := ∀ (s : Shared) (H : Hp) (C : Addr) (cl : List (Str × Addr)) (fp : List Addr), Pr (X.blk s H scope (compEnvC scope cl C X.env) fp)
theorem e_lc2 (hc : X.calm = true) (hN : X.N.Nodup) (hi : PI X tgt iter (tI k E it)) (ok : BlkOk X.N X.env.scope scope own) (hw : ∀ i ∈ tg.ws, i ∈ own.map (·.2)) (hw1 : ∀ i ∈ tg1.ws, i ∈ vs1) (hv : ∀ i ∈ vs1, i ∈ own.map (·.2))
    (hg : AtBlk X scope fun Y => PG Y tgt (tG k tg)) (ht : AtBlk X scope fun Y => PTs Y ifs (tT k E0 tt)) (hi1 : AtBlk X scope fun Y => PI Y tgt1 iter1 (tI k E0 it1)) (hg1 : AtBlk X scope fun Y => PG Y tgt1 (tG k tg1)) (ht1 : AtBlk X scope fun Y => PTs Y ifs1 (tT k E0 tt1)) (he : AtBlk X scope fun Y => PE Y elt (tE k E0 te))
    (hs : ∀ x, foldedSetIterable iter X.env x = pure x := by intro _; rfl) (hs1 : ∀ env x, foldedSetIterable iter1 env x = pure x := by intro _ _; rfl) :
    PE X (.ListComp elt [⟨tgt, iter, ifs, 0⟩, ⟨tgt1, iter1, ifs1, 0⟩] scope pos) (tE k E (frzS (lc2S it (own.map (·.2)) tg tt it1 vs1 tg1 tt1 te))) :=
  pe_weak (pe_lc2 hc hN hi ok hv hg ht hi1 hg1 ht1 he hs hs1) fun σ H Q ⟨PP, φ, fr, st, hf, hs, w⟩ => lc2_go hw hw1 hf hs (lcF2 w)
theorem e_lc2N (hc : X.calm = true) (hN : X.N.Nodup) (hi : PI X tgt iter (tI k E it)) (ok : BlkOk X.N X.env.scope scope own) (hw : ∀ i ∈ tg.ws, i ∈ own.map (·.2)) (hw1 : ∀ i ∈ tg1.ws, i ∈ vs1) (hv : ∀ i ∈ vs1, i ∈ own.map (·.2))
    (hg : AtBlk X scope fun Y => PG Y tgt (tG k tg)) (ht : AtBlk X scope fun Y => PTs Y ifs (tT k E0 tt)) (hi1 : AtBlk X scope fun Y => PI Y tgt1 iter1 (tI k E0 it1)) (hg1 : AtBlk X scope fun Y => PG Y tgt1 (tG k tg1)) (ht1 : AtBlk X scope fun Y => PTs Y ifs1 (tT k E0 tt1)) (he : AtBlk X scope fun Y => PE Y elt (tE k E0 te))
    (hs : ∀ x, foldedSetIterable iter X.env x = pure x := by intro _; rfl) (hs1 : ∀ env x, foldedSetIterable iter1 env x = pure x := by intro _ _; rfl) :
    PE X (.ListComp elt [⟨tgt, iter, ifs, 0⟩, ⟨tgt1, iter1, ifs1, 0⟩] scope pos) (tE k E (newS (lc2S it (own.map (·.2)) tg tt it1 vs1 tg1 tt1 te))) :=
  pe_weak (pe_lc2 hc hN hi ok hv hg ht hi1 hg1 ht1 he hs hs1) fun σ H Q ⟨PP, φ, fr, st, hf, hs, w⟩ => lc2_go hw hw1 hf hs (lcN2 w)
theorem s_lc2F (hc : X.calm = true) (hN : X.N.Nodup) (hy : X.N[i]? = some y) (hyl : X.env.scope.names.lookup y = some .local) (hsw : swapsWith (.ListComp elt [⟨tgt, iter, ifs, 0⟩, ⟨tgt1, iter1, ifs1, 0⟩] scope pos) (some (.Name y py)) spos.line X.env = pure true)
    (hi : PI X tgt iter (tI k E it)) (ok : BlkOk X.N X.env.scope scope own) (hw : ∀ i ∈ tg.ws, i ∈ own.map (·.2)) (hw1 : ∀ i ∈ tg1.ws, i ∈ vs1) (hv : ∀ i ∈ vs1, i ∈ own.map (·.2))
    (hg : AtBlk X scope fun Y => PG Y tgt (tG k tg)) (ht : AtBlk X scope fun Y => PTs Y ifs (tT k E0 tt)) (hi1 : AtBlk X scope fun Y => PI Y tgt1 iter1 (tI k E0 it1)) (hg1 : AtBlk X scope fun Y => PG Y tgt1 (tG k tg1)) (ht1 : AtBlk X scope fun Y => PTs Y ifs1 (tT k E0 tt1)) (he : AtBlk X scope fun Y => PE Y elt (tE k E0 te))
    (hs : ∀ x, foldedSetIterable iter X.env x = pure x := by intro _; rfl) (hs1 : ∀ env x, foldedSetIterable iter1 env x = pure x := by intro _ _; rfl) :
    PS X (.Assign [.Name y py] (.ListComp elt [⟨tgt, iter, ifs, 0⟩, ⟨tgt1, iter1, ifs1, 0⟩] scope pos) spos) (tS k E (asgS (nameT i) (frzS (lc2S it (own.map (·.2)) tg tt it1 vs1 tg1 tt1 te)))) :=
  ps_weak (ps_setLc2 hc hN hy hyl hsw hi ok hv hg ht hi1 hg1 ht1 he hs hs1) fun D σ H ⟨PP, φ, fr, st, hf, hs, w⟩ => lc2_go hw hw1 hf hs (by
    unfold asgS frzS at w
    cases e : lc2S it (own.map (·.2)) tg tt it1 vs1 tg1 tt1 te fr st with
    | bad => rw [e] at w; exact False.elim w
    | exc n fs st' => rw [e] at w; exact w
    | ok acc st' =>
      rw [e] at w
      exact fun φ' H' g s DD le => w φ' H' _ g s ((hf.stay g).set le.frz))
theorem s_lc2N (hc : X.calm = true) (hN : X.N.Nodup) (hy : X.N[i]? = some y) (hyl : X.env.scope.names.lookup y = some .local) (hsw : swapsWith (.ListComp elt [⟨tgt, iter, ifs, 0⟩, ⟨tgt1, iter1, ifs1, 0⟩] scope pos) (some (.Name y py)) spos.line X.env = pure true)
    (hi : PI X tgt iter (tI k E it)) (ok : BlkOk X.N X.env.scope scope own) (hw : ∀ i ∈ tg.ws, i ∈ own.map (·.2)) (hw1 : ∀ i ∈ tg1.ws, i ∈ vs1) (hv : ∀ i ∈ vs1, i ∈ own.map (·.2))
    (hg : AtBlk X scope fun Y => PG Y tgt (tG k tg)) (ht : AtBlk X scope fun Y => PTs Y ifs (tT k E0 tt)) (hi1 : AtBlk X scope fun Y => PI Y tgt1 iter1 (tI k E0 it1)) (hg1 : AtBlk X scope fun Y => PG Y tgt1 (tG k tg1)) (ht1 : AtBlk X scope fun Y => PTs Y ifs1 (tT k E0 tt1)) (he : AtBlk X scope fun Y => PE Y elt (tE k E0 te))
    (hs : ∀ x, foldedSetIterable iter X.env x = pure x := by intro _; rfl) (hs1 : ∀ env x, foldedSetIterable iter1 env x = pure x := by intro _ _; rfl) :
    PS X (.Assign [.Name y py] (.ListComp elt [⟨tgt, iter, ifs, 0⟩, ⟨tgt1, iter1, ifs1, 0⟩] scope pos) spos) (tS k E (asgS (nameT i) (newS (lc2S it (own.map (·.2)) tg tt it1 vs1 tg1 tt1 te)))) :=
  ps_weak (ps_setLc2 hc hN hy hyl hsw hi ok hv hg ht hi1 hg1 ht1 he hs hs1) fun D σ H ⟨PP, φ, fr, st, hf, hs, w⟩ => lc2_go hw hw1 hf hs (by
    unfold asgS newS at w
    cases e : lc2S it (own.map (·.2)) tg tt it1 vs1 tg1 tt1 te fr st with
    | bad => rw [e] at w; exact False.elim w
    | exc n fs st' => rw [e] at w; exact w
    | ok acc st' =>
      rw [e] at w
      intro φ' H' g s DD le
      obtain ⟨us, h, r⟩ := le.obj
      exact w (φ' ++ [DD]) H' _ (g.addD le.new) (le.sim.addD h le.out le.pp r) ((hf.stay (g.addD le.new)).set (by rw [Rep]; exact ⟨DD, by rw [← s.len]; simp, rfl⟩)))
end
end Pl
set_option Elab.async false
set_option linter.all false
set_option maxRecDepth 100000
set_option maxHeartbeats 0
namespace K85
open PySem PySem.Spec PyProof.Rows L2
def top (i : Nat) : Stmt := PySem.Challenge.pw_withoutslow_k85_whole_dealings.main.body.getD i (.Pass ⟨0, 0, 0, 0⟩)
abbrev s_as_names : Stmt := top 1
abbrev s_is_integer : Stmt := top 5
abbrev s_is_number : Stmt := top 6
abbrev s_is_above_nought : Stmt := top 7
abbrev s_is_name : Stmt := top 8
abbrev s_is_among : Stmt := top 9
abbrev s_is_tuple_of : Stmt := top 10
abbrev s_are_ascending : Stmt := top 11
abbrev s_are_names : Stmt := top 12
abbrev s_is_set_of : Stmt := top 13
abbrev s_crew_fault : Stmt := top 14
abbrev s_is_crew : Stmt := top 15
abbrev s_NotUsable___init__ : Stmt := inClass (top 19) 0
abbrev s_want : Stmt := top 21
abbrev s_are_bounds : Stmt := top 23
abbrev s_want_sets : Stmt := top 24
abbrev s_want_many : Stmt := top 25
abbrev s_holdings_by : Stmt := top 26
abbrev s_lots_sorted : Stmt := top 27
abbrev s_deal_round : Stmt := top 28
abbrev s_can_deal : Stmt := top 29
abbrev s_most_each : Stmt := top 30
abbrev s_pairs_dealt : Stmt := top 31
abbrev s_dealt : Stmt := top 32
abbrev s_fewest_added : Stmt := top 33
abbrev s_widened : Stmt := top 34
abbrev s_spare_by : Stmt := top 36
abbrev s_spare_of : Stmt := top 38
abbrev s__law_source : Stmt := top 40
abbrev s__law_draw : Stmt := top 41
abbrev s__law_many : Stmt := top 42
abbrev s__law_crew : Stmt := top 43
abbrev s__law_is_dealt : Stmt := top 44
abbrev s__law_deals_right : Stmt := top 45
abbrev s__law_round_right : Stmt := top 46
abbrev s__law_added_right : Stmt := top 47
abbrev s_law : Stmt := top 48
def d_as_names : He.DefD := ⟨("as_names", none), "as_names", "as_names", defArgs s_as_names, defBody s_as_names, defScope s_as_names, [], []⟩
def d_is_integer : He.DefD := ⟨("is_integer", none), "is_integer", "is_integer", defArgs s_is_integer, defBody s_is_integer, defScope s_is_integer, [], []⟩
def d_is_number : He.DefD := ⟨("is_number", none), "is_number", "is_number", defArgs s_is_number, defBody s_is_number, defScope s_is_number, [], []⟩
def d_is_above_nought : He.DefD := ⟨("is_above_nought", none), "is_above_nought", "is_above_nought", defArgs s_is_above_nought, defBody s_is_above_nought, defScope s_is_above_nought, [], []⟩
def d_is_name : He.DefD := ⟨("is_name", none), "is_name", "is_name", defArgs s_is_name, defBody s_is_name, defScope s_is_name, [], []⟩
def d_is_among : He.DefD := ⟨("is_among", none), "is_among", "is_among", defArgs s_is_among, defBody s_is_among, defScope s_is_among, [], []⟩
def d_is_tuple_of : He.DefD := ⟨("is_tuple_of", none), "is_tuple_of", "is_tuple_of", defArgs s_is_tuple_of, defBody s_is_tuple_of, defScope s_is_tuple_of, [], []⟩
def d_are_ascending : He.DefD := ⟨("are_ascending", none), "are_ascending", "are_ascending", defArgs s_are_ascending, defBody s_are_ascending, defScope s_are_ascending, [], []⟩
def d_are_names : He.DefD := ⟨("are_names", none), "are_names", "are_names", defArgs s_are_names, defBody s_are_names, defScope s_are_names, [], []⟩
def d_is_set_of : He.DefD := ⟨("is_set_of", none), "is_set_of", "is_set_of", defArgs s_is_set_of, defBody s_is_set_of, defScope s_is_set_of, [], []⟩
def d_crew_fault : He.DefD := ⟨("crew_fault", none), "crew_fault", "crew_fault", defArgs s_crew_fault, defBody s_crew_fault, defScope s_crew_fault, [], []⟩
def d_is_crew : He.DefD := ⟨("is_crew", none), "is_crew", "is_crew", defArgs s_is_crew, defBody s_is_crew, defScope s_is_crew, [], []⟩
def d_NotUsable___init__ : He.DefD := ⟨("NotUsable", some "__init__"), "__init__", "NotUsable.__init__", defArgs s_NotUsable___init__, defBody s_NotUsable___init__, defScope s_NotUsable___init__, [], []⟩
def d_want : He.DefD := ⟨("want", none), "want", "want", defArgs s_want, defBody s_want, defScope s_want, [.int (-1)], []⟩
def d_are_bounds : He.DefD := ⟨("are_bounds", none), "are_bounds", "are_bounds", defArgs s_are_bounds, defBody s_are_bounds, defScope s_are_bounds, [], []⟩
def d_want_sets : He.DefD := ⟨("want_sets", none), "want_sets", "want_sets", defArgs s_want_sets, defBody s_want_sets, defScope s_want_sets, [], []⟩
def d_want_many : He.DefD := ⟨("want_many", none), "want_many", "want_many", defArgs s_want_many, defBody s_want_many, defScope s_want_many, [], []⟩
def d_holdings_by : He.DefD := ⟨("holdings_by", none), "holdings_by", "holdings_by", defArgs s_holdings_by, defBody s_holdings_by, defScope s_holdings_by, [], []⟩
def d_lots_sorted : He.DefD := ⟨("lots_sorted", none), "lots_sorted", "lots_sorted", defArgs s_lots_sorted, defBody s_lots_sorted, defScope s_lots_sorted, [], []⟩
def d_deal_round : He.DefD := ⟨("deal_round", none), "deal_round", "deal_round", defArgs s_deal_round, defBody s_deal_round, defScope s_deal_round, [], []⟩
def d_can_deal : He.DefD := ⟨("can_deal", none), "can_deal", "can_deal", defArgs s_can_deal, defBody s_can_deal, defScope s_can_deal, [], []⟩
def d_most_each : He.DefD := ⟨("most_each", none), "most_each", "most_each", defArgs s_most_each, defBody s_most_each, defScope s_most_each, [], []⟩
def d_pairs_dealt : He.DefD := ⟨("pairs_dealt", none), "pairs_dealt", "pairs_dealt", defArgs s_pairs_dealt, defBody s_pairs_dealt, defScope s_pairs_dealt, [], []⟩
def d_dealt : He.DefD := ⟨("dealt", none), "dealt", "dealt", defArgs s_dealt, defBody s_dealt, defScope s_dealt, [], []⟩
def d_fewest_added : He.DefD := ⟨("fewest_added", none), "fewest_added", "fewest_added", defArgs s_fewest_added, defBody s_fewest_added, defScope s_fewest_added, [], []⟩
def d_widened : He.DefD := ⟨("widened", none), "widened", "widened", defArgs s_widened, defBody s_widened, defScope s_widened, [], []⟩
def d_spare_by : He.DefD := ⟨("spare_by", none), "spare_by", "spare_by", defArgs s_spare_by, defBody s_spare_by, defScope s_spare_by, [], []⟩
def d_spare_of : He.DefD := ⟨("spare_of", none), "spare_of", "spare_of", defArgs s_spare_of, defBody s_spare_of, defScope s_spare_of, [], []⟩
def d__law_source : He.DefD := ⟨("_law_source", none), "_law_source", "_law_source", defArgs s__law_source, defBody s__law_source, defScope s__law_source, [], []⟩
def d__law_draw : He.DefD := ⟨("_law_draw", none), "_law_draw", "_law_draw", defArgs s__law_draw, defBody s__law_draw, defScope s__law_draw, [], []⟩
def d__law_many : He.DefD := ⟨("_law_many", none), "_law_many", "_law_many", defArgs s__law_many, defBody s__law_many, defScope s__law_many, [], []⟩
def d__law_crew : He.DefD := ⟨("_law_crew", none), "_law_crew", "_law_crew", defArgs s__law_crew, defBody s__law_crew, defScope s__law_crew, [], []⟩
def d__law_is_dealt : He.DefD := ⟨("_law_is_dealt", none), "_law_is_dealt", "_law_is_dealt", defArgs s__law_is_dealt, defBody s__law_is_dealt, defScope s__law_is_dealt, [], []⟩
def d__law_deals_right : He.DefD := ⟨("_law_deals_right", none), "_law_deals_right", "_law_deals_right", defArgs s__law_deals_right, defBody s__law_deals_right, defScope s__law_deals_right, [], []⟩
def d__law_round_right : He.DefD := ⟨("_law_round_right", none), "_law_round_right", "_law_round_right", defArgs s__law_round_right, defBody s__law_round_right, defScope s__law_round_right, [], []⟩
def d__law_added_right : He.DefD := ⟨("_law_added_right", none), "_law_added_right", "_law_added_right", defArgs s__law_added_right, defBody s__law_added_right, defScope s__law_added_right, [], []⟩
def d_law : He.DefD := ⟨("law", none), "law", "law", defArgs s_law, defBody s_law, defScope s_law, [], []⟩
def fn_0 : List (He.DefD) := [d_as_names, d_is_integer, d_is_number, d_is_above_nought, d_is_name, d_is_among, d_is_tuple_of, d_are_ascending, d_are_names, d_is_set_of, d_crew_fault, d_is_crew, d_want, d_are_bounds, d_want_sets, d_want_many, d_holdings_by, d_lots_sorted, d_deal_round, d_can_deal, d_most_each, d_pairs_dealt, d_dealt, d_fewest_added, d_widened, d_spare_by, d_spare_of, d__law_source, d__law_draw, d__law_many]
def fn_1 : List (He.DefD) := [d__law_crew, d__law_is_dealt, d__law_deals_right, d__law_round_right, d__law_added_right, d_law]
def fn : List (He.DefD) := fn_0 ++ fn_1
def fa_0 : List (He.Fa) := [.glo "as_names", .str "LETTERS" "abcdefghijklmnopqrstuvwxyz", .int "MOST_NAME" 8, .glo "is_integer", .glo "is_number", .glo "is_above_nought", .glo "is_name", .glo "is_among", .glo "is_tuple_of", .glo "are_ascending", .glo "are_names", .glo "is_set_of", .glo "crew_fault", .glo "is_crew", .glo "RoundError", .glo "CrewError", .glo "NotUsable", .glo "want", .glo "are_bounds", .glo "want_sets", .glo "want_many", .glo "holdings_by", .glo "lots_sorted", .glo "deal_round", .glo "can_deal", .glo "most_each", .glo "pairs_dealt", .glo "dealt", .glo "fewest_added", .glo "widened"]
def fa_1 : List (He.Fa) := [.glo "spare_by", .glo "spare_of", .glo "_law_source", .glo "_law_draw", .glo "_law_many", .glo "_law_crew", .glo "_law_is_dealt", .glo "_law_deals_right", .glo "_law_round_right", .glo "_law_added_right", .glo "law", .free "ValueError", .free "all", .free "bool", .free "enumerate", .free "int", .free "isinstance", .free "len", .free "list", .free "max", .free "min", .free "range", .free "repr", .free "set", .free "sorted", .free "str", .free "sum", .free "super", .free "tuple", .free "zip"]
def fa : List (He.Fa) := fa_0 ++ fa_1
def loose_0 : List (Str) := ["as_names", "LETTERS", "MOST_NAME", "is_integer", "is_number", "is_above_nought", "is_name", "is_among", "is_tuple_of", "are_ascending", "are_names", "is_set_of", "crew_fault", "is_crew", "RoundError", "CrewError", "NotUsable", "want", "are_bounds", "want_sets", "want_many", "holdings_by", "lots_sorted", "deal_round", "can_deal", "most_each", "pairs_dealt", "dealt", "fewest_added", "widened"]
def loose_1 : List (Str) := ["spare_by", "spare_of", "_law_source", "_law_draw", "_law_many", "_law_crew", "_law_is_dealt", "_law_deals_right", "_law_round_right", "_law_added_right"]
def loose : List (Str) := loose_0 ++ loose_1
abbrev R : PySem.W.OpenRow := PySem.W.OpenLaw.row PySem.Challenge.rw_withoutslow_k85_whole_dealings
abbrev hk : PySem.W.Hook := He.hookD 5 fa fn
def ob (s : PySem.W.SharedT) : He.AlD := He.obsDG 5 fa fn (HandSHeadRun.getT s)
theorem ob_eq (s : PySem.W.SharedT) : ob s = hk.obs s.abs := He.obsDG_eq (HandSHeadRun.getT_eq s)
theorem run (w : World) : HandSHeadRun.RunEq R (PySem.W.view R.prog [48]) hk ob 20000 loose w := by
  intro os
  kernel_rfl
end K85
set_option Elab.async false
set_option linter.all false
set_option maxRecDepth 100000
set_option maxHeartbeats 4000000
namespace K85
open PySem PySem.Spec PyProof.Rows L2 Pg Pl
/-- what the top has left -/
structure Txt (K : PySem.W.Frag) (mg : Str → Option Value) : Prop where
  ex : ∃ h : Heap, K.In h ∧ h.Ns mainGlobals mg
  c : He.SaysD fa fn K
section
variable {K : PySem.W.Frag} {mg : Str → Option Value}
theorem Txt.g_as_names (T : Txt K mg) : mg "as_names" = some (.ref (He.ga K "as_names")) := by
  obtain ⟨h, X, G⟩ := T.ex
  exact He.glo_ok X G (T.c.fact 0 (f := .glo "as_names") rfl)
theorem Txt.k_LETTERS (T : Txt K mg) : ∃ t, mg "LETTERS" = some (.str "abcdefghijklmnopqrstuvwxyz" t) := by
  obtain ⟨h, X, G⟩ := T.ex
  exact He.str_ok X G (T.c.fact 1 (f := .str "LETTERS" "abcdefghijklmnopqrstuvwxyz") rfl)
theorem Txt.k_MOST_NAME (T : Txt K mg) : ∃ t, mg "MOST_NAME" = some (.int 8 t) := by
  obtain ⟨h, X, G⟩ := T.ex
  exact He.int_ok X G (T.c.fact 2 (f := .int "MOST_NAME" 8) rfl)
theorem Txt.g_is_integer (T : Txt K mg) : mg "is_integer" = some (.ref (He.ga K "is_integer")) := by
  obtain ⟨h, X, G⟩ := T.ex
  exact He.glo_ok X G (T.c.fact 3 (f := .glo "is_integer") rfl)
theorem Txt.g_is_number (T : Txt K mg) : mg "is_number" = some (.ref (He.ga K "is_number")) := by
  obtain ⟨h, X, G⟩ := T.ex
  exact He.glo_ok X G (T.c.fact 4 (f := .glo "is_number") rfl)
theorem Txt.g_is_above_nought (T : Txt K mg) : mg "is_above_nought" = some (.ref (He.ga K "is_above_nought")) := by
  obtain ⟨h, X, G⟩ := T.ex
  exact He.glo_ok X G (T.c.fact 5 (f := .glo "is_above_nought") rfl)
theorem Txt.g_is_name (T : Txt K mg) : mg "is_name" = some (.ref (He.ga K "is_name")) := by
  obtain ⟨h, X, G⟩ := T.ex
  exact He.glo_ok X G (T.c.fact 6 (f := .glo "is_name") rfl)
theorem Txt.g_is_among (T : Txt K mg) : mg "is_among" = some (.ref (He.ga K "is_among")) := by
  obtain ⟨h, X, G⟩ := T.ex
  exact He.glo_ok X G (T.c.fact 7 (f := .glo "is_among") rfl)
theorem Txt.g_is_tuple_of (T : Txt K mg) : mg "is_tuple_of" = some (.ref (He.ga K "is_tuple_of")) := by
  obtain ⟨h, X, G⟩ := T.ex
  exact He.glo_ok X G (T.c.fact 8 (f := .glo "is_tuple_of") rfl)
theorem Txt.g_are_ascending (T : Txt K mg) : mg "are_ascending" = some (.ref (He.ga K "are_ascending")) := by
  obtain ⟨h, X, G⟩ := T.ex
  exact He.glo_ok X G (T.c.fact 9 (f := .glo "are_ascending") rfl)
theorem Txt.g_are_names (T : Txt K mg) : mg "are_names" = some (.ref (He.ga K "are_names")) := by
  obtain ⟨h, X, G⟩ := T.ex
  exact He.glo_ok X G (T.c.fact 10 (f := .glo "are_names") rfl)
theorem Txt.g_is_set_of (T : Txt K mg) : mg "is_set_of" = some (.ref (He.ga K "is_set_of")) := by
  obtain ⟨h, X, G⟩ := T.ex
  exact He.glo_ok X G (T.c.fact 11 (f := .glo "is_set_of") rfl)
theorem Txt.g_crew_fault (T : Txt K mg) : mg "crew_fault" = some (.ref (He.ga K "crew_fault")) := by
  obtain ⟨h, X, G⟩ := T.ex
  exact He.glo_ok X G (T.c.fact 12 (f := .glo "crew_fault") rfl)
theorem Txt.g_is_crew (T : Txt K mg) : mg "is_crew" = some (.ref (He.ga K "is_crew")) := by
  obtain ⟨h, X, G⟩ := T.ex
  exact He.glo_ok X G (T.c.fact 13 (f := .glo "is_crew") rfl)
theorem Txt.g_RoundError (T : Txt K mg) : mg "RoundError" = some (.ref (He.ga K "RoundError")) := by
  obtain ⟨h, X, G⟩ := T.ex
  exact He.glo_ok X G (T.c.fact 14 (f := .glo "RoundError") rfl)
theorem Txt.g_CrewError (T : Txt K mg) : mg "CrewError" = some (.ref (He.ga K "CrewError")) := by
  obtain ⟨h, X, G⟩ := T.ex
  exact He.glo_ok X G (T.c.fact 15 (f := .glo "CrewError") rfl)
theorem Txt.g_NotUsable (T : Txt K mg) : mg "NotUsable" = some (.ref (He.ga K "NotUsable")) := by
  obtain ⟨h, X, G⟩ := T.ex
  exact He.glo_ok X G (T.c.fact 16 (f := .glo "NotUsable") rfl)
theorem Txt.g_want (T : Txt K mg) : mg "want" = some (.ref (He.ga K "want")) := by
  obtain ⟨h, X, G⟩ := T.ex
  exact He.glo_ok X G (T.c.fact 17 (f := .glo "want") rfl)
theorem Txt.g_are_bounds (T : Txt K mg) : mg "are_bounds" = some (.ref (He.ga K "are_bounds")) := by
  obtain ⟨h, X, G⟩ := T.ex
  exact He.glo_ok X G (T.c.fact 18 (f := .glo "are_bounds") rfl)
theorem Txt.g_want_sets (T : Txt K mg) : mg "want_sets" = some (.ref (He.ga K "want_sets")) := by
  obtain ⟨h, X, G⟩ := T.ex
  exact He.glo_ok X G (T.c.fact 19 (f := .glo "want_sets") rfl)
theorem Txt.g_want_many (T : Txt K mg) : mg "want_many" = some (.ref (He.ga K "want_many")) := by
  obtain ⟨h, X, G⟩ := T.ex
  exact He.glo_ok X G (T.c.fact 20 (f := .glo "want_many") rfl)
theorem Txt.g_holdings_by (T : Txt K mg) : mg "holdings_by" = some (.ref (He.ga K "holdings_by")) := by
  obtain ⟨h, X, G⟩ := T.ex
  exact He.glo_ok X G (T.c.fact 21 (f := .glo "holdings_by") rfl)
theorem Txt.g_lots_sorted (T : Txt K mg) : mg "lots_sorted" = some (.ref (He.ga K "lots_sorted")) := by
  obtain ⟨h, X, G⟩ := T.ex
  exact He.glo_ok X G (T.c.fact 22 (f := .glo "lots_sorted") rfl)
theorem Txt.g_deal_round (T : Txt K mg) : mg "deal_round" = some (.ref (He.ga K "deal_round")) := by
  obtain ⟨h, X, G⟩ := T.ex
  exact He.glo_ok X G (T.c.fact 23 (f := .glo "deal_round") rfl)
theorem Txt.g_can_deal (T : Txt K mg) : mg "can_deal" = some (.ref (He.ga K "can_deal")) := by
  obtain ⟨h, X, G⟩ := T.ex
  exact He.glo_ok X G (T.c.fact 24 (f := .glo "can_deal") rfl)
theorem Txt.g_most_each (T : Txt K mg) : mg "most_each" = some (.ref (He.ga K "most_each")) := by
  obtain ⟨h, X, G⟩ := T.ex
  exact He.glo_ok X G (T.c.fact 25 (f := .glo "most_each") rfl)
theorem Txt.g_pairs_dealt (T : Txt K mg) : mg "pairs_dealt" = some (.ref (He.ga K "pairs_dealt")) := by
  obtain ⟨h, X, G⟩ := T.ex
  exact He.glo_ok X G (T.c.fact 26 (f := .glo "pairs_dealt") rfl)
theorem Txt.g_dealt (T : Txt K mg) : mg "dealt" = some (.ref (He.ga K "dealt")) := by
  obtain ⟨h, X, G⟩ := T.ex
  exact He.glo_ok X G (T.c.fact 27 (f := .glo "dealt") rfl)
theorem Txt.g_fewest_added (T : Txt K mg) : mg "fewest_added" = some (.ref (He.ga K "fewest_added")) := by
  obtain ⟨h, X, G⟩ := T.ex
  exact He.glo_ok X G (T.c.fact 28 (f := .glo "fewest_added") rfl)
theorem Txt.g_widened (T : Txt K mg) : mg "widened" = some (.ref (He.ga K "widened")) := by
  obtain ⟨h, X, G⟩ := T.ex
  exact He.glo_ok X G (T.c.fact 29 (f := .glo "widened") rfl)
theorem Txt.g_spare_by (T : Txt K mg) : mg "spare_by" = some (.ref (He.ga K "spare_by")) := by
  obtain ⟨h, X, G⟩ := T.ex
  exact He.glo_ok X G (T.c.fact 30 (f := .glo "spare_by") rfl)
theorem Txt.g_spare_of (T : Txt K mg) : mg "spare_of" = some (.ref (He.ga K "spare_of")) := by
  obtain ⟨h, X, G⟩ := T.ex
  exact He.glo_ok X G (T.c.fact 31 (f := .glo "spare_of") rfl)
theorem Txt.g__law_source (T : Txt K mg) : mg "_law_source" = some (.ref (He.ga K "_law_source")) := by
  obtain ⟨h, X, G⟩ := T.ex
  exact He.glo_ok X G (T.c.fact 32 (f := .glo "_law_source") rfl)
theorem Txt.g__law_draw (T : Txt K mg) : mg "_law_draw" = some (.ref (He.ga K "_law_draw")) := by
  obtain ⟨h, X, G⟩ := T.ex
  exact He.glo_ok X G (T.c.fact 33 (f := .glo "_law_draw") rfl)
theorem Txt.g__law_many (T : Txt K mg) : mg "_law_many" = some (.ref (He.ga K "_law_many")) := by
  obtain ⟨h, X, G⟩ := T.ex
  exact He.glo_ok X G (T.c.fact 34 (f := .glo "_law_many") rfl)
theorem Txt.g__law_crew (T : Txt K mg) : mg "_law_crew" = some (.ref (He.ga K "_law_crew")) := by
  obtain ⟨h, X, G⟩ := T.ex
  exact He.glo_ok X G (T.c.fact 35 (f := .glo "_law_crew") rfl)
theorem Txt.g__law_is_dealt (T : Txt K mg) : mg "_law_is_dealt" = some (.ref (He.ga K "_law_is_dealt")) := by
  obtain ⟨h, X, G⟩ := T.ex
  exact He.glo_ok X G (T.c.fact 36 (f := .glo "_law_is_dealt") rfl)
theorem Txt.g__law_deals_right (T : Txt K mg) : mg "_law_deals_right" = some (.ref (He.ga K "_law_deals_right")) := by
  obtain ⟨h, X, G⟩ := T.ex
  exact He.glo_ok X G (T.c.fact 37 (f := .glo "_law_deals_right") rfl)
theorem Txt.g__law_round_right (T : Txt K mg) : mg "_law_round_right" = some (.ref (He.ga K "_law_round_right")) := by
  obtain ⟨h, X, G⟩ := T.ex
  exact He.glo_ok X G (T.c.fact 38 (f := .glo "_law_round_right") rfl)
theorem Txt.g__law_added_right (T : Txt K mg) : mg "_law_added_right" = some (.ref (He.ga K "_law_added_right")) := by
  obtain ⟨h, X, G⟩ := T.ex
  exact He.glo_ok X G (T.c.fact 39 (f := .glo "_law_added_right") rfl)
theorem Txt.g_law (T : Txt K mg) : mg "law" = some (.ref (He.ga K "law")) := by
  obtain ⟨h, X, G⟩ := T.ex
  exact He.glo_ok X G (T.c.fact 40 (f := .glo "law") rfl)
theorem Txt.z_ValueError (T : Txt K mg) : mg "ValueError" = none := by
  obtain ⟨h, X, G⟩ := T.ex
  exact He.free_ok X G (T.c.fact 41 (f := .free "ValueError") rfl)
theorem Txt.z_all (T : Txt K mg) : mg "all" = none := by
  obtain ⟨h, X, G⟩ := T.ex
  exact He.free_ok X G (T.c.fact 42 (f := .free "all") rfl)
theorem Txt.z_bool (T : Txt K mg) : mg "bool" = none := by
  obtain ⟨h, X, G⟩ := T.ex
  exact He.free_ok X G (T.c.fact 43 (f := .free "bool") rfl)
theorem Txt.z_enumerate (T : Txt K mg) : mg "enumerate" = none := by
  obtain ⟨h, X, G⟩ := T.ex
  exact He.free_ok X G (T.c.fact 44 (f := .free "enumerate") rfl)
theorem Txt.z_int (T : Txt K mg) : mg "int" = none := by
  obtain ⟨h, X, G⟩ := T.ex
  exact He.free_ok X G (T.c.fact 45 (f := .free "int") rfl)
theorem Txt.z_isinstance (T : Txt K mg) : mg "isinstance" = none := by
  obtain ⟨h, X, G⟩ := T.ex
  exact He.free_ok X G (T.c.fact 46 (f := .free "isinstance") rfl)
theorem Txt.z_len (T : Txt K mg) : mg "len" = none := by
  obtain ⟨h, X, G⟩ := T.ex
  exact He.free_ok X G (T.c.fact 47 (f := .free "len") rfl)
theorem Txt.z_list (T : Txt K mg) : mg "list" = none := by
  obtain ⟨h, X, G⟩ := T.ex
  exact He.free_ok X G (T.c.fact 48 (f := .free "list") rfl)
theorem Txt.z_max (T : Txt K mg) : mg "max" = none := by
  obtain ⟨h, X, G⟩ := T.ex
  exact He.free_ok X G (T.c.fact 49 (f := .free "max") rfl)
theorem Txt.z_min (T : Txt K mg) : mg "min" = none := by
  obtain ⟨h, X, G⟩ := T.ex
  exact He.free_ok X G (T.c.fact 50 (f := .free "min") rfl)
theorem Txt.z_range (T : Txt K mg) : mg "range" = none := by
  obtain ⟨h, X, G⟩ := T.ex
  exact He.free_ok X G (T.c.fact 51 (f := .free "range") rfl)
theorem Txt.z_repr (T : Txt K mg) : mg "repr" = none := by
  obtain ⟨h, X, G⟩ := T.ex
  exact He.free_ok X G (T.c.fact 52 (f := .free "repr") rfl)
theorem Txt.z_set (T : Txt K mg) : mg "set" = none := by
  obtain ⟨h, X, G⟩ := T.ex
  exact He.free_ok X G (T.c.fact 53 (f := .free "set") rfl)
theorem Txt.z_sorted (T : Txt K mg) : mg "sorted" = none := by
  obtain ⟨h, X, G⟩ := T.ex
  exact He.free_ok X G (T.c.fact 54 (f := .free "sorted") rfl)
theorem Txt.z_str (T : Txt K mg) : mg "str" = none := by
  obtain ⟨h, X, G⟩ := T.ex
  exact He.free_ok X G (T.c.fact 55 (f := .free "str") rfl)
theorem Txt.z_sum (T : Txt K mg) : mg "sum" = none := by
  obtain ⟨h, X, G⟩ := T.ex
  exact He.free_ok X G (T.c.fact 56 (f := .free "sum") rfl)
theorem Txt.z_super (T : Txt K mg) : mg "super" = none := by
  obtain ⟨h, X, G⟩ := T.ex
  exact He.free_ok X G (T.c.fact 57 (f := .free "super") rfl)
theorem Txt.z_tuple (T : Txt K mg) : mg "tuple" = none := by
  obtain ⟨h, X, G⟩ := T.ex
  exact He.free_ok X G (T.c.fact 58 (f := .free "tuple") rfl)
theorem Txt.z_zip (T : Txt K mg) : mg "zip" = none := by
  obtain ⟨h, X, G⟩ := T.ex
  exact He.free_ok X G (T.c.fact 59 (f := .free "zip") rfl)
end
abbrev xcK (K : PySem.W.Frag) : Str → Addr := fun n => He.ga K n
/-! as_names -/
theorem sc_as_names : FnScope ["names"] ["names"] (defScope s_as_names) := ⟨rfl, rfl, rfl, by decide +kernel, rfl, by decide +kernel, by decide +kernel⟩
def m_as_names : Sm := retM (op1S tssD (vS 0))
def F_as_names : Fn := fnF 1 m_as_names
section
variable {K : PySem.W.Frag} {mg : Str → Option Value} {P : Program} {w : World} {base : Heap}
theorem ok_as_names (T : Txt K mg) {f : Addr} {fd : FuncData} (F : FunD K "as_names" "as_names" (defArgs s_as_names) (defBody s_as_names) (defScope s_as_names) [] [] f fd) : FnG P w K mg base CX0 1 f fd ["names"] (spM ⟨K, xcK K⟩ 1 F_as_names) :=
  fn_ok F sc_as_names fun cdv A outer s H E hr => (show PSs _ (defBody s_as_names) (tS ⟨K, xcK K⟩ E0 m_as_names) from ss_one (s_ret (e_tss rfl rfl T.z_tuple T.z_sorted T.z_set (e_var (pv 0)))))
theorem g_as_names (T : Txt K mg) : Good K (xcK K) P w mg base "as_names" 1 1 [] F_as_names := by
  obtain ⟨fd, F⟩ := T.c.def_ 0 (d := d_as_names) rfl
  have F : FunD K "as_names" "as_names" (defArgs s_as_names) (defBody s_as_names) (defScope s_as_names) [] [] (He.ga K "as_names") fd := F
  exact ⟨_, fd, ["names"], [], [], T.g_as_names, F.kp, rfl, F.bindsN fun _ _ _ _ _ _ us hl => match us, hl with | [_], _ => rfl, .nil, fun _ _ _ => .nil, ok_as_names T F⟩
end
/-! is_integer -/
theorem sc_is_integer : FnScope ["thing"] ["thing"] (defScope s_is_integer) := ⟨rfl, rfl, rfl, by decide +kernel, rfl, by decide +kernel, by decide +kernel⟩
def m_is_integer : Sm := retM (andV (callS (c2 isiD) (consS (vS 0) (consS (cS (.ty "int")) (nilS)))) (blS (notS (truS toB (callS (c2 isiD) (consS (vS 0) (consS (cS (.ty "bool")) (nilS))))))))
def F_is_integer : Fn := fnF 1 m_is_integer
section
variable {K : PySem.W.Frag} {mg : Str → Option Value} {P : Program} {w : World} {base : Heap}
theorem ok_is_integer (T : Txt K mg) {f : Addr} {fd : FuncData} (F : FunD K "is_integer" "is_integer" (defArgs s_is_integer) (defBody s_is_integer) (defScope s_is_integer) [] [] f fd) : FnG P w K mg base CX0 1 f fd ["thing"] (spM ⟨K, xcK K⟩ 1 F_is_integer) :=
  fn_ok F sc_is_integer fun cdv A outer s H E hr => (show PSs _ (defBody s_is_integer) (tS ⟨K, xcK K⟩ E0 m_is_integer) from ss_one (s_ret (e_and (e_blt (f_isi rfl) bb_isinstance (T.z_isinstance) (l_cons (e_var (pv 0)) (l_cons (e_ty (T.z_int) bb_int) (l_nil)))) (e_one (e_not (e_blt (f_isi rfl) bb_isinstance (T.z_isinstance) (l_cons (e_var (pv 0)) (l_cons (e_ty (T.z_bool) bb_bool) (l_nil)))))))))
theorem g_is_integer (T : Txt K mg) : Good K (xcK K) P w mg base "is_integer" 1 1 [] F_is_integer := by
  obtain ⟨fd, F⟩ := T.c.def_ 1 (d := d_is_integer) rfl
  have F : FunD K "is_integer" "is_integer" (defArgs s_is_integer) (defBody s_is_integer) (defScope s_is_integer) [] [] (He.ga K "is_integer") fd := F
  exact ⟨_, fd, ["thing"], [], [], T.g_is_integer, F.kp, rfl, F.bindsN fun _ _ _ _ _ _ us hl => match us, hl with | [_], _ => rfl, .nil, fun _ _ _ => .nil, ok_is_integer T F⟩
end
/-! is_number -/
theorem sc_is_number : FnScope ["thing"] ["thing"] (defScope s_is_number) := ⟨rfl, rfl, rfl, by decide +kernel, rfl, by decide +kernel, by decide +kernel⟩
def m_is_number : Sm := retM (andV (callP F_is_integer [] (consS (vS 0) (nilS))) (op2S oGe (vS 0) (cS (.int 0))))
def F_is_number : Fn := fnF 1 m_is_number
section
variable {K : PySem.W.Frag} {mg : Str → Option Value} {P : Program} {w : World} {base : Heap}
theorem ok_is_number (T : Txt K mg) {f : Addr} {fd : FuncData} (F : FunD K "is_number" "is_number" (defArgs s_is_number) (defBody s_is_number) (defScope s_is_number) [] [] f fd) : FnG P w K mg base CX0 2 f fd ["thing"] (spM ⟨K, xcK K⟩ 1 F_is_number) :=
  fn_ok F sc_is_number fun cdv A outer s H E hr => (show PSs _ (defBody s_is_number) (tS ⟨K, xcK K⟩ E0 m_is_number) from ss_one (s_ret (e_and (e_fP (g_is_integer T) rfl (hr.mono (by decide)) (by rfl) (by rfl) (l_cons (e_var (pv 0)) (l_nil)) (cons_len (nil_len))) (e_one (e_cmp (opr_ge) (e_var (pv 0)) (e_int))))))
theorem g_is_number (T : Txt K mg) : Good K (xcK K) P w mg base "is_number" 2 1 [] F_is_number := by
  obtain ⟨fd, F⟩ := T.c.def_ 2 (d := d_is_number) rfl
  have F : FunD K "is_number" "is_number" (defArgs s_is_number) (defBody s_is_number) (defScope s_is_number) [] [] (He.ga K "is_number") fd := F
  exact ⟨_, fd, ["thing"], [], [], T.g_is_number, F.kp, rfl, F.bindsN fun _ _ _ _ _ _ us hl => match us, hl with | [_], _ => rfl, .nil, fun _ _ _ => .nil, ok_is_number T F⟩
end
/-! is_above_nought -/
theorem sc_is_above_nought : FnScope ["thing"] ["thing"] (defScope s_is_above_nought) := ⟨rfl, rfl, rfl, by decide +kernel, rfl, by decide +kernel, by decide +kernel⟩
def m_is_above_nought : Sm := retM (andV (callP F_is_integer [] (consS (vS 0) (nilS))) (op2S oGt (vS 0) (cS (.int 0))))
def F_is_above_nought : Fn := fnF 1 m_is_above_nought
section
variable {K : PySem.W.Frag} {mg : Str → Option Value} {P : Program} {w : World} {base : Heap}
theorem ok_is_above_nought (T : Txt K mg) {f : Addr} {fd : FuncData} (F : FunD K "is_above_nought" "is_above_nought" (defArgs s_is_above_nought) (defBody s_is_above_nought) (defScope s_is_above_nought) [] [] f fd) : FnG P w K mg base CX0 2 f fd ["thing"] (spM ⟨K, xcK K⟩ 1 F_is_above_nought) :=
  fn_ok F sc_is_above_nought fun cdv A outer s H E hr => (show PSs _ (defBody s_is_above_nought) (tS ⟨K, xcK K⟩ E0 m_is_above_nought) from ss_one (s_ret (e_and (e_fP (g_is_integer T) rfl (hr.mono (by decide)) (by rfl) (by rfl) (l_cons (e_var (pv 0)) (l_nil)) (cons_len (nil_len))) (e_one (e_cmp (opr_gt) (e_var (pv 0)) (e_int))))))
theorem g_is_above_nought (T : Txt K mg) : Good K (xcK K) P w mg base "is_above_nought" 2 1 [] F_is_above_nought := by
  obtain ⟨fd, F⟩ := T.c.def_ 3 (d := d_is_above_nought) rfl
  have F : FunD K "is_above_nought" "is_above_nought" (defArgs s_is_above_nought) (defBody s_is_above_nought) (defScope s_is_above_nought) [] [] (He.ga K "is_above_nought") fd := F
  exact ⟨_, fd, ["thing"], [], [], T.g_is_above_nought, F.kp, rfl, F.bindsN fun _ _ _ _ _ _ us hl => match us, hl with | [_], _ => rfl, .nil, fun _ _ _ => .nil, ok_is_above_nought T F⟩
end
/-! is_name -/
theorem sc_is_name : FnScope ["thing", "sign"] ["thing"] (defScope s_is_name) := ⟨rfl, rfl, rfl, by decide +kernel, rfl, by decide +kernel, by decide +kernel⟩
def m_is_name : Sm := retM (andV (callS (c2 isiD) (consS (vS 0) (consS (cS (.ty "str")) (nilS)))) (andV (chainS oLe oLe (cS (.int 1)) (callS (c1 lenD) (consS (vS 0) (nilS))) (cS (.int 8))) (callS (c1 allD) (consS (frzS (lcS (itS (vS 0)) [1] (nameT 1) (yesS) (op2S oIn (vS 1) (cS (.str "abcdefghijklmnopqrstuvwxyz"))))) (nilS)))))
def F_is_name : Fn := fnF 2 m_is_name
section
variable {K : PySem.W.Frag} {mg : Str → Option Value} {P : Program} {w : World} {base : Heap}
theorem ok_is_name (T : Txt K mg) {f : Addr} {fd : FuncData} (F : FunD K "is_name" "is_name" (defArgs s_is_name) (defBody s_is_name) (defScope s_is_name) [] [] f fd) : FnG P w K mg base CX0 1 f fd ["thing"] (spM ⟨K, xcK K⟩ 1 F_is_name) :=
  fn_ok F sc_is_name fun cdv A outer s H E hr => (show PSs _ (defBody s_is_name) (tS ⟨K, xcK K⟩ E0 m_is_name) from ss_one (s_ret (e_and (e_blt (f_isi rfl) bb_isinstance (T.z_isinstance) (l_cons (e_var (pv 0)) (l_cons (e_ty (T.z_str) bb_str) (l_nil)))) (e_and (e_chain (opr_le) (opr_le) (e_int) (e_blt (f_len rfl) bb_len (T.z_len) (l_cons (e_var (pv 0)) (l_nil))) (e_gint (T.k_MOST_NAME))) (e_one (e_blt (f_all rfl) bb_all (T.z_all) (l_cons (e_lc rfl sc_is_name.nd (own := [("sign", 1)]) (i_any rfl (e_var (pv 0))) (blkOk_by (by kernel_rfl)) (by decide) (fun _ _ _ _ _ => g_name (pg_name (i := 1) sc_is_name.nd rfl (by first | exact Or.inl rfl | exact Or.inr rfl))) (fun _ _ _ _ _ => ts_nil) (fun _ _ _ _ _ => e_cmp (opr_in rfl) (e_var (pv 1)) (e_gstr (T.k_LETTERS)))) (l_nil))))))))
theorem g_is_name (T : Txt K mg) : Good K (xcK K) P w mg base "is_name" 1 1 [] F_is_name := by
  obtain ⟨fd, F⟩ := T.c.def_ 4 (d := d_is_name) rfl
  have F : FunD K "is_name" "is_name" (defArgs s_is_name) (defBody s_is_name) (defScope s_is_name) [] [] (He.ga K "is_name") fd := F
  exact ⟨_, fd, ["thing"], [], [], T.g_is_name, F.kp, rfl, F.bindsN fun _ _ _ _ _ _ us hl => match us, hl with | [_], _ => rfl, .nil, fun _ _ _ => .nil, ok_is_name T F⟩
end
/-! is_among -/
theorem sc_is_among : FnScope ["thing", "names"] ["thing", "names"] (defScope s_is_among) := ⟨rfl, rfl, rfl, by decide +kernel, rfl, by decide +kernel, by decide +kernel⟩
def m_is_among : Sm := retM (andV (callS (c2 isiD) (consS (vS 0) (consS (cS (.ty "str")) (nilS)))) (op2S oIn (vS 0) (vS 1)))
def F_is_among : Fn := fnF 2 m_is_among
section
variable {K : PySem.W.Frag} {mg : Str → Option Value} {P : Program} {w : World} {base : Heap}
theorem ok_is_among (T : Txt K mg) {f : Addr} {fd : FuncData} (F : FunD K "is_among" "is_among" (defArgs s_is_among) (defBody s_is_among) (defScope s_is_among) [] [] f fd) : FnG P w K mg base CX0 1 f fd ["thing", "names"] (spM ⟨K, xcK K⟩ 2 F_is_among) :=
  fn_ok F sc_is_among fun cdv A outer s H E hr => (show PSs _ (defBody s_is_among) (tS ⟨K, xcK K⟩ E0 m_is_among) from ss_one (s_ret (e_and (e_blt (f_isi rfl) bb_isinstance (T.z_isinstance) (l_cons (e_var (pv 0)) (l_cons (e_ty (T.z_str) bb_str) (l_nil)))) (e_one (e_cmp (opr_in rfl) (e_var (pv 0)) (e_var (pv 1)))))))
theorem g_is_among (T : Txt K mg) : Good K (xcK K) P w mg base "is_among" 1 2 [] F_is_among := by
  obtain ⟨fd, F⟩ := T.c.def_ 5 (d := d_is_among) rfl
  have F : FunD K "is_among" "is_among" (defArgs s_is_among) (defBody s_is_among) (defScope s_is_among) [] [] (He.ga K "is_among") fd := F
  exact ⟨_, fd, ["thing", "names"], [], [], T.g_is_among, F.kp, rfl, F.bindsN fun _ _ _ _ _ _ us hl => match us, hl with | [_, _], _ => rfl, .nil, fun _ _ _ => .nil, ok_is_among T F⟩
end
/-! is_tuple_of -/
theorem sc_is_tuple_of : FnScope ["thing", "size"] ["thing", "size"] (defScope s_is_tuple_of) := ⟨rfl, rfl, rfl, by decide +kernel, rfl, by decide +kernel, by decide +kernel⟩
def m_is_tuple_of : Sm := retM (andV (callS (c2 isiD) (consS (vS 0) (consS (cS (.ty "tuple")) (nilS)))) (op2S oEq (callS (c1 lenD) (consS (vS 0) (nilS))) (vS 1)))
def F_is_tuple_of : Fn := fnF 2 m_is_tuple_of
section
variable {K : PySem.W.Frag} {mg : Str → Option Value} {P : Program} {w : World} {base : Heap}
theorem ok_is_tuple_of (T : Txt K mg) {f : Addr} {fd : FuncData} (F : FunD K "is_tuple_of" "is_tuple_of" (defArgs s_is_tuple_of) (defBody s_is_tuple_of) (defScope s_is_tuple_of) [] [] f fd) : FnG P w K mg base CX0 1 f fd ["thing", "size"] (spM ⟨K, xcK K⟩ 2 F_is_tuple_of) :=
  fn_ok F sc_is_tuple_of fun cdv A outer s H E hr => (show PSs _ (defBody s_is_tuple_of) (tS ⟨K, xcK K⟩ E0 m_is_tuple_of) from ss_one (s_ret (e_and (e_blt (f_isi rfl) bb_isinstance (T.z_isinstance) (l_cons (e_var (pv 0)) (l_cons (e_ty (T.z_tuple) bb_tuple) (l_nil)))) (e_one (e_cmp (opr_eq rfl hr.units) (e_blt (f_len rfl) bb_len (T.z_len) (l_cons (e_var (pv 0)) (l_nil))) (e_var (pv 1)))))))
theorem g_is_tuple_of (T : Txt K mg) : Good K (xcK K) P w mg base "is_tuple_of" 1 2 [] F_is_tuple_of := by
  obtain ⟨fd, F⟩ := T.c.def_ 6 (d := d_is_tuple_of) rfl
  have F : FunD K "is_tuple_of" "is_tuple_of" (defArgs s_is_tuple_of) (defBody s_is_tuple_of) (defScope s_is_tuple_of) [] [] (He.ga K "is_tuple_of") fd := F
  exact ⟨_, fd, ["thing", "size"], [], [], T.g_is_tuple_of, F.kp, rfl, F.bindsN fun _ _ _ _ _ _ us hl => match us, hl with | [_, _], _ => rfl, .nil, fun _ _ _ => .nil, ok_is_tuple_of T F⟩
end
/-! are_ascending -/
theorem sc_are_ascending : FnScope ["things", "one", "other"] ["things"] (defScope s_are_ascending) := ⟨rfl, rfl, rfl, by decide +kernel, rfl, by decide +kernel, by decide +kernel⟩
def m_are_ascending : Sm := retM (callS (c1 allD) (consS (frzS (lcS (itZip (consS (vS 0) (consS (slS (vS 0) (partS (cS (.int 1))) (noP)) (nilS)))) [1, 2] (tupT 2 (consT (nameT 1) (consT (nameT 2) (nilT))) [1, 2]) (yesS) (op2S oLt (vS 1) (vS 2)))) (nilS)))
def F_are_ascending : Fn := fnF 3 m_are_ascending
section
variable {K : PySem.W.Frag} {mg : Str → Option Value} {P : Program} {w : World} {base : Heap}
theorem ok_are_ascending (T : Txt K mg) {f : Addr} {fd : FuncData} (F : FunD K "are_ascending" "are_ascending" (defArgs s_are_ascending) (defBody s_are_ascending) (defScope s_are_ascending) [] [] f fd) : FnG P w K mg base CX0 1 f fd ["things"] (spM ⟨K, xcK K⟩ 1 F_are_ascending) :=
  fn_ok F sc_are_ascending fun cdv A outer s H E hr => (show PSs _ (defBody s_are_ascending) (tS ⟨K, xcK K⟩ E0 m_are_ascending) from ss_one (s_ret (e_blt (f_all rfl) bb_all (T.z_all) (l_cons (e_lc rfl sc_are_ascending.nd (own := [("one", 1), ("other", 2)]) (i_zip rfl rfl (T.z_zip) (l_cons (e_var (pv 0)) (l_cons (e_sl rfl (e_var (pv 0)) (p_some (e_int)) (p_none)) (l_nil))) (fun _ h => RZ.pi_zipA rfl (T.z_zip) h)) (blkOk_by (by kernel_rfl)) (by decide) (fun _ _ _ _ _ => g_tup rfl rfl (gs_cons (g_name (pg_name (i := 1) sc_are_ascending.nd rfl (by first | exact Or.inl rfl | exact Or.inr rfl))) (gs_cons (g_name (pg_name (i := 2) sc_are_ascending.nd rfl (by first | exact Or.inl rfl | exact Or.inr rfl))) (gs_nil)))) (fun _ _ _ _ _ => ts_nil) (fun _ _ _ _ _ => e_cmp (opr_lt) (e_var (pv 1)) (e_var (pv 2)))) (l_nil)))))
theorem g_are_ascending (T : Txt K mg) : Good K (xcK K) P w mg base "are_ascending" 1 1 [] F_are_ascending := by
  obtain ⟨fd, F⟩ := T.c.def_ 7 (d := d_are_ascending) rfl
  have F : FunD K "are_ascending" "are_ascending" (defArgs s_are_ascending) (defBody s_are_ascending) (defScope s_are_ascending) [] [] (He.ga K "are_ascending") fd := F
  exact ⟨_, fd, ["things"], [], [], T.g_are_ascending, F.kp, rfl, F.bindsN fun _ _ _ _ _ _ us hl => match us, hl with | [_], _ => rfl, .nil, fun _ _ _ => .nil, ok_are_ascending T F⟩
end
/-! are_names -/
theorem sc_are_names : FnScope ["thing", "one"] ["thing"] (defScope s_are_names) := ⟨rfl, rfl, rfl, by decide +kernel, rfl, by decide +kernel, by decide +kernel⟩
def m_are_names : Sm := seqM (ifM (orS (notS (truS toB (callS (c2 isiD) (consS (vS 0) (consS (cS (.ty "tuple")) (nilS)))))) (orS (truS toB (op2S oEq (callS (c1 lenD) (consS (vS 0) (nilS))) (cS (.int 0)))) (notS (truS toB (callS (c1 allD) (consS (frzS (lcS (itS (vS 0)) [1] (nameT 1) (yesS) (callP F_is_name [] (consS (vS 1) (nilS))))) (nilS))))))) (retM (cS (.bl false))) (skipM))
  (retM (callP F_are_ascending [] (consS (vS 0) (nilS))))
def F_are_names : Fn := fnF 2 m_are_names
section
variable {K : PySem.W.Frag} {mg : Str → Option Value} {P : Program} {w : World} {base : Heap}
theorem ok_are_names (T : Txt K mg) {f : Addr} {fd : FuncData} (F : FunD K "are_names" "are_names" (defArgs s_are_names) (defBody s_are_names) (defScope s_are_names) [] [] f fd) : FnG P w K mg base CX0 2 f fd ["thing"] (spM ⟨K, xcK K⟩ 1 F_are_names) :=
  fn_ok F sc_are_names fun cdv A outer s H E hr => (show PSs _ (defBody s_are_names) (tS ⟨K, xcK K⟩ E0 m_are_names) from ss_cons (s_if (PW.pt (w_or (t_not (t_val (e_blt (f_isi rfl) bb_isinstance (T.z_isinstance) (l_cons (e_var (pv 0)) (l_cons (e_ty (T.z_tuple) bb_tuple) (l_nil)))))) (w_or (t_cmp (opr_eq rfl hr.units) (e_blt (f_len rfl) bb_len (T.z_len) (l_cons (e_var (pv 0)) (l_nil))) (e_int)) (w_or1 (t_not (t_val (e_blt (f_all rfl) bb_all (T.z_all) (l_cons (e_lc rfl sc_are_names.nd (own := [("one", 1)]) (i_any rfl (e_var (pv 0))) (blkOk_by (by kernel_rfl)) (by decide) (fun _ _ _ _ _ => g_name (pg_name (i := 1) sc_are_names.nd rfl (by first | exact Or.inl rfl | exact Or.inr rfl))) (fun _ _ _ _ _ => ts_nil) (fun _ _ _ _ _ => e_fP (g_is_name T) rfl (hr.mono (by decide)) (by rfl) (by rfl) (l_cons (e_var (pv 1)) (l_nil)) (cons_len (nil_len)))) (l_nil))))))))) (ss_one (s_ret (e_bl))) (ss_nil))
    (ss_one (s_ret (e_fP (g_are_ascending T) rfl (hr.mono (by decide)) (by rfl) (by rfl) (l_cons (e_var (pv 0)) (l_nil)) (cons_len (nil_len))))))
theorem g_are_names (T : Txt K mg) : Good K (xcK K) P w mg base "are_names" 2 1 [] F_are_names := by
  obtain ⟨fd, F⟩ := T.c.def_ 8 (d := d_are_names) rfl
  have F : FunD K "are_names" "are_names" (defArgs s_are_names) (defBody s_are_names) (defScope s_are_names) [] [] (He.ga K "are_names") fd := F
  exact ⟨_, fd, ["thing"], [], [], T.g_are_names, F.kp, rfl, F.bindsN fun _ _ _ _ _ _ us hl => match us, hl with | [_], _ => rfl, .nil, fun _ _ _ => .nil, ok_are_names T F⟩
end
/-! is_set_of -/
theorem sc_is_set_of : FnScope ["names", "thing", "one"] ["names", "thing"] (defScope s_is_set_of) := ⟨rfl, rfl, rfl, by decide +kernel, rfl, by decide +kernel, by decide +kernel⟩
def m_is_set_of : Sm := retM (andV (callS (c2 isiD) (consS (vS 1) (consS (cS (.ty "tuple")) (nilS)))) (andV (callS (c1 allD) (consS (frzS (lcS (itS (vS 1)) [2] (nameT 2) (yesS) (callP F_is_among [] (consS (vS 2) (consS (vS 0) (nilS)))))) (nilS))) (callP F_are_ascending [] (consS (vS 1) (nilS)))))
def F_is_set_of : Fn := fnF 3 m_is_set_of
section
variable {K : PySem.W.Frag} {mg : Str → Option Value} {P : Program} {w : World} {base : Heap}
theorem ok_is_set_of (T : Txt K mg) {f : Addr} {fd : FuncData} (F : FunD K "is_set_of" "is_set_of" (defArgs s_is_set_of) (defBody s_is_set_of) (defScope s_is_set_of) [] [] f fd) : FnG P w K mg base CX0 2 f fd ["names", "thing"] (spM ⟨K, xcK K⟩ 2 F_is_set_of) :=
  fn_ok F sc_is_set_of fun cdv A outer s H E hr => (show PSs _ (defBody s_is_set_of) (tS ⟨K, xcK K⟩ E0 m_is_set_of) from ss_one (s_ret (e_and (e_blt (f_isi rfl) bb_isinstance (T.z_isinstance) (l_cons (e_var (pv 1)) (l_cons (e_ty (T.z_tuple) bb_tuple) (l_nil)))) (e_and (e_blt (f_all rfl) bb_all (T.z_all) (l_cons (e_lc rfl sc_is_set_of.nd (own := [("one", 2)]) (i_any rfl (e_var (pv 1))) (blkOk_by (by kernel_rfl)) (by decide) (fun _ _ _ _ _ => g_name (pg_name (i := 2) sc_is_set_of.nd rfl (by first | exact Or.inl rfl | exact Or.inr rfl))) (fun _ _ _ _ _ => ts_nil) (fun _ _ _ _ _ => e_fP (g_is_among T) rfl (hr.mono (by decide)) (by rfl) (by rfl) (l_cons (e_var (pv 2)) (l_cons (e_var (pv 0)) (l_nil))) (cons_len (cons_len (nil_len))))) (l_nil))) (e_one (e_fP (g_are_ascending T) rfl (hr.mono (by decide)) (by rfl) (by rfl) (l_cons (e_var (pv 1)) (l_nil)) (cons_len (nil_len))))))))
theorem g_is_set_of (T : Txt K mg) : Good K (xcK K) P w mg base "is_set_of" 2 2 [] F_is_set_of := by
  obtain ⟨fd, F⟩ := T.c.def_ 9 (d := d_is_set_of) rfl
  have F : FunD K "is_set_of" "is_set_of" (defArgs s_is_set_of) (defBody s_is_set_of) (defScope s_is_set_of) [] [] (He.ga K "is_set_of") fd := F
  exact ⟨_, fd, ["names", "thing"], [], [], T.g_is_set_of, F.kp, rfl, F.bindsN fun _ _ _ _ _ _ us hl => match us, hl with | [_, _], _ => rfl, .nil, fun _ _ _ => .nil, ok_is_set_of T F⟩
end
/-! crew_fault -/
theorem sc_crew_fault : FnScope ["thing", "workers", "parts", "lots", "width", "k", "lot"] ["thing"] (defScope s_crew_fault) := ⟨rfl, rfl, rfl, by decide +kernel, rfl, by decide +kernel, by decide +kernel⟩
def m_crew_fault : Sm := seqM (ifM (notS (truS toB (callP F_is_tuple_of [] (consS (vS 0) (consS (cS (.int 4)) (nilS)))))) (retM (tupS (consS (cS (.str "shape")) (consS (op1S oNeg (cS (.int 1))) (nilS))))) (skipM))
  (seqM (asgS (tupT 4 (consT (nameT 1) (consT (nameT 2) (consT (nameT 3) (consT (nameT 4) (nilT))))) [1, 2, 3, 4]) (vS 0))
  (seqM (ifM (notS (truS toB (callP F_are_names [] (consS (vS 1) (nilS))))) (retM (tupS (consS (cS (.str "workers")) (consS (op1S oNeg (cS (.int 1))) (nilS))))) (skipM))
  (seqM (ifM (notS (truS toB (callP F_are_names [] (consS (vS 2) (nilS))))) (retM (tupS (consS (cS (.str "parts")) (consS (op1S oNeg (cS (.int 1))) (nilS))))) (skipM))
  (seqM (ifM (notS (truS toB (callP F_is_tuple_of [] (consS (vS 3) (consS (callS (c1 lenD) (consS (vS 2) (nilS))) (nilS)))))) (retM (tupS (consS (cS (.str "lots")) (consS (op1S oNeg (cS (.int 1))) (nilS))))) (skipM))
  (seqM (forM (itEnum (consS (vS 3) (nilS))) (tupT 2 (consT (nameT 5) (consT (nameT 6) (nilT))) [5, 6]) (ifM (orS (notS (truS toB (callP F_is_set_of [] (consS (vS 1) (consS (vS 6) (nilS)))))) (truS toB (op2S oEq (callS (c1 lenD) (consS (vS 6) (nilS))) (cS (.int 0))))) (retM (tupS (consS (cS (.str "lot")) (consS (vS 5) (nilS))))) (skipM)))
  (retM (ifS (truS toB (callP F_is_above_nought [] (consS (vS 4) (nilS)))) (cS .non) (tupS (consS (cS (.str "width")) (consS (op1S oNeg (cS (.int 1))) (nilS)))))))))))
def F_crew_fault : Fn := fnF 7 m_crew_fault
section
variable {K : PySem.W.Frag} {mg : Str → Option Value} {P : Program} {w : World} {base : Heap}
theorem ok_crew_fault (T : Txt K mg) {f : Addr} {fd : FuncData} (F : FunD K "crew_fault" "crew_fault" (defArgs s_crew_fault) (defBody s_crew_fault) (defScope s_crew_fault) [] [] f fd) : FnG P w K mg base CX0 3 f fd ["thing"] (spM ⟨K, xcK K⟩ 1 F_crew_fault) :=
  fn_ok F sc_crew_fault fun cdv A outer s H E hr => (show PSs _ (defBody s_crew_fault) (tS ⟨K, xcK K⟩ E0 m_crew_fault) from ss_cons (s_if (t_not (t_val (e_fP (g_is_tuple_of T) rfl (hr.mono (by decide)) (by rfl) (by rfl) (l_cons (e_var (pv 0)) (l_cons (e_int) (l_nil))) (cons_len (cons_len (nil_len)))))) (ss_one (s_ret (e_tup (l_cons (e_str) (l_cons (e_un unr_neg (e_int)) (l_nil)))))) (ss_nil))
    (ss_cons (s_asg (e_var (pv 0)) (g_tup rfl rfl (gs_cons (g_name (pg_name (i := 1) sc_crew_fault.nd rfl (by first | exact Or.inl rfl | exact Or.inr rfl))) (gs_cons (g_name (pg_name (i := 2) sc_crew_fault.nd rfl (by first | exact Or.inl rfl | exact Or.inr rfl))) (gs_cons (g_name (pg_name (i := 3) sc_crew_fault.nd rfl (by first | exact Or.inl rfl | exact Or.inr rfl))) (gs_cons (g_name (pg_name (i := 4) sc_crew_fault.nd rfl (by first | exact Or.inl rfl | exact Or.inr rfl))) (gs_nil)))))))
    (ss_cons (s_if (t_not (t_val (e_fP (g_are_names T) rfl (hr.mono (by decide)) (by rfl) (by rfl) (l_cons (e_var (pv 1)) (l_nil)) (cons_len (nil_len))))) (ss_one (s_ret (e_tup (l_cons (e_str) (l_cons (e_un unr_neg (e_int)) (l_nil)))))) (ss_nil))
    (ss_cons (s_if (t_not (t_val (e_fP (g_are_names T) rfl (hr.mono (by decide)) (by rfl) (by rfl) (l_cons (e_var (pv 2)) (l_nil)) (cons_len (nil_len))))) (ss_one (s_ret (e_tup (l_cons (e_str) (l_cons (e_un unr_neg (e_int)) (l_nil)))))) (ss_nil))
    (ss_cons (s_if (t_not (t_val (e_fP (g_is_tuple_of T) rfl (hr.mono (by decide)) (by rfl) (by rfl) (l_cons (e_var (pv 3)) (l_cons (e_blt (f_len rfl) bb_len (T.z_len) (l_cons (e_var (pv 2)) (l_nil))) (l_nil))) (cons_len (cons_len (nil_len)))))) (ss_one (s_ret (e_tup (l_cons (e_str) (l_cons (e_un unr_neg (e_int)) (l_nil)))))) (ss_nil))
    (ss_cons (s_for PassesOwn.never rfl (i_enum rfl rfl (T.z_enumerate) (l_cons (e_var (pv 3)) (l_nil))) (g_tup rfl rfl (gs_cons (g_name (pg_name (i := 5) sc_crew_fault.nd rfl (by first | exact Or.inl rfl | exact Or.inr rfl))) (gs_cons (g_name (pg_name (i := 6) sc_crew_fault.nd rfl (by first | exact Or.inl rfl | exact Or.inr rfl))) (gs_nil)))) (ss_one (s_if (PW.pt (w_or (t_not (t_val (e_fP (g_is_set_of T) rfl (hr.mono (by decide)) (by rfl) (by rfl) (l_cons (e_var (pv 1)) (l_cons (e_var (pv 6)) (l_nil))) (cons_len (cons_len (nil_len)))))) (w_or1 (t_cmp (opr_eq rfl hr.units) (e_blt (f_len rfl) bb_len (T.z_len) (l_cons (e_var (pv 6)) (l_nil))) (e_int))))) (ss_one (s_ret (e_tup (l_cons (e_str) (l_cons (e_var (pv 5)) (l_nil)))))) (ss_nil))))
    (ss_one (s_ret (e_if (t_val (e_fP (g_is_above_nought T) rfl (hr.mono (by decide)) (by rfl) (by rfl) (l_cons (e_var (pv 4)) (l_nil)) (cons_len (nil_len)))) (e_non) (e_tup (l_cons (e_str) (l_cons (e_un unr_neg (e_int)) (l_nil)))))))))))))
theorem g_crew_fault (T : Txt K mg) : Good K (xcK K) P w mg base "crew_fault" 3 1 [] F_crew_fault := by
  obtain ⟨fd, F⟩ := T.c.def_ 10 (d := d_crew_fault) rfl
  have F : FunD K "crew_fault" "crew_fault" (defArgs s_crew_fault) (defBody s_crew_fault) (defScope s_crew_fault) [] [] (He.ga K "crew_fault") fd := F
  exact ⟨_, fd, ["thing"], [], [], T.g_crew_fault, F.kp, rfl, F.bindsN fun _ _ _ _ _ _ us hl => match us, hl with | [_], _ => rfl, .nil, fun _ _ _ => .nil, ok_crew_fault T F⟩
end
/-! is_crew -/
theorem sc_is_crew : FnScope ["thing"] ["thing"] (defScope s_is_crew) := ⟨rfl, rfl, rfl, by decide +kernel, rfl, by decide +kernel, by decide +kernel⟩
def m_is_crew : Sm := retM (op2S oIsN (callP F_crew_fault [] (consS (vS 0) (nilS))) (cS .non))
def F_is_crew : Fn := fnF 1 m_is_crew
section
variable {K : PySem.W.Frag} {mg : Str → Option Value} {P : Program} {w : World} {base : Heap}
theorem ok_is_crew (T : Txt K mg) {f : Addr} {fd : FuncData} (F : FunD K "is_crew" "is_crew" (defArgs s_is_crew) (defBody s_is_crew) (defScope s_is_crew) [] [] f fd) : FnG P w K mg base CX0 4 f fd ["thing"] (spM ⟨K, xcK K⟩ 1 F_is_crew) :=
  fn_ok F sc_is_crew fun cdv A outer s H E hr => (show PSs _ (defBody s_is_crew) (tS ⟨K, xcK K⟩ E0 m_is_crew) from ss_one (s_ret (e_cmp (opr_isN) (e_fP (g_crew_fault T) rfl (hr.mono (by decide)) (by rfl) (by rfl) (l_cons (e_var (pv 0)) (l_nil)) (cons_len (nil_len))) (e_non))))
theorem g_is_crew (T : Txt K mg) : Good K (xcK K) P w mg base "is_crew" 4 1 [] F_is_crew := by
  obtain ⟨fd, F⟩ := T.c.def_ 11 (d := d_is_crew) rfl
  have F : FunD K "is_crew" "is_crew" (defArgs s_is_crew) (defBody s_is_crew) (defScope s_is_crew) [] [] (He.ga K "is_crew") fd := F
  exact ⟨_, fd, ["thing"], [], [], T.g_is_crew, F.kp, rfl, F.bindsN fun _ _ _ _ _ _ us hl => match us, hl with | [_], _ => rfl, .nil, fun _ _ _ => .nil, ok_is_crew T F⟩
end
/-! want -/
theorem sc_want : FnScope ["is_right", "name", "place"] ["is_right", "name", "place"] (defScope s_want) := ⟨rfl, rfl, rfl, by decide +kernel, rfl, by decide +kernel, by decide +kernel⟩
def m_want : Sm := ifM (notS (truS toB (vS 0))) (badM) (skipM)
def F_want : Fn := fnF 3 m_want
section
variable {K : PySem.W.Frag} {mg : Str → Option Value} {P : Program} {w : World} {base : Heap}
theorem ok_want (T : Txt K mg) {f : Addr} {fd : FuncData} (F : FunD K "want" "want" (defArgs s_want) (defBody s_want) (defScope s_want) [.int (-1)] [] f fd) : FnG P w K mg base CX0 1 f fd ["is_right", "name", "place"] (spM ⟨K, xcK K⟩ 3 F_want) :=
  fn_ok F sc_want fun cdv A outer s H E hr => (show PSs _ (defBody s_want) (tS ⟨K, xcK K⟩ E0 m_want) from ss_one (s_if (t_not (t_val (e_var (pv 0)))) (ss_one (s_never)) (ss_nil)))
theorem g_want_d1 (T : Txt K mg) : Good K (xcK K) P w mg base "want" 1 3 [.int (-1)] F_want := by
  obtain ⟨fd, F⟩ := T.c.def_ 12 (d := d_want) rfl
  have F : FunD K "want" "want" (defArgs s_want) (defBody s_want) (defScope s_want) [.int (-1)] [] (He.ga K "want") fd := F
  obtain ⟨ds, hv, hb⟩ := F.binds1 (ps := ["is_right", "name", "place"]) 2 0 (by simp) rfl fun _ _ _ _ _ _ _ us its h1 h2 => match us, its, h1, h2 with | [_, _], [_], _, _ => ⟨_, rfl, rfl⟩
  exact ⟨_, fd, ["is_right", "name", "place"], ds, _, T.g_want, F.kp, rfl, hb, hv, fun _ _ _ => .cons .mkInt (.nil), ok_want T F⟩
end
/-! are_bounds -/
theorem sc_are_bounds : FnScope ["workers", "thing", "one"] ["workers", "thing"] (defScope s_are_bounds) := ⟨rfl, rfl, rfl, by decide +kernel, rfl, by decide +kernel, by decide +kernel⟩
def m_are_bounds : Sm := retM (andV (callP F_is_tuple_of [] (consS (vS 1) (consS (callS (c1 lenD) (consS (vS 0) (nilS))) (nilS)))) (callS (c1 allD) (consS (frzS (lcS (itS (vS 1)) [2] (nameT 2) (yesS) (callP F_is_number [] (consS (vS 2) (nilS))))) (nilS))))
def F_are_bounds : Fn := fnF 3 m_are_bounds
section
variable {K : PySem.W.Frag} {mg : Str → Option Value} {P : Program} {w : World} {base : Heap}
theorem ok_are_bounds (T : Txt K mg) {f : Addr} {fd : FuncData} (F : FunD K "are_bounds" "are_bounds" (defArgs s_are_bounds) (defBody s_are_bounds) (defScope s_are_bounds) [] [] f fd) : FnG P w K mg base CX0 3 f fd ["workers", "thing"] (spM ⟨K, xcK K⟩ 2 F_are_bounds) :=
  fn_ok F sc_are_bounds fun cdv A outer s H E hr => (show PSs _ (defBody s_are_bounds) (tS ⟨K, xcK K⟩ E0 m_are_bounds) from ss_one (s_ret (e_and (e_fP (g_is_tuple_of T) rfl (hr.mono (by decide)) (by rfl) (by rfl) (l_cons (e_var (pv 1)) (l_cons (e_blt (f_len rfl) bb_len (T.z_len) (l_cons (e_var (pv 0)) (l_nil))) (l_nil))) (cons_len (cons_len (nil_len)))) (e_one (e_blt (f_all rfl) bb_all (T.z_all) (l_cons (e_lc rfl sc_are_bounds.nd (own := [("one", 2)]) (i_any rfl (e_var (pv 1))) (blkOk_by (by kernel_rfl)) (by decide) (fun _ _ _ _ _ => g_name (pg_name (i := 2) sc_are_bounds.nd rfl (by first | exact Or.inl rfl | exact Or.inr rfl))) (fun _ _ _ _ _ => ts_nil) (fun _ _ _ _ _ => e_fP (g_is_number T) rfl (hr.mono (by decide)) (by rfl) (by rfl) (l_cons (e_var (pv 2)) (l_nil)) (cons_len (nil_len)))) (l_nil)))))))
theorem g_are_bounds (T : Txt K mg) : Good K (xcK K) P w mg base "are_bounds" 3 2 [] F_are_bounds := by
  obtain ⟨fd, F⟩ := T.c.def_ 13 (d := d_are_bounds) rfl
  have F : FunD K "are_bounds" "are_bounds" (defArgs s_are_bounds) (defBody s_are_bounds) (defScope s_are_bounds) [] [] (He.ga K "are_bounds") fd := F
  exact ⟨_, fd, ["workers", "thing"], [], [], T.g_are_bounds, F.kp, rfl, F.bindsN fun _ _ _ _ _ _ us hl => match us, hl with | [_, _], _ => rfl, .nil, fun _ _ _ => .nil, ok_are_bounds T F⟩
end
/-! want_sets -/
theorem sc_want_sets : FnScope ["workers", "parts"] ["workers", "parts"] (defScope s_want_sets) := ⟨rfl, rfl, rfl, by decide +kernel, rfl, by decide +kernel, by decide +kernel⟩
def m_want_sets : Sm := seqM (dropM (callP F_want [(.int (-1))] (consS (callP F_are_names [] (consS (vS 0) (nilS))) (consS (cS (.str "workers")) (nilS)))))
  (dropM (callP F_want [(.int (-1))] (consS (callP F_are_names [] (consS (vS 1) (nilS))) (consS (cS (.str "parts")) (nilS)))))
def F_want_sets : Fn := fnF 2 m_want_sets
section
variable {K : PySem.W.Frag} {mg : Str → Option Value} {P : Program} {w : World} {base : Heap}
theorem ok_want_sets (T : Txt K mg) {f : Addr} {fd : FuncData} (F : FunD K "want_sets" "want_sets" (defArgs s_want_sets) (defBody s_want_sets) (defScope s_want_sets) [] [] f fd) : FnG P w K mg base CX0 3 f fd ["workers", "parts"] (spM ⟨K, xcK K⟩ 2 F_want_sets) :=
  fn_ok F sc_want_sets fun cdv A outer s H E hr => (show PSs _ (defBody s_want_sets) (tS ⟨K, xcK K⟩ E0 m_want_sets) from ss_cons (s_expr (e_fP (g_want_d1 T) rfl (hr.mono (by decide)) (by rfl) (by rfl) (l_cons (e_fP (g_are_names T) rfl (hr.mono (by decide)) (by rfl) (by rfl) (l_cons (e_var (pv 0)) (l_nil)) (cons_len (nil_len))) (l_cons (e_str) (l_nil))) (cons_len (cons_len (nil_len)))))
    (ss_one (s_expr (e_fP (g_want_d1 T) rfl (hr.mono (by decide)) (by rfl) (by rfl) (l_cons (e_fP (g_are_names T) rfl (hr.mono (by decide)) (by rfl) (by rfl) (l_cons (e_var (pv 1)) (l_nil)) (cons_len (nil_len))) (l_cons (e_str) (l_nil))) (cons_len (cons_len (nil_len)))))))
theorem g_want_sets (T : Txt K mg) : Good K (xcK K) P w mg base "want_sets" 3 2 [] F_want_sets := by
  obtain ⟨fd, F⟩ := T.c.def_ 14 (d := d_want_sets) rfl
  have F : FunD K "want_sets" "want_sets" (defArgs s_want_sets) (defBody s_want_sets) (defScope s_want_sets) [] [] (He.ga K "want_sets") fd := F
  exact ⟨_, fd, ["workers", "parts"], [], [], T.g_want_sets, F.kp, rfl, F.bindsN fun _ _ _ _ _ _ us hl => match us, hl with | [_, _], _ => rfl, .nil, fun _ _ _ => .nil, ok_want_sets T F⟩
end
/-! want_many -/
theorem sc_want_many : FnScope ["workers", "many"] ["workers", "many"] (defScope s_want_many) := ⟨rfl, rfl, rfl, by decide +kernel, rfl, by decide +kernel, by decide +kernel⟩
def m_want_many : Sm := dropM (callP F_want [(.int (-1))] (consS (andV (callP F_is_above_nought [] (consS (vS 1) (nilS))) (op2S oLe (vS 1) (callS (c1 lenD) (consS (vS 0) (nilS))))) (consS (cS (.str "many")) (nilS))))
def F_want_many : Fn := fnF 2 m_want_many
section
variable {K : PySem.W.Frag} {mg : Str → Option Value} {P : Program} {w : World} {base : Heap}
theorem ok_want_many (T : Txt K mg) {f : Addr} {fd : FuncData} (F : FunD K "want_many" "want_many" (defArgs s_want_many) (defBody s_want_many) (defScope s_want_many) [] [] f fd) : FnG P w K mg base CX0 3 f fd ["workers", "many"] (spM ⟨K, xcK K⟩ 2 F_want_many) :=
  fn_ok F sc_want_many fun cdv A outer s H E hr => (show PSs _ (defBody s_want_many) (tS ⟨K, xcK K⟩ E0 m_want_many) from ss_one (s_expr (e_fP (g_want_d1 T) rfl (hr.mono (by decide)) (by rfl) (by rfl) (l_cons (e_and (e_fP (g_is_above_nought T) rfl (hr.mono (by decide)) (by rfl) (by rfl) (l_cons (e_var (pv 1)) (l_nil)) (cons_len (nil_len))) (e_one (e_cmp (opr_le) (e_var (pv 1)) (e_blt (f_len rfl) bb_len (T.z_len) (l_cons (e_var (pv 0)) (l_nil)))))) (l_cons (e_str) (l_nil))) (cons_len (cons_len (nil_len))))))
theorem g_want_many (T : Txt K mg) : Good K (xcK K) P w mg base "want_many" 3 2 [] F_want_many := by
  obtain ⟨fd, F⟩ := T.c.def_ 15 (d := d_want_many) rfl
  have F : FunD K "want_many" "want_many" (defArgs s_want_many) (defBody s_want_many) (defScope s_want_many) [] [] (He.ga K "want_many") fd := F
  exact ⟨_, fd, ["workers", "many"], [], [], T.g_want_many, F.kp, rfl, F.bindsN fun _ _ _ _ _ _ us hl => match us, hl with | [_, _], _ => rfl, .nil, fun _ _ _ => .nil, ok_want_many T F⟩
end
/-! holdings_by -/
theorem sc_holdings_by : FnScope ["parts", "bounds", "bound"] ["parts", "bounds"] (defScope s_holdings_by) := ⟨rfl, rfl, rfl, by decide +kernel, rfl, by decide +kernel, by decide +kernel⟩
def m_holdings_by : Sm := retM (callS (c1 sumD) (consS (frzS (lcS (itS (vS 1)) [2] (nameT 2) (yesS) (callS (c12 minD min2D) (consS (lstS (consS (vS 2) (consS (callS (c1 lenD) (consS (vS 0) (nilS))) (nilS)))) (nilS))))) (nilS)))
def F_holdings_by : Fn := fnF 3 m_holdings_by
section
variable {K : PySem.W.Frag} {mg : Str → Option Value} {P : Program} {w : World} {base : Heap}
theorem ok_holdings_by (T : Txt K mg) {f : Addr} {fd : FuncData} (F : FunD K "holdings_by" "holdings_by" (defArgs s_holdings_by) (defBody s_holdings_by) (defScope s_holdings_by) [] [] f fd) : FnG P w K mg base CX0 1 f fd ["parts", "bounds"] (spM ⟨K, xcK K⟩ 2 F_holdings_by) :=
  fn_ok F sc_holdings_by fun cdv A outer s H E hr => (show PSs _ (defBody s_holdings_by) (tS ⟨K, xcK K⟩ E0 m_holdings_by) from ss_one (s_ret (e_blt (f_sum rfl) bb_sum (T.z_sum) (l_cons (e_lc rfl sc_holdings_by.nd (own := [("bound", 2)]) (i_any rfl (e_var (pv 1))) (blkOk_by (by kernel_rfl)) (by decide) (fun _ _ _ _ _ => g_name (pg_name (i := 2) sc_holdings_by.nd rfl (by first | exact Or.inl rfl | exact Or.inr rfl))) (fun _ _ _ _ _ => ts_nil) (fun _ _ _ _ _ => e_blt (f_min rfl) bb_min (T.z_min) (l_cons (e_lst (l_cons (e_var (pv 2)) (l_cons (e_blt (f_len rfl) bb_len (T.z_len) (l_cons (e_var (pv 0)) (l_nil))) (l_nil)))) (l_nil)))) (l_nil)))))
theorem g_holdings_by (T : Txt K mg) : Good K (xcK K) P w mg base "holdings_by" 1 2 [] F_holdings_by := by
  obtain ⟨fd, F⟩ := T.c.def_ 16 (d := d_holdings_by) rfl
  have F : FunD K "holdings_by" "holdings_by" (defArgs s_holdings_by) (defBody s_holdings_by) (defScope s_holdings_by) [] [] (He.ga K "holdings_by") fd := F
  exact ⟨_, fd, ["parts", "bounds"], [], [], T.g_holdings_by, F.kp, rfl, F.bindsN fun _ _ _ _ _ _ us hl => match us, hl with | [_, _], _ => rfl, .nil, fun _ _ _ => .nil, ok_holdings_by T F⟩
end
/-! lots_sorted -/
theorem sc_lots_sorted : FnScope ["parts", "pairs", "own", "part", "worker"] ["parts", "pairs"] (defScope s_lots_sorted) := ⟨rfl, rfl, rfl, by decide +kernel, rfl, by decide +kernel, by decide +kernel⟩
def m_lots_sorted : Sm := retM (callS (c1 tupD) (consS (frzS (lcS (itS (vS 0)) [2] (nameT 2) (yesS) (callP F_as_names [] (consS (frzS (lcS (itS (vS 1)) [3, 4] (tupT 2 (consT (nameT 3) (consT (nameT 4) (nilT))) [3, 4]) (truS toB (op2S oEq (vS 3) (vS 2))) (vS 4))) (nilS))))) (nilS)))
def F_lots_sorted : Fn := fnF 5 m_lots_sorted
section
variable {K : PySem.W.Frag} {mg : Str → Option Value} {P : Program} {w : World} {base : Heap}
theorem ok_lots_sorted (T : Txt K mg) {f : Addr} {fd : FuncData} (F : FunD K "lots_sorted" "lots_sorted" (defArgs s_lots_sorted) (defBody s_lots_sorted) (defScope s_lots_sorted) [] [] f fd) : FnG P w K mg base CX0 2 f fd ["parts", "pairs"] (spM ⟨K, xcK K⟩ 2 F_lots_sorted) :=
  fn_ok F sc_lots_sorted fun cdv A outer s H E hr => (show PSs _ (defBody s_lots_sorted) (tS ⟨K, xcK K⟩ E0 m_lots_sorted) from ss_one (s_ret (e_bty (f_tuple rfl) bb_tuple (T.z_tuple) (l_cons (e_lc rfl sc_lots_sorted.nd (own := [("own", 2)]) (i_any rfl (e_var (pv 0))) (blkOk_by (by kernel_rfl)) (by decide) (fun _ _ _ _ _ => g_name (pg_name (i := 2) sc_lots_sorted.nd rfl (by first | exact Or.inl rfl | exact Or.inr rfl))) (fun _ _ _ _ _ => ts_nil) (fun _ _ _ _ _ => e_fP (g_as_names T) rfl (hr.mono (by decide)) (by rfl) (by rfl) (l_cons (e_lc rfl sc_lots_sorted.nd (own := [("part", 3), ("worker", 4)]) (i_any rfl (e_var (pv 1))) (blkOk_by (by kernel_rfl)) (by decide) (fun _ _ _ _ _ => g_tup rfl rfl (gs_cons (g_name (pg_name (i := 3) sc_lots_sorted.nd rfl (by first | exact Or.inl rfl | exact Or.inr rfl))) (gs_cons (g_name (pg_name (i := 4) sc_lots_sorted.nd rfl (by first | exact Or.inl rfl | exact Or.inr rfl))) (gs_nil)))) (fun _ _ _ _ _ => ts_one (t_cmp (opr_eq rfl hr.units) (e_var (pv 3)) (e_var (pv 2)))) (fun _ _ _ _ _ => e_var (pv 4))) (l_nil)) (cons_len (nil_len)))) (l_nil)))))
theorem g_lots_sorted (T : Txt K mg) : Good K (xcK K) P w mg base "lots_sorted" 2 2 [] F_lots_sorted := by
  obtain ⟨fd, F⟩ := T.c.def_ 17 (d := d_lots_sorted) rfl
  have F : FunD K "lots_sorted" "lots_sorted" (defArgs s_lots_sorted) (defBody s_lots_sorted) (defScope s_lots_sorted) [] [] (He.ga K "lots_sorted") fd := F
  exact ⟨_, fd, ["parts", "pairs"], [], [], T.g_lots_sorted, F.kp, rfl, F.bindsN fun _ _ _ _ _ _ us hl => match us, hl with | [_, _], _ => rfl, .nil, fun _ _ _ => .nil, ok_lots_sorted T F⟩
end
/-! deal_round -/
theorem sc_deal_round : FnScope ["workers", "parts", "many", "width", "pairs", "late", "k", "part"] ["workers", "parts", "many", "width"] (defScope s_deal_round) := ⟨rfl, rfl, rfl, by decide +kernel, rfl, by decide +kernel, by decide +kernel⟩
def m_deal_round : Sm := seqM (dropM (callP F_want_sets [] (consS (vS 0) (consS (vS 1) (nilS)))))
  (seqM (dropM (callP F_want_many [] (consS (vS 0) (consS (vS 2) (nilS)))))
  (seqM (dropM (callP F_want [(.int (-1))] (consS (callP F_is_above_nought [] (consS (vS 3) (nilS))) (consS (cS (.str "width")) (nilS)))))
  (seqM (asgS (nameT 4) (frzS (lc2S (itEnum (consS (vS 1) (nilS))) [6, 7, 5] (tupT 2 (consT (nameT 6) (consT (nameT 7) (nilT))) [6, 7]) (yesS) (itR1 (consS (vS 2) (nilS))) [5] (nameT 5) (yesS) (tupS (consS (vS 7) (consS (op2S oIx (vS 0) (op2S oMod (op2S oAdd (vS 6) (vS 5)) (callS (c1 lenD) (consS (vS 0) (nilS))))) (nilS)))))))
  (retM (tupS (consS (vS 0) (consS (vS 1) (consS (callP F_lots_sorted [] (consS (vS 1) (consS (vS 4) (nilS)))) (consS (vS 3) (nilS))))))))))
def F_deal_round : Fn := fnF 8 m_deal_round
section
variable {K : PySem.W.Frag} {mg : Str → Option Value} {P : Program} {w : World} {base : Heap}
theorem ok_deal_round (T : Txt K mg) {f : Addr} {fd : FuncData} (F : FunD K "deal_round" "deal_round" (defArgs s_deal_round) (defBody s_deal_round) (defScope s_deal_round) [] [] f fd) : FnG P w K mg base CX0 4 f fd ["workers", "parts", "many", "width"] (spM ⟨K, xcK K⟩ 4 F_deal_round) :=
  fn_ok F sc_deal_round fun cdv A outer s H E hr => (show PSs _ (defBody s_deal_round) (tS ⟨K, xcK K⟩ E0 m_deal_round) from ss_cons (s_expr (e_fP (g_want_sets T) rfl (hr.mono (by decide)) (by rfl) (by rfl) (l_cons (e_var (pv 0)) (l_cons (e_var (pv 1)) (l_nil))) (cons_len (cons_len (nil_len)))))
    (ss_cons (s_expr (e_fP (g_want_many T) rfl (hr.mono (by decide)) (by rfl) (by rfl) (l_cons (e_var (pv 0)) (l_cons (e_var (pv 2)) (l_nil))) (cons_len (cons_len (nil_len)))))
    (ss_cons (s_expr (e_fP (g_want_d1 T) rfl (hr.mono (by decide)) (by rfl) (by rfl) (l_cons (e_fP (g_is_above_nought T) rfl (hr.mono (by decide)) (by rfl) (by rfl) (l_cons (e_var (pv 3)) (l_nil)) (cons_len (nil_len))) (l_cons (e_str) (l_nil))) (cons_len (cons_len (nil_len)))))
    (ss_cons (s_lc2F (i := 4) rfl sc_deal_round.nd rfl rfl (sw_true rfl rfl rfl (by decide +kernel)) (own := [("k", 6), ("part", 7), ("late", 5)]) (vs1 := [5]) (i_enum rfl rfl (T.z_enumerate) (l_cons (e_var (pv 1)) (l_nil))) (blkOk_by (by kernel_rfl)) (by decide) (by decide) (by decide) (fun _ _ _ _ _ => g_tup rfl rfl (gs_cons (g_name (pg_name (i := 6) sc_deal_round.nd rfl (by first | exact Or.inl rfl | exact Or.inr rfl))) (gs_cons (g_name (pg_name (i := 7) sc_deal_round.nd rfl (by first | exact Or.inl rfl | exact Or.inr rfl))) (gs_nil)))) (fun _ _ _ _ _ => ts_nil) (fun _ _ _ _ _ => i_r1 rfl (T.z_range) (l_cons (e_var (pv 2)) (l_nil))) (fun _ _ _ _ _ => g_name (pg_name (i := 5) sc_deal_round.nd rfl (by first | exact Or.inl rfl | exact Or.inr rfl))) (fun _ _ _ _ _ => ts_nil) (fun _ _ _ _ _ => e_tup (l_cons (e_var (pv 7)) (l_cons (e_ix rfl (e_var (pv 0)) (e_bin (opr_mod) (e_bin (opr_add rfl) (e_var (pv 6)) (e_var (pv 5))) (e_blt (f_len rfl) bb_len (T.z_len) (l_cons (e_var (pv 0)) (l_nil))))) (l_nil)))))
    (ss_one (s_ret (e_tup (l_cons (e_var (pv 0)) (l_cons (e_var (pv 1)) (l_cons (e_fP (g_lots_sorted T) rfl (hr.mono (by decide)) (by rfl) (by rfl) (l_cons (e_var (pv 1)) (l_cons (e_var (pv 4)) (l_nil))) (cons_len (cons_len (nil_len)))) (l_cons (e_var (pv 3)) (l_nil))))))))))))
theorem g_deal_round (T : Txt K mg) : Good K (xcK K) P w mg base "deal_round" 4 4 [] F_deal_round := by
  obtain ⟨fd, F⟩ := T.c.def_ 18 (d := d_deal_round) rfl
  have F : FunD K "deal_round" "deal_round" (defArgs s_deal_round) (defBody s_deal_round) (defScope s_deal_round) [] [] (He.ga K "deal_round") fd := F
  exact ⟨_, fd, ["workers", "parts", "many", "width"], [], [], T.g_deal_round, F.kp, rfl, F.bindsN fun _ _ _ _ _ _ us hl => match us, hl with | [_, _, _, _], _ => rfl, .nil, fun _ _ _ => .nil, ok_deal_round T F⟩
end
/-! can_deal -/
theorem sc_can_deal : FnScope ["workers", "parts", "many", "bounds"] ["workers", "parts", "many", "bounds"] (defScope s_can_deal) := ⟨rfl, rfl, rfl, by decide +kernel, rfl, by decide +kernel, by decide +kernel⟩
def m_can_deal : Sm := seqM (dropM (callP F_want_sets [] (consS (vS 0) (consS (vS 1) (nilS)))))
  (seqM (dropM (callP F_want_many [] (consS (vS 0) (consS (vS 2) (nilS)))))
  (seqM (dropM (callP F_want [(.int (-1))] (consS (callP F_are_bounds [] (consS (vS 0) (consS (vS 3) (nilS)))) (consS (cS (.str "bounds")) (nilS)))))
  (retM (op2S oGe (callP F_holdings_by [] (consS (vS 1) (consS (vS 3) (nilS)))) (op2S oMul (vS 2) (callS (c1 lenD) (consS (vS 1) (nilS))))))))
def F_can_deal : Fn := fnF 4 m_can_deal
section
variable {K : PySem.W.Frag} {mg : Str → Option Value} {P : Program} {w : World} {base : Heap}
theorem ok_can_deal (T : Txt K mg) {f : Addr} {fd : FuncData} (F : FunD K "can_deal" "can_deal" (defArgs s_can_deal) (defBody s_can_deal) (defScope s_can_deal) [] [] f fd) : FnG P w K mg base CX0 4 f fd ["workers", "parts", "many", "bounds"] (spM ⟨K, xcK K⟩ 4 F_can_deal) :=
  fn_ok F sc_can_deal fun cdv A outer s H E hr => (show PSs _ (defBody s_can_deal) (tS ⟨K, xcK K⟩ E0 m_can_deal) from ss_cons (s_expr (e_fP (g_want_sets T) rfl (hr.mono (by decide)) (by rfl) (by rfl) (l_cons (e_var (pv 0)) (l_cons (e_var (pv 1)) (l_nil))) (cons_len (cons_len (nil_len)))))
    (ss_cons (s_expr (e_fP (g_want_many T) rfl (hr.mono (by decide)) (by rfl) (by rfl) (l_cons (e_var (pv 0)) (l_cons (e_var (pv 2)) (l_nil))) (cons_len (cons_len (nil_len)))))
    (ss_cons (s_expr (e_fP (g_want_d1 T) rfl (hr.mono (by decide)) (by rfl) (by rfl) (l_cons (e_fP (g_are_bounds T) rfl (hr.mono (by decide)) (by rfl) (by rfl) (l_cons (e_var (pv 0)) (l_cons (e_var (pv 3)) (l_nil))) (cons_len (cons_len (nil_len)))) (l_cons (e_str) (l_nil))) (cons_len (cons_len (nil_len)))))
    (ss_one (s_ret (e_cmp (opr_ge) (e_fP (g_holdings_by T) rfl (hr.mono (by decide)) (by rfl) (by rfl) (l_cons (e_var (pv 1)) (l_cons (e_var (pv 3)) (l_nil))) (cons_len (cons_len (nil_len)))) (e_bin (opr_mul rfl) (e_var (pv 2)) (e_blt (f_len rfl) bb_len (T.z_len) (l_cons (e_var (pv 1)) (l_nil))))))))))
theorem g_can_deal (T : Txt K mg) : Good K (xcK K) P w mg base "can_deal" 4 4 [] F_can_deal := by
  obtain ⟨fd, F⟩ := T.c.def_ 19 (d := d_can_deal) rfl
  have F : FunD K "can_deal" "can_deal" (defArgs s_can_deal) (defBody s_can_deal) (defScope s_can_deal) [] [] (He.ga K "can_deal") fd := F
  exact ⟨_, fd, ["workers", "parts", "many", "bounds"], [], [], T.g_can_deal, F.kp, rfl, F.bindsN fun _ _ _ _ _ _ us hl => match us, hl with | [_, _, _, _], _ => rfl, .nil, fun _ _ _ => .nil, ok_can_deal T F⟩
end
/-! most_each -/
theorem sc_most_each : FnScope ["workers", "parts", "bounds"] ["workers", "parts", "bounds"] (defScope s_most_each) := ⟨rfl, rfl, rfl, by decide +kernel, rfl, by decide +kernel, by decide +kernel⟩
def m_most_each : Sm := seqM (dropM (callP F_want_sets [] (consS (vS 0) (consS (vS 1) (nilS)))))
  (seqM (dropM (callP F_want [(.int (-1))] (consS (callP F_are_bounds [] (consS (vS 0) (consS (vS 2) (nilS)))) (consS (cS (.str "bounds")) (nilS)))))
  (retM (op2S oFdiv (callP F_holdings_by [] (consS (vS 1) (consS (vS 2) (nilS)))) (callS (c1 lenD) (consS (vS 1) (nilS))))))
def F_most_each : Fn := fnF 3 m_most_each
section
variable {K : PySem.W.Frag} {mg : Str → Option Value} {P : Program} {w : World} {base : Heap}
theorem ok_most_each (T : Txt K mg) {f : Addr} {fd : FuncData} (F : FunD K "most_each" "most_each" (defArgs s_most_each) (defBody s_most_each) (defScope s_most_each) [] [] f fd) : FnG P w K mg base CX0 4 f fd ["workers", "parts", "bounds"] (spM ⟨K, xcK K⟩ 3 F_most_each) :=
  fn_ok F sc_most_each fun cdv A outer s H E hr => (show PSs _ (defBody s_most_each) (tS ⟨K, xcK K⟩ E0 m_most_each) from ss_cons (s_expr (e_fP (g_want_sets T) rfl (hr.mono (by decide)) (by rfl) (by rfl) (l_cons (e_var (pv 0)) (l_cons (e_var (pv 1)) (l_nil))) (cons_len (cons_len (nil_len)))))
    (ss_cons (s_expr (e_fP (g_want_d1 T) rfl (hr.mono (by decide)) (by rfl) (by rfl) (l_cons (e_fP (g_are_bounds T) rfl (hr.mono (by decide)) (by rfl) (by rfl) (l_cons (e_var (pv 0)) (l_cons (e_var (pv 2)) (l_nil))) (cons_len (cons_len (nil_len)))) (l_cons (e_str) (l_nil))) (cons_len (cons_len (nil_len)))))
    (ss_one (s_ret (e_bin (opr_fdiv) (e_fP (g_holdings_by T) rfl (hr.mono (by decide)) (by rfl) (by rfl) (l_cons (e_var (pv 1)) (l_cons (e_var (pv 2)) (l_nil))) (cons_len (cons_len (nil_len)))) (e_blt (f_len rfl) bb_len (T.z_len) (l_cons (e_var (pv 1)) (l_nil))))))))
theorem g_most_each (T : Txt K mg) : Good K (xcK K) P w mg base "most_each" 4 3 [] F_most_each := by
  obtain ⟨fd, F⟩ := T.c.def_ 20 (d := d_most_each) rfl
  have F : FunD K "most_each" "most_each" (defArgs s_most_each) (defBody s_most_each) (defScope s_most_each) [] [] (He.ga K "most_each") fd := F
  exact ⟨_, fd, ["workers", "parts", "bounds"], [], [], T.g_most_each, F.kp, rfl, F.bindsN fun _ _ _ _ _ _ us hl => match us, hl with | [_, _, _], _ => rfl, .nil, fun _ _ _ => .nil, ok_most_each T F⟩
end
/-! pairs_dealt -/
theorem sc_pairs_dealt : FnScope ["workers", "parts", "many", "bounds", "found", "worker", "bound", "lap"] ["workers", "parts", "many", "bounds"] (defScope s_pairs_dealt) := ⟨rfl, rfl, rfl, by decide +kernel, rfl, by decide +kernel, by decide +kernel⟩
def m_pairs_dealt : Sm := seqM (asgS (nameT 4) (ownS (nilS)))
  (seqM (forM (itZip (consS (vS 0) (consS (vS 3) (nilS)))) (tupT 2 (consT (nameT 5) (consT (nameT 6) (nilT))) [5, 6]) (forM (itR1 (consS (callS (c12 minD min2D) (consS (lstS (consS (vS 6) (consS (callS (c1 lenD) (consS (vS 1) (nilS))) (consS (op2S oSub (op2S oMul (vS 2) (callS (c1 lenD) (consS (vS 1) (nilS)))) (callS (c1 lenD) (consS (vS 4) (nilS)))) (nilS))))) (nilS))) (nilS))) (nameT 7) (dropM (appS (vS 4) (tupS (consS (op2S oIx (vS 1) (op2S oMod (callS (c1 lenD) (consS (vS 4) (nilS))) (callS (c1 lenD) (consS (vS 1) (nilS))))) (consS (vS 5) (nilS))))))))
  (retM (vS 4)))
def F_pairs_dealt : Fn := fnF 8 m_pairs_dealt
section
variable {K : PySem.W.Frag} {mg : Str → Option Value} {P : Program} {w : World} {base : Heap}
theorem ok_pairs_dealt (T : Txt K mg) {f : Addr} {fd : FuncData} (F : FunD K "pairs_dealt" "pairs_dealt" (defArgs s_pairs_dealt) (defBody s_pairs_dealt) (defScope s_pairs_dealt) [] [] f fd) : FnG P w K mg base CX0 1 f fd ["workers", "parts", "many", "bounds"] (spM ⟨K, xcK K⟩ 4 F_pairs_dealt) :=
  fn_ok F sc_pairs_dealt fun cdv A outer s H E hr => (show PSs _ (defBody s_pairs_dealt) (tS ⟨K, xcK K⟩ E0 m_pairs_dealt) from ss_cons (s_set (i := 4) sc_pairs_dealt.nd rfl (by first | exact Or.inl rfl | exact Or.inr rfl) (e_own (l_nil)))
    (ss_cons (s_for PassesOwn.never rfl (i_zip rfl rfl (T.z_zip) (l_cons (e_var (pv 0)) (l_cons (e_var (pv 3)) (l_nil))) (fun _ h => RZ.pi_zipA rfl (T.z_zip) h)) (g_tup rfl rfl (gs_cons (g_name (pg_name (i := 5) sc_pairs_dealt.nd rfl (by first | exact Or.inl rfl | exact Or.inr rfl))) (gs_cons (g_name (pg_name (i := 6) sc_pairs_dealt.nd rfl (by first | exact Or.inl rfl | exact Or.inr rfl))) (gs_nil)))) (ss_one (s_for PassesOwn.never rfl (i_r1 rfl (T.z_range) (l_cons (e_blt (f_min rfl) bb_min (T.z_min) (l_cons (e_lst (l_cons (e_var (pv 6)) (l_cons (e_blt (f_len rfl) bb_len (T.z_len) (l_cons (e_var (pv 1)) (l_nil))) (l_cons (e_bin (opr_sub) (e_bin (opr_mul rfl) (e_var (pv 2)) (e_blt (f_len rfl) bb_len (T.z_len) (l_cons (e_var (pv 1)) (l_nil)))) (e_blt (f_len rfl) bb_len (T.z_len) (l_cons (e_var (pv 4)) (l_nil)))) (l_nil))))) (l_nil))) (l_nil))) (g_name (pg_name (i := 7) sc_pairs_dealt.nd rfl (by first | exact Or.inl rfl | exact Or.inr rfl))) (ss_one (s_expr (e_append (e_var (pv 4)) (e_tup (l_cons (e_ix rfl (e_var (pv 1)) (e_bin (opr_mod) (e_blt (f_len rfl) bb_len (T.z_len) (l_cons (e_var (pv 4)) (l_nil))) (e_blt (f_len rfl) bb_len (T.z_len) (l_cons (e_var (pv 1)) (l_nil))))) (l_cons (e_var (pv 5)) (l_nil))))))))))
    (ss_one (s_ret (e_var (pv 4))))))
theorem g_pairs_dealt (T : Txt K mg) : Good K (xcK K) P w mg base "pairs_dealt" 1 4 [] F_pairs_dealt := by
  obtain ⟨fd, F⟩ := T.c.def_ 21 (d := d_pairs_dealt) rfl
  have F : FunD K "pairs_dealt" "pairs_dealt" (defArgs s_pairs_dealt) (defBody s_pairs_dealt) (defScope s_pairs_dealt) [] [] (He.ga K "pairs_dealt") fd := F
  exact ⟨_, fd, ["workers", "parts", "many", "bounds"], [], [], T.g_pairs_dealt, F.kp, rfl, F.bindsN fun _ _ _ _ _ _ us hl => match us, hl with | [_, _, _, _], _ => rfl, .nil, fun _ _ _ => .nil, ok_pairs_dealt T F⟩
end
/-! dealt -/
theorem sc_dealt : FnScope ["workers", "parts", "many", "bounds", "width"] ["workers", "parts", "many", "bounds", "width"] (defScope s_dealt) := ⟨rfl, rfl, rfl, by decide +kernel, rfl, by decide +kernel, by decide +kernel⟩
def m_dealt : Sm := seqM (dropM (callP F_want_sets [] (consS (vS 0) (consS (vS 1) (nilS)))))
  (seqM (dropM (callP F_want_many [] (consS (vS 0) (consS (vS 2) (nilS)))))
  (seqM (dropM (callP F_want [(.int (-1))] (consS (andV (callP F_are_bounds [] (consS (vS 0) (consS (vS 3) (nilS)))) (op2S oGe (callP F_holdings_by [] (consS (vS 1) (consS (vS 3) (nilS)))) (op2S oMul (vS 2) (callS (c1 lenD) (consS (vS 1) (nilS)))))) (consS (cS (.str "bounds")) (nilS)))))
  (seqM (dropM (callP F_want [(.int (-1))] (consS (callP F_is_above_nought [] (consS (vS 4) (nilS))) (consS (cS (.str "width")) (nilS)))))
  (retM (tupS (consS (vS 0) (consS (vS 1) (consS (callP F_lots_sorted [] (consS (vS 1) (consS (callP F_pairs_dealt [] (consS (vS 0) (consS (vS 1) (consS (vS 2) (consS (vS 3) (nilS)))))) (nilS)))) (consS (vS 4) (nilS))))))))))
def F_dealt : Fn := fnF 5 m_dealt
section
variable {K : PySem.W.Frag} {mg : Str → Option Value} {P : Program} {w : World} {base : Heap}
theorem ok_dealt (T : Txt K mg) {f : Addr} {fd : FuncData} (F : FunD K "dealt" "dealt" (defArgs s_dealt) (defBody s_dealt) (defScope s_dealt) [] [] f fd) : FnG P w K mg base CX0 4 f fd ["workers", "parts", "many", "bounds", "width"] (spM ⟨K, xcK K⟩ 5 F_dealt) :=
  fn_ok F sc_dealt fun cdv A outer s H E hr => (show PSs _ (defBody s_dealt) (tS ⟨K, xcK K⟩ E0 m_dealt) from ss_cons (s_expr (e_fP (g_want_sets T) rfl (hr.mono (by decide)) (by rfl) (by rfl) (l_cons (e_var (pv 0)) (l_cons (e_var (pv 1)) (l_nil))) (cons_len (cons_len (nil_len)))))
    (ss_cons (s_expr (e_fP (g_want_many T) rfl (hr.mono (by decide)) (by rfl) (by rfl) (l_cons (e_var (pv 0)) (l_cons (e_var (pv 2)) (l_nil))) (cons_len (cons_len (nil_len)))))
    (ss_cons (s_expr (e_fP (g_want_d1 T) rfl (hr.mono (by decide)) (by rfl) (by rfl) (l_cons (e_and (e_fP (g_are_bounds T) rfl (hr.mono (by decide)) (by rfl) (by rfl) (l_cons (e_var (pv 0)) (l_cons (e_var (pv 3)) (l_nil))) (cons_len (cons_len (nil_len)))) (e_one (e_cmp (opr_ge) (e_fP (g_holdings_by T) rfl (hr.mono (by decide)) (by rfl) (by rfl) (l_cons (e_var (pv 1)) (l_cons (e_var (pv 3)) (l_nil))) (cons_len (cons_len (nil_len)))) (e_bin (opr_mul rfl) (e_var (pv 2)) (e_blt (f_len rfl) bb_len (T.z_len) (l_cons (e_var (pv 1)) (l_nil))))))) (l_cons (e_str) (l_nil))) (cons_len (cons_len (nil_len)))))
    (ss_cons (s_expr (e_fP (g_want_d1 T) rfl (hr.mono (by decide)) (by rfl) (by rfl) (l_cons (e_fP (g_is_above_nought T) rfl (hr.mono (by decide)) (by rfl) (by rfl) (l_cons (e_var (pv 4)) (l_nil)) (cons_len (nil_len))) (l_cons (e_str) (l_nil))) (cons_len (cons_len (nil_len)))))
    (ss_one (s_ret (e_tup (l_cons (e_var (pv 0)) (l_cons (e_var (pv 1)) (l_cons (e_fP (g_lots_sorted T) rfl (hr.mono (by decide)) (by rfl) (by rfl) (l_cons (e_var (pv 1)) (l_cons (e_fP (g_pairs_dealt T) rfl (hr.mono (by decide)) (by rfl) (by rfl) (l_cons (e_var (pv 0)) (l_cons (e_var (pv 1)) (l_cons (e_var (pv 2)) (l_cons (e_var (pv 3)) (l_nil))))) (cons_len (cons_len (cons_len (cons_len (nil_len)))))) (l_nil))) (cons_len (cons_len (nil_len)))) (l_cons (e_var (pv 4)) (l_nil))))))))))))
theorem g_dealt (T : Txt K mg) : Good K (xcK K) P w mg base "dealt" 4 5 [] F_dealt := by
  obtain ⟨fd, F⟩ := T.c.def_ 22 (d := d_dealt) rfl
  have F : FunD K "dealt" "dealt" (defArgs s_dealt) (defBody s_dealt) (defScope s_dealt) [] [] (He.ga K "dealt") fd := F
  exact ⟨_, fd, ["workers", "parts", "many", "bounds", "width"], [], [], T.g_dealt, F.kp, rfl, F.bindsN fun _ _ _ _ _ _ us hl => match us, hl with | [_, _, _, _, _], _ => rfl, .nil, fun _ _ _ => .nil, ok_dealt T F⟩
end
/-! fewest_added -/
theorem sc_fewest_added : FnScope ["crew", "spare", "goal", "lot"] ["crew", "spare"] (defScope s_fewest_added) := ⟨rfl, rfl, rfl, by decide +kernel, rfl, by decide +kernel, by decide +kernel⟩
def m_fewest_added : Sm := seqM (dropM (callP F_want [(.int (-1))] (consS (callP F_is_integer [] (consS (vS 1) (nilS))) (consS (cS (.str "spare")) (nilS)))))
  (seqM (asgS (nameT 2) (op2S oAdd (vS 1) (op2S oIx (vS 0) (cS (.int 3)))))
  (retM (ifS (truS toB (op2S oGt (vS 2) (callS (c1 lenD) (consS (op2S oIx (vS 0) (cS (.int 0))) (nilS))))) (cS .non) (callS (c1 sumD) (consS (frzS (lcS (itS (op2S oIx (vS 0) (cS (.int 2)))) [3] (nameT 3) (yesS) (callS (c12 maxD max2D) (consS (lstS (consS (cS (.int 0)) (consS (op2S oSub (vS 2) (callS (c1 lenD) (consS (vS 3) (nilS)))) (nilS)))) (nilS))))) (nilS))))))
def F_fewest_added : Fn := fnF 4 m_fewest_added
section
variable {K : PySem.W.Frag} {mg : Str → Option Value} {P : Program} {w : World} {base : Heap}
theorem ok_fewest_added (T : Txt K mg) {f : Addr} {fd : FuncData} (F : FunD K "fewest_added" "fewest_added" (defArgs s_fewest_added) (defBody s_fewest_added) (defScope s_fewest_added) [] [] f fd) : FnG P w K mg base CX0 2 f fd ["crew", "spare"] (spM ⟨K, xcK K⟩ 2 F_fewest_added) :=
  fn_ok F sc_fewest_added fun cdv A outer s H E hr => (show PSs _ (defBody s_fewest_added) (tS ⟨K, xcK K⟩ E0 m_fewest_added) from ss_cons (s_expr (e_fP (g_want_d1 T) rfl (hr.mono (by decide)) (by rfl) (by rfl) (l_cons (e_fP (g_is_integer T) rfl (hr.mono (by decide)) (by rfl) (by rfl) (l_cons (e_var (pv 1)) (l_nil)) (cons_len (nil_len))) (l_cons (e_str) (l_nil))) (cons_len (cons_len (nil_len)))))
    (ss_cons (s_set (i := 2) sc_fewest_added.nd rfl (by first | exact Or.inl rfl | exact Or.inr rfl) (e_bin (opr_add rfl) (e_var (pv 1)) (e_ix rfl (e_var (pv 0)) (e_int))))
    (ss_one (s_ret (e_if (t_cmp (opr_gt) (e_var (pv 2)) (e_blt (f_len rfl) bb_len (T.z_len) (l_cons (e_ix rfl (e_var (pv 0)) (e_int)) (l_nil)))) (e_non) (e_blt (f_sum rfl) bb_sum (T.z_sum) (l_cons (e_lc rfl sc_fewest_added.nd (own := [("lot", 3)]) (i_any rfl (e_ix rfl (e_var (pv 0)) (e_int))) (blkOk_by (by kernel_rfl)) (by decide) (fun _ _ _ _ _ => g_name (pg_name (i := 3) sc_fewest_added.nd rfl (by first | exact Or.inl rfl | exact Or.inr rfl))) (fun _ _ _ _ _ => ts_nil) (fun _ _ _ _ _ => e_blt (f_max rfl) bb_max (T.z_max) (l_cons (e_lst (l_cons (e_int) (l_cons (e_bin (opr_sub) (e_var (pv 2)) (e_blt (f_len rfl) bb_len (T.z_len) (l_cons (e_var (pv 3)) (l_nil)))) (l_nil)))) (l_nil)))) (l_nil))))))))
theorem g_fewest_added (T : Txt K mg) : Good K (xcK K) P w mg base "fewest_added" 2 2 [] F_fewest_added := by
  obtain ⟨fd, F⟩ := T.c.def_ 23 (d := d_fewest_added) rfl
  have F : FunD K "fewest_added" "fewest_added" (defArgs s_fewest_added) (defBody s_fewest_added) (defScope s_fewest_added) [] [] (He.ga K "fewest_added") fd := F
  exact ⟨_, fd, ["crew", "spare"], [], [], T.g_fewest_added, F.kp, rfl, F.bindsN fun _ _ _ _ _ _ us hl => match us, hl with | [_, _], _ => rfl, .nil, fun _ _ _ => .nil, ok_fewest_added T F⟩
end
/-! widened -/
theorem sc_widened : FnScope ["crew", "spare", "lot", "lots", "goal", "late", "worker"] ["crew", "spare"] (defScope s_widened) := ⟨rfl, rfl, rfl, by decide +kernel, rfl, by decide +kernel, by decide +kernel⟩
def m_widened : Sm := seqM (dropM (callP F_want [(.int (-1))] (consS (andV (callP F_is_integer [] (consS (vS 1) (nilS))) (op2S oLe (op2S oAdd (vS 1) (op2S oIx (vS 0) (cS (.int 3)))) (callS (c1 lenD) (consS (op2S oIx (vS 0) (cS (.int 0))) (nilS))))) (consS (cS (.str "spare")) (nilS)))))
  (seqM (parM [3, 4] (consS (ownS (nilS)) (consS (op2S oAdd (vS 1) (op2S oIx (vS 0) (cS (.int 3)))) (nilS))))
  (seqM (forM (itS (op2S oIx (vS 0) (cS (.int 2)))) (nameT 2) (seqM (asgS (nameT 5) (frzS (lcS (itS (op2S oIx (vS 0) (cS (.int 0)))) [6] (nameT 6) (truS toB (op2S oNotIn (vS 6) (vS 2))) (vS 6))))
  (dropM (appS (vS 3) (callP F_as_names [] (consS (lstS (starS (vS 2) (starS (slS (vS 5) (noP) (partS (callS (c12 maxD max2D) (consS (lstS (consS (cS (.int 0)) (consS (op2S oSub (vS 4) (callS (c1 lenD) (consS (vS 2) (nilS)))) (nilS)))) (nilS))))) (nilS)))) (nilS)))))))
  (retM (tupS (consS (op2S oIx (vS 0) (cS (.int 0))) (consS (op2S oIx (vS 0) (cS (.int 1))) (consS (callS (c1 tupD) (consS (vS 3) (nilS))) (consS (op2S oIx (vS 0) (cS (.int 3))) (nilS)))))))))
def F_widened : Fn := fnF 7 m_widened
section
variable {K : PySem.W.Frag} {mg : Str → Option Value} {P : Program} {w : World} {base : Heap}
theorem ok_widened (T : Txt K mg) {f : Addr} {fd : FuncData} (F : FunD K "widened" "widened" (defArgs s_widened) (defBody s_widened) (defScope s_widened) [] [] f fd) : FnG P w K mg base CX0 2 f fd ["crew", "spare"] (spM ⟨K, xcK K⟩ 2 F_widened) :=
  fn_ok F sc_widened fun cdv A outer s H E hr => (show PSs _ (defBody s_widened) (tS ⟨K, xcK K⟩ E0 m_widened) from ss_cons (s_expr (e_fP (g_want_d1 T) rfl (hr.mono (by decide)) (by rfl) (by rfl) (l_cons (e_and (e_fP (g_is_integer T) rfl (hr.mono (by decide)) (by rfl) (by rfl) (l_cons (e_var (pv 1)) (l_nil)) (cons_len (nil_len))) (e_one (e_cmp (opr_le) (e_bin (opr_add rfl) (e_var (pv 1)) (e_ix rfl (e_var (pv 0)) (e_int))) (e_blt (f_len rfl) bb_len (T.z_len) (l_cons (e_ix rfl (e_var (pv 0)) (e_int)) (l_nil)))))) (l_cons (e_str) (l_nil))) (cons_len (cons_len (nil_len)))))
    (ss_cons (s_par2 (i := 3) (j := 4) rfl sc_widened.nd rfl rfl (by decide) rfl rfl (l_cons (e_own (l_nil)) (l_cons (e_bin (opr_add rfl) (e_var (pv 1)) (e_ix rfl (e_var (pv 0)) (e_int))) (l_nil))) (by rfl))
    (ss_cons (s_for PassesOwn.never rfl (i_any rfl (e_ix rfl (e_var (pv 0)) (e_int))) (g_name (pg_name (i := 2) sc_widened.nd rfl (by first | exact Or.inl rfl | exact Or.inr rfl))) (ss_cons (s_lcF (i := 5) rfl sc_widened.nd rfl rfl (sw_true rfl rfl rfl (by decide +kernel)) (own := [("worker", 6)]) (i_any rfl (e_ix rfl (e_var (pv 0)) (e_int))) (blkOk_by (by kernel_rfl)) (by decide) (fun _ _ _ _ _ => g_name (pg_name (i := 6) sc_widened.nd rfl (by first | exact Or.inl rfl | exact Or.inr rfl))) (fun _ _ _ _ _ => ts_one (t_cmp (opr_notIn rfl) (e_var (pv 6)) (e_var (pv 2)))) (fun _ _ _ _ _ => e_var (pv 6)))
    (ss_one (s_expr (e_append (e_var (pv 3)) (e_fP (g_as_names T) rfl (hr.mono (by decide)) (by rfl) (by rfl) (l_cons (e_lst (l_star rfl (e_var (pv 2)) (l_star rfl (e_sl rfl (e_var (pv 5)) (p_none) (p_some (e_blt (f_max rfl) bb_max (T.z_max) (l_cons (e_lst (l_cons (e_int) (l_cons (e_bin (opr_sub) (e_var (pv 4)) (e_blt (f_len rfl) bb_len (T.z_len) (l_cons (e_var (pv 2)) (l_nil)))) (l_nil)))) (l_nil))))) (l_nil)))) (l_nil)) (cons_len (nil_len))))))))
    (ss_one (s_ret (e_tup (l_cons (e_ix rfl (e_var (pv 0)) (e_int)) (l_cons (e_ix rfl (e_var (pv 0)) (e_int)) (l_cons (e_bty (f_tuple rfl) bb_tuple (T.z_tuple) (l_cons (e_var (pv 3)) (l_nil))) (l_cons (e_ix rfl (e_var (pv 0)) (e_int)) (l_nil)))))))))))
theorem g_widened (T : Txt K mg) : Good K (xcK K) P w mg base "widened" 2 2 [] F_widened := by
  obtain ⟨fd, F⟩ := T.c.def_ 24 (d := d_widened) rfl
  have F : FunD K "widened" "widened" (defArgs s_widened) (defBody s_widened) (defScope s_widened) [] [] (He.ga K "widened") fd := F
  exact ⟨_, fd, ["crew", "spare"], [], [], T.g_widened, F.kp, rfl, F.bindsN fun _ _ _ _ _ _ us hl => match us, hl with | [_, _], _ => rfl, .nil, fun _ _ _ => .nil, ok_widened T F⟩
end
/-! spare_by -/
theorem sc_spare_by : FnScope ["crew", "lot"] ["crew"] (defScope s_spare_by) := ⟨rfl, rfl, rfl, by decide +kernel, rfl, by decide +kernel, by decide +kernel⟩
def m_spare_by : Sm := retM (op2S oSub (callS (c12 minD min2D) (consS (frzS (lcS (itS (op2S oIx (vS 0) (cS (.int 2)))) [1] (nameT 1) (yesS) (callS (c1 lenD) (consS (vS 1) (nilS))))) (nilS))) (op2S oIx (vS 0) (cS (.int 3))))
def F_spare_by : Fn := fnF 2 m_spare_by
section
variable {K : PySem.W.Frag} {mg : Str → Option Value} {P : Program} {w : World} {base : Heap}
theorem ok_spare_by (T : Txt K mg) {f : Addr} {fd : FuncData} (F : FunD K "spare_by" "spare_by" (defArgs s_spare_by) (defBody s_spare_by) (defScope s_spare_by) [] [] f fd) : FnG P w K mg base CX0 1 f fd ["crew"] (spM ⟨K, xcK K⟩ 1 F_spare_by) :=
  fn_ok F sc_spare_by fun cdv A outer s H E hr => (show PSs _ (defBody s_spare_by) (tS ⟨K, xcK K⟩ E0 m_spare_by) from ss_one (s_ret (e_bin (opr_sub) (e_blt (f_min rfl) bb_min (T.z_min) (l_cons (e_lc rfl sc_spare_by.nd (own := [("lot", 1)]) (i_any rfl (e_ix rfl (e_var (pv 0)) (e_int))) (blkOk_by (by kernel_rfl)) (by decide) (fun _ _ _ _ _ => g_name (pg_name (i := 1) sc_spare_by.nd rfl (by first | exact Or.inl rfl | exact Or.inr rfl))) (fun _ _ _ _ _ => ts_nil) (fun _ _ _ _ _ => e_blt (f_len rfl) bb_len (T.z_len) (l_cons (e_var (pv 1)) (l_nil)))) (l_nil))) (e_ix rfl (e_var (pv 0)) (e_int)))))
theorem g_spare_by (T : Txt K mg) : Good K (xcK K) P w mg base "spare_by" 1 1 [] F_spare_by := by
  obtain ⟨fd, F⟩ := T.c.def_ 25 (d := d_spare_by) rfl
  have F : FunD K "spare_by" "spare_by" (defArgs s_spare_by) (defBody s_spare_by) (defScope s_spare_by) [] [] (He.ga K "spare_by") fd := F
  exact ⟨_, fd, ["crew"], [], [], T.g_spare_by, F.kp, rfl, F.bindsN fun _ _ _ _ _ _ us hl => match us, hl with | [_], _ => rfl, .nil, fun _ _ _ => .nil, ok_spare_by T F⟩
end
/-! spare_of -/
theorem sc_spare_of : FnScope ["crew"] ["crew"] (defScope s_spare_of) := ⟨rfl, rfl, rfl, by decide +kernel, rfl, by decide +kernel, by decide +kernel⟩
def m_spare_of : Sm := retM (callP F_spare_by [] (consS (vS 0) (nilS)))
def F_spare_of : Fn := fnF 1 m_spare_of
section
variable {K : PySem.W.Frag} {mg : Str → Option Value} {P : Program} {w : World} {base : Heap}
theorem ok_spare_of (T : Txt K mg) {f : Addr} {fd : FuncData} (F : FunD K "spare_of" "spare_of" (defArgs s_spare_of) (defBody s_spare_of) (defScope s_spare_of) [] [] f fd) : FnG P w K mg base CX0 2 f fd ["crew"] (spM ⟨K, xcK K⟩ 1 F_spare_of) :=
  fn_ok F sc_spare_of fun cdv A outer s H E hr => (show PSs _ (defBody s_spare_of) (tS ⟨K, xcK K⟩ E0 m_spare_of) from ss_one (s_ret (e_fP (g_spare_by T) rfl (hr.mono (by decide)) (by rfl) (by rfl) (l_cons (e_var (pv 0)) (l_nil)) (cons_len (nil_len)))))
theorem g_spare_of (T : Txt K mg) : Good K (xcK K) P w mg base "spare_of" 2 1 [] F_spare_of := by
  obtain ⟨fd, F⟩ := T.c.def_ 26 (d := d_spare_of) rfl
  have F : FunD K "spare_of" "spare_of" (defArgs s_spare_of) (defBody s_spare_of) (defScope s_spare_of) [] [] (He.ga K "spare_of") fd := F
  exact ⟨_, fd, ["crew"], [], [], T.g_spare_of, F.kp, rfl, F.bindsN fun _ _ _ _ _ _ us hl => match us, hl with | [_], _ => rfl, .nil, fun _ _ _ => .nil, ok_spare_of T F⟩
end
/-! _law_source -/
theorem sc__law_source : FnScope ["_law_script"] ["_law_script"] (defScope s__law_source) := ⟨rfl, rfl, rfl, by decide +kernel, rfl, by decide +kernel, by decide +kernel⟩
def m__law_source : Sm := retM (ownS (consS (slS (vS 0) (noP) (partS (cS (.int 63)))) (consS (cS (.int 0)) (consS (cS (.int 0)) (consS (cS (.int 0)) (nilS))))))
def F__law_source : Fn := fnK 1 m__law_source
section
variable {K : PySem.W.Frag} {mg : Str → Option Value} {P : Program} {w : World} {base : Heap}
theorem ok__law_source (T : Txt K mg) {f : Addr} {fd : FuncData} (F : FunD K "_law_source" "_law_source" (defArgs s__law_source) (defBody s__law_source) (defScope s__law_source) [] [] f fd) : FnG P w K mg base CX0 1 f fd ["_law_script"] (spM ⟨K, xcK K⟩ 1 F__law_source) :=
  fn_okK F sc__law_source fun cdv A outer s H E hr => (show PSs _ (defBody s__law_source) (tS ⟨K, xcK K⟩ E0 m__law_source) from ss_one (s_ret (e_own (l_cons (e_sl rfl (e_var (pv 0)) (p_none) (p_some (e_int))) (l_cons (e_int) (l_cons (e_int) (l_cons (e_int) (l_nil))))))))
theorem g__law_source (T : Txt K mg) : Good K (xcK K) P w mg base "_law_source" 1 1 [] F__law_source := by
  obtain ⟨fd, F⟩ := T.c.def_ 27 (d := d__law_source) rfl
  have F : FunD K "_law_source" "_law_source" (defArgs s__law_source) (defBody s__law_source) (defScope s__law_source) [] [] (He.ga K "_law_source") fd := F
  exact ⟨_, fd, ["_law_script"], [], [], T.g__law_source, F.kp, rfl, F.bindsN fun _ _ _ _ _ _ us hl => match us, hl with | [_], _ => rfl, .nil, fun _ _ _ => .nil, ok__law_source T F⟩
end
/-! _law_draw -/
theorem sc__law_draw : FnScope ["_law_feed", "_law_size", "_law_spot", "_law_cell", "_law_mixed", "_law_found"] ["_law_feed", "_law_size"] (defScope s__law_draw) := ⟨rfl, rfl, rfl, by decide +kernel, rfl, by decide +kernel, by decide +kernel⟩
def m__law_draw : Sm := seqM (setM (op2S oAdd (op2S oIx (vS 0) (cS (.int 3))) (cS (.int 1))) (vS 0) (cS (.int 3)))
  (seqM (ifM (truS toB (op2S oGt (op2S oIx (vS 0) (cS (.int 2))) (cS (.int 0)))) (seqM (asgS (nameT 5) (op2S oMod (callS (c1 intD) (consS (op2S oIx (vS 0) (cS (.int 2))) (nilS))) (vS 1)))
  (seqM (setM (op2S oFdiv (op2S oIx (vS 0) (cS (.int 2))) (vS 1)) (vS 0) (cS (.int 2)))
  (retM (vS 5)))) (skipM))
  (seqM (asgS (nameT 2) (op2S oIx (vS 0) (cS (.int 1))))
  (seqM (setM (op2S oAdd (vS 2) (cS (.int 1))) (vS 0) (cS (.int 1)))
  (seqM (asgS (nameT 3) (ifS (truS toB (op2S oNe (op2S oIx (vS 0) (cS (.int 0))) (lstS (nilS)))) (op2S oIx (op2S oIx (vS 0) (cS (.int 0))) (op2S oMod (callS (c1 intD) (consS (vS 2) (nilS))) (callS (c1 lenD) (consS (op2S oIx (vS 0) (cS (.int 0))) (nilS))))) (cS (.int 191))))
  (seqM (ifM (andS (truS toB (op2S oGe (vS 3) (op2S oPow (cS (.int 10)) (cS (.int 18))))) (truS toB (op2S oLt (vS 2) (callS (c1 lenD) (consS (op2S oIx (vS 0) (cS (.int 0))) (nilS)))))) (seqM (setM (op2S oFdiv (vS 3) (vS 1)) (vS 0) (cS (.int 2)))
  (retM (op2S oMod (callS (c1 intD) (consS (vS 3) (nilS))) (vS 1)))) (skipM))
  (seqM (asgS (nameT 4) (op2S oMod (callS (c1 intD) (consS (op2S oPow (op2S oAdd (op2S oAdd (op2S oMod (callS (c1 intD) (consS (vS 3) (nilS))) (cS (.int 1999998661))) (op2S oMul (cS (.int 31311)) (op2S oIx (vS 0) (cS (.int 3))))) (cS (.int 379))) (cS (.int 3))) (nilS))) (cS (.int 2147482543))))
  (seqM (asgS (nameT 4) (op2S oMod (callS (c1 intD) (consS (op2S oPow (op2S oAdd (op2S oAdd (vS 4) (op2S oMul (op2S oMul (cS (.int 16389)) (op2S oIx (vS 0) (cS (.int 3)))) (op2S oIx (vS 0) (cS (.int 3))))) (cS (.int 313))) (cS (.int 5))) (nilS))) (cS (.int 2147482389))))
  (retM (op2S oMod (callS (c1 intD) (consS (op2S oFdiv (vS 4) (cS (.int 64))) (nilS))) (vS 1))))))))))
def F__law_draw : Fn := fnF 6 m__law_draw
section
variable {K : PySem.W.Frag} {mg : Str → Option Value} {P : Program} {w : World} {base : Heap}
theorem ok__law_draw (T : Txt K mg) {f : Addr} {fd : FuncData} (F : FunD K "_law_draw" "_law_draw" (defArgs s__law_draw) (defBody s__law_draw) (defScope s__law_draw) [] [] f fd) : FnG P w K mg base CX0 1 f fd ["_law_feed", "_law_size"] (spM ⟨K, xcK K⟩ 2 F__law_draw) :=
  fn_ok F sc__law_draw fun cdv A outer s H E hr => (show PSs _ (defBody s__law_draw) (tS ⟨K, xcK K⟩ E0 m__law_draw) from ss_cons (s_sub (e_bin (opr_add rfl) (e_ix rfl (e_var (pv 0)) (e_int)) (e_int)) (e_var (pv 0)) (e_int))
    (ss_cons (s_if (t_cmp (opr_gt) (e_ix rfl (e_var (pv 0)) (e_int)) (e_int)) (ss_cons (s_set (i := 5) sc__law_draw.nd rfl (by first | exact Or.inl rfl | exact Or.inr rfl) (e_bin (opr_mod) (e_bty (f_int) bb_int (T.z_int) (l_cons (e_ix rfl (e_var (pv 0)) (e_int)) (l_nil))) (e_var (pv 1))))
    (ss_cons (s_sub (e_bin (opr_fdiv) (e_ix rfl (e_var (pv 0)) (e_int)) (e_var (pv 1))) (e_var (pv 0)) (e_int))
    (ss_one (s_ret (e_var (pv 5)))))) (ss_nil))
    (ss_cons (s_set (i := 2) sc__law_draw.nd rfl (by first | exact Or.inl rfl | exact Or.inr rfl) (e_ix rfl (e_var (pv 0)) (e_int)))
    (ss_cons (s_sub (e_bin (opr_add rfl) (e_var (pv 2)) (e_int)) (e_var (pv 0)) (e_int))
    (ss_cons (s_set (i := 3) sc__law_draw.nd rfl (by first | exact Or.inl rfl | exact Or.inr rfl) (e_if (t_cmp (opr_ne rfl hr.units) (e_ix rfl (e_var (pv 0)) (e_int)) (e_lst (l_nil))) (e_ix rfl (e_ix rfl (e_var (pv 0)) (e_int)) (e_bin (opr_mod) (e_bty (f_int) bb_int (T.z_int) (l_cons (e_var (pv 2)) (l_nil))) (e_blt (f_len rfl) bb_len (T.z_len) (l_cons (e_ix rfl (e_var (pv 0)) (e_int)) (l_nil))))) (e_int)))
    (ss_cons (s_if (PW.pt (w_and (t_cmp (opr_ge) (e_var (pv 3)) (e_bin (opr_pow) (e_int) (e_int))) (w_and1 (t_cmp (opr_lt) (e_var (pv 2)) (e_blt (f_len rfl) bb_len (T.z_len) (l_cons (e_ix rfl (e_var (pv 0)) (e_int)) (l_nil))))))) (ss_cons (s_sub (e_bin (opr_fdiv) (e_var (pv 3)) (e_var (pv 1))) (e_var (pv 0)) (e_int))
    (ss_one (s_ret (e_bin (opr_mod) (e_bty (f_int) bb_int (T.z_int) (l_cons (e_var (pv 3)) (l_nil))) (e_var (pv 1)))))) (ss_nil))
    (ss_cons (s_set (i := 4) sc__law_draw.nd rfl (by first | exact Or.inl rfl | exact Or.inr rfl) (e_bin (opr_mod) (e_bty (f_int) bb_int (T.z_int) (l_cons (e_bin (opr_pow) (e_bin (opr_add rfl) (e_bin (opr_add rfl) (e_bin (opr_mod) (e_bty (f_int) bb_int (T.z_int) (l_cons (e_var (pv 3)) (l_nil))) (e_int)) (e_bin (opr_mul rfl) (e_int) (e_ix rfl (e_var (pv 0)) (e_int)))) (e_int)) (e_int)) (l_nil))) (e_int)))
    (ss_cons (s_set (i := 4) sc__law_draw.nd rfl (by first | exact Or.inl rfl | exact Or.inr rfl) (e_bin (opr_mod) (e_bty (f_int) bb_int (T.z_int) (l_cons (e_bin (opr_pow) (e_bin (opr_add rfl) (e_bin (opr_add rfl) (e_var (pv 4)) (e_bin (opr_mul rfl) (e_bin (opr_mul rfl) (e_int) (e_ix rfl (e_var (pv 0)) (e_int))) (e_ix rfl (e_var (pv 0)) (e_int)))) (e_int)) (e_int)) (l_nil))) (e_int)))
    (ss_one (s_ret (e_bin (opr_mod) (e_bty (f_int) bb_int (T.z_int) (l_cons (e_bin (opr_fdiv) (e_var (pv 4)) (e_int)) (l_nil))) (e_var (pv 1)))))))))))))
theorem g__law_draw (T : Txt K mg) : Good K (xcK K) P w mg base "_law_draw" 1 2 [] F__law_draw := by
  obtain ⟨fd, F⟩ := T.c.def_ 28 (d := d__law_draw) rfl
  have F : FunD K "_law_draw" "_law_draw" (defArgs s__law_draw) (defBody s__law_draw) (defScope s__law_draw) [] [] (He.ga K "_law_draw") fd := F
  exact ⟨_, fd, ["_law_feed", "_law_size"], [], [], T.g__law_draw, F.kp, rfl, F.bindsN fun _ _ _ _ _ _ us hl => match us, hl with | [_, _], _ => rfl, .nil, fun _ _ _ => .nil, ok__law_draw T F⟩
end
/-! _law_many -/
theorem sc__law_many : FnScope ["_law_feed", "_law_many_here", "_law_found", "_law_lap", "_law_one", "_law_k"] ["_law_feed", "_law_many_here"] (defScope s__law_many) := ⟨rfl, rfl, rfl, by decide +kernel, rfl, by decide +kernel, by decide +kernel⟩
def m__law_many : Sm := seqM (asgS (nameT 2) (ownS (nilS)))
  (seqM (forM (itR1 (consS (vS 1) (nilS))) (nameT 3) (seqM (asgS (nameT 4) (joinS (cS (.str "")) (frzS (lcS (itR1 (consS (op2S oAdd (cS (.int 1)) (callM F__law_draw [] (consS (vS 0) (consS (cS (.int 3)) (nilS))))) (nilS))) [5] (nameT 5) (yesS) (op2S oIx (callS (c1 lstD) (consS (cS (.str "abdekorstz")) (nilS))) (callM F__law_draw [] (consS (vS 0) (consS (cS (.int 10)) (nilS)))))))))
  (seqM (ifM (truS toB (op2S oIn (vS 4) (vS 2))) (asgS (nameT 4) (op2S oAdd (vS 4) (op2S oIx (callS (c1 lstD) (consS (cS (.str "cfghijlm")) (nilS))) (vS 3)))) (skipM))
  (dropM (appS (vS 2) (vS 4))))))
  (retM (callS (c1 tupD) (consS (callS (c1 sortD) (consS (vS 2) (nilS))) (nilS)))))
def F__law_many : Fn := fnF 6 m__law_many
section
variable {K : PySem.W.Frag} {mg : Str → Option Value} {P : Program} {w : World} {base : Heap}
theorem ok__law_many (T : Txt K mg) {f : Addr} {fd : FuncData} (F : FunD K "_law_many" "_law_many" (defArgs s__law_many) (defBody s__law_many) (defScope s__law_many) [] [] f fd) : FnG P w K mg base CX0 2 f fd ["_law_feed", "_law_many_here"] (spM ⟨K, xcK K⟩ 2 F__law_many) :=
  fn_ok F sc__law_many fun cdv A outer s H E hr => (show PSs _ (defBody s__law_many) (tS ⟨K, xcK K⟩ E0 m__law_many) from ss_cons (s_set (i := 2) sc__law_many.nd rfl (by first | exact Or.inl rfl | exact Or.inr rfl) (e_own (l_nil)))
    (ss_cons (s_for PassesOwn.never rfl (i_r1 rfl (T.z_range) (l_cons (e_var (pv 1)) (l_nil))) (g_name (pg_name (i := 3) sc__law_many.nd rfl (by first | exact Or.inl rfl | exact Or.inr rfl))) (ss_cons (s_set (i := 4) sc__law_many.nd rfl (by first | exact Or.inl rfl | exact Or.inr rfl) (e_join rfl (e_str) (e_lc rfl sc__law_many.nd (own := [("_law_k", 5)]) (i_r1 rfl (T.z_range) (l_cons (e_bin (opr_add rfl) (e_int) (e_fM (g__law_draw T) rfl (hr.mono (by decide)) (by rfl) (by rfl) (l_cons (e_var (pv 0)) (l_cons (e_int) (l_nil))) (cons_len (cons_len (nil_len))))) (l_nil))) (blkOk_by (by kernel_rfl)) (by decide) (fun _ _ _ _ _ => g_name (pg_name (i := 5) sc__law_many.nd rfl (by first | exact Or.inl rfl | exact Or.inr rfl))) (fun _ _ _ _ _ => ts_nil) (fun _ _ _ _ _ => e_ix rfl (e_bty (f_list rfl rfl) bb_list (T.z_list) (l_cons (e_str) (l_nil))) (e_fM (g__law_draw T) rfl (hr.mono (by decide)) (by rfl) (by rfl) (l_cons (e_var (pv 0)) (l_cons (e_int) (l_nil))) (cons_len (cons_len (nil_len))))))))
    (ss_cons (s_if (t_cmp (opr_in rfl) (e_var (pv 4)) (e_var (pv 2))) (ss_one (s_set (i := 4) sc__law_many.nd rfl (by first | exact Or.inl rfl | exact Or.inr rfl) (e_bin (opr_add rfl) (e_var (pv 4)) (e_ix rfl (e_bty (f_list rfl rfl) bb_list (T.z_list) (l_cons (e_str) (l_nil))) (e_var (pv 3)))))) (ss_nil))
    (ss_one (s_expr (e_append (e_var (pv 2)) (e_var (pv 4))))))))
    (ss_one (s_ret (e_bty (f_tuple rfl) bb_tuple (T.z_tuple) (l_cons (e_blt (f_sortedS) bb_sorted (T.z_sorted) (l_cons (e_var (pv 2)) (l_nil))) (l_nil)))))))
theorem g__law_many (T : Txt K mg) : Good K (xcK K) P w mg base "_law_many" 2 2 [] F__law_many := by
  obtain ⟨fd, F⟩ := T.c.def_ 29 (d := d__law_many) rfl
  have F : FunD K "_law_many" "_law_many" (defArgs s__law_many) (defBody s__law_many) (defScope s__law_many) [] [] (He.ga K "_law_many") fd := F
  exact ⟨_, fd, ["_law_feed", "_law_many_here"], [], [], T.g__law_many, F.kp, rfl, F.bindsN fun _ _ _ _ _ _ us hl => match us, hl with | [_, _], _ => rfl, .nil, fun _ _ _ => .nil, ok__law_many T F⟩
end
/-! _law_crew -/
theorem sc__law_crew : FnScope ["_law_feed", "_law_many_here", "_law_wide", "_law_lots", "_law_one", "_law_workers", "_law_parts", "_law_first", "_law_own"] ["_law_feed", "_law_many_here", "_law_wide"] (defScope s__law_crew) := ⟨rfl, rfl, rfl, by decide +kernel, rfl, by decide +kernel, by decide +kernel⟩
def m__law_crew : Sm := seqM (parM [5, 6] (consS (callM F__law_many [] (consS (vS 0) (consS (op2S oAdd (cS (.int 2)) (callM F__law_draw [] (consS (vS 0) (consS (op2S oSub (vS 1) (cS (.int 1))) (nilS))))) (nilS)))) (consS (callM F__law_many [] (consS (vS 0) (consS (op2S oAdd (cS (.int 1)) (callM F__law_draw [] (consS (vS 0) (consS (cS (.int 3)) (nilS))))) (nilS)))) (nilS))))
  (seqM (asgS (nameT 3) (ownS (nilS)))
  (seqM (forM (itS (vS 6)) (nameT 4) (seqM (asgS (nameT 7) (op2S oIx (vS 5) (callM F__law_draw [] (consS (vS 0) (consS (callS (c1 lenD) (consS (vS 5) (nilS))) (nilS))))))
  (dropM (appS (vS 3) (callS (c1 tupD) (consS (frzS (lcS (itS (vS 5)) [8] (nameT 8) (orS (truS toB (op2S oEq (vS 8) (vS 7))) (truS toB (op2S oGt (callM F__law_draw [] (consS (vS 0) (consS (cS (.int 4)) (nilS)))) (cS (.int 0))))) (vS 8))) (nilS)))))))
  (retM (tupS (consS (vS 5) (consS (vS 6) (consS (callS (c1 tupD) (consS (vS 3) (nilS))) (consS (op2S oAdd (cS (.int 1)) (callM F__law_draw [] (consS (vS 0) (consS (vS 2) (nilS))))) (nilS)))))))))
def F__law_crew : Fn := fnF 9 m__law_crew
section
variable {K : PySem.W.Frag} {mg : Str → Option Value} {P : Program} {w : World} {base : Heap}
theorem ok__law_crew (T : Txt K mg) {f : Addr} {fd : FuncData} (F : FunD K "_law_crew" "_law_crew" (defArgs s__law_crew) (defBody s__law_crew) (defScope s__law_crew) [] [] f fd) : FnG P w K mg base CX0 3 f fd ["_law_feed", "_law_many_here", "_law_wide"] (spM ⟨K, xcK K⟩ 3 F__law_crew) :=
  fn_ok F sc__law_crew fun cdv A outer s H E hr => (show PSs _ (defBody s__law_crew) (tS ⟨K, xcK K⟩ E0 m__law_crew) from ss_cons (s_par2 (i := 5) (j := 6) rfl sc__law_crew.nd rfl rfl (by decide) rfl rfl (l_cons (e_fM (g__law_many T) rfl (hr.mono (by decide)) (by rfl) (by rfl) (l_cons (e_var (pv 0)) (l_cons (e_bin (opr_add rfl) (e_int) (e_fM (g__law_draw T) rfl (hr.mono (by decide)) (by rfl) (by rfl) (l_cons (e_var (pv 0)) (l_cons (e_bin (opr_sub) (e_var (pv 1)) (e_int)) (l_nil))) (cons_len (cons_len (nil_len))))) (l_nil))) (cons_len (cons_len (nil_len)))) (l_cons (e_fM (g__law_many T) rfl (hr.mono (by decide)) (by rfl) (by rfl) (l_cons (e_var (pv 0)) (l_cons (e_bin (opr_add rfl) (e_int) (e_fM (g__law_draw T) rfl (hr.mono (by decide)) (by rfl) (by rfl) (l_cons (e_var (pv 0)) (l_cons (e_int) (l_nil))) (cons_len (cons_len (nil_len))))) (l_nil))) (cons_len (cons_len (nil_len)))) (l_nil))) (by rfl))
    (ss_cons (s_set (i := 3) sc__law_crew.nd rfl (by first | exact Or.inl rfl | exact Or.inr rfl) (e_own (l_nil)))
    (ss_cons (s_for PassesOwn.never rfl (i_any rfl (e_var (pv 6))) (g_name (pg_name (i := 4) sc__law_crew.nd rfl (by first | exact Or.inl rfl | exact Or.inr rfl))) (ss_cons (s_set (i := 7) sc__law_crew.nd rfl (by first | exact Or.inl rfl | exact Or.inr rfl) (e_ix rfl (e_var (pv 5)) (e_fM (g__law_draw T) rfl (hr.mono (by decide)) (by rfl) (by rfl) (l_cons (e_var (pv 0)) (l_cons (e_blt (f_len rfl) bb_len (T.z_len) (l_cons (e_var (pv 5)) (l_nil))) (l_nil))) (cons_len (cons_len (nil_len))))))
    (ss_one (s_expr (e_append (e_var (pv 3)) (e_bty (f_tuple rfl) bb_tuple (T.z_tuple) (l_cons (e_lc rfl sc__law_crew.nd (own := [("_law_own", 8)]) (i_any rfl (e_var (pv 5))) (blkOk_by (by kernel_rfl)) (by decide) (fun _ _ _ _ _ => g_name (pg_name (i := 8) sc__law_crew.nd rfl (by first | exact Or.inl rfl | exact Or.inr rfl))) (fun _ _ _ _ _ => ts_one (PW.pt (w_or (t_cmp (opr_eq rfl hr.units) (e_var (pv 8)) (e_var (pv 7))) (w_or1 (t_cmp (opr_gt) (e_fM (g__law_draw T) rfl (hr.mono (by decide)) (by rfl) (by rfl) (l_cons (e_var (pv 0)) (l_cons (e_int) (l_nil))) (cons_len (cons_len (nil_len)))) (e_int)))))) (fun _ _ _ _ _ => e_var (pv 8))) (l_nil))))))))
    (ss_one (s_ret (e_tup (l_cons (e_var (pv 5)) (l_cons (e_var (pv 6)) (l_cons (e_bty (f_tuple rfl) bb_tuple (T.z_tuple) (l_cons (e_var (pv 3)) (l_nil))) (l_cons (e_bin (opr_add rfl) (e_int) (e_fM (g__law_draw T) rfl (hr.mono (by decide)) (by rfl) (by rfl) (l_cons (e_var (pv 0)) (l_cons (e_var (pv 2)) (l_nil))) (cons_len (cons_len (nil_len))))) (l_nil)))))))))))
theorem g__law_crew (T : Txt K mg) : Good K (xcK K) P w mg base "_law_crew" 3 3 [] F__law_crew := by
  obtain ⟨fd, F⟩ := T.c.def_ 30 (d := d__law_crew) rfl
  have F : FunD K "_law_crew" "_law_crew" (defArgs s__law_crew) (defBody s__law_crew) (defScope s__law_crew) [] [] (He.ga K "_law_crew") fd := F
  exact ⟨_, fd, ["_law_feed", "_law_many_here", "_law_wide"], [], [], T.g__law_crew, F.kp, rfl, F.bindsN fun _ _ _ _ _ _ us hl => match us, hl with | [_, _, _], _ => rfl, .nil, fun _ _ _ => .nil, ok__law_crew T F⟩
end
/-! _law_is_dealt -/
theorem sc__law_is_dealt : FnScope ["_law_workers", "_law_parts", "_law_many_here", "_law_bounds", "_law_crew_here", "_law_k", "_law_lot"] ["_law_workers", "_law_parts", "_law_many_here", "_law_bounds", "_law_crew_here"] (defScope s__law_is_dealt) := ⟨rfl, rfl, rfl, by decide +kernel, rfl, by decide +kernel, by decide +kernel⟩
def m__law_is_dealt : Sm := seqM (ifM (orS (notS (truS toB (callP F_is_crew [] (consS (vS 4) (nilS))))) (orS (truS toB (op2S oNe (slS (vS 4) (noP) (partS (cS (.int 2)))) (tupS (consS (vS 0) (consS (vS 1) (nilS)))))) (truS toB (op2S oNe (frzS (lcS (itS (op2S oIx (vS 4) (cS (.int 2)))) [6] (nameT 6) (truS toB (op2S oNe (callS (c1 lenD) (consS (vS 6) (nilS))) (vS 2))) (vS 6))) (lstS (nilS)))))) (retM (cS (.bl false))) (skipM))
  (seqM (forM (itR1 (consS (callS (c1 lenD) (consS (vS 0) (nilS))) (nilS))) (nameT 5) (ifM (truS toB (op2S oGt (callS (c1 lenD) (consS (frzS (lcS (itS (op2S oIx (vS 4) (cS (.int 2)))) [6] (nameT 6) (truS toB (op2S oIn (op2S oIx (vS 0) (vS 5)) (vS 6))) (vS 6))) (nilS))) (op2S oIx (vS 3) (vS 5)))) (retM (cS (.bl false))) (skipM)))
  (retM (cS (.bl true))))
def F__law_is_dealt : Fn := fnF 7 m__law_is_dealt
section
variable {K : PySem.W.Frag} {mg : Str → Option Value} {P : Program} {w : World} {base : Heap}
theorem ok__law_is_dealt (T : Txt K mg) {f : Addr} {fd : FuncData} (F : FunD K "_law_is_dealt" "_law_is_dealt" (defArgs s__law_is_dealt) (defBody s__law_is_dealt) (defScope s__law_is_dealt) [] [] f fd) : FnG P w K mg base CX0 5 f fd ["_law_workers", "_law_parts", "_law_many_here", "_law_bounds", "_law_crew_here"] (spM ⟨K, xcK K⟩ 5 F__law_is_dealt) :=
  fn_ok F sc__law_is_dealt fun cdv A outer s H E hr => (show PSs _ (defBody s__law_is_dealt) (tS ⟨K, xcK K⟩ E0 m__law_is_dealt) from ss_cons (s_if (PW.pt (w_or (t_not (t_val (e_fP (g_is_crew T) rfl (hr.mono (by decide)) (by rfl) (by rfl) (l_cons (e_var (pv 4)) (l_nil)) (cons_len (nil_len))))) (w_or (t_cmp (opr_ne rfl hr.units) (e_sl rfl (e_var (pv 4)) (p_none) (p_some (e_int))) (e_tup (l_cons (e_var (pv 0)) (l_cons (e_var (pv 1)) (l_nil))))) (w_or1 (t_cmp (opr_ne rfl hr.units) (e_lc rfl sc__law_is_dealt.nd (own := [("_law_lot", 6)]) (i_any rfl (e_ix rfl (e_var (pv 4)) (e_int))) (blkOk_by (by kernel_rfl)) (by decide) (fun _ _ _ _ _ => g_name (pg_name (i := 6) sc__law_is_dealt.nd rfl (by first | exact Or.inl rfl | exact Or.inr rfl))) (fun _ _ _ _ _ => ts_one (t_cmp (opr_ne rfl hr.units) (e_blt (f_len rfl) bb_len (T.z_len) (l_cons (e_var (pv 6)) (l_nil))) (e_var (pv 2)))) (fun _ _ _ _ _ => e_var (pv 6))) (e_lst (l_nil))))))) (ss_one (s_ret (e_bl))) (ss_nil))
    (ss_cons (s_for PassesOwn.never rfl (i_r1 rfl (T.z_range) (l_cons (e_blt (f_len rfl) bb_len (T.z_len) (l_cons (e_var (pv 0)) (l_nil))) (l_nil))) (g_name (pg_name (i := 5) sc__law_is_dealt.nd rfl (by first | exact Or.inl rfl | exact Or.inr rfl))) (ss_one (s_if (t_cmp (opr_gt) (e_blt (f_len rfl) bb_len (T.z_len) (l_cons (e_lc rfl sc__law_is_dealt.nd (own := [("_law_lot", 6)]) (i_any rfl (e_ix rfl (e_var (pv 4)) (e_int))) (blkOk_by (by kernel_rfl)) (by decide) (fun _ _ _ _ _ => g_name (pg_name (i := 6) sc__law_is_dealt.nd rfl (by first | exact Or.inl rfl | exact Or.inr rfl))) (fun _ _ _ _ _ => ts_one (t_cmp (opr_in rfl) (e_ix rfl (e_var (pv 0)) (e_var (pv 5))) (e_var (pv 6)))) (fun _ _ _ _ _ => e_var (pv 6))) (l_nil))) (e_ix rfl (e_var (pv 3)) (e_var (pv 5)))) (ss_one (s_ret (e_bl))) (ss_nil))))
    (ss_one (s_ret (e_bl)))))
theorem g__law_is_dealt (T : Txt K mg) : Good K (xcK K) P w mg base "_law_is_dealt" 5 5 [] F__law_is_dealt := by
  obtain ⟨fd, F⟩ := T.c.def_ 31 (d := d__law_is_dealt) rfl
  have F : FunD K "_law_is_dealt" "_law_is_dealt" (defArgs s__law_is_dealt) (defBody s__law_is_dealt) (defScope s__law_is_dealt) [] [] (He.ga K "_law_is_dealt") fd := F
  exact ⟨_, fd, ["_law_workers", "_law_parts", "_law_many_here", "_law_bounds", "_law_crew_here"], [], [], T.g__law_is_dealt, F.kp, rfl, F.bindsN fun _ _ _ _ _ _ us hl => match us, hl with | [_, _, _, _, _], _ => rfl, .nil, fun _ _ _ => .nil, ok__law_is_dealt T F⟩
end
/-! _law_deals_right -/
theorem sc__law_deals_right : FnScope ["_law_feed", "_law_workers", "_law_parts", "_law_bounds", "_law_many_here", "_law_room", "_law_good", "_law_due", "_law_wide", "_law_crew_here", "_law_one"] ["_law_feed", "_law_workers", "_law_parts"] (defScope s__law_deals_right) := ⟨rfl, rfl, rfl, by decide +kernel, rfl, by decide +kernel, by decide +kernel⟩
def m__law_deals_right : Sm := seqM (asgS (nameT 3) (callS (c1 tupD) (consS (frzS (lcS (itS (vS 1)) [10] (nameT 10) (yesS) (callM F__law_draw [] (consS (vS 0) (consS (cS (.int 6)) (nilS)))))) (nilS))))
  (seqM (parM [5, 6] (consS (callS (c1 sumD) (consS (frzS (lcS (itS (vS 3)) [10] (nameT 10) (yesS) (callS (c12 minD min2D) (consS (lstS (consS (vS 10) (consS (callS (c1 lenD) (consS (vS 2) (nilS))) (nilS)))) (nilS))))) (nilS))) (consS (ownS (nilS)) (nilS))))
  (seqM (forM (itR2 (consS (cS (.int 1)) (consS (op2S oAdd (cS (.int 1)) (callS (c1 lenD) (consS (vS 1) (nilS)))) (nilS)))) (nameT 4) (seqM (asgS (nameT 7) (op2S oGe (vS 5) (op2S oMul (vS 4) (callS (c1 lenD) (consS (vS 2) (nilS))))))
  (seqM (ifM (truS toB (op2S oNe (callS (c1 reprD) (consS (callP F_can_deal [] (consS (vS 1) (consS (vS 2) (consS (vS 4) (consS (vS 3) (nilS)))))) (nilS))) (callS (c1 reprD) (consS (vS 7) (nilS))))) (retM (cS (.bl false))) (skipM))
  (ifM (truS toB (vS 7)) (seqM (dropM (appS (vS 6) (vS 4)))
  (seqM (asgS (nameT 8) (op2S oAdd (cS (.int 1)) (callM F__law_draw [] (consS (vS 0) (consS (callS (c12 minD min2D) (consS (lstS (consS (cS (.int 3)) (consS (vS 4) (nilS)))) (nilS))) (nilS))))))
  (seqM (asgS (nameT 9) (callP F_dealt [] (consS (vS 1) (consS (vS 2) (consS (vS 4) (consS (vS 3) (consS (vS 8) (nilS))))))))
  (seqM (ifM (orS (notS (truS toB (callP F__law_is_dealt [] (consS (vS 1) (consS (vS 2) (consS (vS 4) (consS (vS 3) (consS (vS 9) (nilS))))))))) (truS toB (op2S oNe (op2S oIx (vS 9) (cS (.int 3))) (vS 8)))) (retM (cS (.bl false))) (skipM))
  (ifM (truS toB (op2S oNe (callS (c1 reprD) (consS (callP F_spare_of [] (consS (vS 9) (nilS))) (nilS))) (callS (c1 reprD) (consS (op2S oSub (vS 4) (vS 8)) (nilS))))) (retM (cS (.bl false))) (skipM)))))) (skipM)))))
  (retM (op2S oEq (callS (c1 reprD) (consS (callP F_most_each [] (consS (vS 1) (consS (vS 2) (consS (vS 3) (nilS))))) (nilS))) (callS (c1 reprD) (consS (ifS (truS toB (op2S oNe (vS 6) (lstS (nilS)))) (op2S oIx (vS 6) (op1S oNeg (cS (.int 1)))) (cS (.int 0))) (nilS)))))))
def F__law_deals_right : Fn := fnF 11 m__law_deals_right
section
variable {K : PySem.W.Frag} {mg : Str → Option Value} {P : Program} {w : World} {base : Heap}
theorem ok__law_deals_right (T : Txt K mg) {f : Addr} {fd : FuncData} (F : FunD K "_law_deals_right" "_law_deals_right" (defArgs s__law_deals_right) (defBody s__law_deals_right) (defScope s__law_deals_right) [] [] f fd) : FnG P w K mg base CX0 6 f fd ["_law_feed", "_law_workers", "_law_parts"] (spM ⟨K, xcK K⟩ 3 F__law_deals_right) :=
  fn_ok F sc__law_deals_right fun cdv A outer s H E hr => (show PSs _ (defBody s__law_deals_right) (tS ⟨K, xcK K⟩ E0 m__law_deals_right) from ss_cons (s_set (i := 3) sc__law_deals_right.nd rfl (by first | exact Or.inl rfl | exact Or.inr rfl) (e_bty (f_tuple rfl) bb_tuple (T.z_tuple) (l_cons (e_lc rfl sc__law_deals_right.nd (own := [("_law_one", 10)]) (i_any rfl (e_var (pv 1))) (blkOk_by (by kernel_rfl)) (by decide) (fun _ _ _ _ _ => g_name (pg_name (i := 10) sc__law_deals_right.nd rfl (by first | exact Or.inl rfl | exact Or.inr rfl))) (fun _ _ _ _ _ => ts_nil) (fun _ _ _ _ _ => e_fM (g__law_draw T) rfl (hr.mono (by decide)) (by rfl) (by rfl) (l_cons (e_var (pv 0)) (l_cons (e_int) (l_nil))) (cons_len (cons_len (nil_len))))) (l_nil))))
    (ss_cons (s_par2 (i := 5) (j := 6) rfl sc__law_deals_right.nd rfl rfl (by decide) rfl rfl (l_cons (e_blt (f_sum rfl) bb_sum (T.z_sum) (l_cons (e_lc rfl sc__law_deals_right.nd (own := [("_law_one", 10)]) (i_any rfl (e_var (pv 3))) (blkOk_by (by kernel_rfl)) (by decide) (fun _ _ _ _ _ => g_name (pg_name (i := 10) sc__law_deals_right.nd rfl (by first | exact Or.inl rfl | exact Or.inr rfl))) (fun _ _ _ _ _ => ts_nil) (fun _ _ _ _ _ => e_blt (f_min rfl) bb_min (T.z_min) (l_cons (e_lst (l_cons (e_var (pv 10)) (l_cons (e_blt (f_len rfl) bb_len (T.z_len) (l_cons (e_var (pv 2)) (l_nil))) (l_nil)))) (l_nil)))) (l_nil))) (l_cons (e_own (l_nil)) (l_nil))) (by rfl))
    (ss_cons (s_for PassesOwn.never rfl (i_r2 rfl (T.z_range) (l_cons (e_int) (l_cons (e_bin (opr_add rfl) (e_int) (e_blt (f_len rfl) bb_len (T.z_len) (l_cons (e_var (pv 1)) (l_nil)))) (l_nil)))) (g_name (pg_name (i := 4) sc__law_deals_right.nd rfl (by first | exact Or.inl rfl | exact Or.inr rfl))) (ss_cons (s_set (i := 7) sc__law_deals_right.nd rfl (by first | exact Or.inl rfl | exact Or.inr rfl) (e_cmp (opr_ge) (e_var (pv 5)) (e_bin (opr_mul rfl) (e_var (pv 4)) (e_blt (f_len rfl) bb_len (T.z_len) (l_cons (e_var (pv 2)) (l_nil))))))
    (ss_cons (s_if (t_cmp (opr_ne rfl hr.units) (e_blt (f_repr rfl hr) bb_repr (T.z_repr) (l_cons (e_fP (g_can_deal T) rfl (hr.mono (by decide)) (by rfl) (by rfl) (l_cons (e_var (pv 1)) (l_cons (e_var (pv 2)) (l_cons (e_var (pv 4)) (l_cons (e_var (pv 3)) (l_nil))))) (cons_len (cons_len (cons_len (cons_len (nil_len)))))) (l_nil))) (e_blt (f_repr rfl hr) bb_repr (T.z_repr) (l_cons (e_var (pv 7)) (l_nil)))) (ss_one (s_ret (e_bl))) (ss_nil))
    (ss_one (s_if (t_val (e_var (pv 7))) (ss_cons (s_expr (e_append (e_var (pv 6)) (e_var (pv 4))))
    (ss_cons (s_set (i := 8) sc__law_deals_right.nd rfl (by first | exact Or.inl rfl | exact Or.inr rfl) (e_bin (opr_add rfl) (e_int) (e_fM (g__law_draw T) rfl (hr.mono (by decide)) (by rfl) (by rfl) (l_cons (e_var (pv 0)) (l_cons (e_blt (f_min rfl) bb_min (T.z_min) (l_cons (e_lst (l_cons (e_int) (l_cons (e_var (pv 4)) (l_nil)))) (l_nil))) (l_nil))) (cons_len (cons_len (nil_len))))))
    (ss_cons (s_set (i := 9) sc__law_deals_right.nd rfl (by first | exact Or.inl rfl | exact Or.inr rfl) (e_fP (g_dealt T) rfl (hr.mono (by decide)) (by rfl) (by rfl) (l_cons (e_var (pv 1)) (l_cons (e_var (pv 2)) (l_cons (e_var (pv 4)) (l_cons (e_var (pv 3)) (l_cons (e_var (pv 8)) (l_nil)))))) (cons_len (cons_len (cons_len (cons_len (cons_len (nil_len))))))))
    (ss_cons (s_if (PW.pt (w_or (t_not (t_val (e_fP (g__law_is_dealt T) rfl (hr.mono (by decide)) (by rfl) (by rfl) (l_cons (e_var (pv 1)) (l_cons (e_var (pv 2)) (l_cons (e_var (pv 4)) (l_cons (e_var (pv 3)) (l_cons (e_var (pv 9)) (l_nil)))))) (cons_len (cons_len (cons_len (cons_len (cons_len (nil_len))))))))) (w_or1 (t_cmp (opr_ne rfl hr.units) (e_ix rfl (e_var (pv 9)) (e_int)) (e_var (pv 8)))))) (ss_one (s_ret (e_bl))) (ss_nil))
    (ss_one (s_if (t_cmp (opr_ne rfl hr.units) (e_blt (f_repr rfl hr) bb_repr (T.z_repr) (l_cons (e_fP (g_spare_of T) rfl (hr.mono (by decide)) (by rfl) (by rfl) (l_cons (e_var (pv 9)) (l_nil)) (cons_len (nil_len))) (l_nil))) (e_blt (f_repr rfl hr) bb_repr (T.z_repr) (l_cons (e_bin (opr_sub) (e_var (pv 4)) (e_var (pv 8))) (l_nil)))) (ss_one (s_ret (e_bl))) (ss_nil))))))) (ss_nil))))))
    (ss_one (s_ret (e_cmp (opr_eq rfl hr.units) (e_blt (f_repr rfl hr) bb_repr (T.z_repr) (l_cons (e_fP (g_most_each T) rfl (hr.mono (by decide)) (by rfl) (by rfl) (l_cons (e_var (pv 1)) (l_cons (e_var (pv 2)) (l_cons (e_var (pv 3)) (l_nil)))) (cons_len (cons_len (cons_len (nil_len))))) (l_nil))) (e_blt (f_repr rfl hr) bb_repr (T.z_repr) (l_cons (e_if (t_cmp (opr_ne rfl hr.units) (e_var (pv 6)) (e_lst (l_nil))) (e_ix rfl (e_var (pv 6)) (e_un unr_neg (e_int))) (e_int)) (l_nil)))))))))
theorem g__law_deals_right (T : Txt K mg) : Good K (xcK K) P w mg base "_law_deals_right" 6 3 [] F__law_deals_right := by
  obtain ⟨fd, F⟩ := T.c.def_ 32 (d := d__law_deals_right) rfl
  have F : FunD K "_law_deals_right" "_law_deals_right" (defArgs s__law_deals_right) (defBody s__law_deals_right) (defScope s__law_deals_right) [] [] (He.ga K "_law_deals_right") fd := F
  exact ⟨_, fd, ["_law_feed", "_law_workers", "_law_parts"], [], [], T.g__law_deals_right, F.kp, rfl, F.bindsN fun _ _ _ _ _ _ us hl => match us, hl with | [_, _, _], _ => rfl, .nil, fun _ _ _ => .nil, ok__law_deals_right T F⟩
end
/-! _law_round_right -/
theorem sc__law_round_right : FnScope ["_law_feed", "_law_workers", "_law_parts", "_law_k", "_law_many_here", "_law_wide", "_law_lots", "_law_own", "_law_j"] ["_law_feed", "_law_workers", "_law_parts"] (defScope s__law_round_right) := ⟨rfl, rfl, rfl, by decide +kernel, rfl, by decide +kernel, by decide +kernel⟩
def m__law_round_right : Sm := seqM (parM [4, 5, 6] (consS (op2S oAdd (cS (.int 1)) (callM F__law_draw [] (consS (vS 0) (consS (callS (c1 lenD) (consS (vS 1) (nilS))) (nilS))))) (consS (op2S oAdd (cS (.int 1)) (callM F__law_draw [] (consS (vS 0) (consS (cS (.int 2)) (nilS))))) (consS (ownS (nilS)) (nilS)))))
  (seqM (forM (itR1 (consS (callS (c1 lenD) (consS (vS 2) (nilS))) (nilS))) (nameT 3) (seqM (asgS (nameT 7) (frzS (lcS (itR1 (consS (vS 4) (nilS))) [8] (nameT 8) (yesS) (op2S oIx (vS 1) (op2S oMod (callS (c1 intD) (consS (op2S oAdd (vS 3) (vS 8)) (nilS))) (callS (c1 lenD) (consS (vS 1) (nilS))))))))
  (dropM (appS (vS 6) (callS (c1 tupD) (consS (callS (c1 sortD) (consS (vS 7) (nilS))) (nilS)))))))
  (retM (op2S oEq (callS (c1 reprD) (consS (callP F_deal_round [] (consS (vS 1) (consS (vS 2) (consS (vS 4) (consS (vS 5) (nilS)))))) (nilS))) (callS (c1 reprD) (consS (tupS (consS (vS 1) (consS (vS 2) (consS (callS (c1 tupD) (consS (vS 6) (nilS))) (consS (vS 5) (nilS)))))) (nilS))))))
def F__law_round_right : Fn := fnF 9 m__law_round_right
section
variable {K : PySem.W.Frag} {mg : Str → Option Value} {P : Program} {w : World} {base : Heap}
theorem ok__law_round_right (T : Txt K mg) {f : Addr} {fd : FuncData} (F : FunD K "_law_round_right" "_law_round_right" (defArgs s__law_round_right) (defBody s__law_round_right) (defScope s__law_round_right) [] [] f fd) : FnG P w K mg base CX0 5 f fd ["_law_feed", "_law_workers", "_law_parts"] (spM ⟨K, xcK K⟩ 3 F__law_round_right) :=
  fn_ok F sc__law_round_right fun cdv A outer s H E hr => (show PSs _ (defBody s__law_round_right) (tS ⟨K, xcK K⟩ E0 m__law_round_right) from ss_cons (s_par3 (i := 4) (j := 5) (l := 6) rfl sc__law_round_right.nd rfl rfl rfl (by decide) (by decide) (by decide) rfl rfl rfl (l_cons (e_bin (opr_add rfl) (e_int) (e_fM (g__law_draw T) rfl (hr.mono (by decide)) (by rfl) (by rfl) (l_cons (e_var (pv 0)) (l_cons (e_blt (f_len rfl) bb_len (T.z_len) (l_cons (e_var (pv 1)) (l_nil))) (l_nil))) (cons_len (cons_len (nil_len))))) (l_cons (e_bin (opr_add rfl) (e_int) (e_fM (g__law_draw T) rfl (hr.mono (by decide)) (by rfl) (by rfl) (l_cons (e_var (pv 0)) (l_cons (e_int) (l_nil))) (cons_len (cons_len (nil_len))))) (l_cons (e_own (l_nil)) (l_nil)))) (by rfl))
    (ss_cons (s_for PassesOwn.never rfl (i_r1 rfl (T.z_range) (l_cons (e_blt (f_len rfl) bb_len (T.z_len) (l_cons (e_var (pv 2)) (l_nil))) (l_nil))) (g_name (pg_name (i := 3) sc__law_round_right.nd rfl (by first | exact Or.inl rfl | exact Or.inr rfl))) (ss_cons (s_lcF (i := 7) rfl sc__law_round_right.nd rfl rfl (sw_true rfl rfl rfl (by decide +kernel)) (own := [("_law_j", 8)]) (i_r1 rfl (T.z_range) (l_cons (e_var (pv 4)) (l_nil))) (blkOk_by (by kernel_rfl)) (by decide) (fun _ _ _ _ _ => g_name (pg_name (i := 8) sc__law_round_right.nd rfl (by first | exact Or.inl rfl | exact Or.inr rfl))) (fun _ _ _ _ _ => ts_nil) (fun _ _ _ _ _ => e_ix rfl (e_var (pv 1)) (e_bin (opr_mod) (e_bty (f_int) bb_int (T.z_int) (l_cons (e_bin (opr_add rfl) (e_var (pv 3)) (e_var (pv 8))) (l_nil))) (e_blt (f_len rfl) bb_len (T.z_len) (l_cons (e_var (pv 1)) (l_nil))))))
    (ss_one (s_expr (e_append (e_var (pv 6)) (e_bty (f_tuple rfl) bb_tuple (T.z_tuple) (l_cons (e_blt (f_sortedS) bb_sorted (T.z_sorted) (l_cons (e_var (pv 7)) (l_nil))) (l_nil))))))))
    (ss_one (s_ret (e_cmp (opr_eq rfl hr.units) (e_blt (f_repr rfl hr) bb_repr (T.z_repr) (l_cons (e_fP (g_deal_round T) rfl (hr.mono (by decide)) (by rfl) (by rfl) (l_cons (e_var (pv 1)) (l_cons (e_var (pv 2)) (l_cons (e_var (pv 4)) (l_cons (e_var (pv 5)) (l_nil))))) (cons_len (cons_len (cons_len (cons_len (nil_len)))))) (l_nil))) (e_blt (f_repr rfl hr) bb_repr (T.z_repr) (l_cons (e_tup (l_cons (e_var (pv 1)) (l_cons (e_var (pv 2)) (l_cons (e_bty (f_tuple rfl) bb_tuple (T.z_tuple) (l_cons (e_var (pv 6)) (l_nil))) (l_cons (e_var (pv 5)) (l_nil)))))) (l_nil))))))))
theorem g__law_round_right (T : Txt K mg) : Good K (xcK K) P w mg base "_law_round_right" 5 3 [] F__law_round_right := by
  obtain ⟨fd, F⟩ := T.c.def_ 33 (d := d__law_round_right) rfl
  have F : FunD K "_law_round_right" "_law_round_right" (defArgs s__law_round_right) (defBody s__law_round_right) (defScope s__law_round_right) [] [] (He.ga K "_law_round_right") fd := F
  exact ⟨_, fd, ["_law_feed", "_law_workers", "_law_parts"], [], [], T.g__law_round_right, F.kp, rfl, F.bindsN fun _ _ _ _ _ _ us hl => match us, hl with | [_, _, _], _ => rfl, .nil, fun _ _ _ => .nil, ok__law_round_right T F⟩
end
/-! _law_added_right -/
theorem sc__law_added_right : FnScope ["_law_crew_here", "_law_spare", "_law_size", "_law_lacks", "_law_due", "_law_late", "_law_lot", "_law_own", "_law_one"] ["_law_crew_here"] (defScope s__law_added_right) := ⟨rfl, rfl, rfl, by decide +kernel, rfl, by decide +kernel, by decide +kernel⟩
def m__law_added_right : Sm := seqM (forM (itR2 (consS (op1S oNeg (cS (.int 2))) (consS (op2S oAdd (callS (c1 lenD) (consS (op2S oIx (vS 0) (cS (.int 0))) (nilS))) (cS (.int 1))) (nilS)))) (nameT 1) (seqM (asgS (nameT 2) (op2S oAdd (vS 1) (op2S oIx (vS 0) (cS (.int 3)))))
  (seqM (asgS (nameT 3) (frzS (lcS (itS (op2S oIx (vS 0) (cS (.int 2)))) [6] (nameT 6) (yesS) (callS (c12 maxD max2D) (consS (lstS (consS (cS (.int 0)) (consS (op2S oSub (vS 2) (callS (c1 lenD) (consS (vS 6) (nilS)))) (nilS)))) (nilS))))))
  (seqM (asgS (nameT 4) (ifS (truS toB (op2S oLe (vS 2) (callS (c1 lenD) (consS (op2S oIx (vS 0) (cS (.int 0))) (nilS))))) (callS (c1 sumD) (consS (vS 3) (nilS))) (cS .non)))
  (seqM (ifM (truS toB (op2S oNe (callS (c1 reprD) (consS (callP F_fewest_added [] (consS (vS 0) (consS (vS 1) (nilS)))) (nilS))) (callS (c1 reprD) (consS (vS 4) (nilS))))) (retM (cS (.bl false))) (skipM))
  (ifM (truS toB (op2S oNotN (vS 4) (cS .non))) (seqM (asgS (nameT 5) (callP F_widened [] (consS (vS 0) (consS (vS 1) (nilS)))))
  (seqM (ifM (orS (notS (truS toB (callP F_is_crew [] (consS (vS 5) (nilS))))) (orS (truS toB (op2S oNe (slS (vS 5) (noP) (partS (cS (.int 2)))) (slS (vS 0) (noP) (partS (cS (.int 2)))))) (truS toB (op2S oNe (op2S oIx (vS 5) (cS (.int 3))) (op2S oIx (vS 0) (cS (.int 3))))))) (retM (cS (.bl false))) (skipM))
  (forM (itZip (consS (op2S oIx (vS 0) (cS (.int 2))) (consS (op2S oIx (vS 5) (cS (.int 2))) (nilS)))) (tupT 2 (consT (nameT 6) (consT (nameT 7) (nilT))) [6, 7]) (ifM (orS (truS toB (op2S oNe (frzS (lcS (itS (vS 6)) [8] (nameT 8) (truS toB (op2S oNotIn (vS 8) (vS 7))) (vS 8))) (lstS (nilS)))) (truS toB (op2S oNe (callS (c1 lenD) (consS (vS 7) (nilS))) (callS (c12 maxD max2D) (consS (lstS (consS (callS (c1 lenD) (consS (vS 6) (nilS))) (consS (vS 2) (nilS)))) (nilS)))))) (retM (cS (.bl false))) (skipM))))) (skipM)))))))
  (retM (cS (.bl true)))
def F__law_added_right : Fn := fnF 9 m__law_added_right
section
variable {K : PySem.W.Frag} {mg : Str → Option Value} {P : Program} {w : World} {base : Heap}
theorem ok__law_added_right (T : Txt K mg) {f : Addr} {fd : FuncData} (F : FunD K "_law_added_right" "_law_added_right" (defArgs s__law_added_right) (defBody s__law_added_right) (defScope s__law_added_right) [] [] f fd) : FnG P w K mg base CX0 5 f fd ["_law_crew_here"] (spM ⟨K, xcK K⟩ 1 F__law_added_right) :=
  fn_ok F sc__law_added_right fun cdv A outer s H E hr => (show PSs _ (defBody s__law_added_right) (tS ⟨K, xcK K⟩ E0 m__law_added_right) from ss_cons (s_for PassesOwn.never rfl (i_r2 rfl (T.z_range) (l_cons (e_un unr_neg (e_int)) (l_cons (e_bin (opr_add rfl) (e_blt (f_len rfl) bb_len (T.z_len) (l_cons (e_ix rfl (e_var (pv 0)) (e_int)) (l_nil))) (e_int)) (l_nil)))) (g_name (pg_name (i := 1) sc__law_added_right.nd rfl (by first | exact Or.inl rfl | exact Or.inr rfl))) (ss_cons (s_set (i := 2) sc__law_added_right.nd rfl (by first | exact Or.inl rfl | exact Or.inr rfl) (e_bin (opr_add rfl) (e_var (pv 1)) (e_ix rfl (e_var (pv 0)) (e_int))))
    (ss_cons (s_lcF (i := 3) rfl sc__law_added_right.nd rfl rfl (sw_true rfl rfl rfl (by decide +kernel)) (own := [("_law_lot", 6)]) (i_any rfl (e_ix rfl (e_var (pv 0)) (e_int))) (blkOk_by (by kernel_rfl)) (by decide) (fun _ _ _ _ _ => g_name (pg_name (i := 6) sc__law_added_right.nd rfl (by first | exact Or.inl rfl | exact Or.inr rfl))) (fun _ _ _ _ _ => ts_nil) (fun _ _ _ _ _ => e_blt (f_max rfl) bb_max (T.z_max) (l_cons (e_lst (l_cons (e_int) (l_cons (e_bin (opr_sub) (e_var (pv 2)) (e_blt (f_len rfl) bb_len (T.z_len) (l_cons (e_var (pv 6)) (l_nil)))) (l_nil)))) (l_nil))))
    (ss_cons (s_set (i := 4) sc__law_added_right.nd rfl (by first | exact Or.inl rfl | exact Or.inr rfl) (e_if (t_cmp (opr_le) (e_var (pv 2)) (e_blt (f_len rfl) bb_len (T.z_len) (l_cons (e_ix rfl (e_var (pv 0)) (e_int)) (l_nil)))) (e_blt (f_sum rfl) bb_sum (T.z_sum) (l_cons (e_var (pv 3)) (l_nil))) (e_non)))
    (ss_cons (s_if (t_cmp (opr_ne rfl hr.units) (e_blt (f_repr rfl hr) bb_repr (T.z_repr) (l_cons (e_fP (g_fewest_added T) rfl (hr.mono (by decide)) (by rfl) (by rfl) (l_cons (e_var (pv 0)) (l_cons (e_var (pv 1)) (l_nil))) (cons_len (cons_len (nil_len)))) (l_nil))) (e_blt (f_repr rfl hr) bb_repr (T.z_repr) (l_cons (e_var (pv 4)) (l_nil)))) (ss_one (s_ret (e_bl))) (ss_nil))
    (ss_one (s_if (t_cmp (opr_notN) (e_var (pv 4)) (e_non)) (ss_cons (s_set (i := 5) sc__law_added_right.nd rfl (by first | exact Or.inl rfl | exact Or.inr rfl) (e_fP (g_widened T) rfl (hr.mono (by decide)) (by rfl) (by rfl) (l_cons (e_var (pv 0)) (l_cons (e_var (pv 1)) (l_nil))) (cons_len (cons_len (nil_len)))))
    (ss_cons (s_if (PW.pt (w_or (t_not (t_val (e_fP (g_is_crew T) rfl (hr.mono (by decide)) (by rfl) (by rfl) (l_cons (e_var (pv 5)) (l_nil)) (cons_len (nil_len))))) (w_or (t_cmp (opr_ne rfl hr.units) (e_sl rfl (e_var (pv 5)) (p_none) (p_some (e_int))) (e_sl rfl (e_var (pv 0)) (p_none) (p_some (e_int)))) (w_or1 (t_cmp (opr_ne rfl hr.units) (e_ix rfl (e_var (pv 5)) (e_int)) (e_ix rfl (e_var (pv 0)) (e_int))))))) (ss_one (s_ret (e_bl))) (ss_nil))
    (ss_one (s_for PassesOwn.never rfl (i_zip rfl rfl (T.z_zip) (l_cons (e_ix rfl (e_var (pv 0)) (e_int)) (l_cons (e_ix rfl (e_var (pv 5)) (e_int)) (l_nil))) (fun _ h => RZ.pi_zipA rfl (T.z_zip) h)) (g_tup rfl rfl (gs_cons (g_name (pg_name (i := 6) sc__law_added_right.nd rfl (by first | exact Or.inl rfl | exact Or.inr rfl))) (gs_cons (g_name (pg_name (i := 7) sc__law_added_right.nd rfl (by first | exact Or.inl rfl | exact Or.inr rfl))) (gs_nil)))) (ss_one (s_if (PW.pt (w_or (t_cmp (opr_ne rfl hr.units) (e_lc rfl sc__law_added_right.nd (own := [("_law_one", 8)]) (i_any rfl (e_var (pv 6))) (blkOk_by (by kernel_rfl)) (by decide) (fun _ _ _ _ _ => g_name (pg_name (i := 8) sc__law_added_right.nd rfl (by first | exact Or.inl rfl | exact Or.inr rfl))) (fun _ _ _ _ _ => ts_one (t_cmp (opr_notIn rfl) (e_var (pv 8)) (e_var (pv 7)))) (fun _ _ _ _ _ => e_var (pv 8))) (e_lst (l_nil))) (w_or1 (t_cmp (opr_ne rfl hr.units) (e_blt (f_len rfl) bb_len (T.z_len) (l_cons (e_var (pv 7)) (l_nil))) (e_blt (f_max rfl) bb_max (T.z_max) (l_cons (e_lst (l_cons (e_blt (f_len rfl) bb_len (T.z_len) (l_cons (e_var (pv 6)) (l_nil))) (l_cons (e_var (pv 2)) (l_nil)))) (l_nil))))))) (ss_one (s_ret (e_bl))) (ss_nil))))))) (ss_nil))))))))
    (ss_one (s_ret (e_bl))))
theorem g__law_added_right (T : Txt K mg) : Good K (xcK K) P w mg base "_law_added_right" 5 1 [] F__law_added_right := by
  obtain ⟨fd, F⟩ := T.c.def_ 34 (d := d__law_added_right) rfl
  have F : FunD K "_law_added_right" "_law_added_right" (defArgs s__law_added_right) (defBody s__law_added_right) (defScope s__law_added_right) [] [] (He.ga K "_law_added_right") fd := F
  exact ⟨_, fd, ["_law_crew_here"], [], [], T.g__law_added_right, F.kp, rfl, F.bindsN fun _ _ _ _ _ _ us hl => match us, hl with | [_], _ => rfl, .nil, fun _ _ _ => .nil, ok__law_added_right T F⟩
end
/-! law -/
theorem sc_law : FnScope ["_law_script", "_law_feed", "_law_crew_here", "_law_workers", "_law_parts", "_law_asis"] ["_law_script"] (defScope s_law) := ⟨rfl, rfl, rfl, by decide +kernel, rfl, by decide +kernel, by decide +kernel⟩
def m_law : Sm := seqM (asgS (nameT 1) (callM F__law_source [] (consS (vS 0) (nilS))))
  (seqM (asgS (nameT 2) (callM F__law_crew [] (consS (vS 1) (consS (cS (.int 4)) (consS (cS (.int 2)) (nilS))))))
  (seqM (parM [3, 4, 5] (consS (callM F__law_many [] (consS (vS 1) (consS (op2S oAdd (cS (.int 2)) (callM F__law_draw [] (consS (vS 1) (consS (cS (.int 4)) (nilS))))) (nilS)))) (consS (callM F__law_many [] (consS (vS 1) (consS (op2S oAdd (cS (.int 1)) (callM F__law_draw [] (consS (vS 1) (consS (cS (.int 4)) (nilS))))) (nilS)))) (consS (callS (c1 reprD) (consS (vS 2) (nilS))) (nilS)))))
  (seqM (ifM (orS (notS (truS toB (callM F__law_deals_right [] (consS (vS 1) (consS (vS 3) (consS (vS 4) (nilS))))))) (notS (truS toB (callM F__law_round_right [] (consS (vS 1) (consS (vS 3) (consS (vS 4) (nilS)))))))) (retM (cS (.bl false))) (skipM))
  (retM (andV (callP F__law_added_right [] (consS (vS 2) (nilS))) (op2S oEq (callS (c1 reprD) (consS (vS 2) (nilS))) (vS 5)))))))
def F_law : Fn := fnF 6 m_law
section
variable {K : PySem.W.Frag} {mg : Str → Option Value} {P : Program} {w : World} {base : Heap}
theorem ok_law (T : Txt K mg) {f : Addr} {fd : FuncData} (F : FunD K "law" "law" (defArgs s_law) (defBody s_law) (defScope s_law) [] [] f fd) : FnG P w K mg base CX0 7 f fd ["_law_script"] (spM ⟨K, xcK K⟩ 1 F_law) :=
  fn_ok F sc_law fun cdv A outer s H E hr => (show PSs _ (defBody s_law) (tS ⟨K, xcK K⟩ E0 m_law) from ss_cons (s_set (i := 1) sc_law.nd rfl (by first | exact Or.inl rfl | exact Or.inr rfl) (e_fM (g__law_source T) rfl (hr.mono (by decide)) (by rfl) (by rfl) (l_cons (e_var (pv 0)) (l_nil)) (cons_len (nil_len))))
    (ss_cons (s_set (i := 2) sc_law.nd rfl (by first | exact Or.inl rfl | exact Or.inr rfl) (e_fM (g__law_crew T) rfl (hr.mono (by decide)) (by rfl) (by rfl) (l_cons (e_var (pv 1)) (l_cons (e_int) (l_cons (e_int) (l_nil)))) (cons_len (cons_len (cons_len (nil_len))))))
    (ss_cons (s_par3 (i := 3) (j := 4) (l := 5) rfl sc_law.nd rfl rfl rfl (by decide) (by decide) (by decide) rfl rfl rfl (l_cons (e_fM (g__law_many T) rfl (hr.mono (by decide)) (by rfl) (by rfl) (l_cons (e_var (pv 1)) (l_cons (e_bin (opr_add rfl) (e_int) (e_fM (g__law_draw T) rfl (hr.mono (by decide)) (by rfl) (by rfl) (l_cons (e_var (pv 1)) (l_cons (e_int) (l_nil))) (cons_len (cons_len (nil_len))))) (l_nil))) (cons_len (cons_len (nil_len)))) (l_cons (e_fM (g__law_many T) rfl (hr.mono (by decide)) (by rfl) (by rfl) (l_cons (e_var (pv 1)) (l_cons (e_bin (opr_add rfl) (e_int) (e_fM (g__law_draw T) rfl (hr.mono (by decide)) (by rfl) (by rfl) (l_cons (e_var (pv 1)) (l_cons (e_int) (l_nil))) (cons_len (cons_len (nil_len))))) (l_nil))) (cons_len (cons_len (nil_len)))) (l_cons (e_blt (f_repr rfl hr) bb_repr (T.z_repr) (l_cons (e_var (pv 2)) (l_nil))) (l_nil)))) (by rfl))
    (ss_cons (s_if (PW.pt (w_or (t_not (t_val (e_fM (g__law_deals_right T) rfl (hr.mono (by decide)) (by rfl) (by rfl) (l_cons (e_var (pv 1)) (l_cons (e_var (pv 3)) (l_cons (e_var (pv 4)) (l_nil)))) (cons_len (cons_len (cons_len (nil_len))))))) (w_or1 (t_not (t_val (e_fM (g__law_round_right T) rfl (hr.mono (by decide)) (by rfl) (by rfl) (l_cons (e_var (pv 1)) (l_cons (e_var (pv 3)) (l_cons (e_var (pv 4)) (l_nil)))) (cons_len (cons_len (cons_len (nil_len)))))))))) (ss_one (s_ret (e_bl))) (ss_nil))
    (ss_one (s_ret (e_and (e_fP (g__law_added_right T) rfl (hr.mono (by decide)) (by rfl) (by rfl) (l_cons (e_var (pv 2)) (l_nil)) (cons_len (nil_len))) (e_one (e_cmp (opr_eq rfl hr.units) (e_blt (f_repr rfl hr) bb_repr (T.z_repr) (l_cons (e_var (pv 2)) (l_nil))) (e_var (pv 5)))))))))))
theorem g_law (T : Txt K mg) : Good K (xcK K) P w mg base "law" 7 1 [] F_law := by
  obtain ⟨fd, F⟩ := T.c.def_ 35 (d := d_law) rfl
  have F : FunD K "law" "law" (defArgs s_law) (defBody s_law) (defScope s_law) [] [] (He.ga K "law") fd := F
  exact ⟨_, fd, ["_law_script"], [], [], T.g_law, F.kp, rfl, F.bindsN fun _ _ _ _ _ _ us hl => match us, hl with | [_], _ => rfl, .nil, fun _ _ _ => .nil, ok_law T F⟩
end
end K85
set_option Elab.async false
set_option linter.all false
set_option maxRecDepth 100000
set_option maxHeartbeats 0
namespace K85
open PySem PySem.Spec PyProof.Rows L2 Pg Pl
theorem only_rep {k : Kc} {H : Hp} {a : Addr} {ns : List Int} (hS : SqL k.K H a (ns.map V.int)) : Rep (k.w fun _ => True) [] H (.scr ns) (.ref a) := by
  rw [Rep]
  refine ⟨a, rfl, ?_⟩
  rcases hS with h | h
  · exact .inl ⟨by simp, trivial, h⟩
  · exact .inr h
theorem facts {P : Program} {w : World} {K : PySem.W.Frag} {h : Heap} {mg : Str → Option Value} {f : Addr} (X : K.In h) (G : h.Ns mainGlobals mg) (hfa : mg ("law" : Str) = some (.ref f)) (c : He.SaysD fa fn K) :
    ∃ fd : FuncData, (∀ (s : Shared) (v : Value), BindsTo s fd ⟨[v], []⟩ [("_law_script", v)]) ∧ ∀ base : Heap, K.In base → base.Ns mainGlobals mg → FnG P w K mg base CX0 7 f fd ["_law_script"] (spM ⟨K, xcK K⟩ 1 F_law) := by
  have T : Txt K mg := ⟨⟨h, X, G⟩, c⟩
  obtain ⟨fd, F⟩ := c.def_ (fn.length - 1) (d := d_law) rfl
  have e := hfa.symm.trans T.g_law
  cases e
  have F : FunD K "law" "law" (defArgs s_law) (defBody s_law) (defScope s_law) [] [] (He.ga K "law") fd := F
  have b := FunD.bindsA (ps := ["_law_script"]) F fun _ _ _ _ _ _ us hl => match us, hl with | [_], _ => rfl
  exact ⟨fd, fun s v => b s [v] rfl, fun base _ _ => ok_law T F⟩
end K85
open PySem PySem.W PySem.Calls PyProof.Rows
theorem k85_of (PL : ∀ ns : List Int, ns.length ≤ 63 → K85.F_law [.scr ns] [] = .ok (.bl true) []) : PySem.Challenge.rw_withoutslow_k85_whole_dealings.Holds := by
  w_on; o_law
  refine HandSHeadRun.head_any (r := OpenLaw.row PySem.Challenge.rw_withoutslow_k85_whole_dealings) (q := view (OpenLaw.row PySem.Challenge.rw_withoutslow_k85_whole_dealings).prog [48]) (H := K85.hk) (ob := K85.ob) (M := 20000) (loose := K85.loose) (d := HandSHeadRun.topDef (OpenLaw.row PySem.Challenge.rw_withoutslow_k85_whole_dealings).prog 48) (kwd := []) K85.ob_eq
    (by kernel_rfl) (fun s => by kernel_rfl) K85.run (by kernel_rfl) (by kernel_rfl) (by kernel_rfl) (by rfl) (by first | assumption | decide +kernel) (by decide +kernel) ⟨rfl, rfl, rfl, rfl, rfl, by decide +kernel⟩ ?hw ?hc
  case hw => w_witness2
  case hc =>
    refine Pg.walk_ofEG (l := PySem.Challenge.rw_withoutslow_k85_whole_dealings) (n := 63) (k := 7) (x := "_law_script") (CX := L2.CX0) rfl (by decide) (by kernel_rfl) ⟨⟨rfl, by decide, by decide⟩, rfl⟩ ?F (fun _ _ _ _ z => z)
    intro w mg fa h Y G hmg0
    obtain ⟨K, KX, c⟩ := Y
    have hmg : mg ("law" : PySem.Str) = some (.ref fa) := by
      have e : (HandSHeadRun.topDef (OpenLaw.row PySem.Challenge.rw_withoutslow_k85_whole_dealings).prog 48).name = ("law" : PySem.Str) := by kernel_rfl
      rw [← e]
      exact hmg0
    obtain ⟨fd, hb, hF⟩ := K85.facts (P := (PySem.Challenge.rw_withoutslow_k85_whole_dealings).prog) (w := w) KX G hmg c
    refine ⟨K, fd, Pl.spM ⟨K, K85.xcK K⟩ 1 K85.F_law, KX, hb, fun H a ns hl _ hS => ⟨rfl, fun _ => True, [], [.scr ns], [], ⟨rfl, by simp, fun i a k e => by simp at e, fun a ha => by simp at ha, fun _ _ => trivial⟩, .cons (K85.only_rep hS) .nil, ?_⟩, hF⟩
    rw [PL ns hl]
    intro φ' H' g s v r
    exact r.bl
set_option Elab.async false
set_option linter.all false
set_option maxRecDepth 100000
set_option maxHeartbeats 2000000
/-! P13: reasoning about the plain functions. -/
namespace Pl
open PySem PySem.Spec PyProof.Rows L2 Pg
def Has {α : Type} (r : Re α) (Q : α → Sto → Prop) : Prop := match r with
  | .ok a st => Q a st
  | _ => False
def HasS (r : SRe) (N : Fr → Sto → Prop) (R : D → Sto → Prop) (B C : Fr → Sto → Prop) : Prop := match r with
  | .nx fr st => N fr st
  | .rt d st => R d st
  | .bk fr st => B fr st
  | .ct fr st => C fr st
  | _ => False
abbrev no2 : Fr → Sto → Prop := fun _ _ => False
section
variable {α β : Type} {r : Re α} {Q : α → Sto → Prop} {N B C : Fr → Sto → Prop} {R : D → Sto → Prop} {fr : Fr} {st : Sto}
theorem Has_ok {a : α} : Has (.ok a st) Q ↔ Q a st := .rfl
theorem Has_bad : Has (.bad : Re α) Q ↔ False := .rfl
theorem Has_bind {f : α → Sto → Re β} {Q : β → Sto → Prop} : Has (r.bind f) Q ↔ Has r (fun a st => Has (f a st) Q) := by cases r <;> rfl
theorem Has_noX : Has (noX r) Q ↔ Has r Q := by cases r <;> rfl
theorem HasS_nx : HasS (.nx fr st) N R B C ↔ N fr st := .rfl
theorem HasS_rt {d : D} : HasS (.rt d st) N R B C ↔ R d st := .rfl
theorem HasS_bk : HasS (.bk fr st) N R B C ↔ B fr st := .rfl
theorem HasS_ct : HasS (.ct fr st) N R B C ↔ C fr st := .rfl
theorem HasS_bad : HasS .bad N R B C ↔ False := .rfl
theorem HasS_toS {f : α → Sto → SRe} : HasS (r.toS f) N R B C ↔ Has r (fun a st => HasS (f a st) N R B C) := by cases r <;> rfl
theorem HasS_seq {r : SRe} {f : Sm} : HasS (r.seq f) N R B C ↔ HasS r (fun fr st => HasS (f fr st) N R B C) R B C := by cases r <;> rfl
theorem Has.mono {Q' : α → Sto → Prop} (h : Has r Q) (i : ∀ a st, Q a st → Q' a st) : Has r Q' := by cases r <;> first | exact i _ _ h | exact h
theorem HasS.mono {r : SRe} {N' B' C' : Fr → Sto → Prop} {R' : D → Sto → Prop} (h : HasS r N R B C) (n : ∀ fr st, N fr st → N' fr st) (t : ∀ d st, R d st → R' d st) (b : ∀ fr st, B fr st → B' fr st) (c : ∀ fr st, C fr st → C' fr st) : HasS r N' R' B' C' := by
  cases r <;> first | exact n _ _ h | exact t _ _ h | exact b _ _ h | exact c _ _ h | exact h
theorem Has.eq {a : α} (h : Has r fun x s => x = a ∧ s = st) : r = .ok a st := by
  cases r with
  | ok x s => obtain ⟨rfl, rfl⟩ := h; rfl
  | _ => exact False.elim h
theorem Has.of_eq {a : α} (h : r = .ok a st) (q : Q a st) : Has r Q := by rw [h]; exact q
theorem HasS_seqM {a b : Sm} : HasS (seqM a b fr st) N R B C ↔ HasS (a fr st) (fun fr st => HasS (b fr st) N R B C) R B C := HasS_seq
/-- the body of a def -/
theorem has_fn {n : Nat} {body : Sm} {ds : List D} {Q : D → Sto → Prop} (h : HasS (body (startF n ds) st) (fun _ st' => Has (finD st .non st') Q) (fun d st' => Has (finD st d st') Q) no2 no2) : Has (fnF n body ds st) Q := by
  unfold fnF
  cases e : body (startF n ds) st <;> rw [e] at h <;> first | exact h | exact False.elim h
theorem finD_same {d : D} {st' : Sto} (h : st'.length = st.length) : finD st d st' = .ok d st' := by unfold finD; rw [if_pos h]
/-! calls with plain arguments -/
def callP1 (F : Fn) (dfl : List D) (ds : List D) (st1 : Sto) : Re D := match st1 with
  | [] => noX (F (ds ++ dfl) [])
  | _ => if ds.any (hasRef FUEL) then (match ds.mapM (res 0 st1 FUEL) with
    | some es => runP F true (es ++ dfl) st1
    | none => .bad) else runP F false (ds ++ dfl) st1
theorem callP_eq {F : Fn} {dfl : List D} {m : Sh (List D)} : callP F dfl m fr st = (m fr st).bind fun ds st1 => callP1 F dfl ds st1 := rfl
theorem callP1_of {F : Fn} {dfl ds : List D} {d : D} (h : F (ds ++ dfl) [] = .ok d []) (hr : ds.any (hasRef FUEL) = false) : callP1 F dfl ds st = .ok d st := by
  unfold callP1
  cases st with
  | nil => rw [h]; rfl
  | cons c cs =>
    dsimp only
    rw [hr]
    simp only [Bool.false_eq_true, if_false]
    unfold runP
    rw [h]
    simp
theorem Has_callP1 {F : Fn} {dfl ds : List D} {d : D} {Q : D → Sto → Prop} (h : F (ds ++ dfl) [] = .ok d []) (hr : ds.any (hasRef FUEL) = false) (q : Q d st) : Has (callP1 F dfl ds st) Q := by rw [callP1_of h hr]; exact q
/-! comprehensions -/
theorem lcLoop_map {γ : Type} {tg : Tg} {tt : Sh Bool} {te : Sh D} {fr0 : Fr} (g : γ → D) (p : γ → Bool) (f : γ → D) (ys : List D) :
    ∀ (xs : List γ) (pre : List γ) (acc : List D), ys = (pre ++ xs).map g → acc.length + xs.length ≤ LIM → (∀ x ∈ xs, ∃ fr1, tg.go (g x) fr0 = some fr1 ∧ tt fr1 st = .ok (p x) st ∧ (p x = true → te fr1 st = .ok (f x) st)) →
      lcLoop (.fix ys) tg tt te fr0 xs.length pre.length acc st = .ok (acc ++ (xs.filter p).map f) st
  | [], pre, acc, e, ha, h => by simp [lcLoop, ItD.ok]
  | x :: xs, pre, acc, e, ha, h => by
    obtain ⟨fr1, h1, h2, h3⟩ := h x List.mem_cons_self
    have e1 : (ItD.fix ys).at st pre.length = some (g x) := by
      show ys[pre.length]? = some (g x)
      rw [e, List.map_append, List.getElem?_append_right (by simp)]
      simp
    rw [List.length_cons] at ha
    have ih := fun acc' (hl : acc'.length + xs.length ≤ LIM) => lcLoop_map (tg := tg) (tt := tt) (te := te) (fr0 := fr0) g p f ys xs (pre ++ [x]) acc' (by rw [e]; simp) hl fun y hy => h y (List.mem_cons_of_mem _ hy)
    simp only [List.length_append, List.length_cons, List.length_nil, Nat.zero_add] at ih
    rw [List.length_cons, lcLoop, e1]
    dsimp only
    rw [h1]
    dsimp only
    rw [h2]
    cases hp : p x with
    | false =>
      dsimp only
      rw [ih acc (by omega), List.filter_cons_of_neg (by simp [hp])]
    | true =>
      dsimp only
      rw [h3 hp]
      dsimp only
      rw [if_pos (by omega), ih (acc ++ [f x]) (by simp; omega), List.filter_cons_of_pos (by simp [hp])]
      simp
theorem lcS_map {γ : Type} {it : Si} {vs : List Nat} {tg : Tg} {tt : Sh Bool} {te : Sh D} {xs : List γ} (g : γ → D) (p : γ → Bool) (f : γ → D) (hi : it fr st = .ok (.fix (xs.map g)) st) (hl : xs.length ≤ LIM)
    (h : ∀ x ∈ xs, ∃ fr1, tg.go (g x) (wipeF fr vs) = some fr1 ∧ tt fr1 st = .ok (p x) st ∧ (p x = true → te fr1 st = .ok (f x) st)) : lcS it vs tg tt te fr st = .ok ((xs.filter p).map f) st := by
  unfold lcS
  rw [hi]
  have := lcLoop_map (tg := tg) (tt := tt) (te := te) (fr0 := wipeF fr vs) g p f (xs.map g) xs [] [] (by simp) (by simpa using hl) h
  simpa [Re.bind, ItD.len] using this
/-- all of them -/
theorem lcS_all {γ : Type} {it : Si} {vs : List Nat} {tg : Tg} {te : Sh D} {xs : List γ} (g : γ → D) (f : γ → D) (hi : it fr st = .ok (.fix (xs.map g)) st) (hl : xs.length ≤ LIM)
    (h : ∀ x ∈ xs, ∃ fr1, tg.go (g x) (wipeF fr vs) = some fr1 ∧ te fr1 st = .ok (f x) st) : lcS it vs tg yesS te fr st = .ok (xs.map f) st := by
  rw [lcS_map (tt := yesS) g (fun _ => true) f hi hl fun x hx => let ⟨fr1, a, b⟩ := h x hx; ⟨fr1, a, rfl, fun _ => b⟩, List.filter_eq_self.mpr fun _ _ => rfl]
theorem lc2Loop_map {γ δ : Type} {tg tg1 : Tg} {it1 : Si} {vs1 : List Nat} {te : Sh D} {fr0 : Fr} (g : γ → D) (zs : γ → List δ) (g1 : δ → D) (f : γ → δ → D) (ys : List D) :
    ∀ (xs : List γ) (pre : List γ) (acc : List D), ys = (pre ++ xs).map g → acc.length + ((xs.map fun x => (zs x).map (f x)).flatten).length ≤ LIM → (∀ x ∈ xs, ∃ fr1, tg.go (g x) fr0 = some fr1 ∧ it1 fr1 st = .ok (.fix ((zs x).map g1)) st ∧ ∀ y ∈ zs x, ∃ fr2, tg1.go (g1 y) (wipeF fr1 vs1) = some fr2 ∧ te fr2 st = .ok (f x y) st) →
      lc2Loop (.fix ys) tg yesS it1 vs1 tg1 yesS te fr0 xs.length pre.length acc st = .ok (acc ++ (xs.map fun x => (zs x).map (f x)).flatten) st
  | [], pre, acc, e, ha, h => by simp [lc2Loop, ItD.ok]
  | x :: xs, pre, acc, e, ha, h => by
    obtain ⟨fr1, h1, h2, h3⟩ := h x List.mem_cons_self
    have e1 : (ItD.fix ys).at st pre.length = some (g x) := by
      show ys[pre.length]? = some (g x)
      rw [e, List.map_append, List.getElem?_append_right (by simp)]
      simp
    rw [List.map_cons, List.flatten_cons, List.length_append, List.length_map] at ha
    have ih := fun acc' hl => lc2Loop_map (tg := tg) (tg1 := tg1) (it1 := it1) (vs1 := vs1) (te := te) (fr0 := fr0) g zs g1 f ys xs (pre ++ [x]) acc' (by rw [e]; simp) hl fun y hy => h y (List.mem_cons_of_mem _ hy)
    simp only [List.length_append, List.length_cons, List.length_nil, Nat.zero_add] at ih
    have inner := lcLoop_map (st := st) (tg := tg1) (tt := yesS) (te := te) (fr0 := wipeF fr1 vs1) g1 (fun _ => true) (f x) ((zs x).map g1) (zs x) [] acc (by simp) (by omega) fun y hy => let ⟨fr2, a, b⟩ := h3 y hy; ⟨fr2, a, rfl, fun _ => b⟩
    rw [List.filter_eq_self.mpr fun _ _ => rfl] at inner
    rw [List.length_cons, lc2Loop, e1]
    dsimp only
    rw [h1]
    dsimp only [yesS]
    rw [h2]
    dsimp only [ItD.len]
    rw [List.length_map]
    rw [show lcLoop (.fix ((zs x).map g1)) tg1 yesS te (wipeF fr1 vs1) (zs x).length 0 acc st = .ok (acc ++ (zs x).map (f x)) st from inner]
    dsimp only
    rw [ih (acc ++ (zs x).map (f x)) (by rw [List.length_append, List.length_map]; omega)]
    simp
theorem lc2S_all {γ δ : Type} {it it1 : Si} {vs vs1 : List Nat} {tg tg1 : Tg} {te : Sh D} {xs : List γ} (g : γ → D) (zs : γ → List δ) (g1 : δ → D) (f : γ → δ → D) (hi : it fr st = .ok (.fix (xs.map g)) st) (hl : ((xs.map fun x => (zs x).map (f x)).flatten).length ≤ LIM)
    (h : ∀ x ∈ xs, ∃ fr1, tg.go (g x) (wipeF fr vs) = some fr1 ∧ it1 fr1 st = .ok (.fix ((zs x).map g1)) st ∧ ∀ y ∈ zs x, ∃ fr2, tg1.go (g1 y) (wipeF fr1 vs1) = some fr2 ∧ te fr2 st = .ok (f x y) st) :
    lc2S it vs tg yesS it1 vs1 tg1 yesS te fr st = .ok ((xs.map fun x => (zs x).map (f x)).flatten) st := by
  unfold lc2S
  rw [hi]
  have := lc2Loop_map (st := st) (tg := tg) (tg1 := tg1) (it1 := it1) (vs1 := vs1) (te := te) (fr0 := wipeF fr vs) g zs g1 f (xs.map g) xs [] [] (by simp) (by simpa using hl) h
  simpa [Re.bind, ItD.len] using this
theorem lcLoop_inv {tg : Tg} {tt : Sh Bool} {te : Sh D} {fr0 : Fr} {ds : List D} (I : Nat → List D → Sto → Prop) (hl : ds.length ≤ LIM)
    (hs : ∀ i d acc st, ds[i]? = some d → I i acc st → acc.length ≤ i → ∃ fr1, tg.go d fr0 = some fr1 ∧ Has (tt fr1 st) fun b st1 => (b = true → Has (te fr1 st1) fun y st2 => I (i + 1) (acc ++ [y]) st2) ∧ (b = false → I (i + 1) acc st1)) :
    ∀ (m i : Nat) (acc : List D) (st : Sto), m + i = ds.length → I i acc st → acc.length ≤ i → Has (lcLoop (.fix ds) tg tt te fr0 m i acc st) fun acc st => I ds.length acc st ∧ acc.length ≤ ds.length
  | 0, i, acc, st, e, hI, ha => by
    have : i = ds.length := by omega
    subst this
    show Has (if (ItD.fix ds).ok st then .ok acc st else .bad) _
    exact ⟨hI, ha⟩
  | m + 1, i, acc, st, e, hI, ha => by
    have hi : i < ds.length := by omega
    have e1 : (ItD.fix ds).at st i = some ds[i] := List.getElem?_eq_getElem hi
    obtain ⟨fr1, h1, h2⟩ := hs i ds[i] acc st (List.getElem?_eq_getElem hi) hI ha
    rw [lcLoop, e1]
    dsimp only
    rw [h1]
    dsimp only
    cases e2 : tt fr1 st with
    | bad => rw [e2] at h2; exact False.elim h2
    | exc _ _ _ => rw [e2] at h2; exact False.elim h2
    | ok b st1 =>
      rw [e2] at h2
      obtain ⟨ht, hf⟩ := (show _ ∧ _ from h2)
      cases b with
      | false => exact lcLoop_inv I hl hs m (i + 1) acc st1 (by omega) (hf rfl) (by omega)
      | true =>
        dsimp only
        have h3 := ht rfl
        cases e3 : te fr1 st1 with
        | bad => rw [e3] at h3; exact False.elim h3
        | exc _ _ _ => rw [e3] at h3; exact False.elim h3
        | ok y st2 =>
          rw [e3] at h3
          dsimp only
          rw [if_pos (by omega)]
          exact lcLoop_inv I hl hs m (i + 1) (acc ++ [y]) st2 (by omega) h3 (by simp; omega)
theorem lcS_inv {it : Si} {vs : List Nat} {tg : Tg} {tt : Sh Bool} {te : Sh D} {ds : List D} {Q : List D → Sto → Prop} (I : Nat → List D → Sto → Prop) (hl : ds.length ≤ LIM) (hi : Has (it fr st) fun j st1 => j = .fix ds ∧ I 0 [] st1)
    (hs : ∀ i d acc st, ds[i]? = some d → I i acc st → acc.length ≤ i → ∃ fr1, tg.go d (wipeF fr vs) = some fr1 ∧ Has (tt fr1 st) fun b st1 => (b = true → Has (te fr1 st1) fun y st2 => I (i + 1) (acc ++ [y]) st2) ∧ (b = false → I (i + 1) acc st1))
    (q : ∀ acc st, I ds.length acc st → acc.length ≤ ds.length → Q acc st) : Has (lcS it vs tg tt te fr st) Q := by
  unfold lcS
  rw [Has_bind]
  refine hi.mono fun j st1 ⟨e, h0⟩ => ?_
  subst e
  exact (lcLoop_inv I hl hs ds.length 0 [] st1 (by simp) h0 (by simp)).mono fun acc st h => q acc st h.1 h.2
/-! loops -/
theorem forLoop_inv {it : ItD} {tg : Tg} {body : Sm} (I : Nat → Fr → Sto → Prop)
    (hs : ∀ i fr st, i < it.len → I i fr st → ∃ d fr1, it.at st i = some d ∧ tg.go d fr = some fr1 ∧ HasS (body fr1 st) (I (i + 1)) R N (I (i + 1))) (hN : ∀ fr st, I it.len fr st → it.ok st = true ∧ N fr st) :
    ∀ (m i : Nat) (fr : Fr) (st : Sto), m + i = it.len → I i fr st → HasS (forLoop it tg body m i fr st) N R B C
  | 0, i, fr, st, e, hI => by
    have : i = it.len := by omega
    subst this
    obtain ⟨h1, h2⟩ := hN fr st hI
    rw [forLoop, if_pos h1]
    exact h2
  | m + 1, i, fr, st, e, hI => by
    obtain ⟨d, fr1, h1, h2, h3⟩ := hs i fr st (by omega) hI
    rw [forLoop, h1]
    dsimp only
    rw [h2]
    dsimp only
    cases e3 : body fr1 st with
    | nx fr2 st2 => rw [e3] at h3; exact forLoop_inv I hs hN m (i + 1) fr2 st2 (by omega) h3
    | ct fr2 st2 => rw [e3] at h3; exact forLoop_inv I hs hN m (i + 1) fr2 st2 (by omega) h3
    | bk fr2 st2 => rw [e3] at h3; exact h3
    | rt d st2 => rw [e3] at h3; exact h3
    | exc _ _ _ => rw [e3] at h3; exact False.elim h3
    | bad => rw [e3] at h3; exact False.elim h3
theorem forM_inv {it : Si} {itd : ItD} {tg : Tg} {body : Sm} (I : Nat → Fr → Sto → Prop) (hi : Has (it fr st) fun j st1 => j = itd ∧ I 0 fr st1)
    (hs : ∀ i fr st, i < itd.len → I i fr st → ∃ d fr1, itd.at st i = some d ∧ tg.go d fr = some fr1 ∧ HasS (body fr1 st) (I (i + 1)) R N (I (i + 1))) (hN : ∀ fr st, I itd.len fr st → itd.ok st = true ∧ N fr st) :
    HasS (forM it tg body fr st) N R B C := by
  unfold forM
  rw [HasS_toS]
  refine hi.mono fun j st1 ⟨e, h0⟩ => ?_
  subst e
  exact forLoop_inv I hs hN j.len 0 fr st1 (by simp) h0
end
section
variable {fr : Fr} {st : Sto}
/-- a loop that goes on to its end -/
theorem forM_nx {it : Si} {itd : ItD} {tg : Tg} {body : Sm} {st1 : Sto} (I : Nat → Fr → Sto → Prop) (hi : it fr st = .ok itd st1) (h0 : I 0 fr st1)
    (hs : ∀ i fr st, i < itd.len → I i fr st → ∃ d fr1 fr2 st2, itd.at st i = some d ∧ tg.go d fr = some fr1 ∧ (body fr1 st = .nx fr2 st2 ∨ body fr1 st = .ct fr2 st2) ∧ I (i + 1) fr2 st2) (hN : ∀ fr st, I itd.len fr st → itd.ok st = true) :
    ∃ fr' st', forM it tg body fr st = .nx fr' st' ∧ I itd.len fr' st' := by
  have h : HasS (forM it tg body fr st) (fun fr' st' => forM it tg body fr st = .nx fr' st' ∧ I itd.len fr' st') (fun _ _ => False) no2 no2 := by
    have h1 : HasS (forM it tg body fr st) (I itd.len) (fun _ _ => False) no2 no2 := forM_inv I (by rw [hi]; exact ⟨rfl, h0⟩) (fun i fr st hlt hI => by
      obtain ⟨d, fr1, fr2, st2, e1, e2, e3, e4⟩ := hs i fr st hlt hI
      refine ⟨d, fr1, e1, e2, ?_⟩
      rcases e3 with e3 | e3
      · rw [e3]; exact e4
      · rw [e3]; exact e4) fun fr st hI => ⟨hN fr st hI, hI⟩
    cases e : forM it tg body fr st with
    | nx fr' st' => rw [e] at h1; exact ⟨rfl, h1⟩
    | _ => rw [e] at h1; exact False.elim h1
  cases e : forM it tg body fr st with
  | nx fr' st' => rw [e] at h; exact ⟨fr', st', h⟩
  | _ => rw [e] at h; exact False.elim h
theorem lcS_ex {it : Si} {vs : List Nat} {tg : Tg} {tt : Sh Bool} {te : Sh D} {ds : List D} {st1 : Sto} (I : Nat → List D → Sto → Prop) (hl : ds.length ≤ LIM) (hi : it fr st = .ok (.fix ds) st1) (h0 : I 0 [] st1)
    (hs : ∀ i d acc st, ds[i]? = some d → I i acc st → acc.length ≤ i → ∃ fr1 b st2, tg.go d (wipeF fr vs) = some fr1 ∧ tt fr1 st = .ok b st2 ∧ (b = true → ∃ y st3, te fr1 st2 = .ok y st3 ∧ I (i + 1) (acc ++ [y]) st3) ∧ (b = false → I (i + 1) acc st2)) :
    ∃ acc st', lcS it vs tg tt te fr st = .ok acc st' ∧ I ds.length acc st' ∧ acc.length ≤ ds.length := by
  have h : Has (lcS it vs tg tt te fr st) fun acc st' => I ds.length acc st' ∧ acc.length ≤ ds.length := lcS_inv I hl (by rw [hi]; exact ⟨rfl, h0⟩) (fun i d acc st e hI ha => by
    obtain ⟨fr1, b, st2, e1, e2, e3, e4⟩ := hs i d acc st e hI ha
    refine ⟨fr1, e1, ?_⟩
    rw [e2]
    exact ⟨fun hb => by
      obtain ⟨y, st3, q1, q2⟩ := e3 hb
      rw [q1]; exact q2, e4⟩) fun acc st h1 h2 => ⟨h1, h2⟩
  cases e : lcS it vs tg tt te fr st with
  | ok acc st' => rw [e] at h; exact ⟨acc, st', rfl, h⟩
  | _ => rw [e] at h; exact False.elim h
end
/-! ### data -/
abbrev T (xs : List Str) : D := .tup (xs.map .str)
abbrev L (xs : List Str) : D := .lst (xs.map .str)
section
variable {st : Sto}
theorem hasRef_T {n : Nat} {xs : List Str} : hasRef (n + 2) (T xs) = false := by simp [hasRef, List.any_map]; 
theorem hasRef_TT {n : Nat} {xs : List (List Str)} : hasRef (n + 3) (.tup (xs.map T)) = false := by simp [hasRef, List.any_map]
theorem strs_map : ∀ xs : List Str, strs? (xs.map .str) = some xs
  | [] => rfl
  | x :: xs => by rw [List.map_cons, strs?, strs_map xs]; rfl
theorem ints_map : ∀ xs : List Int, ints? (xs.map .int) = some xs
  | [] => rfl
  | x :: xs => by rw [List.map_cons, ints?, ints_map xs]; rfl
theorem bls_map : ∀ xs : List Bool, bls? (xs.map .bl) = some xs
  | [] => rfl
  | x :: xs => by rw [List.map_cons, bls?, bls_map xs]; rfl
theorem bls_mapF {α : Type} (f : α → Bool) (xs : List α) : bls? (xs.map fun x => D.bl (f x)) = some (xs.map f) := by
  rw [← bls_map, List.map_map]; rfl
theorem ints_mapF {α : Type} (f : α → Int) (xs : List α) : ints? (xs.map fun x => D.int (f x)) = some (xs.map f) := by
  rw [← ints_map, List.map_map]; rfl
theorem strs_mapF {α : Type} (f : α → Str) (xs : List α) : strs? (xs.map fun x => D.str (f x)) = some (xs.map f) := by
  rw [← strs_map, List.map_map]; rfl
theorem mapM_same {f : D → Option D} {xs : List D} (h : ∀ x ∈ xs, f x = some x) : xs.mapM f = some xs := by
  induction xs with
  | nil => rfl
  | cons x xs ih => rw [List.mapM_cons, h x List.mem_cons_self, ih fun y hy => h y (List.mem_cons_of_mem _ hy)]; rfl
/-- data that holds no reference stays as it is -/
theorem res_same (n : Nat) (st : Sto) : ∀ (f : Nat) (d : D), hasRef f d = false → res n st f d = some d
  | 0, d, h => by cases h
  | f + 1, d, h => by
    cases d with
    | tup ds =>
      have h' : ds.any (hasRef f) = false := h
      have e := mapM_same (f := res n st f) (xs := ds) fun x hx => res_same n st f x (by
        rw [List.any_eq_false] at h'
        simpa using h' x hx)
      show (ds.mapM (res n st f)).map D.tup = _
      rw [e]; rfl
    | lst ds =>
      have h' : ds.any (hasRef f) = false := h
      have e := mapM_same (f := res n st f) (xs := ds) fun x hx => res_same n st f x (by
        rw [List.any_eq_false] at h'
        simpa using h' x hx)
      show (ds.mapM (res n st f)).map D.lst = _
      rw [e]; rfl
    | ref i => cases h
    | _ => rfl
theorem finD_nil {d : D} {st' : Sto} (h : hasRef FUEL d = false) : finD [] d st' = .ok d [] := by
  unfold finD
  by_cases e : st'.length = ([] : Sto).length
  · have : st' = [] := List.eq_nil_of_length_eq_zero e
    subst this
    rfl
  · rw [if_neg e, res_same _ _ _ _ h]
    rfl
/-- what stood before, none of it holding references, stays; what was made is let go -/
theorem finD_cut {d : D} {st st1 rest : Sto} (hl : st1.length = st.length) (hd : hasRef FUEL d = false) (hc : ∀ ds, Cell.lst ds ∈ st1 → ds.any (hasRef FUEL) = false) : finD st d (st1 ++ rest) = .ok d st1 := by
  unfold finD
  by_cases h : (st1 ++ rest).length = st.length
  · rw [if_pos h]
    have : rest = [] := by
      rw [List.length_append, hl] at h
      exact List.eq_nil_of_length_eq_zero (by omega)
    rw [this, List.append_nil]
  · rw [if_neg h, res_same _ _ _ _ hd]
    have e : ((st1 ++ rest).take st.length).mapM (resC st.length (st1 ++ rest)) = some st1 := by
      rw [← hl, List.take_left]
      have key : ∀ (cs : Sto), (∀ ds, Cell.lst ds ∈ cs → ds.any (hasRef FUEL) = false) → cs.mapM (resC st1.length (st1 ++ rest)) = some cs := by
        intro cs
        induction cs with
        | nil => intro _; rfl
        | cons c cs ih =>
          intro hc
          cases c with
          | lst ds =>
            have h1 := hc ds List.mem_cons_self
            have e1 := mapM_same (f := res st1.length (st1 ++ rest) FUEL) (xs := ds) fun x hx => res_same _ _ _ _ (by
              rw [List.any_eq_false] at h1
              simpa using h1 x hx)
            rw [List.mapM_cons, ih fun es he => hc es (List.mem_cons_of_mem _ he)]
            show (((ds.mapM (res st1.length (st1 ++ rest) FUEL)).map Cell.lst).bind fun y => _) = _
            rw [e1]
            rfl
      exact key st1 hc
    rw [e]
/-- a list made here is handed back as data -/
theorem finD_own {ds : List D} (h : ds.any (hasRef 39) = false) : finD [] (.ref 0) [.lst ds] = .ok (.lst ds) [] := by
  unfold finD
  rw [if_neg (by simp)]
  have e := mapM_same (f := res 0 [.lst ds] 39) (xs := ds) fun x hx => res_same 0 _ 39 x (by
    rw [List.any_eq_false] at h
    simpa using h x hx)
  have e2 : res ([] : Sto).length [.lst ds] FUEL (.ref 0) = some (.lst ds) := by
    show (if 0 < 0 then some (D.ref 0) else (ds.mapM (res 0 [.lst ds] 39)).map D.lst) = _
    rw [if_neg (by omega), e]
    rfl
  rw [e2]
  rfl
end
/-! ### the combinators, for simp -/
section
variable {fr : Fr} {st : Sto} {a b c : Sh D} {m m2 : Sh (List D)} {t u : Sh Bool} {x y z : Sm} {α β : Type}
@[simp] theorem q_fnF {N : Nat} {ds : List D} : fnF N x ds st = match x (startF N ds) st with
  | .nx _ st' => finD st .non st'
  | .rt d st' => finD st d st'
  | _ => .bad := rfl
@[simp] theorem q_startF {N : Nat} {ds : List D} : startF N ds = ds.map some ++ List.replicate (N - ds.length) none := rfl
@[simp] theorem q_bok {v : α} {f : α → Sto → Re β} : (Re.ok v st).bind f = f v st := rfl
@[simp] theorem q_bbad {f : α → Sto → Re β} : (Re.bad : Re α).bind f = .bad := rfl
@[simp] theorem q_sok {v : α} {f : α → Sto → SRe} : (Re.ok v st).toS f = f v st := rfl
@[simp] theorem q_sbad {f : α → Sto → SRe} : (Re.bad : Re α).toS f = .bad := rfl
@[simp] theorem q_seqM : seqM x y fr st = (x fr st).seq y := rfl
@[simp] theorem q_nx {f : Sm} : (SRe.nx fr st).seq f = f fr st := rfl
@[simp] theorem q_rt {f : Sm} {d : D} : (SRe.rt d st).seq f = .rt d st := rfl
@[simp] theorem q_bk {f : Sm} : (SRe.bk fr st).seq f = .bk fr st := rfl
@[simp] theorem q_ct {f : Sm} : (SRe.ct fr st).seq f = .ct fr st := rfl
@[simp] theorem q_bad {f : Sm} : SRe.bad.seq f = .bad := rfl
@[simp] theorem q_badM : badM fr st = .bad := rfl
@[simp] theorem q_skipM : skipM fr st = .nx fr st := rfl
@[simp] theorem q_ifM : ifM t x y fr st = (t fr st).toS fun b st1 => match b with
  | true => x fr st1
  | false => y fr st1 := rfl
@[simp] theorem q_retM : retM a fr st = (a fr st).toS fun d st1 => .rt d st1 := rfl
@[simp] theorem q_dropM : dropM a fr st = (a fr st).toS fun _ st1 => .nx fr st1 := rfl
@[simp] theorem q_asgS {tg : Tg} : asgS tg a fr st = (a fr st).toS fun d st1 => match tg.go d fr with
  | some fr' => .nx fr' st1
  | none => .bad := rfl
@[simp] theorem q_nameT {i : Nat} {d : D} : (nameT i).go d fr = some (fr.set i (some d)) := rfl
@[simp] theorem q_tupT {n : Nat} {go : List D → Fr → Option Fr} {ws : List Nat} {ds : List D} : (tupT n go ws).go (.tup ds) fr = if ds.length = n then go ds fr else none := rfl
@[simp] theorem q_consT {tg : Tg} {go : List D → Fr → Option Fr} {d : D} {ds : List D} : consT tg go (d :: ds) fr = (tg.go d fr).bind fun fr' => go ds fr' := rfl
@[simp] theorem q_nilT : nilT [] fr = some fr := rfl
@[simp] theorem q_vS {i : Nat} : vS i fr st = match fr[i]? with
  | some (some d) => .ok d st
  | _ => .bad := rfl
@[simp] theorem q_cS {d : D} : cS d fr st = .ok d st := rfl
@[simp] theorem q_op2S {g : Sto → D → D → Re D} : op2S g a b fr st = (a fr st).bind fun x st1 => (b fr st1).bind fun y st2 => g st2 x y := rfl
@[simp] theorem q_op1S {g : Sto → D → Re D} : op1S g a fr st = (a fr st).bind fun x st1 => g st1 x := rfl
@[simp] theorem q_nilS : nilS fr st = .ok [] st := rfl
@[simp] theorem q_consS : consS a m fr st = (a fr st).bind fun x st1 => (m fr st1).bind fun xs st2 => .ok (x :: xs) st2 := rfl
@[simp] theorem q_callS {g : Sto → List D → Re D} : callS g m fr st = (m fr st).bind fun xs st1 => g st1 xs := rfl
@[simp] theorem q_truS {g : Sto → D → Re Bool} : truS g a fr st = (a fr st).bind fun x st1 => g st1 x := rfl
@[simp] theorem q_toB {b : Bool} : toB st (.bl b) = .ok b st := rfl
@[simp] theorem q_andS : andS t u fr st = (t fr st).bind fun x st1 => match x with
  | true => u fr st1
  | false => .ok false st1 := rfl
@[simp] theorem q_orS : orS t u fr st = (t fr st).bind fun x st1 => match x with
  | true => .ok true st1
  | false => u fr st1 := rfl
@[simp] theorem q_notS : notS t fr st = (t fr st).bind fun x st1 => .ok (!x) st1 := rfl
@[simp] theorem q_ifS {p q : Sh α} : ifS t p q fr st = (t fr st).bind fun x st1 => match x with
  | true => p fr st1
  | false => q fr st1 := rfl
@[simp] theorem q_blS : blS t fr st = (t fr st).bind fun x st1 => .ok (.bl x) st1 := rfl
@[simp] theorem q_andV : andV a b fr st = (a fr st).bind fun x st1 => match x with
  | .bl true => b fr st1
  | .bl false => .ok (.bl false) st1
  | _ => .bad := rfl
@[simp] theorem q_orV : orV a b fr st = (a fr st).bind fun x st1 => match x with
  | .bl true => .ok (.bl true) st1
  | .bl false => b fr st1
  | _ => .bad := rfl
@[simp] theorem q_tupS : tupS m fr st = (m fr st).bind fun xs st1 => if xs.length ≤ LIM then .ok (.tup xs) st1 else .bad := rfl
@[simp] theorem q_lstS : lstS m fr st = (m fr st).bind fun xs st1 => if xs.length ≤ LIM then .ok (.lst xs) st1 else .bad := rfl
@[simp] theorem q_ownS : ownS m fr st = (m fr st).bind fun xs st1 => if xs.length ≤ LIM then .ok (.ref st1.length) (st1 ++ [.lst xs]) else .bad := rfl
@[simp] theorem q_starS : starS a m fr st = (a fr st).bind fun x st1 => match asQ st1 x with
  | some xs => (m fr st1).bind fun ys st2 => .ok (xs ++ ys) st2
  | none => .bad := rfl
@[simp] theorem q_frzS : frzS m fr st = (m fr st).bind fun acc st1 => .ok (.lst acc) st1 := rfl
@[simp] theorem q_newS : newS m fr st = (m fr st).bind fun acc st1 => .ok (.ref st1.length) (st1 ++ [.lst acc]) := rfl
@[simp] theorem q_yesS : yesS fr st = .ok true st := rfl
@[simp] theorem q_chainS {g1 g2 : Sto → D → D → Re D} : chainS g1 g2 a b c fr st = (a fr st).bind fun x st1 => (b fr st1).bind fun y st2 => (g1 st2 x y).bind fun z st3 => match z with
  | .bl true => (c fr st3).bind fun w st4 => g2 st4 y w
  | .bl false => .ok (.bl false) st3
  | _ => .bad := rfl
@[simp] theorem q_slS {l h : Sh (Option Int)} : slS a l h fr st = (a fr st).bind fun x st1 => (l fr st1).bind fun l st2 => (h fr st2).bind fun h st3 => oSl st3 x l h := rfl
@[simp] theorem q_noP : noP fr st = .ok none st := rfl
@[simp] theorem q_partS : partS a fr st = (a fr st).bind fun x st1 => match x with
  | .int i => .ok (some i) st1
  | _ => .bad := rfl
@[simp] theorem q_parM {is : List Nat} : parM is m fr st = (m fr st).toS fun ds st1 => match is, ds with
  | [i, j], [a, b] => .nx ((fr.set i (some a)).set j (some b)) st1
  | [i, j, l], [a, b, d] => .nx (((fr.set i (some a)).set j (some b)).set l (some d)) st1
  | _, _ => .bad := rfl
@[simp] theorem q_joinS : joinS a b fr st = (a fr st).bind fun x st1 => match x with
  | .str s => (b fr st1).bind fun y st2 => joinD st2 s y
  | _ => .bad := rfl
@[simp] theorem q_callP {F : Fn} {dfl : List D} : callP F dfl m fr st = (m fr st).bind fun ds st1 => callP1 F dfl ds st1 := rfl
@[simp] theorem q_callP0 {F : Fn} {dfl ds : List D} : callP1 F dfl ds [] = noX (F (ds ++ dfl) []) := rfl
@[simp] theorem q_callM {F : Fn} {dfl : List D} : callM F dfl m fr st = (m fr st).bind fun ds st1 => noX (F (ds ++ dfl) st1) := rfl
@[simp] theorem q_noX {v : α} : noX (.ok v st) = .ok v st := rfl
@[simp] theorem q_c1 {g : Sto → D → Re D} {d : D} : c1 g st [d] = g st d := rfl
@[simp] theorem q_c12a {g : Sto → D → Re D} {g2 : Sto → D → D → Re D} {d : D} : c12 g g2 st [d] = g st d := rfl
@[simp] theorem q_c12b {g : Sto → D → Re D} {g2 : Sto → D → D → Re D} {d e : D} : c12 g g2 st [d, e] = g2 st d e := rfl
@[simp] theorem q_c2 {g2 : Sto → D → D → Re D} {d e : D} : c2 g2 st [d, e] = g2 st d e := rfl
@[simp] theorem q_fin0 {d : D} : finD [] d [] = .ok d [] := rfl
@[simp] theorem q_itS : itS a fr st = (a fr st).bind fun x st1 => itD st1 x := rfl
@[simp] theorem q_itTup {ds : List D} : itD st (.tup ds) = .ok (.fix ds) st := rfl
@[simp] theorem q_itLst {ds : List D} : itD st (.lst ds) = .ok (.fix ds) st := rfl
@[simp] theorem q_itStr {z : Str} : itD st (.str z) = .ok (.fix (z.cps.toList.map fun c => .str ⟨#[c]⟩)) st := rfl
theorem q_itR1 : itR1 m fr st = (m fr st).bind fun ds st1 => match ds with
  | [.int j] => if lohi j then .ok (.fix (rngL 0 j.toNat)) st1 else .bad
  | _ => .bad := rfl
theorem q_itR2 : itR2 m fr st = (m fr st).bind fun ds st1 => match ds with
  | [.int i, .int j] => if lohi i && lohi j then .ok (.fix (rngL i (j - i).toNat)) st1 else .bad
  | _ => .bad := rfl
@[simp] theorem q_itZip : itZip m fr st = (m fr st).bind fun ds st1 => match ds with
  | [x, y] => zipD st1 x y
  | _ => .bad := rfl
@[simp] theorem q_itEnum : itEnum m fr st = (m fr st).bind fun ds st1 => match ds with
  | [.lst ds] => .ok (.fix (ds.mapIdx fun i x => .tup [.int i, x])) st1
  | [.tup ds] => .ok (.fix (ds.mapIdx fun i x => .tup [.int i, x])) st1
  | _ => .bad := rfl
@[simp] theorem q_zipT {ds es : List D} : zipD st (.tup ds) (.tup es) = .ok (.fix (List.zipWith (fun x y => .tup [x, y]) ds es)) st := rfl
@[simp] theorem q_zipL {ds es : List D} : zipD st (.lst ds) (.lst es) = .ok (.fix (List.zipWith (fun x y => .tup [x, y]) ds es)) st := rfl
@[simp] theorem q_asL1 {ds : List D} : asL st (.lst ds) = some ds := rfl
@[simp] theorem q_asL2 {ds : List D} {cs : Sto} : asL (.lst ds :: cs) (.ref 0) = some ds := rfl
@[simp] theorem q_asL3 {ds es : List D} {cs : Sto} : asL (.lst es :: .lst ds :: cs) (.ref 1) = some ds := rfl
@[simp] theorem q_asQ1 {ds : List D} : asQ st (.tup ds) = some ds := rfl
@[simp] theorem q_asQ2 {ds : List D} : asQ st (.lst ds) = some ds := rfl
@[simp] theorem q_asQ3 {ns : List Int} : asQ st (.scr ns) = some (ns.map .int) := rfl
@[simp] theorem q_asQ4 {i : Nat} : asQ st (.ref i) = asL st (.ref i) := rfl
@[simp] theorem q_sl1 {ds : List D} {lo hi : Option Int} : oSl st (.tup ds) lo hi = .ok (.tup (Pl.cutD ds lo hi)) st := rfl
@[simp] theorem q_sl2 {ds : List D} {lo hi : Option Int} : oSl st (.lst ds) lo hi = .ok (.lst (Pl.cutD ds lo hi)) st := rfl
@[simp] theorem q_sl3 {ns : List Int} {lo hi : Option Int} : oSl st (.scr ns) lo hi = .ok (.lst ((Pl.cutD ns lo hi).map .int)) st := rfl
@[simp] theorem q_app {e : Sh D} {v : D} {i : Nat} (h : a fr st = .ok (.ref i) st) (h2 : e fr st = .ok v st) : appS a e fr st = appD st i v := by
  unfold appS
  rw [h]
  simp [h2]
theorem lohi_ok {n : Int} (h0 : -100000 ≤ n) (h : n ≤ 100000) : lohi n = true := by
  unfold lohi
  simp only [decide_eq_true_eq]
  omega
theorem rng_map {n : Nat} : rngL 0 n = (List.range n).map fun i : Nat => D.int (i : Int) := by
  unfold rngL
  simp
theorem itR1_nat {n : Nat} {st1 : Sto} (h : n ≤ 100000) (e : m fr st = .ok [.int (n : Int)] st1) : itR1 m fr st = .ok (.fix ((List.range n).map fun i : Nat => D.int (i : Int))) st1 := by
  rw [q_itR1, e, q_bok]
  dsimp only
  rw [if_pos (lohi_ok (by omega) (by omega)), Int.toNat_natCast, rng_map]
theorem itR1_int {j : Int} {st1 : Sto} (h0 : -100000 ≤ j) (h : j ≤ 100000) (e : m fr st = .ok [.int j] st1) : itR1 m fr st = .ok (.fix ((List.range j.toNat).map fun i : Nat => D.int (i : Int))) st1 := by
  rw [q_itR1, e, q_bok]
  dsimp only
  rw [if_pos (lohi_ok (by omega) (by omega)), rng_map]
theorem itR2_int {i j : Int} {st1 : Sto} (h0 : -100000 ≤ i) (h : i ≤ 100000) (h1 : -100000 ≤ j) (h2 : j ≤ 100000) (e : m fr st = .ok [.int i, .int j] st1) : itR2 m fr st = .ok (.fix ((List.range (j - i).toNat).map fun k : Nat => D.int (i + (k : Int)))) st1 := by
  rw [q_itR2, e, q_bok]
  dsimp only
  rw [lohi_ok h0 h, lohi_ok h1 h2, Bool.and_self, if_pos rfl, rngL]
end
end Pl
set_option Elab.async false
set_option linter.all false
set_option maxRecDepth 100000
set_option maxHeartbeats 2000000
/-! P14: a feed that is drawn from (the laws' own draws, whatever their numbers). -/
namespace Pl
open PySem PySem.Spec PyProof.Rows L2 Pg
structure DrawC where
  (d0 q1 a1 b1 q2 a2 b2 q3 : Int)
def DrawC.ok (c : DrawC) : Prop := (0 < c.q1 ∧ c.q1 < 2 ^ 31) ∧ (0 ≤ c.a1 ∧ c.a1 ≤ 1000000) ∧ (0 ≤ c.b1 ∧ c.b1 ≤ 1000000) ∧ (0 < c.q2 ∧ c.q2 < 2 ^ 31) ∧ (0 ≤ c.a2 ∧ c.a2 ≤ 1000000) ∧ (0 ≤ c.b2 ∧ c.b2 ≤ 1000000) ∧ (0 < c.q3 ∧ c.q3 < 2 ^ 31) ∧ (0 ≤ c.d0 ∧ c.d0 < 1000)
def drawM (c : DrawC) : Sm := seqM (setM (op2S oAdd (op2S oIx (vS 0) (cS (.int 3))) (cS (.int 1))) (vS 0) (cS (.int 3)))
  (seqM (ifM (truS toB (op2S oGt (op2S oIx (vS 0) (cS (.int 2))) (cS (.int 0)))) (seqM (asgS (nameT 5) (op2S oMod (callS (c1 intD) (consS (op2S oIx (vS 0) (cS (.int 2))) (nilS))) (vS 1)))
  (seqM (setM (op2S oFdiv (op2S oIx (vS 0) (cS (.int 2))) (vS 1)) (vS 0) (cS (.int 2)))
  (retM (vS 5)))) (skipM))
  (seqM (asgS (nameT 2) (op2S oIx (vS 0) (cS (.int 1))))
  (seqM (setM (op2S oAdd (vS 2) (cS (.int 1))) (vS 0) (cS (.int 1)))
  (seqM (asgS (nameT 3) (ifS (truS toB (op2S oNe (op2S oIx (vS 0) (cS (.int 0))) (lstS (nilS)))) (op2S oIx (op2S oIx (vS 0) (cS (.int 0))) (op2S oMod (callS (c1 intD) (consS (vS 2) (nilS))) (callS (c1 lenD) (consS (op2S oIx (vS 0) (cS (.int 0))) (nilS))))) (cS (.int c.d0))))
  (seqM (ifM (andS (truS toB (op2S oGe (vS 3) (op2S oPow (cS (.int 10)) (cS (.int 18))))) (truS toB (op2S oLt (vS 2) (callS (c1 lenD) (consS (op2S oIx (vS 0) (cS (.int 0))) (nilS)))))) (seqM (setM (op2S oFdiv (vS 3) (vS 1)) (vS 0) (cS (.int 2)))
  (retM (op2S oMod (callS (c1 intD) (consS (vS 3) (nilS))) (vS 1)))) (skipM))
  (seqM (asgS (nameT 4) (op2S oMod (callS (c1 intD) (consS (op2S oPow (op2S oAdd (op2S oAdd (op2S oMod (callS (c1 intD) (consS (vS 3) (nilS))) (cS (.int c.q1))) (op2S oMul (cS (.int c.a1)) (op2S oIx (vS 0) (cS (.int 3))))) (cS (.int c.b1))) (cS (.int 3))) (nilS))) (cS (.int c.q2))))
  (seqM (asgS (nameT 4) (op2S oMod (callS (c1 intD) (consS (op2S oPow (op2S oAdd (op2S oAdd (vS 4) (op2S oMul (op2S oMul (cS (.int c.a2)) (op2S oIx (vS 0) (cS (.int 3)))) (op2S oIx (vS 0) (cS (.int 3))))) (cS (.int c.b2))) (cS (.int 5))) (nilS))) (cS (.int c.q3))))
  (retM (op2S oMod (callS (c1 intD) (consS (op2S oFdiv (vS 4) (cS (.int 64))) (nilS))) (vS 1))))))))))
/-- the feed's cell -/
abbrev feed (ns : List Int) (a b n : Int) : Cell := .lst [.lst (ns.map .int), .int a, .int b, .int n]
/-- the store that begins with a feed of which at most K numbers were drawn -/
def Fd (K : Int) (cs st : Sto) : Prop := ∃ ns a b n, st = feed ns a b n :: cs ∧ ns.length ≤ 63 ∧ 0 ≤ a ∧ 0 ≤ b ∧ 0 ≤ n ∧ n ≤ K
theorem Fd.more {K K' : Int} {cs st : Sto} (h : Fd K cs st) (hk : K ≤ K') : Fd K' cs st := by
  obtain ⟨ns, a, b, n, h1, h2, h3, h4, h5, h6⟩ := h
  exact ⟨ns, a, b, n, h1, h2, h3, h4, h5, by omega⟩
section
variable {fr : Fr} {st : Sto} {e o i : Sh D}
@[simp] theorem q_setM : setM e o i fr st = (e fr st).toS fun v st1 => (o fr st1).toS fun x st2 => (i fr st2).toS fun y st3 => match setIx st3 x y v with
  | some st4 => .nx fr st4
  | none => .bad := rfl
@[simp] theorem q_intD {i : Int} : intD st (.int i) = .ok (.int i) st := rfl
theorem f_ix {ns : List Int} {a b n : Int} {cs : Sto} (k : Int) (d : D) (h : atI [.lst (ns.map .int), .int a, .int b, .int n] k = some d) : oIx (feed ns a b n :: cs) (.ref 0) (.int k) = .ok d (feed ns a b n :: cs) := by
  simp [oIx, h]
@[simp] theorem f_ix0 {ns : List Int} {a b n : Int} {cs : Sto} : oIx (feed ns a b n :: cs) (.ref 0) (.int 0) = .ok (.lst (ns.map .int)) (feed ns a b n :: cs) := f_ix 0 _ (by simp [atI, ixN])
@[simp] theorem f_ix1 {ns : List Int} {a b n : Int} {cs : Sto} : oIx (feed ns a b n :: cs) (.ref 0) (.int 1) = .ok (.int a) (feed ns a b n :: cs) := f_ix 1 _ (by simp [atI, ixN])
@[simp] theorem f_ix2 {ns : List Int} {a b n : Int} {cs : Sto} : oIx (feed ns a b n :: cs) (.ref 0) (.int 2) = .ok (.int b) (feed ns a b n :: cs) := f_ix 2 _ (by simp [atI, ixN])
@[simp] theorem f_ix3 {ns : List Int} {a b n : Int} {cs : Sto} : oIx (feed ns a b n :: cs) (.ref 0) (.int 3) = .ok (.int n) (feed ns a b n :: cs) := f_ix 3 _ (by simp [atI, ixN])
@[simp] theorem f_set1 {ns : List Int} {a b n v : Int} {cs : Sto} : setIx (feed ns a b n :: cs) (.ref 0) (.int 1) (.int v) = some (feed ns v b n :: cs) := by simp [setIx, ixN]
@[simp] theorem f_set2 {ns : List Int} {a b n v : Int} {cs : Sto} : setIx (feed ns a b n :: cs) (.ref 0) (.int 2) (.int v) = some (feed ns a v n :: cs) := by simp [setIx, ixN]
@[simp] theorem f_set3 {ns : List Int} {a b n v : Int} {cs : Sto} : setIx (feed ns a b n :: cs) (.ref 0) (.int 3) (.int v) = some (feed ns a b v :: cs) := by simp [setIx, ixN]
theorem toPys_ints : ∀ ns : List Int, toPys st (ns.map .int) = some (ns.map .int)
  | [] => by simp [toPys]
  | n :: ns => by rw [List.map_cons, toPys, toPys_ints ns]; simp [toPy]
theorem lay_ints : ∀ ns : List Int, PyData.canLayAll0 (ns.map .int) = true
  | [] => by simp [PyData.canLayAll0]
  | n :: ns => by rw [List.map_cons, PyData.canLayAll0, lay_ints ns]; simp [PyData.canLay0]
theorem depth_ints : ∀ ns : List Int, PyData.depthAll (ns.map .int) = 0
  | [] => by simp [PyData.depthAll]
  | n :: ns => by rw [List.map_cons, PyData.depthAll, depth_ints ns]; simp [PyData.depth]
theorem ne_nil {ns : List Int} : oNe st (.lst (ns.map .int)) (.lst []) = .ok (.bl (decide (ns ≠ []))) st := by
  have e1 : toPy1 st (.lst (ns.map .int)) = some (.list (ns.map .int)) := by simp [toPy1, toPy, toPys_ints]
  have e2 : toPy1 st (.lst []) = some (.list []) := by simp [toPy1, toPy, toPys]
  have s1 : SeqAt.shaped (.list (ns.map .int)) = true := by simp [SeqAt.shaped, PyData.canLay0, lay_ints, PyData.depth, depth_ints]
  have s2 : SeqAt.shaped (.list []) = true := by simp [SeqAt.shaped, PyData.canLay0, PyData.canLayAll0, PyData.depth, PyData.depthAll]
  have e3 : PyData.eqv (.list (ns.map .int)) (.list []) = decide (ns = []) := by
    cases ns with
    | nil => simp [PyData.eqv, PyData.eqvAll]
    | cons n ns => simp [PyData.eqv, PyData.eqvAll]
  unfold oNe eqD
  simp [e1, e2, s1, s2, e3]
theorem log_lt {k : Nat} (h : k < 2 ^ 64) : k.log2 < 64 := by
  rcases Nat.eq_zero_or_pos k with rfl | hp
  · decide
  · exact (Nat.log2_lt (by omega)).mpr h
theorem mul_small {i j : Int} (h1 : i.natAbs < 2 ^ 64) (h2 : j.natAbs < 2 ^ 64) : mulOk i j = true := by
  have a := log_lt h1
  have b := log_lt h2
  unfold mulOk
  simp only [decide_eq_true_eq]
  omega
theorem mul_at {i j : Int} (h1 : i.natAbs < 2 ^ 64) (h2 : j.natAbs < 2 ^ 64) : oMul st (.int i) (.int j) = .ok (.int (i * j)) st := by
  simp [oMul, mul_small h1 h2]
theorem mod_at {i j : Int} (h : 0 < j) : oMod st (.int i) (.int j) = .ok (.int (i % j)) st := by simp [oMod, h]
theorem div_at {i j : Int} (h : 0 < j) (h2 : j < 2 ^ 63) : oFdiv st (.int i) (.int j) = .ok (.int (i / j)) st := by
  have := log_lt (k := j.natAbs) (by omega)
  unfold oFdiv
  simp only
  rw [if_pos ⟨h, by omega⟩]
theorem pow_at {i : Int} {k : Nat} (h : i.natAbs < 2 ^ 64) (hk : k ≤ 1000) : oPow st (.int i) (.int k) = .ok (.int (i ^ k)) st := by
  unfold oPow
  simp only
  rw [if_pos ⟨by omega, by omega, h⟩, Int.toNat_natCast]
end
/-- the statements of a draw, one by one -/
def dr1 : Sm := setM (op2S oAdd (op2S oIx (vS 0) (cS (.int 3))) (cS (.int 1))) (vS 0) (cS (.int 3))
def dr2 : Sm := ifM (truS toB (op2S oGt (op2S oIx (vS 0) (cS (.int 2))) (cS (.int 0)))) (seqM (asgS (nameT 5) (op2S oMod (callS (c1 intD) (consS (op2S oIx (vS 0) (cS (.int 2))) (nilS))) (vS 1)))
  (seqM (setM (op2S oFdiv (op2S oIx (vS 0) (cS (.int 2))) (vS 1)) (vS 0) (cS (.int 2)))
  (retM (vS 5)))) (skipM)
def dr3 : Sm := asgS (nameT 2) (op2S oIx (vS 0) (cS (.int 1)))
def dr4 : Sm := setM (op2S oAdd (vS 2) (cS (.int 1))) (vS 0) (cS (.int 1))
def dr5 (c : DrawC) : Sm := asgS (nameT 3) (ifS (truS toB (op2S oNe (op2S oIx (vS 0) (cS (.int 0))) (lstS (nilS)))) (op2S oIx (op2S oIx (vS 0) (cS (.int 0))) (op2S oMod (callS (c1 intD) (consS (vS 2) (nilS))) (callS (c1 lenD) (consS (op2S oIx (vS 0) (cS (.int 0))) (nilS))))) (cS (.int c.d0)))
def dr6 : Sm := ifM (andS (truS toB (op2S oGe (vS 3) (op2S oPow (cS (.int 10)) (cS (.int 18))))) (truS toB (op2S oLt (vS 2) (callS (c1 lenD) (consS (op2S oIx (vS 0) (cS (.int 0))) (nilS)))))) (seqM (setM (op2S oFdiv (vS 3) (vS 1)) (vS 0) (cS (.int 2)))
  (retM (op2S oMod (callS (c1 intD) (consS (vS 3) (nilS))) (vS 1)))) (skipM)
def dr7 (c : DrawC) : Sm := asgS (nameT 4) (op2S oMod (callS (c1 intD) (consS (op2S oPow (op2S oAdd (op2S oAdd (op2S oMod (callS (c1 intD) (consS (vS 3) (nilS))) (cS (.int c.q1))) (op2S oMul (cS (.int c.a1)) (op2S oIx (vS 0) (cS (.int 3))))) (cS (.int c.b1))) (cS (.int 3))) (nilS))) (cS (.int c.q2)))
def dr8 (c : DrawC) : Sm := asgS (nameT 4) (op2S oMod (callS (c1 intD) (consS (op2S oPow (op2S oAdd (op2S oAdd (vS 4) (op2S oMul (op2S oMul (cS (.int c.a2)) (op2S oIx (vS 0) (cS (.int 3)))) (op2S oIx (vS 0) (cS (.int 3))))) (cS (.int c.b2))) (cS (.int 5))) (nilS))) (cS (.int c.q3)))
def dr9 : Sm := retM (op2S oMod (callS (c1 intD) (consS (op2S oFdiv (vS 4) (cS (.int 64))) (nilS))) (vS 1))
theorem draw_parts (c : DrawC) : drawM c = seqM dr1 (seqM dr2 (seqM dr3 (seqM dr4 (seqM (dr5 c) (seqM dr6 (seqM (dr7 c) (seqM (dr8 c) dr9))))))) := rfl
theorem ne_nil0 {st : Sto} : oNe st (.lst []) (.lst []) = .ok (.bl false) st := by
  have := ne_nil (ns := []) (st := st)
  simpa using this
theorem dr5_ok {c : DrawC} {ns : List Int} {a a' b n size : Int} {cs : Sto} {o3 o4 o5 : Option D} : ∃ cell : Int, dr5 c [some (.ref 0), some (.int size), some (.int a), o3, o4, o5] (feed ns a' b n :: cs) = .nx [some (.ref 0), some (.int size), some (.int a), some (.int cell), o4, o5] (feed ns a' b n :: cs) := by
  have l0 : (0 : Nat) ≤ LIM := Nat.zero_le _
  by_cases hn : ns = []
  · subst hn
    refine ⟨c.d0, ?_⟩
    simp [dr5, l0, ne_nil0]
  · have hl : 0 < ns.length := by cases ns <;> simp_all
    have hm0 := Int.emod_nonneg a (b := (ns.length : Int)) (by omega)
    have hm1 := Int.emod_lt_of_pos a (b := (ns.length : Int)) (by omega)
    obtain ⟨k, hk⟩ := Int.eq_ofNat_of_zero_le hm0
    have hk2 : k < ns.length := by omega
    have hat : atI (ns.map D.int) (k : Int) = some (.int ns[k]) := by
      unfold atI ixN
      simp [hk2]
    have hix : ∀ st, oIx st (.lst (ns.map D.int)) (.int (k : Int)) = .ok (.int ns[k]) st := fun st => by simp [oIx, hat]
    have hmod : ∀ st, oMod st (.int a) (.int (ns.length : Int)) = .ok (.int (k : Int)) st := fun st => by rw [mod_at (by omega), hk]
    exact ⟨ns[k], by simp [dr5, l0, ne_nil, hn, lenD, lenQ, hmod, hix]⟩
theorem fdMul {a n : Int} (h1 : 0 ≤ a) (h2 : a ≤ 1000000) (h3 : 0 ≤ n) (h4 : n ≤ 100000) : 0 ≤ a * n ∧ a * n ≤ 100000000000 := by
  refine ⟨Int.mul_nonneg h1 h3, ?_⟩
  calc a * n ≤ 1000000 * n := Int.mul_le_mul_of_nonneg_right h2 h3
    _ ≤ 1000000 * 100000 := Int.mul_le_mul_of_nonneg_left h4 (by omega)
    _ = 100000000000 := by decide
theorem dr7_ok {c : DrawC} (hc : c.ok) {ns : List Int} {a b n size x cell : Int} {cs : Sto} {o2 o4 o5 : Option D} (h0 : 0 ≤ n) (h1 : n ≤ 100000) : ∃ y : Int, 0 ≤ y ∧ y < 2 ^ 31 ∧ dr7 c [some (.ref 0), some (.int size), o2, some (.int cell), o4, o5] (feed ns a b n :: cs) = .nx [some (.ref 0), some (.int size), o2, some (.int cell), some (.int y), o5] (feed ns a b n :: cs) := by
  obtain ⟨⟨p1, p2⟩, ⟨p3, p4⟩, ⟨p5, p6⟩, ⟨p7, p8⟩, ⟨p9, p10⟩, ⟨p11, p12⟩, ⟨p13, p14⟩, p15, p16⟩ := hc
  have m0 := Int.emod_nonneg cell (b := c.q1) (by omega)
  have m1 := Int.emod_lt_of_pos cell p1
  obtain ⟨m2, m3⟩ := fdMul p3 p4 h0 h1
  have e1 : ∀ st, oPow st (.int (cell % c.q1 + c.a1 * n + c.b1)) (.int 3) = .ok (.int ((cell % c.q1 + c.a1 * n + c.b1) ^ 3)) st := fun st => pow_at (k := 3) (by omega) (by decide)
  have e2 : ∀ st, oMul st (.int c.a1) (.int n) = .ok (.int (c.a1 * n)) st := fun st => mul_at (by omega) (by omega)
  refine ⟨(cell % c.q1 + c.a1 * n + c.b1) ^ 3 % c.q2, Int.emod_nonneg _ (by omega), Int.lt_trans (Int.emod_lt_of_pos _ p7) p8, ?_⟩
  simp [dr7, mod_at p1, mod_at p7, e1, e2, oAdd]
theorem dr8_ok {c : DrawC} (hc : c.ok) {ns : List Int} {a b n size y : Int} {cs : Sto} {o2 o3 o5 : Option D} (h0 : 0 ≤ n) (h1 : n ≤ 100000) (y0 : 0 ≤ y) (y1 : y < 2 ^ 31) : ∃ z : Int, dr8 c [some (.ref 0), some (.int size), o2, o3, some (.int y), o5] (feed ns a b n :: cs) = .nx [some (.ref 0), some (.int size), o2, o3, some (.int z), o5] (feed ns a b n :: cs) := by
  obtain ⟨⟨p1, p2⟩, ⟨p3, p4⟩, ⟨p5, p6⟩, ⟨p7, p8⟩, ⟨p9, p10⟩, ⟨p11, p12⟩, ⟨p13, p14⟩, p15, p16⟩ := hc
  obtain ⟨m2, m3⟩ := fdMul p9 p10 h0 h1
  have m4 : 0 ≤ c.a2 * n * n := Int.mul_nonneg m2 h0
  have m5 : c.a2 * n * n ≤ 10000000000000000 := by
    calc c.a2 * n * n ≤ 100000000000 * n := Int.mul_le_mul_of_nonneg_right m3 h0
      _ ≤ 100000000000 * 100000 := Int.mul_le_mul_of_nonneg_left h1 (by omega)
      _ = 10000000000000000 := by decide
  have e1 : ∀ st, oPow st (.int (y + c.a2 * n * n + c.b2)) (.int 5) = .ok (.int ((y + c.a2 * n * n + c.b2) ^ 5)) st := fun st => pow_at (k := 5) (by omega) (by decide)
  have e2 : ∀ st, oMul st (.int c.a2) (.int n) = .ok (.int (c.a2 * n)) st := fun st => mul_at (by omega) (by omega)
  have e3 : ∀ st, oMul st (.int (c.a2 * n)) (.int n) = .ok (.int (c.a2 * n * n)) st := fun st => mul_at (by omega) (by omega)
  exact ⟨_, by simp [dr8, mod_at p13, e1, e2, e3, oAdd]; rfl⟩
theorem draw_ok {c : DrawC} (hc : c.ok) {K size : Int} {cs st : Sto} (h : Fd K cs st) (hK : K ≤ 10000) (hs : 0 < size) (hs2 : size ≤ 1000) :
    ∃ v st', fnF 6 (drawM c) [.ref 0, .int size] st = .ok (.int v) st' ∧ 0 ≤ v ∧ v < size ∧ Fd (K + 1) cs st' := by
  obtain ⟨ns, a, b, n, rfl, h1, h2, h3, h4, h5⟩ := h
  have fin : ∀ (d : D) (ns' : List Int) (a' b' n' : Int), finD (feed ns a b n :: cs) d (feed ns' a' b' n' :: cs) = .ok d (feed ns' a' b' n' :: cs) := fun d ns' a' b' n' => finD_same (by simp)
  have s63 : size < 2 ^ 63 := by omega
  have e1 : dr1 [some (.ref 0), some (.int size), none, none, none, none] (feed ns a b n :: cs) = .nx [some (.ref 0), some (.int size), none, none, none, none] (feed ns a b (n + 1) :: cs) := by simp [dr1, oAdd]
  by_cases hb : 0 < b
  · refine ⟨b % size, feed ns a (b / size) (n + 1) :: cs, ?_, Int.emod_nonneg _ (by omega), Int.emod_lt_of_pos _ hs, ns, a, b / size, n + 1, rfl, h1, h2, Int.ediv_nonneg h3 (by omega), by omega, by omega⟩
    have e2 : dr2 [some (.ref 0), some (.int size), none, none, none, none] (feed ns a b (n + 1) :: cs) = .rt (.int (b % size)) (feed ns a (b / size) (n + 1) :: cs) := by simp [dr2, oGt, hb, mod_at hs, div_at hs s63]
    rw [draw_parts]
    simp [e1, e2, fin]
  · have e2 : dr2 [some (.ref 0), some (.int size), none, none, none, none] (feed ns a b (n + 1) :: cs) = .nx [some (.ref 0), some (.int size), none, none, none, none] (feed ns a b (n + 1) :: cs) := by simp [dr2, oGt, hb]
    have e3 : dr3 [some (.ref 0), some (.int size), none, none, none, none] (feed ns a b (n + 1) :: cs) = .nx [some (.ref 0), some (.int size), some (.int a), none, none, none] (feed ns a b (n + 1) :: cs) := by simp [dr3]
    have e4 : dr4 [some (.ref 0), some (.int size), some (.int a), none, none, none] (feed ns a b (n + 1) :: cs) = .nx [some (.ref 0), some (.int size), some (.int a), none, none, none] (feed ns (a + 1) b (n + 1) :: cs) := by simp [dr4, oAdd]
    obtain ⟨cell, e5⟩ := dr5_ok (c := c) (ns := ns) (a := a) (a' := a + 1) (b := b) (n := n + 1) (size := size) (cs := cs) (o3 := none) (o4 := none) (o5 := none)
    have e18 : ∀ st, oPow st (.int 10) (.int 18) = .ok (.int (1000000000000000000)) st := fun st => by
      have := pow_at (st := st) (i := 10) (k := 18) (by decide) (by decide)
      simpa using this
    by_cases hq : 1000000000000000000 ≤ cell ∧ a < ns.length
    · refine ⟨cell % size, feed ns (a + 1) (cell / size) (n + 1) :: cs, ?_, Int.emod_nonneg _ (by omega), Int.emod_lt_of_pos _ hs, ns, a + 1, cell / size, n + 1, rfl, h1, by omega, Int.ediv_nonneg (by omega) (by omega), by omega, by omega⟩
      have e6 : dr6 [some (.ref 0), some (.int size), some (.int a), some (.int cell), none, none] (feed ns (a + 1) b (n + 1) :: cs) = .rt (.int (cell % size)) (feed ns (a + 1) (cell / size) (n + 1) :: cs) := by
        have q1 : ∀ st, oGe st (.int cell) (.int (1000000000000000000)) = .ok (.bl true) st := fun st => by simp only [oGe, hq.1, decide_true]
        simp [dr6, e18, q1, oLt, lenD, lenQ, hq.2, mod_at hs, div_at hs s63]
      rw [draw_parts]
      simp [e1, e2, e3, e4, e5, e6, fin]
    · have e6 : dr6 [some (.ref 0), some (.int size), some (.int a), some (.int cell), none, none] (feed ns (a + 1) b (n + 1) :: cs) = .nx [some (.ref 0), some (.int size), some (.int a), some (.int cell), none, none] (feed ns (a + 1) b (n + 1) :: cs) := by
        by_cases hq1 : 1000000000000000000 ≤ cell
        · have q1 : ∀ st, oGe st (.int cell) (.int (1000000000000000000)) = .ok (.bl true) st := fun st => by simp only [oGe, hq1, decide_true]
          have hq2 : ¬ a < (ns.length : Int) := fun z => hq ⟨hq1, z⟩
          simp [dr6, e18, q1, oLt, lenD, lenQ, hq2]
        · have q1 : ∀ st, oGe st (.int cell) (.int (1000000000000000000)) = .ok (.bl false) st := fun st => by simp only [oGe, hq1, decide_false]
          simp [dr6, e18, q1]
      obtain ⟨y, y0, y1, e7⟩ := dr7_ok hc (ns := ns) (a := a + 1) (b := b) (n := n + 1) (size := size) (x := 0) (cell := cell) (cs := cs) (o2 := some (.int a)) (o4 := none) (o5 := none) (by omega) (by omega)
      obtain ⟨z, e8⟩ := dr8_ok hc (ns := ns) (a := a + 1) (b := b) (n := n + 1) (size := size) (y := y) (cs := cs) (o2 := some (.int a)) (o3 := some (.int cell)) (o5 := none) (by omega) (by omega) y0 y1
      have e9 : dr9 [some (.ref 0), some (.int size), some (.int a), some (.int cell), some (.int z), none] (feed ns (a + 1) b (n + 1) :: cs) = .rt (.int (z / 64 % size)) (feed ns (a + 1) b (n + 1) :: cs) := by
        simp [dr9, mod_at hs, div_at (show (0 : Int) < 64 by decide) (by decide)]
      refine ⟨z / 64 % size, feed ns (a + 1) b (n + 1) :: cs, ?_, Int.emod_nonneg _ (by omega), Int.emod_lt_of_pos _ hs, ns, a + 1, b, n + 1, rfl, h1, by omega, h3, by omega, by omega⟩
      rw [draw_parts]
      simp [e1, e2, e3, e4, e5, e6, e7, e8, e9, fin]
theorem feed_plain {ns : List Int} {a b n : Int} : [D.lst (ns.map .int), .int a, .int b, .int n].any (hasRef FUEL) = false := by
  simp [hasRef, FUEL, List.any_map, Function.comp_def]
theorem fin_feed {ns ns' : List Int} {a b n a' b' n' : Int} {d : D} {rest : Sto} (hd : hasRef FUEL d = false) : finD [feed ns a b n] d (feed ns' a' b' n' :: rest) = .ok d [feed ns' a' b' n'] :=
  finD_cut (st1 := [feed ns' a' b' n']) rfl hd fun ds hds => by
    have := List.mem_singleton.mp hds
    cases this
    exact feed_plain
end Pl
set_option Elab.async false
set_option linter.all false
set_option maxRecDepth 100000
set_option maxHeartbeats 2000000
/-! P15: data whose repr fits. -/
namespace Pl
open PySem PySem.Spec PyProof.Rows L2 Pg
def fineI (i : Int) : Bool := decide ((PyData.shown (.int i)).length ≤ 13) && decide (i.natAbs.log2 < 1920)
theorem fine_small0 : ∀ n : Fin 1400, fineI ((n.val : Int) - 200) = true := by decide +kernel
theorem fine_small {i : Int} (h1 : -200 ≤ i) (h2 : i < 1200) : fineI i = true := by
  have this : fineI ((((i + 200).toNat : Nat) : Int) - 200) = true := fine_small0 ⟨(i + 200).toNat, by omega⟩
  have e : (((i + 200).toNat : Nat) : Int) - 200 = i := by omega
  rwa [e] at this
mutual
def fineP : PyData → Bool
  | .none | .bool _ => true
  | .int i => fineI i
  | .str x => PySem.PyData.canLay0 (.str x)
  | .list xs | .tuple xs => fineAll xs
  | .dict _ => false
def fineAll : List PyData → Bool
  | [] => true
  | x :: xs => fineP x && fineAll xs
end
mutual
theorem fine_lay : ∀ d : PyData, fineP d = true → d.canLay0 = true
  | .none, _ => by simp [PyData.canLay0]
  | .bool _, _ => by simp [PyData.canLay0]
  | .int _, _ => by simp [PyData.canLay0]
  | .str x, h => by simpa [fineP] using h
  | .list xs, h => by rw [PyData.canLay0]; exact fineAll_lay xs (by simpa [fineP] using h)
  | .tuple xs, h => by rw [PyData.canLay0]; exact fineAll_lay xs (by simpa [fineP] using h)
  | .dict _, h => by simp [fineP] at h
theorem fineAll_lay : ∀ ds : List PyData, fineAll ds = true → PyData.canLayAll0 ds = true
  | [], _ => by simp [PyData.canLayAll0]
  | d :: ds, h => by
    rw [fineAll, Bool.and_eq_true] at h
    rw [PyData.canLayAll0, fine_lay d h.1, fineAll_lay ds h.2]; rfl
end
mutual
theorem fine_short : ∀ d : PyData, fineP d = true → d.intsShort 13 = true
  | .none, _ => by simp [PyData.intsShort]
  | .bool _, _ => by simp [PyData.intsShort]
  | .int i, h => by
    rw [fineP, fineI, Bool.and_eq_true] at h
    rw [PyData.intsShort]; exact h.1
  | .str x, h => by simp [PyData.intsShort]
  | .list xs, h => by rw [PyData.intsShort]; exact fineAll_short xs (by simpa [fineP] using h)
  | .tuple xs, h => by rw [PyData.intsShort]; exact fineAll_short xs (by simpa [fineP] using h)
  | .dict _, h => by simp [fineP] at h
theorem fineAll_short : ∀ ds : List PyData, fineAll ds = true → PyData.intsShortAll 13 ds = true
  | [], _ => by simp [PyData.intsShortAll]
  | d :: ds, h => by
    rw [fineAll, Bool.and_eq_true] at h
    rw [PyData.intsShortAll, fine_short d h.1, fineAll_short ds h.2]; rfl
end
mutual
theorem fine_show : ∀ d : PyData, fineP d = true → d.showable = true
  | .none, _ => by simp [PyData.showable]
  | .bool _, _ => by simp [PyData.showable]
  | .int i, h => by
    rw [fineP, fineI, Bool.and_eq_true] at h
    rw [PyData.showable]; exact h.2
  | .str x, h => by simp [PyData.showable]
  | .list xs, h => by rw [PyData.showable]; exact fineAll_show xs (by simpa [fineP] using h)
  | .tuple xs, h => by rw [PyData.showable]; exact fineAll_show xs (by simpa [fineP] using h)
  | .dict _, h => by simp [fineP] at h
theorem fineAll_show : ∀ ds : List PyData, fineAll ds = true → PyData.showableAll ds = true
  | [], _ => by simp [PyData.showableAll]
  | d :: ds, h => by
    rw [fineAll, Bool.and_eq_true] at h
    rw [PyData.showableAll, fine_show d h.1, fineAll_show ds h.2]; rfl
end
theorem fine_ok {p : PyData} (h : fineP p = true) (hd : p.depth < 60) (hw : p.weight ≤ 1048576) : showOk p = true := by
  have h1 := fine_lay p h
  have hl : PyData.layable0 p = true := by
    show (PyData.canLay0 p && decide (PyData.depth p ≤ 64) && decide (PyData.weight p ≤ 2 ^ 20)) = true
    rw [h1, decide_eq_true (by omega : p.depth ≤ 64), decide_eq_true (by omega : p.weight ≤ 2 ^ 20)]
    rfl
  have hs := PyProof.Rows.shown_le13 hl (fine_short p h)
  have hn := PyData.hasDict_of_canLay p h1
  have hL : p.shown.length ≤ LIM := by unfold LIM; omega
  unfold showOk
  rw [fine_show p h, hn, decide_eq_true hd, decide_eq_true hL]
  rfl
theorem repr_ok {st : Sto} {d : D} {p : PyData} (e : toPy1 st d = some p) (h : fineP p = true) (hd : p.depth < 60) (hw : p.weight ≤ 1048576) : reprD st d = .ok (.str p.shown) st := by
  unfold reprD
  rw [e]
  dsimp only
  rw [if_pos (fine_ok h hd hw)]
/-! lists of texts as data -/
theorem toPys_strs {st : Sto} : ∀ xs : List Str, toPys st (xs.map .str) = some (xs.map .str)
  | [] => by simp [toPys]
  | x :: xs => by rw [List.map_cons, toPys, toPys_strs xs]; simp [toPy]
theorem toPys_map {α : Type} {st : Sto} (f : α → D) (g : α → PyData) (h : ∀ x, toPy st (f x) = some (g x)) : ∀ xs : List α, toPys st (xs.map f) = some (xs.map g)
  | [] => by simp [toPys]
  | x :: xs => by rw [List.map_cons, toPys, toPys_map f g h xs, h x]; simp
theorem fineAll_map {α : Type} (g : α → PyData) : ∀ {xs : List α}, (∀ x ∈ xs, fineP (g x) = true) → fineAll (xs.map g) = true
  | [], _ => by simp [fineAll]
  | x :: xs, h => by rw [List.map_cons, fineAll, h x List.mem_cons_self, fineAll_map g fun y hy => h y (List.mem_cons_of_mem _ hy)]; rfl
theorem weight_map {α : Type} (g : α → PyData) (B : Nat) : ∀ {xs : List α}, (∀ x ∈ xs, (g x).weight ≤ B) → PyData.weightAll (xs.map g) ≤ (B + 1) * xs.length
  | [], _ => by simp [PyData.weightAll]
  | x :: xs, h => by
    have h1 := h x List.mem_cons_self
    have h2 := weight_map g B fun y hy => h y (List.mem_cons_of_mem _ hy)
    rw [List.map_cons, PyData.weightAll, List.length_cons, Nat.mul_succ]
    omega
theorem depth_map {α : Type} (g : α → PyData) (B : Nat) : ∀ {xs : List α}, (∀ x ∈ xs, (g x).depth ≤ B) → PyData.depthAll (xs.map g) ≤ B
  | [], _ => by simp [PyData.depthAll]
  | x :: xs, h => by
    have h1 := h x List.mem_cons_self
    have h2 := depth_map g B fun y hy => h y (List.mem_cons_of_mem _ hy)
    rw [List.map_cons, PyData.depthAll]
    omega
mutual
theorem eqv_refl : ∀ p : PyData, fineP p = true → PyData.eqv p p = true
  | .none, _ => by simp [PyData.eqv]
  | .bool _, _ => by simp [PyData.eqv]
  | .int _, _ => by simp [PyData.eqv]
  | .str _, _ => by simp [PyData.eqv]
  | .list xs, h => by rw [PyData.eqv]; exact eqvAll_refl xs (by simpa [fineP] using h)
  | .tuple xs, h => by rw [PyData.eqv]; exact eqvAll_refl xs (by simpa [fineP] using h)
  | .dict _, h => by simp [fineP] at h
theorem eqvAll_refl : ∀ ps : List PyData, fineAll ps = true → PyData.eqvAll ps ps = true
  | [], _ => by simp [PyData.eqvAll]
  | p :: ps, h => by
    rw [fineAll, Bool.and_eq_true] at h
    rw [PyData.eqvAll, eqv_refl p h.1, eqvAll_refl ps h.2]; rfl
end
theorem shaped_of {p : PyData} (h : fineP p = true) (hd : p.depth < 60) : SeqAt.shaped p = true := by
  unfold SeqAt.shaped
  rw [fine_lay p h, decide_eq_true (by omega)]
  rfl
/-- a thing is not unlike itself -/
theorem ne_self {st : Sto} {d : D} {p : PyData} (e : toPy1 st d = some p) (h : fineP p = true) (hd : p.depth < 60) (hi : ∀ i, d ≠ .int i) (hs : ∀ x, d ≠ .str x) : oNe st d d = .ok (.bl false) st := by
  have h1 := shaped_of h hd
  have h2 := eqv_refl p h
  have h3 : eqD st d d = some true := by
    unfold eqD
    split
    · exact absurd rfl (hi _)
    · exact absurd rfl (hs _)
    · rw [e]; simp [h1, h2]
  unfold oNe
  rw [h3]
  rfl
end Pl
set_option Elab.async false
set_option linter.all false
set_option maxRecDepth 100000
set_option maxHeartbeats 2000000
namespace K85
open PySem PySem.Spec PyProof.Rows L2 Pg Pl
@[simp] theorem isi_same_int {i : Int} {st : Sto} : isiD st (.int i) (.ty "int") = .ok (.bl true) st := by simp [isiD, tyOf, isiB, tyNames]
@[simp] theorem isi_int_bool {i : Int} {st : Sto} : isiD st (.int i) (.ty "bool") = .ok (.bl false) st := by simp [isiD, tyOf, isiB, tyNames]
@[simp] theorem isi_str {i : Str} {st : Sto} : isiD st (.str i) (.ty "str") = .ok (.bl true) st := by simp [isiD, tyOf, isiB, tyNames]
@[simp] theorem isi_tup {i : List D} {st : Sto} : isiD st (.tup i) (.ty "tuple") = .ok (.bl true) st := by simp [isiD, tyOf, isiB, tyNames]
@[simp] theorem len_str {z : Str} {st : Sto} (h : z.length ≤ LIM) : lenD st (.str z) = .ok (.int z.length) st := by simp [lenD, h]
@[simp] theorem len_tup {ds : List D} {st : Sto} : lenD st (.tup ds) = .ok (.int ds.length) st := by simp [lenD, lenQ, asQ]
@[simp] theorem len_lst {ds : List D} {st : Sto} : lenD st (.lst ds) = .ok (.int ds.length) st := by simp [lenD, lenQ, asQ, asL]
@[simp] theorem all_map {α : Type} {f : α → Bool} {xs : List α} {st : Sto} : allD st (.lst (xs.map fun x => D.bl (f x))) = .ok (.bl (xs.all f)) st := by
  simp [allD, blsOf, asL, bls_mapF, List.all_map]
@[simp] theorem all_true {α : Type} {xs : List α} : (xs.all fun _ => true) = true := List.all_eq_true.mpr fun _ _ => rfl
@[simp] theorem sum_map {α : Type} {f : α → Int} {xs : List α} {st : Sto} : sumD st (.lst (xs.map fun x => D.int (f x))) = .ok (.int (xs.map f).sum) st := by
  simp [sumD, intsOf, asL, ints_mapF]
theorem is_integer_int {i : Int} : F_is_integer [.int i] [] = .ok (.bl true) [] := by
  simp [F_is_integer, m_is_integer]
theorem is_number_int {i : Int} (h : 0 ≤ i) : F_is_number [.int i] [] = .ok (.bl true) [] := by
  simp [F_is_number, m_is_number, is_integer_int, oGe, h]
theorem is_above_int {i : Int} : F_is_above_nought [.int i] [] = .ok (.bl (decide (0 < i))) [] := by
  simp [F_is_above_nought, m_is_above_nought, is_integer_int, oGt]
/-! ### names -/
def low : List Nat := (List.range 26).map (· + 97)
def NameOk (x : Str) : Prop := 1 ≤ x.length ∧ x.length ≤ 8 ∧ ∀ c ∈ x.cps.toList, c ∈ low
theorem low_in : ∀ c ∈ low, (!(Builtin.Str.occurrences (Str.ofString "abcdefghijklmnopqrstuvwxyz") ⟨#[c]⟩ 0 (Str.ofString "abcdefghijklmnopqrstuvwxyz").length 1).isEmpty) = true := by decide +kernel
theorem is_name_ok {x : Str} (h : NameOk x) : F_is_name [.str x] [] = .ok (.bl true) [] := by
  obtain ⟨h1, h2, h3⟩ := h
  have hl : x.length ≤ LIM := by unfold LIM; omega
  have e : lcS (itS (vS 0)) [1] (nameT 1) yesS (op2S oIn (vS 1) (cS (.str "abcdefghijklmnopqrstuvwxyz"))) [some (.str x), none] [] = .ok (x.cps.toList.map fun _ => D.bl true) [] := by
    refine lcS_all (fun c => .str ⟨#[c]⟩) (fun _ => .bl true) (by simp) (by simpa [Str.length] using hl) fun c hc => ⟨_, rfl, ?_⟩
    simp [oIn, inD, wipeF]
    simpa using low_in c (h3 c hc)
  have c1 : (1 : Int) ≤ (x.length : Int) := by omega
  have c2 : (x.length : Int) ≤ 8 := by omega
  simp [F_is_name, m_is_name, hl, oLe, c1, c2, e]
/-! strictly rising -/
def slt (a b : Str) : Bool := decide (a.cps.toList < b.cps.toList)
def Asc (xs : List Str) : Prop := xs.Pairwise (fun a b => slt a b = true)
theorem zip_next {xs : List Str} : List.zipWith (fun x y => D.tup [x, y]) (xs.map D.str) ((xs.map D.str).tail) = (xs.zip xs.tail).map fun p => D.tup [.str p.1, .str p.2] := by
  rw [← List.map_tail, List.zip, List.map_zipWith, List.zipWith_map]
theorem asc_next : ∀ {xs : List Str}, Asc xs → ∀ p ∈ xs.zip xs.tail, slt p.1 p.2 = true
  | [], _, p, hp => by simp at hp
  | [x], _, p, hp => by simp at hp
  | x :: y :: r, h, p, hp => by
    obtain ⟨h1, h2⟩ := List.pairwise_cons.mp h
    rw [show (x :: y :: r).zip (x :: y :: r).tail = (x, y) :: (y :: r).zip (y :: r).tail by simp] at hp
    rcases List.mem_cons.mp hp with rfl | hp
    · exact h1 y List.mem_cons_self
    · exact asc_next h2 p hp
theorem cut1 {α : Type} {xs : List α} : Pl.cutD xs (some 1) none = xs.tail := by
  unfold Pl.cutD
  cases xs with
  | nil => simp
  | cons x xs =>
    have e1 : HT.sIx (x :: xs).length 0 (some 1) = 1 := by simp [HT.sIx]
    have e2 : HT.sIx (x :: xs).length (x :: xs).length none = (x :: xs).length := rfl
    rw [e1, e2]
    exact List.take_of_length_le (by simp)
theorem are_asc {xs : List Str} (hl : xs.length ≤ LIM) (h : Asc xs) : F_are_ascending [T xs] [] = .ok (.bl true) [] := by
  have e : lcS (itZip (consS (vS 0) (consS (slS (vS 0) (partS (cS (.int 1))) (noP)) (nilS)))) [1, 2] (tupT 2 (consT (nameT 1) (consT (nameT 2) (nilT))) [1, 2]) (yesS) (op2S oLt (vS 1) (vS 2)) [some (T xs), none, none] [] = .ok ((xs.zip xs.tail).map fun _ => D.bl true) [] := by
    refine lcS_all (fun p => D.tup [.str p.1, .str p.2]) (fun _ => .bl true) ?_ (by simp; omega) fun p hp => ⟨_, rfl, ?_⟩
    · simp [oSl, cut1, ← zip_next]
    · have := asc_next h p hp
      simp [wipeF, oLt]
      simpa [slt] using this
  simp [F_are_ascending, m_are_ascending, e]

structure GoodNames (xs : List Str) : Prop where
  ne : xs ≠ []
  len : xs.length ≤ 1000
  ok : ∀ x ∈ xs, NameOk x
  asc : Asc xs
theorem lim_of {n : Nat} (h : n ≤ 1000) : n ≤ LIM := by unfold LIM; omega
theorem are_names_ok {xs : List Str} (g : GoodNames xs) : F_are_names [T xs] [] = .ok (.bl true) [] := by
  have e : lcS (itS (vS 0)) [1] (nameT 1) (yesS) (callP F_is_name [] (consS (vS 1) (nilS))) [some (T xs), none] [] = .ok (xs.map fun _ => D.bl true) [] := by
    refine lcS_all D.str (fun _ => .bl true) (by simp) (lim_of g.len) fun x hx => ⟨_, rfl, ?_⟩
    simp [wipeF, is_name_ok (g.ok x hx)]
  have n0 : xs.length ≠ 0 := by simpa using g.ne
  have n1 : ¬ xs = [] := g.ne
  simp [F_are_names, m_are_names, oEq, eqD, n1, e, are_asc (lim_of g.len) g.asc]
@[simp] theorem in_T {x : Str} {xs : List Str} {st : Sto} : inD st (.str x) (T xs) = some (decide (x ∈ xs)) := by
  have e : (xs.any fun y => eqF (.str y) (.str x)) = decide (x ∈ xs) := by
    rw [Bool.eq_iff_iff, List.any_eq_true, decide_eq_true_eq]
    constructor
    · rintro ⟨y, hy, h⟩
      rw [← eq_of_beq (show (y == x) = true from h)]; exact hy
    · exact fun h => ⟨x, h, by simp [eqF]⟩
  simp [inD, asQ, flatD, List.all_map, List.any_map, Function.comp_def, e]
theorem is_among_ok {x : Str} {xs : List Str} (h : x ∈ xs) : F_is_among [.str x, T xs] [] = .ok (.bl true) [] := by
  simp [F_is_among, m_is_among, oIn, h]
theorem is_set_ok {ws lot : List Str} (hl : lot.length ≤ 1000) (h : ∀ x ∈ lot, x ∈ ws) (a : Asc lot) : F_is_set_of [T ws, T lot] [] = .ok (.bl true) [] := by
  have e : lcS (itS (vS 1)) [2] (nameT 2) (yesS) (callP F_is_among [] (consS (vS 2) (consS (vS 0) (nilS)))) [some (T ws), some (T lot), none] [] = .ok (lot.map fun _ => D.bl true) [] := by
    refine lcS_all D.str (fun _ => .bl true) (by simp) (lim_of hl) fun x hx => ⟨_, rfl, ?_⟩
    simp [wipeF, is_among_ok (h x hx)]
  simp [F_is_set_of, m_is_set_of, e, are_asc (lim_of hl) a]
theorem is_tuple_ok {ds : List D} {n : Int} (h : (ds.length : Int) = n) : F_is_tuple_of [.tup ds, .int n] [] = .ok (.bl true) [] := by
  simp [F_is_tuple_of, m_is_tuple_of, oEq, eqD, h]
structure GoodLot (ws lot : List Str) : Prop where
  ne : lot ≠ []
  len : lot.length ≤ 1000
  sub : ∀ x ∈ lot, x ∈ ws
  asc : Asc lot
structure GoodCrew (ws ps : List Str) (lots : List (List Str)) (w : Int) : Prop where
  gw : GoodNames ws
  gp : GoodNames ps
  len : lots.length = ps.length
  gl : ∀ lot ∈ lots, GoodLot ws lot
  pos : 0 < w
abbrev TT (lots : List (List Str)) : D := .tup (lots.map T)
abbrev crewD (ws ps : List Str) (lots : List (List Str)) (w : Int) : D := .tup [T ws, T ps, TT lots, .int w]
theorem crew_fault_ok {ws ps : List Str} {lots : List (List Str)} {w : Int} (g : GoodCrew ws ps lots w) : F_crew_fault [crewD ws ps lots w] [] = .ok .non [] := by
  obtain ⟨fr', st', e, rfl, o5, o6, rfl⟩ := forM_nx (it := itEnum (consS (vS 3) nilS)) (tg := tupT 2 (consT (nameT 5) (consT (nameT 6) nilT)) [5, 6])
    (body := ifM (orS (notS (truS toB (callP F_is_set_of [] (consS (vS 1) (consS (vS 6) nilS))))) (truS toB (op2S oEq (callS (c1 lenD) (consS (vS 6) nilS)) (cS (D.int 0))))) (retM (tupS (consS (cS (D.str (Str.ofString "lot"))) (consS (vS 5) nilS)))) skipM)
    (fr := [some (crewD ws ps lots w), some (T ws), some (T ps), some (TT lots), some (.int w), none, none]) (st := []) (fun _ fr st => st = [] ∧ ∃ o5 o6, fr = [some (crewD ws ps lots w), some (T ws), some (T ps), some (TT lots), some (.int w), o5, o6])
    (itd := .fix ((lots.map T).mapIdx fun i x => .tup [.int i, x])) (by simp) ⟨rfl, none, none, rfl⟩ (by
      rintro i fr st hi ⟨rfl, o5, o6, rfl⟩
      simp [ItD.len] at hi
      have gl := g.gl lots[i] (List.getElem_mem hi)
      have n1 : ¬ lots[i] = [] := gl.ne
      exact ⟨.tup [.int i, T lots[i]], _, _, [], by simp [ItD.at, hi], rfl, .inl (by simp [is_set_ok gl.len gl.sub gl.asc, oEq, eqD, n1]; exact ⟨rfl, rfl⟩), rfl, _, _, rfl⟩) (fun _ _ _ => rfl)
  simp [F_crew_fault, m_crew_fault, is_tuple_ok, are_names_ok g.gw, are_names_ok g.gp, g.len, e, is_above_int, g.pos]
theorem is_crew_ok {ws ps : List Str} {lots : List (List Str)} {w : Int} (g : GoodCrew ws ps lots w) : F_is_crew [crewD ws ps lots w] [] = .ok (.bl true) [] := by
  simp [F_is_crew, m_is_crew, crew_fault_ok g, oIsN, Pl.isNon]
theorem want_ok {x : Str} {i : Int} : F_want [.bl true, .str x, .int i] [] = .ok .non [] := by
  simp [F_want, m_want]
theorem want_sets_ok {ws ps : List Str} (g : GoodNames ws) (h : GoodNames ps) : F_want_sets [T ws, T ps] [] = .ok .non [] := by
  simp [F_want_sets, m_want_sets, are_names_ok g, are_names_ok h, want_ok]
theorem want_many_ok {ws : List Str} {n : Int} (h : 0 < n) (h2 : n ≤ ws.length) : F_want_many [T ws, .int n] [] = .ok .non [] := by
  simp [F_want_many, m_want_many, is_above_int, h, oLe, h2, want_ok]
abbrev IT (ns : List Int) : D := .tup (ns.map .int)
theorem bounds_ok {ws : List Str} {bs : List Int} (hl : bs.length = ws.length) (hl2 : bs.length ≤ 1000) (h : ∀ b ∈ bs, 0 ≤ b) : F_are_bounds [T ws, IT bs] [] = .ok (.bl true) [] := by
  have e : lcS (itS (vS 1)) [2] (nameT 2) (yesS) (callP F_is_number [] (consS (vS 2) (nilS))) [some (T ws), some (IT bs), none] [] = .ok (bs.map fun _ => D.bl true) [] := by
    refine lcS_all D.int (fun _ => .bl true) (by simp) (lim_of hl2) fun x hx => ⟨_, rfl, ?_⟩
    simp [wipeF, is_number_int (h x hx)]
  simp [F_are_bounds, m_are_bounds, is_tuple_ok, hl, e]
/-- how many holdings come together -/
def room (P : Nat) (bs : List Int) : Int := (bs.map fun b => minL [b, (P : Int)]).sum
@[simp] theorem min_pair {a b : Int} {st : Sto} : minD st (.lst [.int a, .int b]) = .ok (.int (minL [a, b])) st := by simp [minD, intsOf, asL, ints?]
@[simp] theorem min_tri {a b c : Int} {st : Sto} : minD st (.lst [.int a, .int b, .int c]) = .ok (.int (minL [a, b, c])) st := by simp [minD, intsOf, asL, ints?]
@[simp] theorem max_pair {a b : Int} {st : Sto} : maxD st (.lst [.int a, .int b]) = .ok (.int (maxL [a, b])) st := by simp [maxD, intsOf, asL, ints?]
theorem lim3 : (3 : Nat) ≤ LIM := by decide
theorem lim2 : (2 : Nat) ≤ LIM := by decide
theorem lim4 : (4 : Nat) ≤ LIM := by decide
theorem room_ok {ps : List Str} {bs : List Int} (hl2 : bs.length ≤ 1000) : F_holdings_by [T ps, IT bs] [] = .ok (.int (room ps.length bs)) [] := by
  have e : lcS (itS (vS 1)) [2] (nameT 2) (yesS) (callS (c12 minD min2D) (consS (lstS (consS (vS 2) (consS (callS (c1 lenD) (consS (vS 0) (nilS))) (nilS)))) (nilS))) [some (T ps), some (IT bs), none] [] = .ok (bs.map fun b => D.int (minL [b, (ps.length : Int)])) [] := by
    refine lcS_all D.int (fun b => D.int (minL [b, (ps.length : Int)])) (by simp) (lim_of hl2) fun x hx => ⟨_, rfl, ?_⟩
    simp [wipeF, lim2]
  simp [F_holdings_by, m_holdings_by, e, room]
theorem mul_ok {m : Int} {n : Nat} (h0 : 0 ≤ m) (h : m ≤ 1000) (h2 : n ≤ 1000) : mulOk m n = true := by
  have key : ∀ k : Nat, k ≤ 1000 → k.log2 < 10 := fun k hk => by
    rcases Nat.eq_zero_or_pos k with rfl | hp
    · decide
    · exact (Nat.log2_lt (by omega)).mpr (by omega)
  have a := key m.natAbs (by omega)
  have b := key (n : Int).natAbs (by omega)
  unfold mulOk
  simp only [decide_eq_true_eq]
  omega
theorem can_deal_ok {ws ps : List Str} {m : Int} {bs : List Int} (g : GoodNames ws) (h : GoodNames ps) (m0 : 0 < m) (m1 : m ≤ ws.length) (hl : bs.length = ws.length) (hb : ∀ b ∈ bs, 0 ≤ b) :
    F_can_deal [T ws, T ps, .int m, IT bs] [] = .ok (.bl (decide (m * ps.length ≤ room ps.length bs))) [] := by
  have := g.len
  have := h.len
  simp [F_can_deal, m_can_deal, want_sets_ok g h, want_many_ok m0 m1, bounds_ok hl (by omega) hb, want_ok, room_ok (ps := ps) (bs := bs) (by omega), oMul, mul_ok (m := m) (n := ps.length) (by omega) (by omega) (by omega), oGe]
theorem most_each_ok {ws ps : List Str} {bs : List Int} (g : GoodNames ws) (h : GoodNames ps) (hl : bs.length = ws.length) (hb : ∀ b ∈ bs, 0 ≤ b) :
    F_most_each [T ws, T ps, IT bs] [] = .ok (.int (room ps.length bs / ps.length)) [] := by
  have := g.len
  have hp : 0 < ps.length := by have := h.ne; cases ps <;> simp_all
  have := h.len
  have hlog : (ps.length : Int).natAbs.log2 < 9000 := by
    have : (ps.length : Int).natAbs.log2 < 10 := (Nat.log2_lt (by omega)).mpr (by omega)
    omega
  simp [F_most_each, m_most_each, want_sets_ok g h, bounds_ok hl (by omega) hb, want_ok, room_ok (ps := ps) (bs := bs) (by omega), oFdiv]
  rw [if_pos ⟨by omega, by simpa using hlog⟩]
  simp
theorem seqStrs_T {xs : List Str} {st : Sto} : seqStrs st (T xs) = some xs := by simp [seqStrs, asQ, Pl.strs_map]
theorem seqStrs_L {xs : List Str} {st : Sto} : seqStrs st (L xs) = some xs := by simp [seqStrs, asQ, asL, Pl.strs_map]
theorem as_names_L {xs : List Str} (h : xs.length < 64) : F_as_names [L xs] [] = .ok (T (sSort (sDup xs))) [] := by
  simp [F_as_names, m_as_names, tssD, seqStrs_L, h]
/-- who holds a part, by pairs -/
def holders (prs : List (Str × Str)) (own : Str) : List Str := sSort (sDup ((prs.filter fun p => decide (p.1 = own)).map (·.2)))
abbrev PL (prs : List (Str × Str)) : D := .lst (prs.map fun p => D.tup [.str p.1, .str p.2])
theorem lots_ok {ps : List Str} {prs : List (Str × Str)} (hp : ps.length ≤ 1000) (hl : prs.length < 64) : F_lots_sorted [T ps, PL prs] [] = .ok (TT (ps.map (holders prs))) [] := by
  have e : lcS (itS (vS 0)) [2] (nameT 2) (yesS) (callP F_as_names [] (consS (frzS (lcS (itS (vS 1)) [3, 4] (tupT 2 (consT (nameT 3) (consT (nameT 4) (nilT))) [3, 4]) (truS toB (op2S oEq (vS 3) (vS 2))) (vS 4))) (nilS))) [some (T ps), some (PL prs), none, none, none] [] = .ok (ps.map fun p => T (holders prs p)) [] := by
    refine lcS_all D.str (fun p => T (holders prs p)) (by simp) (lim_of hp) fun x hx => ⟨_, rfl, ?_⟩
    have e2 : lcS (itS (vS 1)) [3, 4] (tupT 2 (consT (nameT 3) (consT (nameT 4) (nilT))) [3, 4]) (truS toB (op2S oEq (vS 3) (vS 2))) (vS 4) [some (T ps), some (PL prs), some (.str x), none, none] [] = .ok ((prs.filter fun p => decide (p.1 = x)).map fun p => D.str p.2) [] := by
      refine lcS_map (fun p : Str × Str => D.tup [.str p.1, .str p.2]) (fun p => decide (p.1 = x)) (fun p => D.str p.2) (by simp) (lim_of (by omega)) fun p hp => ⟨_, rfl, ?_, fun _ => ?_⟩
      · simp [wipeF, oEq, eqD]
      · simp [wipeF]
    have hlen : ((prs.filter fun p => decide (p.1 = x)).map (·.2)).length < 64 := by
      rw [List.length_map]
      exact Nat.lt_of_le_of_lt (List.length_filter_le _ _) hl
    have e3 : F_as_names [.lst ((prs.filter fun p => decide (p.1 = x)).map fun p => D.str p.2)] [] = .ok (T (holders prs x)) [] := by
      have := as_names_L hlen
      rwa [L, List.map_map] at this
    simp [wipeF, e2, e3]
  simp [F_lots_sorted, m_lots_sorted, e, tupD, tupL, asL]
/-! ### round dealings -/
def roundPairs (ws ps : List Str) (m : Nat) : List (Str × Str) := (ps.zipIdx.map fun (p, k) => (List.range m).map fun l => (p, ws.getD ((k + l) % ws.length) Str.empty)).flatten
theorem ixN_ok {n i : Nat} (h : i < n) : ixN n (i : Int) = some i := by
  unfold ixN
  simp [h]
theorem atI_ok {α : Type} {xs : List α} {i : Nat} (h : i < xs.length) : atI xs (i : Int) = some xs[i] := by
  unfold atI
  rw [ixN_ok h]
  simp [h]
theorem oIx_T {xs : List Str} {i : Nat} {st : Sto} (h : i < xs.length) : oIx st (T xs) (.int i) = .ok (.str (xs[i]?.getD Str.empty)) st := by
  simp [oIx, asQ, atI_ok (xs := xs.map D.str) (i := i) (by simpa using h), h]
theorem mod_pos {a b : Int} {st : Sto} (h : 0 < b) : oMod st (.int a) (.int b) = .ok (.int (a % b)) st := by simp [oMod, h]
theorem ring_at {ws : List Str} {k l : Nat} {st : Sto} (h : 0 < ws.length) : oIx st (T ws) (.int (((k : Int) + (l : Int)) % (ws.length : Int))) = .ok (.str (ws[(k + l) % ws.length]?.getD Str.empty)) st := by
  rw [← Int.natCast_add, ← Int.natCast_emod]
  exact oIx_T (Nat.mod_lt _ h)
theorem flat_len {α : Type} {m : Nat} {f : α → List D} {xs : List α} (h : ∀ x ∈ xs, (f x).length = m) : ((xs.map f).flatten).length = m * xs.length := by
  induction xs with
  | nil => simp
  | cons x xs ih =>
    rw [List.map_cons, List.flatten_cons, List.length_append, h x List.mem_cons_self, ih fun y hy => h y (List.mem_cons_of_mem _ hy), List.length_cons, Nat.mul_succ, Nat.add_comm]
theorem deal_round_ok {ws ps : List Str} {m : Nat} {w : Int} (g : GoodNames ws) (h : GoodNames ps) (m0 : 0 < m) (m1 : m ≤ ws.length) (hw : 0 < w) (sm : m * ps.length < 64) :
    F_deal_round [T ws, T ps, .int m, .int w] [] = .ok (crewD ws ps (ps.map (holders (roundPairs ws ps m))) w) [] := by
  have hW : 0 < ws.length := by omega
  have := g.len
  have := h.len
  have e : lc2S (itEnum (consS (vS 1) (nilS))) [6, 7, 5] (tupT 2 (consT (nameT 6) (consT (nameT 7) (nilT))) [6, 7]) (yesS) (itR1 (consS (vS 2) (nilS))) [5] (nameT 5) (yesS) (tupS (consS (vS 7) (consS (op2S oIx (vS 0) (op2S oMod (op2S oAdd (vS 6) (vS 5)) (callS (c1 lenD) (consS (vS 0) (nilS))))) (nilS))))
      [some (T ws), some (T ps), some (.int m), some (.int w), none, none, none, none] [] = .ok ((ps.zipIdx.map fun q => (List.range m).map fun l => D.tup [.str q.1, .str (ws.getD ((q.2 + l) % ws.length) Str.empty)]).flatten) [] := by
    refine lc2S_all (fun q : Str × Nat => D.tup [.int q.2, .str q.1]) (fun _ => List.range m) (fun i : Nat => D.int i) (fun q l => D.tup [.str q.1, .str (ws.getD ((q.2 + l) % ws.length) Str.empty)]) ?_ ?_ fun q hq => ⟨_, rfl, ?_, fun l hl => ⟨_, rfl, ?_⟩⟩
    · have e2 : (ps.map D.str).mapIdx (fun i x => D.tup [.int (i : Nat), x]) = ps.zipIdx.map fun q => D.tup [.int q.2, .str q.1] := by
        apply List.ext_getElem
        · simp
        · intro i h1 h2
          simp
      simp [e2]
    · rw [flat_len (m := m) fun x _ => by simp]
      simp
      unfold LIM
      omega
    · exact itR1_nat (by omega) (by simp [wipeF])
    · have : (q.2 + l) % ws.length < ws.length := Nat.mod_lt _ hW
      have hW' : (0 : Int) < (ws.length : Int) := by omega
      have e5 := ring_at (k := q.2) (l := l) (st := []) hW
      simp [wipeF, oAdd, oMod, hW, e5, lim2]
  have e4 : (ps.zipIdx.map fun q => (List.range m).map fun l => D.tup [.str q.1, .str (ws.getD ((q.2 + l) % ws.length) Str.empty)]).flatten = (roundPairs ws ps m).map fun p => D.tup [.str p.1, .str p.2] := by
    unfold roundPairs
    rw [List.map_flatten, List.map_map]
    congr 1
    apply List.map_congr_left
    intro q _
    simp [Function.comp_def]
  rw [e4] at e
  have hl : (roundPairs ws ps m).length < 64 := by
    have := congrArg List.length e4
    rw [flat_len (m := m) fun x _ => by simp, List.length_map] at this
    simp at this
    omega
  have e5 := lots_ok (ps := ps) (prs := roundPairs ws ps m) (by omega) hl
  have m0' : (0 : Int) < m := by omega
  have m1' : (m : Int) ≤ ws.length := by omega
  simp [F_deal_round, m_deal_round, want_sets_ok g h, want_many_ok m0' m1', is_above_int, hw, want_ok, e, e5, lim4]
/-! ### dealt -/
def prsOf (ps os : List Str) : List (Str × Str) := os.mapIdx fun i w => (ps[i % ps.length]?.getD Str.empty, w)
theorem prs_add {ps os : List Str} {w : Str} : prsOf ps (os ++ [w]) = prsOf ps os ++ [(ps[os.length % ps.length]?.getD Str.empty, w)] := by
  unfold prsOf
  rw [List.mapIdx_concat]
theorem prs_len {ps os : List Str} : (prsOf ps os).length = os.length := by simp [prsOf]
def takes (P M : Nat) : Nat → List Int → List Nat
  | _, [] => []
  | k, b :: bs => (minL [b, (P : Int), (M : Int) * P - k]).toNat :: takes P M (k + (minL [b, (P : Int), (M : Int) * P - k]).toNat) bs
def owners (ws : List Str) (ts : List Nat) : List Str := (List.zipWith (fun w t => List.replicate t w) ws ts).flatten
abbrev c1' (ps os : List Str) : Cell := .lst ((prsOf ps os).map fun p => D.tup [.str p.1, .str p.2])
theorem deal_lap {ws ps os : List Str} {m : Int} {bs : List Int} {w : Str} {b : Int} {o7 : Option D} (hp : 0 < ps.length) (ho : os.length < 64) :
    (dropM (appS (vS 4) (tupS (consS (op2S oIx (vS 1) (op2S oMod (callS (c1 lenD) (consS (vS 4) (nilS))) (callS (c1 lenD) (consS (vS 1) (nilS))))) (consS (vS 5) (nilS)))))) [some (T ws), some (T ps), some (.int m), some (IT bs), some (.ref 0), some (.str w), some (.int b), o7] [c1' ps os] =
      .nx [some (T ws), some (T ps), some (.int m), some (IT bs), some (.ref 0), some (.str w), some (.int b), o7] [c1' ps (os ++ [w])] := by
  have hl : os.length < LIM := by unfold LIM; omega
  have e5 : oIx [c1' ps os] (T ps) (.int (((os.length : Nat) : Int) % (ps.length : Int))) = .ok (.str (ps[os.length % ps.length]?.getD Str.empty)) [c1' ps os] := by
    rw [← Int.natCast_emod]
    exact oIx_T (Nat.mod_lt _ hp)
  simp [appS, lenD, lenQ, asQ, asL, prs_len, oMod, hp, e5, lim2, appD, hl, prs_add]
theorem pairs_inner {ws ps os : List Str} {m : Int} {bs : List Int} {w : Str} {b : Int} {o7 : Option D} {P : Nat} (hP : ps.length = P) (hp : 0 < P) (t : Nat) (ho : os.length + t < 64)
    {it : Si} (hi : it [some (T ws), some (T ps), some (.int m), some (IT bs), some (.ref 0), some (.str w), some (.int b), o7] [c1' ps os] = .ok (.fix ((List.range t).map fun i : Nat => D.int i)) [c1' ps os]) :
    ∃ o7', forM it (nameT 7) (dropM (appS (vS 4) (tupS (consS (op2S oIx (vS 1) (op2S oMod (callS (c1 lenD) (consS (vS 4) (nilS))) (callS (c1 lenD) (consS (vS 1) (nilS))))) (consS (vS 5) (nilS)))))) [some (T ws), some (T ps), some (.int m), some (IT bs), some (.ref 0), some (.str w), some (.int b), o7] [c1' ps os] =
      .nx [some (T ws), some (T ps), some (.int m), some (IT bs), some (.ref 0), some (.str w), some (.int b), o7'] [c1' ps (os ++ List.replicate t w)] := by
  obtain ⟨fr', st', e, o7', rfl, rfl⟩ := forM_nx (tg := nameT 7) (body := dropM (appS (vS 4) (tupS (consS (op2S oIx (vS 1) (op2S oMod (callS (c1 lenD) (consS (vS 4) (nilS))) (callS (c1 lenD) (consS (vS 1) (nilS))))) (consS (vS 5) (nilS))))))
    (fun j fr st => ∃ o7', fr = [some (T ws), some (T ps), some (.int m), some (IT bs), some (.ref 0), some (.str w), some (.int b), o7'] ∧ st = [c1' ps (os ++ List.replicate j w)]) hi ⟨o7, rfl, by simp⟩ (by
      rintro j fr st hj ⟨o, rfl, rfl⟩
      simp [ItD.len] at hj
      refine ⟨.int j, _, _, _, by simp [ItD.at, hj], rfl, .inl (deal_lap (o7 := some (.int j)) (by omega) (by simp; omega)), some (.int j), rfl, ?_⟩
      rw [List.append_assoc, List.replicate_succ']) (fun _ _ _ => rfl)
  refine ⟨o7', ?_⟩
  rw [e]
  simp [ItD.len]
theorem owners_snoc {ws : List Str} {ts : List Nat} {i : Nat} (h1 : i < ws.length) (h2 : i < ts.length) : owners (ws.take (i + 1)) (ts.take (i + 1)) = owners (ws.take i) (ts.take i) ++ List.replicate ts[i] ws[i] := by
  unfold owners
  rw [List.take_succ_eq_append_getElem h1, List.take_succ_eq_append_getElem h2, List.zipWith_append (by simp; omega)]
  simp
theorem takes_len {P M : Nat} : ∀ {k : Nat} {bs : List Int}, (takes P M k bs).length = bs.length
  | _, [] => rfl
  | _, b :: bs => by rw [takes, List.length_cons, takes_len, List.length_cons]
theorem takes_at {P M : Nat} : ∀ {k : Nat} {bs : List Int} {i : Nat} (h : i < (takes P M k bs).length) (h2 : i < bs.length), (takes P M k bs)[i] = (minL [bs[i], (P : Int), (M : Int) * P - ((k + ((takes P M k bs).take i).sum : Nat) : Int)]).toNat
  | _, [], _, h, _ => by simp [takes] at h
  | k, b :: bs, 0, h, _ => by simp [takes]
  | k, b :: bs, i + 1, h, h2 => by
    have ih := takes_at (P := P) (M := M) (k := k + (minL [b, (P : Int), (M : Int) * P - k]).toNat) (bs := bs) (i := i) (by simpa [takes] using h) (by simpa using h2)
    simp only [takes, List.getElem_cons_succ, List.take_succ_cons, List.sum_cons]
    rw [ih]
    congr 3
    simp only [Nat.add_assoc]
theorem owners_len : ∀ {ws : List Str} {ts : List Nat}, ts.length ≤ ws.length → (owners ws ts).length = ts.sum
  | _, [], _ => by simp [owners]
  | [], _ :: _, h => by simp at h
  | w :: ws, t :: ts, h => by
    have ih := owners_len (ws := ws) (ts := ts) (by simpa using h)
    unfold owners at ih ⊢
    simp only [List.zipWith_cons_cons, List.flatten_cons, List.length_append, List.length_replicate, List.sum_cons, ih]
theorem minL_le3 {a b c : Int} : minL [a, b, c] ≤ a ∧ minL [a, b, c] ≤ b ∧ minL [a, b, c] ≤ c := by
  have := (minL_spec a [b, c]).2
  exact ⟨this a (by simp), this b (by simp), this c (by simp)⟩
theorem takes_sum {P M : Nat} : ∀ {k : Nat} {bs : List Int}, k ≤ M * P → k + (takes P M k bs).sum ≤ M * P
  | k, [], h => by simpa [takes] using h
  | k, b :: bs, h => by
    have e : (((M * P : Nat) : Int)) = (M : Int) * P := Int.natCast_mul _ _
    have hm := (minL_le3 (a := b) (b := (P : Int)) (c := (M : Int) * P - k)).2.2
    have ih := takes_sum (P := P) (M := M) (k := k + (minL [b, (P : Int), (M : Int) * P - k]).toNat) (bs := bs) (by omega)
    simp only [takes, List.sum_cons]
    omega
theorem sum_take_le : ∀ (ts : List Nat) (i : Nat), (ts.take i).sum ≤ ts.sum
  | [], i => by simp
  | t :: ts, 0 => by simp
  | t :: ts, i + 1 => by
    have := sum_take_le ts i
    simp only [List.take_succ_cons, List.sum_cons]
    omega
theorem pairs_ok {ws ps : List Str} {M : Nat} {bs : List Int} (hp : 0 < ps.length) (sm : M * ps.length < 64) (hP : ps.length ≤ 1000) (hM : M ≤ 1000) (hl : bs.length = ws.length) (hb0 : ∀ b ∈ bs, 0 ≤ b ∧ b ≤ 1000) :
    F_pairs_dealt [T ws, T ps, .int M, IT bs] [] = .ok (PL (prsOf ps (owners ws (takes ps.length M 0 bs)))) [] := by
  have tl : (takes ps.length M 0 bs).length = ws.length := by rw [takes_len, hl]
  have ol : ∀ i, i ≤ ws.length → (owners (ws.take i) ((takes ps.length M 0 bs).take i)).length = ((takes ps.length M 0 bs).take i).sum := fun i hi => owners_len (by simp; omega)
  have tb := takes_sum (P := ps.length) (M := M) (k := 0) (bs := bs) (Nat.zero_le _)
  obtain ⟨fr', st', e, o5, o6, o7, rfl, rfl⟩ := forM_nx (it := itZip (consS (vS 0) (consS (vS 3) (nilS)))) (tg := tupT 2 (consT (nameT 5) (consT (nameT 6) (nilT))) [5, 6])
    (body := forM (itR1 (consS (callS (c12 minD min2D) (consS (lstS (consS (vS 6) (consS (callS (c1 lenD) (consS (vS 1) (nilS))) (consS (op2S oSub (op2S oMul (vS 2) (callS (c1 lenD) (consS (vS 1) (nilS)))) (callS (c1 lenD) (consS (vS 4) (nilS)))) (nilS))))) (nilS))) (nilS))) (nameT 7) (dropM (appS (vS 4) (tupS (consS (op2S oIx (vS 1) (op2S oMod (callS (c1 lenD) (consS (vS 4) (nilS))) (callS (c1 lenD) (consS (vS 1) (nilS))))) (consS (vS 5) (nilS)))))))
    (fr := [some (T ws), some (T ps), some (.int M), some (IT bs), some (.ref 0), none, none, none]) (st := [c1' ps []])
    (itd := .fix (List.zipWith (fun x y => .tup [x, y]) (ws.map D.str) (bs.map D.int))) (st1 := [c1' ps []])
    (fun i fr st => ∃ o5 o6 o7, fr = [some (T ws), some (T ps), some (.int M), some (IT bs), some (.ref 0), o5, o6, o7] ∧ st = [c1' ps (owners (ws.take i) ((takes ps.length M 0 bs).take i))]) (by simp) ⟨none, none, none, rfl, by simp [owners]⟩ (by
      rintro i fr st hi ⟨o5, o6, o7, rfl, rfl⟩
      have hi : i < ws.length := by simpa [ItD.len, hl] using hi
      have hb : i < bs.length := by omega
      have ht : i < (takes ps.length M 0 bs).length := by omega
      have eo := ol i (by omega)
      have st := sum_take_le (takes ps.length M 0 bs) (i + 1)
      rw [List.take_succ_eq_append_getElem ht, List.sum_append, List.sum_singleton] at st
      have eM : ((M * ps.length : Nat) : Int) = (M : Int) * ps.length := Int.natCast_mul _ _
      have et := takes_at (P := ps.length) (M := M) (k := 0) (bs := bs) ht hb
      rw [Nat.zero_add, ← eo] at et
      have hle := minL_le3 (a := bs[i]) (b := (ps.length : Int)) (c := (M : Int) * ps.length - ((owners (ws.take i) ((takes ps.length M 0 bs).take i)).length : Nat))
      obtain ⟨o7', e7⟩ := pairs_inner (ws := ws) (ps := ps) (os := owners (ws.take i) ((takes ps.length M 0 bs).take i)) (m := M) (bs := bs) (w := ws[i]) (b := bs[i]) (o7 := o7) rfl hp (takes ps.length M 0 bs)[i] (by omega)
        (it := itR1 (consS (callS (c12 minD min2D) (consS (lstS (consS (vS 6) (consS (callS (c1 lenD) (consS (vS 1) (nilS))) (consS (op2S oSub (op2S oMul (vS 2) (callS (c1 lenD) (consS (vS 1) (nilS)))) (callS (c1 lenD) (consS (vS 4) (nilS)))) (nilS))))) (nilS))) (nilS))) (by
          have hmem := (minL_spec bs[i] [(ps.length : Int), (M : Int) * ps.length - ((owners (ws.take i) ((takes ps.length M 0 bs).take i)).length : Nat)]).1
          have hbi := hb0 bs[i] (List.getElem_mem hb)
          have hlow : 0 ≤ minL [bs[i], (ps.length : Int), (M : Int) * ps.length - ((owners (ws.take i) ((takes ps.length M 0 bs).take i)).length : Nat)] := by
            simp only [List.mem_cons, List.not_mem_nil, or_false] at hmem
            rcases hmem with z | z | z <;> rw [z] <;> omega
          rw [et]
          refine itR1_int (by omega) (by omega) ?_
          have hm := mul_ok (m := (M : Int)) (n := ps.length) (by omega) (by omega) hP
          simp [oMul, hm, oSub, lenD, lenQ, asQ, asL, prs_len, lim3])
      refine ⟨.tup [.str ws[i], .int bs[i]], _, _, _, by simp [ItD.at, List.getElem?_zipWith, hi, hb], rfl, .inl e7, _, _, _, rfl, ?_⟩
      rw [owners_snoc hi ht]) (fun _ _ _ => rfl)
  have tk : (ItD.fix (List.zipWith (fun x y => D.tup [x, y]) (ws.map D.str) (bs.map D.int))).len = ws.length := by simp [ItD.len, hl]
  rw [tk, List.take_length, ← tl, List.take_length] at e
  have e0 : c1' ps [] = .lst [] := rfl
  rw [e0] at e
  have ef := finD_own (ds := (prsOf ps (owners ws (takes ps.length M 0 bs))).map fun p => D.tup [.str p.1, .str p.2]) (by simp [List.any_map, Function.comp_def, hasRef])
  simp [F_pairs_dealt, m_pairs_dealt, e, ef]
theorem dealt_ok {ws ps : List Str} {M : Nat} {bs : List Int} {w : Int} (g : GoodNames ws) (h : GoodNames ps) (m0 : 0 < M) (m1 : M ≤ ws.length) (hl : bs.length = ws.length) (hb : ∀ b ∈ bs, 0 ≤ b ∧ b ≤ 1000) (sm : M * ps.length < 64) (hr : (M : Int) * ps.length ≤ room ps.length bs) (hw : 0 < w) :
    F_dealt [T ws, T ps, .int M, IT bs, .int w] [] = .ok (crewD ws ps (ps.map (holders (prsOf ps (owners ws (takes ps.length M 0 bs))))) w) [] := by
  have := g.len
  have := h.len
  have hp : 0 < ps.length := by have := h.ne; cases ps <;> simp_all
  have m0' : (0 : Int) < M := by omega
  have m1' : (M : Int) ≤ ws.length := by omega
  have pk := pairs_ok (ws := ws) (ps := ps) (M := M) (bs := bs) hp sm (by omega) (by omega) hl hb
  have ol := owners_len (ws := ws) (ts := takes ps.length M 0 bs) (by rw [takes_len, hl]; exact Nat.le_refl _)
  have tb := takes_sum (P := ps.length) (M := M) (k := 0) (bs := bs) (Nat.zero_le _)
  have e5 := lots_ok (ps := ps) (prs := prsOf ps (owners ws (takes ps.length M 0 bs))) (by omega) (by rw [prs_len, ol]; omega)
  have hm := mul_ok (m := (M : Int)) (n := ps.length) (by omega) (by omega) (by omega)
  simp [F_dealt, m_dealt, want_sets_ok g h, want_many_ok m0' m1', bounds_ok hl (by omega) fun b hx => (hb b hx).1, room_ok (ps := ps) (bs := bs) (by omega), oMul, hm, oGe, hr, want_ok, is_above_int, hw, pk, e5, lim4]
@[simp] theorem ix40 {a b c d : D} {st : Sto} : oIx st (.tup [a, b, c, d]) (.int 0) = .ok a st := by simp [oIx, asQ, atI, ixN]
@[simp] theorem ix41 {a b c d : D} {st : Sto} : oIx st (.tup [a, b, c, d]) (.int 1) = .ok b st := by simp [oIx, asQ, atI, ixN]
@[simp] theorem ix42 {a b c d : D} {st : Sto} : oIx st (.tup [a, b, c, d]) (.int 2) = .ok c st := by simp [oIx, asQ, atI, ixN]
@[simp] theorem ix43 {a b c d : D} {st : Sto} : oIx st (.tup [a, b, c, d]) (.int 3) = .ok d st := by simp [oIx, asQ, atI, ixN]
def lacks (lots : List (List Str)) (goal : Int) : Int := (lots.map fun lot => maxL [0, goal - lot.length]).sum
theorem fewest_ok {ws ps : List Str} {lots : List (List Str)} {w s : Int} (hl : lots.length ≤ 1000) :
    F_fewest_added [crewD ws ps lots w, .int s] [] = .ok (if (ws.length : Int) < s + w then .non else .int (lacks lots (s + w))) [] := by
  have e : lcS (itS (op2S oIx (vS 0) (cS (.int 2)))) [3] (nameT 3) (yesS) (callS (c12 maxD max2D) (consS (lstS (consS (cS (.int 0)) (consS (op2S oSub (vS 2) (callS (c1 lenD) (consS (vS 3) (nilS)))) (nilS)))) (nilS))) [some (crewD ws ps lots w), some (.int s), some (.int (s + w)), none] [] = .ok (lots.map fun lot => D.int (maxL [0, (s + w) - lot.length])) [] := by
    refine lcS_all T (fun lot => D.int (maxL [0, (s + w) - lot.length])) (by simp) (lim_of hl) fun x hx => ⟨_, rfl, ?_⟩
    simp [wipeF, oSub, lim2]
  by_cases hc : (ws.length : Int) < s + w
  · simp [F_fewest_added, m_fewest_added, is_integer_int, want_ok, oAdd, oGt, hc]
  · simp [F_fewest_added, m_fewest_added, is_integer_int, want_ok, oAdd, oGt, hc, e, lacks]
def missing (ws lot : List Str) : List Str := ws.filter fun x => !decide (x ∈ lot)
def wLot (ws : List Str) (goal : Int) (lot : List Str) : List Str := sSort (sDup (lot ++ (missing ws lot).take (maxL [0, goal - lot.length]).toNat))
theorem cut_hi {α : Type} {xs : List α} {k : Int} (h : 0 ≤ k) : Pl.cutD xs none (some k) = xs.take k.toNat := by
  unfold Pl.cutD
  have e1 : HT.sIx xs.length 0 none = 0 := rfl
  have e2 : HT.sIx xs.length xs.length (some k) = min k.toNat xs.length := by
    show (if k < 0 then (k + (xs.length : Int)).toNat else min k.toNat xs.length) = _
    rw [if_neg (by omega)]
  rw [e1, e2]
  simp
theorem maxL_pos {a : Int} : 0 ≤ maxL [0, a] := (maxL_spec 0 [a]).2 0 (by simp)
theorem lot_step {ws ps lot : List Str} {lots : List (List Str)} {w s goal : Int} {acc : List D} {o5 o6 : Option D} (hw : ws.length ≤ 30) (hl : lot.length ≤ 30) (ha : acc.length < 1000) :
    ∃ o5' o6', (seqM (asgS (nameT 5) (frzS (lcS (itS (op2S oIx (vS 0) (cS (.int 0)))) [6] (nameT 6) (truS toB (op2S oNotIn (vS 6) (vS 2))) (vS 6))))
      (dropM (appS (vS 3) (callP F_as_names [] (consS (lstS (starS (vS 2) (starS (slS (vS 5) (noP) (partS (callS (c12 maxD max2D) (consS (lstS (consS (cS (.int 0)) (consS (op2S oSub (vS 4) (callS (c1 lenD) (consS (vS 2) (nilS)))) (nilS)))) (nilS))))) (nilS)))) (nilS))))))
        [some (crewD ws ps lots w), some (.int s), some (T lot), some (.ref 0), some (.int goal), o5, o6] [.lst acc] =
      .nx [some (crewD ws ps lots w), some (.int s), some (T lot), some (.ref 0), some (.int goal), o5', o6'] [.lst (acc ++ [T (wLot ws goal lot)])] := by
  have e : lcS (itS (op2S oIx (vS 0) (cS (.int 0)))) [6] (nameT 6) (truS toB (op2S oNotIn (vS 6) (vS 2))) (vS 6) [some (crewD ws ps lots w), some (.int s), some (T lot), some (.ref 0), some (.int goal), o5, o6] [.lst acc] = .ok ((missing ws lot).map D.str) [.lst acc] := by
    refine lcS_map D.str (fun x => !decide (x ∈ lot)) D.str (by simp) (lim_of (by omega)) fun x hx => ⟨_, rfl, ?_, fun _ => ?_⟩
    · simp [wipeF, oNotIn]
    · simp [wipeF]
  have hlen : lot.length + min (maxL [0, goal - lot.length]).toNat (missing ws lot).length ≤ 60 := by
    have := List.length_filter_le (fun x => !decide (x ∈ lot)) ws
    have : (missing ws lot).length ≤ ws.length := this
    omega
  have e3 := as_names_L (xs := lot ++ (missing ws lot).take (maxL [0, goal - lot.length]).toNat) (by simp; omega)
  have hlim : lot.length + min (maxL [0, goal - lot.length]).toNat (missing ws lot).length ≤ LIM := lim_of (by omega)
  have halim : acc.length < LIM := by unfold LIM; omega
  have e4 : ∀ st, callP1 F_as_names [] [.lst (lot.map D.str ++ ((missing ws lot).map D.str).take (maxL [0, goal - lot.length]).toNat)] st = .ok (T (wLot ws goal lot)) st := fun st => callP1_of (by
    rw [L, List.map_append, List.map_take] at e3
    exact e3) (by simp [hasRef, FUEL, List.any_map, Function.comp_def, ← List.map_take])
  refine ⟨some (L (missing ws lot)), o6, ?_⟩
  simp only [q_seqM, q_asgS, q_frzS, e, q_bok, q_sok, q_nameT, q_nx]
  simp [lim2, oSub, cut_hi maxL_pos, appS, hlim, e4, appD, halim]
theorem widened_ok {ws ps : List Str} {lots : List (List Str)} {w s : Int} (hw : ws.length ≤ 30) (hl : lots.length ≤ 60) (hlot : ∀ lot ∈ lots, lot.length ≤ 30) (hs : s + w ≤ ws.length) :
    F_widened [crewD ws ps lots w, .int s] [] = .ok (crewD ws ps (lots.map (wLot ws (s + w))) w) [] := by
  obtain ⟨fr', st', e, o2, o5, o6, rfl, rfl⟩ := forM_nx (it := itS (op2S oIx (vS 0) (cS (.int 2)))) (tg := nameT 2)
    (body := seqM (asgS (nameT 5) (frzS (lcS (itS (op2S oIx (vS 0) (cS (.int 0)))) [6] (nameT 6) (truS toB (op2S oNotIn (vS 6) (vS 2))) (vS 6))))
      (dropM (appS (vS 3) (callP F_as_names [] (consS (lstS (starS (vS 2) (starS (slS (vS 5) (noP) (partS (callS (c12 maxD max2D) (consS (lstS (consS (cS (.int 0)) (consS (op2S oSub (vS 4) (callS (c1 lenD) (consS (vS 2) (nilS)))) (nilS)))) (nilS))))) (nilS)))) (nilS))))))
    (fr := [some (crewD ws ps lots w), some (.int s), none, some (.ref 0), some (.int (s + w)), none, none]) (st := [.lst []]) (itd := .fix (lots.map T)) (st1 := [.lst []])
    (fun i fr st => ∃ o2 o5 o6, fr = [some (crewD ws ps lots w), some (.int s), o2, some (.ref 0), some (.int (s + w)), o5, o6] ∧ st = [.lst ((lots.take i).map fun lot => T (wLot ws (s + w) lot))]) (by simp) ⟨none, none, none, rfl, by simp⟩ (by
      rintro i fr st hi ⟨o2, o5, o6, rfl, rfl⟩
      have hi : i < lots.length := by simpa [ItD.len] using hi
      obtain ⟨o5', o6', e⟩ := lot_step (ws := ws) (ps := ps) (lot := lots[i]) (lots := lots) (w := w) (s := s) (goal := s + w) (acc := (lots.take i).map fun lot => T (wLot ws (s + w) lot)) (o5 := o5) (o6 := o6) hw (hlot _ (List.getElem_mem hi)) (by simp; omega)
      refine ⟨T lots[i], _, _, _, by simp [ItD.at, hi], rfl, .inl e, _, _, _, rfl, ?_⟩
      rw [List.take_succ_eq_append_getElem hi, List.map_append]
      rfl) (fun _ _ _ => rfl)
  have tk : (ItD.fix (lots.map T)).len = lots.length := by simp [ItD.len]
  rw [tk, List.take_length] at e
  have ef : ∀ d, hasRef FUEL d = false → ∀ st', finD [] d st' = .ok d [] := fun d h st' => finD_nil h
  have hr : hasRef FUEL (crewD ws ps (lots.map (wLot ws (s + w))) w) = false := by simp [hasRef, FUEL, List.any_map, Function.comp_def]
  have hle : s + w ≤ (ws.length : Int) := hs
  simp [F_widened, m_widened, is_integer_int, oAdd, oLe, hle, want_ok, e, tupD, tupL, lim4]
  rw [show (lots.map fun lot => T (wLot ws (s + w) lot)) = (lots.map (wLot ws (s + w))).map T by simp [Function.comp_def]]
  exact ef _ hr _
end K85
set_option Elab.async false
set_option linter.all false
set_option maxRecDepth 100000
set_option maxHeartbeats 2000000
namespace K85
open PySem PySem.Spec PyProof.Rows L2 Pg Pl
def dc : DrawC := ⟨191, 1999998661, 31311, 379, 2147482543, 16389, 313, 2147482389⟩
theorem dc_ok : dc.ok := by unfold DrawC.ok dc; decide
theorem draw_is : F__law_draw = fnF 6 (drawM dc) := rfl
theorem draw {K size : Int} {cs st : Sto} (h : Fd K cs st) (hK : K ≤ 10000) (hs : 0 < size) (hs2 : size ≤ 1000) :
    ∃ v st', F__law_draw [.ref 0, .int size] st = .ok (.int v) st' ∧ 0 ≤ v ∧ v < size ∧ Fd (K + 1) cs st' := by
  rw [draw_is]
  exact draw_ok dc_ok h hK hs hs2
/-! ### drawn names -/
def cA : List Nat := [97, 98, 100, 101, 107, 111, 114, 115, 116, 122]
def cC : List Nat := [99, 102, 103, 104, 105, 106, 108, 109]
def chars (x : Str) : List Nat := x.cps.toList
theorem chars_join : ∀ (cs : List Nat), chars (Txt.join (Str.ofString "") (cs.map fun c => (⟨#[c]⟩ : Str))) = cs := by
  intro cs
  have e : TL.tl (Str.ofString "") = [] := by decide +kernel
  rw [TL.join_eq]
  show TL.tl _ = cs
  rw [TL.tl_join, e]
  induction cs with
  | nil => rfl
  | cons c cs ih =>
    cases cs with
    | nil => rfl
    | cons c2 cs =>
      simp only [List.map_cons] at ih ⊢
      rw [TL.joinL, ih]
      rfl
theorem chars_ext {x y : Str} (h : chars x = chars y) : x = y := TL.ext_tl h
theorem chars_add {x y : Str} : chars (x ++ y) = chars x ++ chars y := TL.tl_append x y
theorem chars_len {x : Str} : x.length = (chars x).length := TL.len_tl x
/-- what a drawn name looks like, behind i laps -/
def Drawn (i : Nat) (x : Str) : Prop := ∃ b : List Nat, 1 ≤ b.length ∧ b.length ≤ 3 ∧ (∀ c ∈ b, c ∈ cA) ∧ (chars x = b ∨ ∃ j c, j < i ∧ cC[j]? = some c ∧ chars x = b ++ [c])
theorem Drawn.mono {i j : Nat} {x : Str} (h : Drawn i x) (hi : i ≤ j) : Drawn j x := by
  obtain ⟨b, h1, h2, h3, h4⟩ := h
  refine ⟨b, h1, h2, h3, h4.imp id fun ⟨k, c, q1, q2, q3⟩ => ⟨k, c, by omega, q2, q3⟩⟩
theorem cA_low : ∀ c ∈ cA, c ∈ low := by decide
theorem cC_low : ∀ c ∈ cC, c ∈ low := by decide
theorem cC_A : ∀ c ∈ cC, c ∉ cA := by decide
theorem cC_nodup : cC.Nodup := by decide
theorem Drawn.name {i : Nat} {x : Str} (h : Drawn i x) : NameOk x := by
  obtain ⟨b, h1, h2, h3, h4⟩ := h
  unfold NameOk
  rw [chars_len]
  rcases h4 with e | ⟨j, c, _, hc, e⟩
  · rw [e]
    refine ⟨h1, by omega, fun c hc => cA_low c (h3 c (by rw [← e]; exact hc))⟩
  · rw [e]
    refine ⟨by simp, by simp; omega, fun d hd => ?_⟩
    have hd : d ∈ b ++ [c] := by rw [← e]; exact hd
    rcases List.mem_append.mp hd with z | z
    · exact cA_low d (h3 d z)
    · rw [List.mem_singleton.mp z]
      exact cC_low c (List.mem_of_getElem? hc)
/-- the i-th mark makes it new -/
theorem drawn_new {i c : Nat} {x y : Str} {b : List Nat} (hx : Drawn i x) (hc : cC[i]? = some c) (hy : chars y = b ++ [c]) : x ≠ y := by
  rintro rfl
  obtain ⟨b', h1, h2, h3, h4⟩ := hx
  have hcA : c ∉ cA := cC_A c (List.mem_of_getElem? hc)
  rcases h4 with e | ⟨j, d, hj, hd, e⟩
  · rw [hy] at e
    exact hcA (h3 c (by rw [← e]; simp))
  · rw [hy] at e
    have e2 : c = d := by
      have := congrArg List.getLast? e
      simpa using this
    subst e2
    have h5 := (List.getElem?_eq_some_iff.mp hc)
    have h6 := (List.getElem?_eq_some_iff.mp hd)
    obtain ⟨p5, e5⟩ := h5
    obtain ⟨p6, e6⟩ := h6
    have := (List.getElem_inj cC_nodup).mp (e5.trans e6.symm)
    omega
theorem signs_A : signsD (Str.ofString "abdekorstz") = cA.map fun c => D.str ⟨#[c]⟩ := by
  have : (Str.ofString "abdekorstz").cps.toList = cA := by decide +kernel
  unfold signsD
  rw [this]
theorem signs_C : signsD (Str.ofString "cfghijlm") = cC.map fun c => D.str ⟨#[c]⟩ := by
  have : (Str.ofString "cfghijlm").cps.toList = cC := by decide +kernel
  unfold signsD
  rw [this]
theorem lst_A {st : Sto} : lstD st (.str (Str.ofString "abdekorstz")) = .ok (.lst (cA.map fun c => D.str ⟨#[c]⟩)) st := by
  have : (Str.ofString "abdekorstz").length ≤ LIM := by decide +kernel
  unfold lstD
  simp only
  rw [if_pos this, signs_A]
theorem lst_C {st : Sto} : lstD st (.str (Str.ofString "cfghijlm")) = .ok (.lst (cC.map fun c => D.str ⟨#[c]⟩)) st := by
  have : (Str.ofString "cfghijlm").length ≤ LIM := by decide +kernel
  unfold lstD
  simp only
  rw [if_pos this, signs_C]
/-- one drawn sign -/
theorem sign_ok {K : Int} {cs st : Sto} {fr : Fr} (hf : fr[0]? = some (some (.ref 0))) (h : Fd K cs st) (hK : K ≤ 10000) :
    ∃ c st', op2S oIx (callS (c1 lstD) (consS (cS (.str "abdekorstz")) (nilS))) (callM F__law_draw [] (consS (vS 0) (consS (cS (.int 10)) (nilS)))) fr st = .ok (.str ⟨#[c]⟩) st' ∧ c ∈ cA ∧ Fd (K + 1) cs st' := by
  obtain ⟨v, st', e, v0, v1, h'⟩ := draw (size := 10) h hK (by decide) (by decide)
  obtain ⟨k, rfl⟩ := Int.eq_ofNat_of_zero_le v0
  have hk : k < 10 := by omega
  have hk2 : k < cA.length := by simpa [cA] using hk
  have hix : oIx st' (.lst (cA.map fun c => D.str ⟨#[c]⟩)) (.int (k : Int)) = .ok (.str ⟨#[cA[k]]⟩) st' := by
    have := atI_ok (xs := cA.map fun c => D.str ⟨#[c]⟩) (i := k) (by simpa using hk2)
    simp [oIx, this]
  exact ⟨cA[k], st', by simp [lst_A, hf, e, hix], List.getElem_mem hk2, h'⟩
theorem len1 : ∀ b : List Nat, ((b.map fun c => (⟨#[c]⟩ : Str)).map (·.length)).sum = b.length
  | [] => rfl
  | c :: b => by
    rw [List.map_cons, List.map_cons, List.sum_cons, len1 b, List.length_cons]
    show 1 + b.length = b.length + 1
    omega
theorem base_ok {K : Int} {cs st : Sto} {fr : Fr} (hf : fr[0]? = some (some (.ref 0))) (hw : (wipeF fr [5])[0]? = some (some (.ref 0))) (hlen : 5 < fr.length) (h : Fd K cs st) (hK : K ≤ 9000) :
    ∃ (b : List Nat) (st' : Sto), joinS (cS (.str "")) (frzS (lcS (itR1 (consS (op2S oAdd (cS (.int 1)) (callM F__law_draw [] (consS (vS 0) (consS (cS (.int 3)) (nilS))))) (nilS))) [5] (nameT 5) (yesS) (op2S oIx (callS (c1 lstD) (consS (cS (.str "abdekorstz")) (nilS))) (callM F__law_draw [] (consS (vS 0) (consS (cS (.int 10)) (nilS))))))) fr st = .ok (.str (Txt.join (Str.ofString "") (b.map fun c => (⟨#[c]⟩ : Str)))) st' ∧
      1 ≤ b.length ∧ b.length ≤ 3 ∧ (∀ c ∈ b, c ∈ cA) ∧ Fd (K + 4) cs st' := by
  obtain ⟨v, st1, e, v0, v1, h1⟩ := draw (size := 3) h (by omega) (by decide) (by decide)
  obtain ⟨k, rfl⟩ := Int.eq_ofNat_of_zero_le v0
  have hit : itR1 (consS (op2S oAdd (cS (.int 1)) (callM F__law_draw [] (consS (vS 0) (consS (cS (.int 3)) (nilS))))) (nilS)) fr st = .ok (.fix ((List.range (1 + k)).map fun i : Nat => D.int i)) st1 :=
    itR1_nat (by omega) (by simp [hf, e, oAdd])
  obtain ⟨acc, st', e2, ⟨b, rfl, hb1, hb2, hb3⟩, _⟩ := lcS_ex (vs := [5]) (tg := nameT 5) (tt := yesS) (te := op2S oIx (callS (c1 lstD) (consS (cS (.str "abdekorstz")) (nilS))) (callM F__law_draw [] (consS (vS 0) (consS (cS (.int 10)) (nilS)))))
    (fun i acc st => ∃ b : List Nat, acc = b.map (fun c => D.str ⟨#[c]⟩) ∧ b.length = i ∧ (∀ c ∈ b, c ∈ cA) ∧ Fd (K + 1 + i) cs st) (by simp; unfold LIM; omega) hit ⟨[], rfl, rfl, by simp, by simpa using h1⟩ (by
      rintro i d acc st hd ⟨b, rfl, hb, hA, hF⟩ ha
      have hi : i < 1 + k := by
        have := (List.getElem?_eq_some_iff.mp hd).1
        simpa using this
      have hz : (List.set (wipeF fr [5]) 5 (some d))[0]? = some (some (.ref 0)) := by
        rw [List.getElem?_set_ne (by decide)]; exact hw
      obtain ⟨c, st', e, hc, hF'⟩ := sign_ok (K := K + 1 + i) (cs := cs) (st := st) hz hF (by omega)
      refine ⟨_, true, st, rfl, rfl, fun _ => ⟨_, st', e, b ++ [c], by simp, by simp [hb], fun x hx => ?_, ?_⟩, fun z => by cases z⟩
      · rcases List.mem_append.mp hx with z | z
        · exact hA x z
        · rw [List.mem_singleton.mp z]; exact hc
      · exact hF'.more (by omega))
  simp at hb1
  have hs : seqStrs st' (.lst (b.map fun c => D.str ⟨#[c]⟩)) = some (b.map fun c => (⟨#[c]⟩ : Str)) := by
    have := Pl.strs_map (b.map fun c => (⟨#[c]⟩ : Str))
    rw [List.map_map] at this
    unfold seqStrs
    rw [q_asQ2]
    exact this
  have hsum : ((b.map fun c => (⟨#[c]⟩ : Str)).map (·.length)).sum + (b.map fun c => (⟨#[c]⟩ : Str)).length * (Str.ofString "").length ≤ LIM := by
    have e0 : (Str.ofString "").length = 0 := by decide +kernel
    have e1 : ((b.map fun c => (⟨#[c]⟩ : Str)).map (·.length)).sum = b.length := len1 b
    rw [e0, e1, Nat.mul_zero]
    unfold LIM
    omega
  refine ⟨b, st', ?_, by omega, by omega, hb2, hb3.more (by simp; omega)⟩
  simp [e2, joinD, hs]
  simpa using hsum
theorem in_R1 {x : Str} {found : List Str} {c0 : Cell} {st : Sto} : inD (c0 :: .lst (found.map .str) :: st) (.str x) (.ref 1) = some (decide (x ∈ found)) := by
  have := in_T (x := x) (xs := found) (st := c0 :: .lst (found.map .str) :: st)
  unfold inD at this ⊢
  simpa [asQ, asL] using this
theorem slt_of {a b : Str} (h : sLe a b = true) (ne : a ≠ b) : slt a b = true := by
  unfold sLe at h
  simp only [Bool.not_eq_true', decide_eq_false_iff_not] at h
  unfold slt
  rw [decide_eq_true_eq]
  refine Decidable.byContradiction fun z => ne (str_ext (List.le_antisymm (List.not_lt.mp h) (List.not_lt.mp z)))
theorem asc_sort {xs : List Str} (h : xs.Nodup) : Asc (sSort xs) := by
  have nd : (sSort xs).Nodup := (sSort_perm xs).nodup_iff.mpr h
  exact (sSort_sorted xs).imp₂ (fun a b h1 h2 => slt_of h1 h2) nd
abbrev lapM : Sm := seqM (asgS (nameT 4) (joinS (cS (.str "")) (frzS (lcS (itR1 (consS (op2S oAdd (cS (.int 1)) (callM F__law_draw [] (consS (vS 0) (consS (cS (.int 3)) (nilS))))) (nilS))) [5] (nameT 5) (yesS) (op2S oIx (callS (c1 lstD) (consS (cS (.str "abdekorstz")) (nilS))) (callM F__law_draw [] (consS (vS 0) (consS (cS (.int 10)) (nilS)))))))))
  (seqM (ifM (truS toB (op2S oIn (vS 4) (vS 2))) (asgS (nameT 4) (op2S oAdd (vS 4) (op2S oIx (callS (c1 lstD) (consS (cS (.str "cfghijlm")) (nilS))) (vS 3)))) (skipM))
  (dropM (appS (vS 2) (vS 4))))
theorem lap_ok {K : Int} {found : List Str} {i : Nat} {m : Int} {st : Sto} {o4 o5 : Option D} (h : Fd K [.lst (found.map .str)] st) (hK : K ≤ 9000) (hi : i < 8) (hl : found.length ≤ 60) (nd : found.Nodup) (hd : ∀ x ∈ found, Drawn i x) :
    ∃ y o4' o5' st', lapM [some (.ref 0), some (.int m), some (.ref 1), some (.int i), o4, o5] st = .nx [some (.ref 0), some (.int m), some (.ref 1), some (.int i), o4', o5'] st' ∧ Fd (K + 4) [.lst ((found ++ [y]).map .str)] st' ∧ y ∉ found ∧ Drawn (i + 1) y := by
  obtain ⟨b, st1, e1, b1, b2, b3, h1⟩ := base_ok (fr := [some (.ref 0), some (.int m), some (.ref 1), some (.int i), o4, o5]) (by rfl) (by rfl) (by simp) h hK
  obtain ⟨ns, a, bb, n, rfl, q1, q2, q3, q4, q5⟩ := h1
  have hlim : found.length < LIM := by unfold LIM; omega
  have ch := chars_join b
  by_cases hin : Txt.join (Str.ofString "") (b.map fun c => (⟨#[c]⟩ : Str)) ∈ found
  · have hi2 : i < cC.length := by simpa [cC] using hi
    have hix : ∀ st, oIx st (.lst (cC.map fun c => D.str ⟨#[c]⟩)) (.int (i : Int)) = .ok (.str ⟨#[cC[i]]⟩) st := fun st => by
      have := atI_ok (xs := cC.map fun c => D.str ⟨#[c]⟩) (i := i) (by simpa using hi2)
      simp [oIx, this]
    have hy : chars (Txt.join (Str.ofString "") (b.map fun c => (⟨#[c]⟩ : Str)) ++ (⟨#[cC[i]]⟩ : Str)) = b ++ [cC[i]] := by rw [chars_add, ch]; rfl
    have hc : cC[i]? = some cC[i] := List.getElem?_eq_getElem hi2
    have hlen : (Txt.join (Str.ofString "") (b.map fun c => (⟨#[c]⟩ : Str))).length + (⟨#[cC[i]]⟩ : Str).length ≤ LIM := by
      rw [chars_len, ch]
      show b.length + 1 ≤ LIM
      unfold LIM; omega
    refine ⟨Txt.join (Str.ofString "") (b.map fun c => (⟨#[c]⟩ : Str)) ++ (⟨#[cC[i]]⟩ : Str), some (.str (Txt.join (Str.ofString "") (b.map fun c => (⟨#[c]⟩ : Str)) ++ (⟨#[cC[i]]⟩ : Str))), o5, feed ns a bb n :: [.lst ((found ++ [Txt.join (Str.ofString "") (b.map fun c => (⟨#[c]⟩ : Str)) ++ (⟨#[cC[i]]⟩ : Str)]).map .str)], ?_, ⟨ns, a, bb, n, rfl, q1, q2, q3, q4, q5⟩, fun hm => drawn_new (hd _ hm) hc hy rfl, ⟨b, b1, b2, b3, .inr ⟨i, cC[i], by omega, hc, hy⟩⟩⟩
    simp only [lapM, q_seqM, q_asgS, e1, q_sok, q_nameT, q_nx]
    simp [oIn, in_R1, hin, lst_C, hix, oAdd, hlen, appS, appD, hlim]
  · refine ⟨Txt.join (Str.ofString "") (b.map fun c => (⟨#[c]⟩ : Str)), some (.str (Txt.join (Str.ofString "") (b.map fun c => (⟨#[c]⟩ : Str)))), o5, feed ns a bb n :: [.lst ((found ++ [Txt.join (Str.ofString "") (b.map fun c => (⟨#[c]⟩ : Str))]).map .str)], ?_, ⟨ns, a, bb, n, rfl, q1, q2, q3, q4, q5⟩, hin, ⟨b, b1, b2, b3, .inl ch⟩⟩
    simp only [lapM, q_seqM, q_asgS, e1, q_sok, q_nameT, q_nx]
    simp [oIn, in_R1, hin, appS, appD, hlim]
theorem many_ok {K : Int} {m : Nat} {st : Sto} (h : Fd K [] st) (hK : K ≤ 8000) (m0 : 1 ≤ m) (m1 : m ≤ 8) :
    ∃ xs st', F__law_many [.ref 0, .int m] st = .ok (T xs) st' ∧ GoodNames xs ∧ xs.length = m ∧ Fd (K + 40) [] st' := by
  obtain ⟨ns, a, b, n, rfl, q1, q2, q3, q4, q5⟩ := h
  obtain ⟨fr', st', e, o3, o4, o5, found, rfl, hF, hl, nd, hd⟩ := forM_nx (it := itR1 (consS (vS 1) (nilS))) (tg := nameT 3) (body := lapM)
    (fr := [some (.ref 0), some (.int m), some (.ref 1), none, none, none]) (st := [feed ns a b n, .lst []]) (itd := .fix ((List.range m).map fun i : Nat => D.int i)) (st1 := [feed ns a b n, .lst []])
    (fun i fr st => ∃ o3 o4 o5 found, fr = [some (.ref 0), some (.int m), some (.ref 1), o3, o4, o5] ∧ Fd (K + 4 * i) [.lst (found.map D.str)] st ∧ found.length = i ∧ found.Nodup ∧ ∀ x ∈ found, Drawn i x)
    (itR1_nat (by omega) (by simp)) ⟨none, none, none, [], rfl, ⟨ns, a, b, n, rfl, q1, q2, q3, q4, by simpa using q5⟩, rfl, List.nodup_nil, by simp⟩ (by
      rintro i fr st hi ⟨o3, o4, o5, found, rfl, hF, hl, nd, hd⟩
      have hi : i < m := by simpa [ItD.len] using hi
      obtain ⟨y, o4', o5', st', e, hF', hy, hdy⟩ := lap_ok (K := K + 4 * i) (found := found) (i := i) (m := m) (st := st) (o4 := o4) (o5 := o5) hF (by omega) (by omega) (by omega) nd hd
      refine ⟨.int i, _, _, _, by simp [ItD.at, hi], rfl, .inl e, some (.int i), o4', o5', found ++ [y], rfl, hF'.more (by omega), by simp [hl], ?_, fun x hx => ?_⟩
      · rw [List.nodup_append]
        exact ⟨nd, by simp, fun p hp q hq e => hy (by rw [List.mem_singleton] at hq; subst hq; rw [← e]; exact hp)⟩
      · rcases List.mem_append.mp hx with z | z
        · exact (hd x z).mono (by omega)
        · rw [List.mem_singleton.mp z]; exact hdy) (fun _ _ _ => rfl)
  have hlen : (ItD.fix ((List.range m).map fun i : Nat => D.int i)).len = m := by simp [ItD.len]
  rw [hlen] at hF hl hd
  obtain ⟨ns', a', b', n', rfl, r1, r2, r3, r4, r5⟩ := hF
  have hp := sSort_perm found
  refine ⟨sSort found, [feed ns' a' b' n'], ?_, ⟨?_, ?_, ?_, asc_sort nd⟩, by rw [hp.length_eq, hl], ns', a', b', n', rfl, r1, r2, r3, r4, by omega⟩
  · have hs : sortD [feed ns' a' b' n', .lst (found.map D.str)] (.ref 1) = .ok (.lst ((sSort found).map D.str)) [feed ns' a' b' n', .lst (found.map D.str)] := by
      unfold sortD strsOf
      simp only [q_asL3, Option.bind_some, Pl.strs_map]
      rw [if_pos (by omega)]
    have hf : finD [feed ns a b n] (T (sSort found)) [feed ns' a' b' n', .lst (found.map D.str)] = .ok (T (sSort found)) [feed ns' a' b' n'] := fin_feed (by simp [hasRef, FUEL, List.any_map, Function.comp_def])
    simp [F__law_many, m__law_many, e, hs, tupD, tupL, hf]
  · intro z
    have := hp.length_eq
    rw [z] at this
    simp at this
    omega
  · rw [hp.length_eq]; omega
  · exact fun x hx => (hd x (hp.mem_iff.mp hx)).name
/-! a drawn crew -/
end K85
set_option Elab.async false
set_option linter.all false
set_option maxRecDepth 100000
set_option maxHeartbeats 2000000
namespace K85
open PySem PySem.Spec PyProof.Rows L2 Pg Pl
theorem asc_sub {xs ys : List Str} (h : xs.Sublist ys) (a : Asc ys) : Asc xs := a.sublist h
abbrev crewLap : Sm := seqM (asgS (nameT 7) (op2S oIx (vS 5) (callM F__law_draw [] (consS (vS 0) (consS (callS (c1 lenD) (consS (vS 5) (nilS))) (nilS))))))
  (dropM (appS (vS 3) (callS (c1 tupD) (consS (frzS (lcS (itS (vS 5)) [8] (nameT 8) (orS (truS toB (op2S oEq (vS 8) (vS 7))) (truS toB (op2S oGt (callM F__law_draw [] (consS (vS 0) (consS (cS (.int 4)) (nilS)))) (cS (.int 0))))) (vS 8))) (nilS)))))
theorem crew_lap {K : Int} {ws : List Str} {lots : List (List Str)} {st : Sto} {o1 o2 o4 o6 o7 o8 : Option D} (g : GoodNames ws) (hw : ws.length ≤ 8) (hl : lots.length ≤ 60) (h : Fd K [.lst (lots.map T)] st) (hK : K ≤ 9000) :
    ∃ lot o7' st', crewLap [some (.ref 0), o1, o2, some (.ref 1), o4, some (T ws), o6, o7, o8] st = .nx [some (.ref 0), o1, o2, some (.ref 1), o4, some (T ws), o6, o7', o8] st' ∧ Fd (K + 20) [.lst ((lots ++ [lot]).map T)] st' ∧ GoodLot ws lot := by
  have hp : 0 < ws.length := by have := g.ne; cases ws <;> simp_all
  obtain ⟨v, st1, e1, v0, v1, h1⟩ := draw (size := (ws.length : Int)) h (by omega) (by omega) (by omega)
  obtain ⟨k, rfl⟩ := Int.eq_ofNat_of_zero_le v0
  have hk : k < ws.length := by omega
  have hix : oIx st1 (T ws) (.int (k : Int)) = .ok (.str ws[k]) st1 := by
    have := oIx_T (xs := ws) (i := k) (st := st1) hk
    simpa [hk] using this
  obtain ⟨acc, st2, e2, ⟨lot, rfl, hsub, hin, h2⟩, hlen⟩ := lcS_ex (it := itS (vS 5)) (vs := [8]) (tg := nameT 8) (tt := orS (truS toB (op2S oEq (vS 8) (vS 7))) (truS toB (op2S oGt (callM F__law_draw [] (consS (vS 0) (consS (cS (.int 4)) (nilS)))) (cS (.int 0))))) (te := vS 8)
    (fr := [some (.ref 0), o1, o2, some (.ref 1), o4, some (T ws), o6, some (.str ws[k]), o8]) (st := st1) (st1 := st1) (ds := ws.map D.str)
    (fun i acc st => ∃ lot : List Str, acc = lot.map D.str ∧ lot.Sublist (ws.take i) ∧ (k < i → ws[k] ∈ lot) ∧ Fd (K + 1 + i) [.lst (lots.map T)] st) (by simp; unfold LIM; omega) (by simp) ⟨[], rfl, by simp, by omega, by simpa using h1⟩ (by
      rintro i d acc st hd ⟨lot, rfl, hs, hk2, hF⟩ ha
      obtain ⟨hi', hd'⟩ := List.getElem?_eq_some_iff.mp hd
      have hi : i < ws.length := by simpa using hi'
      have hd2 : d = .str ws[i] := by rw [← hd']; simp
      subst hd2
      have step : ∀ st', Fd (K + 1 + i + 1) [.lst (lots.map T)] st' → ∃ lot' : List Str, lot.map D.str ++ [D.str ws[i]] = lot'.map D.str ∧ lot'.Sublist (ws.take (i + 1)) ∧ (k < i + 1 → ws[k] ∈ lot') ∧ Fd (K + 1 + (i + 1 : Nat)) [.lst (lots.map T)] st' := fun st' hF' => ⟨lot ++ [ws[i]], by simp, by
          rw [List.take_succ_eq_append_getElem hi]
          exact hs.append (List.Sublist.refl _), fun hlt => by
          by_cases e : k = i
          · subst e; simp
          · exact List.mem_append_left _ (hk2 (by omega)), hF'.more (by omega)⟩
      by_cases he : ws[i] = ws[k]
      · refine ⟨_, true, st, rfl, by simp [wipeF, oEq, eqD, he], fun _ => ⟨.str ws[i], st, by simp [wipeF], step st (hF.more (by omega))⟩, fun z => by cases z⟩
      · obtain ⟨v, st', e, w0, w1, hF'⟩ := draw (size := 4) hF (by omega) (by decide) (by decide)
        refine ⟨_, decide (0 < v), st', rfl, by simp [wipeF, oEq, eqD, he, e, oGt], fun _ => ⟨.str ws[i], st', by simp [wipeF], step st' hF'⟩, fun _ => ⟨lot, rfl, ?_, fun hlt => ?_, hF'.more (by omega)⟩⟩
        · rw [List.take_succ_eq_append_getElem hi]
          exact hs.trans (List.sublist_append_left _ _)
        · by_cases e2 : k = i
          · subst e2; exact absurd rfl he
          · exact hk2 (by omega))
  simp only [List.length_map] at h2 hsub hin hlen
  rw [List.take_length] at hsub
  obtain ⟨ns, a, b, n, rfl, q1, q2, q3, q4, q5⟩ := h2
  have hlim : lots.length < LIM := by unfold LIM; omega
  refine ⟨lot, some (.str ws[k]), feed ns a b n :: [.lst ((lots ++ [lot]).map T)], ?_, ⟨ns, a, b, n, rfl, q1, q2, q3, q4, by omega⟩, ⟨fun z => ?_, by omega, fun x hx => hsub.subset hx, asc_sub hsub g.asc⟩⟩
  · have e3 : asgS (nameT 7) (op2S oIx (vS 5) (callM F__law_draw [] (consS (vS 0) (consS (callS (c1 lenD) (consS (vS 5) (nilS))) (nilS))))) [some (.ref 0), o1, o2, some (.ref 1), o4, some (T ws), o6, o7, o8] st = .nx [some (.ref 0), o1, o2, some (.ref 1), o4, some (T ws), o6, some (.str ws[k]), o8] st1 := by simp [e1, hix]
    simp only [crewLap, q_seqM, e3, q_nx]
    simp [appS, e2, tupD, tupL, appD, hlim]
  · have := hin hk
    rw [z] at this
    cases this
theorem crew_ok {K : Int} {st : Sto} (h : Fd K [] st) (hK : K ≤ 5000) :
    ∃ ws ps lots w st', F__law_crew [.ref 0, .int 4, .int 2] st = .ok (crewD ws ps lots w) st' ∧ GoodCrew ws ps lots w ∧ ws.length ≤ 5 ∧ ps.length ≤ 3 ∧ w ≤ 2 ∧ Fd (K + 200) [] st' := by
  obtain ⟨v1, st1, e1, a1, b1, h1⟩ := draw (size := 3) h (by omega) (by decide) (by decide)
  obtain ⟨k1, rfl⟩ := Int.eq_ofNat_of_zero_le a1
  obtain ⟨ws, st2, e2, g2, l2, h2⟩ := many_ok (m := 2 + k1) h1 (by omega) (by omega) (by omega)
  obtain ⟨v3, st3, e3, a3, b3, h3⟩ := draw (size := 3) h2 (by omega) (by decide) (by decide)
  obtain ⟨k3, rfl⟩ := Int.eq_ofNat_of_zero_le a3
  obtain ⟨ps, st4, e4, g4, l4, h4⟩ := many_ok (m := 1 + k3) h3 (by omega) (by omega) (by omega)
  obtain ⟨ns, a, b, n, rfl, q1, q2, q3, q4, q5⟩ := h4
  have e2' : F__law_many [.ref 0, .int (2 + (k1 : Int))] st1 = .ok (T ws) st2 := by simpa using e2
  have e4' : F__law_many [.ref 0, .int (1 + (k3 : Int))] st3 = .ok (T ps) [feed ns a b n] := by simpa using e4
  obtain ⟨fr5, st5, e5, o4, o7, o8, lots, rfl, h5, l5, g5⟩ := forM_nx (it := itS (vS 6)) (tg := nameT 4) (body := crewLap)
    (fr := [some (.ref 0), some (.int 4), some (.int 2), some (.ref 1), none, some (T ws), some (T ps), none, none]) (st := [feed ns a b n, .lst []]) (itd := .fix (ps.map D.str)) (st1 := [feed ns a b n, .lst []])
    (fun i fr st => ∃ o4 o7 o8 lots, fr = [some (.ref 0), some (.int 4), some (.int 2), some (.ref 1), o4, some (T ws), some (T ps), o7, o8] ∧ Fd (K + 90 + 20 * i) [.lst (lots.map T)] st ∧ lots.length = i ∧ ∀ lot ∈ lots, GoodLot ws lot)
    (by simp) ⟨none, none, none, [], rfl, ⟨ns, a, b, n, rfl, q1, q2, q3, q4, by simp; omega⟩, rfl, by simp⟩ (by
      rintro i fr st hi ⟨o4, o7, o8, lots, rfl, hF, hl, hg⟩
      have hi : i < ps.length := by simpa [ItD.len] using hi
      obtain ⟨lot, o7', st', e, hF', hg'⟩ := crew_lap (K := K + 90 + 20 * i) (ws := ws) (lots := lots) (st := st) (o1 := some (.int 4)) (o2 := some (.int 2)) (o4 := some (.str ps[i])) (o6 := some (T ps)) (o7 := o7) (o8 := o8) g2 (by omega) (by omega) hF (by omega)
      refine ⟨.str ps[i], _, _, _, by simp [ItD.at, hi], rfl, .inl e, some (.str ps[i]), o7', o8, lots ++ [lot], rfl, hF'.more (by omega), by simp [hl], fun x hx => ?_⟩
      rcases List.mem_append.mp hx with z | z
      · exact hg x z
      · rw [List.mem_singleton.mp z]; exact hg') (fun _ _ _ => rfl)
  have hlen : (ItD.fix (ps.map D.str)).len = ps.length := by simp [ItD.len]
  rw [hlen] at h5 l5
  obtain ⟨v6, st6, e6, a6, b6, h6⟩ := draw (size := 2) h5 (by omega) (by decide) (by decide)
  obtain ⟨ns', a', b', n', rfl, r1, r2, r3, r4, r5⟩ := h6
  refine ⟨ws, ps, lots, 1 + v6, [feed ns' a' b' n'], ?_, ⟨g2, g4, l5, g5, by omega⟩, by omega, by omega, by omega, ns', a', b', n', rfl, r1, r2, r3, r4, by omega⟩
  obtain ⟨ns0, a0, b0, n0, rfl, _⟩ := h
  have hf : finD [feed ns0 a0 b0 n0] (crewD ws ps lots (1 + v6)) [feed ns' a' b' n', .lst (lots.map T)] = .ok (crewD ws ps lots (1 + v6)) [feed ns' a' b' n'] := fin_feed (by simp [hasRef, FUEL, List.any_map, Function.comp_def])
  obtain ⟨ns5, a5, b5, n5, rfl, _⟩ := h5
  simp [F__law_crew, m__law_crew, oSub, oAdd, e1, e2', e3, e4', e5, e6, tupD, tupL, lim4, hf]
end K85
set_option Elab.async false
set_option linter.all false
set_option maxRecDepth 100000
set_option maxHeartbeats 2000000
namespace K85
open PySem PySem.Spec PyProof.Rows L2 Pg Pl
theorem nodup_asc {xs : List Str} (h : Asc xs) : xs.Nodup := h.imp fun {a b} h e => by
  subst e
  unfold slt at h
  rw [decide_eq_true_eq] at h
  exact List.lt_irrefl _ h
theorem sDup_nodup {xs : List Str} (h : xs.Nodup) : sDup xs = xs := by
  induction xs with
  | nil => rfl
  | cons a r ih =>
    obtain ⟨h1, h2⟩ := List.nodup_cons.mp h
    have e : r.any (· == a) = false := by
      rw [List.any_eq_false]
      intro x hx z
      rw [eq_of_beq z] at hx
      exact h1 hx
    unfold sDup
    rw [e, ih h2]
    rfl
/-! round dealings -/
def ring (ws : List Str) (k m : Nat) : List Str := (List.range m).map fun l => ws[(k + l) % ws.length]?.getD Str.empty
theorem ring_mem {ws : List Str} {k m : Nat} (h : 0 < ws.length) : ∀ x ∈ ring ws k m, x ∈ ws := by
  intro x hx
  obtain ⟨l, _, rfl⟩ := List.mem_map.mp hx
  have := Nat.mod_lt (k + l) h
  rw [List.getElem?_eq_getElem this]
  exact List.getElem_mem this
theorem mod_inj {W k a b : Nat} (ha : a < W) (hb : b < W) (h : (k + a) % W = (k + b) % W) : a = b := by
  have e1 := Nat.div_add_mod (k + a) W
  have e2 := Nat.div_add_mod (k + b) W
  rw [h] at e1
  -- both lie within one turn
  rcases Nat.lt_trichotomy ((k + a) / W) ((k + b) / W) with z | z | z
  · have : W * ((k + a) / W + 1) ≤ W * ((k + b) / W) := Nat.mul_le_mul_left _ z
    rw [Nat.mul_add] at this
    omega
  · rw [z] at e1; omega
  · have : W * ((k + b) / W + 1) ≤ W * ((k + a) / W) := Nat.mul_le_mul_left _ z
    rw [Nat.mul_add] at this
    omega
theorem ring_nodup {ws : List Str} {k m : Nat} (nd : ws.Nodup) (h : m ≤ ws.length) : (ring ws k m).Nodup := by
  unfold ring
  refine List.pairwise_map.mpr ?_
  refine List.Pairwise.imp_of_mem ?_ (List.nodup_range (n := m))
  intro a b ha hb hne e
  have ha := List.mem_range.mp ha
  have hb := List.mem_range.mp hb
  have h0 : 0 < ws.length := by omega
  have pa := Nat.mod_lt (k + a) h0
  have pb := Nat.mod_lt (k + b) h0
  rw [List.getElem?_eq_getElem pa, List.getElem?_eq_getElem pb] at e
  simp only [Option.getD_some] at e
  exact hne (mod_inj (by omega) (by omega) ((List.getElem_inj nd).mp e))
theorem flat_filter (h : Nat → Nat → Str) (m : Nat) : ∀ (ps : List Str) (n k : Nat) (hk : k < ps.length), ps.Nodup →
    (((ps.zipIdx n).map fun q => (List.range m).map fun l => (q.1, h q.2 l)).flatten.filter (fun q => decide (q.1 = ps[k]))).map (·.2) = (List.range m).map (h (n + k))
  | [], _, _, hk, _ => by simp at hk
  | p :: ps, n, k, hk, nd => by
    obtain ⟨h1, h2⟩ := List.nodup_cons.mp nd
    rw [List.zipIdx_cons, List.map_cons, List.flatten_cons, List.filter_append, List.map_append]
    cases k with
    | zero =>
      have e1 : ((List.range m).map fun l => ((p, n).1, h (p, n).2 l)).filter (fun q => decide (q.1 = (p :: ps)[0])) = (List.range m).map fun l => (p, h n l) := by
        apply List.filter_eq_self.mpr
        intro q hq
        obtain ⟨l, _, rfl⟩ := List.mem_map.mp hq
        simp
      have e2 : ((ps.zipIdx (n + 1)).map fun q => (List.range m).map fun l => (q.1, h q.2 l)).flatten.filter (fun q => decide (q.1 = (p :: ps)[0])) = [] := by
        apply List.filter_eq_nil_iff.mpr
        intro q hq
        obtain ⟨l, hl, hq⟩ := List.mem_flatten.mp hq
        obtain ⟨z, hz, rfl⟩ := List.mem_map.mp hl
        obtain ⟨_, _, rfl⟩ := List.mem_map.mp hq
        have hm : z.1 ∈ ps := by
          have := List.mem_zipIdx hz
          rw [this.2.2]
          exact List.getElem_mem _
        simp only [List.getElem_cons_zero, decide_eq_true_eq]
        intro e
        rw [e] at hm
        exact h1 hm
      rw [e1, e2]
      simp
    | succ k =>
      have hk' : k < ps.length := by simpa using hk
      have e1 : ((List.range m).map fun l => ((p, n).1, h (p, n).2 l)).filter (fun q => decide (q.1 = (p :: ps)[k + 1])) = [] := by
        apply List.filter_eq_nil_iff.mpr
        intro q hq
        obtain ⟨l, _, rfl⟩ := List.mem_map.mp hq
        simp only [List.getElem_cons_succ, decide_eq_true_eq]
        intro e
        rw [e] at h1
        exact h1 (List.getElem_mem hk')
      have ih := flat_filter h m ps (n + 1) k hk' h2
      rw [e1]
      simp only [List.getElem_cons_succ, List.map_nil, List.nil_append]
      rw [ih]
      congr 2
      omega
theorem round_lots {ws ps : List Str} {m : Nat} (nd : ws.Nodup) (np : ps.Nodup) (h : m ≤ ws.length) : ps.map (holders (roundPairs ws ps m)) = (List.range ps.length).map fun k => sSort (ring ws k m) := by
  apply List.ext_getElem
  · simp
  · intro k h1 h2
    have hk : k < ps.length := by simpa using h1
    simp only [List.getElem_map, List.getElem_range]
    unfold holders roundPairs
    have := flat_filter (fun k l => ws.getD ((k + l) % ws.length) Str.empty) m ps 0 k hk np
    rw [this]
    have e : (List.range m).map (fun l => ws.getD ((0 + k + l) % ws.length) Str.empty) = ring ws k m := by
      unfold ring
      simp
    rw [e, sDup_nodup (ring_nodup nd h)]
/-! dealings one behind another -/
def sel (P k : Nat) : Nat → List Str → List Str
  | _, [] => []
  | n, w :: r => if n % P = k then w :: sel P k (n + 1) r else sel P k (n + 1) r
theorem sel_append {P k : Nat} : ∀ (n : Nat) (xs ys : List Str), sel P k n (xs ++ ys) = sel P k n xs ++ sel P k (n + xs.length) ys
  | n, [], ys => by simp [sel]
  | n, x :: xs, ys => by
    rw [List.cons_append, sel, sel, sel_append (n + 1) xs ys, List.length_cons, show n + 1 + xs.length = n + (xs.length + 1) by omega]
    split <;> rfl
theorem sel_mem {P k : Nat} : ∀ {n : Nat} {xs : List Str} {x : Str}, x ∈ sel P k n xs → x ∈ xs
  | _, [], _, h => by simp [sel] at h
  | n, w :: r, x, h => by
    rw [sel] at h
    split at h
    · rcases List.mem_cons.mp h with z | z
      · rw [z]; exact List.mem_cons_self
      · exact List.mem_cons_of_mem _ (sel_mem z)
    · exact List.mem_cons_of_mem _ (sel_mem h)
def gg (P k N : Nat) : Nat := N / P + if k < N % P then 1 else 0
theorem gg_step {P k N : Nat} (hk : k < P) : gg P k (N + 1) = gg P k N + if N % P = k then 1 else 0 := by
  have hP : 0 < P := by omega
  have e := Nat.div_add_mod N P
  have r := Nat.mod_lt N hP
  unfold gg
  by_cases h : N % P + 1 < P
  · have e1 : (N + 1) / P = N / P := by
      have : N + 1 = (N % P + 1) + P * (N / P) := by omega
      rw [this, Nat.add_mul_div_left _ _ hP, Nat.div_eq_of_lt h, Nat.zero_add]
    have e2 : (N + 1) % P = N % P + 1 := by
      have : N + 1 = (N % P + 1) + P * (N / P) := by omega
      rw [this, Nat.add_mul_mod_self_left, Nat.mod_eq_of_lt h]
    rw [e1, e2]
    split <;> split <;> split <;> omega
  · have h' : N % P + 1 = P := by omega
    have en : N + 1 = P * (N / P + 1) := by rw [Nat.mul_add]; omega
    have e1 : (N + 1) / P = N / P + 1 := by rw [en, Nat.mul_div_cancel_left _ hP]
    have e2 : (N + 1) % P = 0 := by rw [en, Nat.mul_mod_right]
    rw [e1, e2]
    split <;> split <;> split <;> omega
theorem sel_len {P k : Nat} (hk : k < P) : ∀ (n : Nat) (xs : List Str), gg P k n + (sel P k n xs).length = gg P k (n + xs.length)
  | n, [] => by simp [sel]
  | n, x :: xs => by
    have ih := sel_len hk (n + 1) xs
    have st := gg_step (N := n) hk
    rw [sel, List.length_cons, show n + (xs.length + 1) = n + 1 + xs.length by omega]
    by_cases h : n % P = k
    · rw [if_pos h] at st ⊢
      rw [List.length_cons]
      omega
    · rw [if_neg h] at st ⊢
      omega
theorem gg_turn {P k n : Nat} (hP : 0 < P) : gg P k (n + P) = gg P k n + 1 := by
  unfold gg
  rw [Nat.add_div_right _ hP, Nat.add_mod_right]
  omega
theorem gg_mono {P k : Nat} (hk : k < P) (n : Nat) : ∀ t, gg P k n ≤ gg P k (n + t)
  | 0 => Nat.le_refl _
  | t + 1 => by
    have := gg_mono hk n t
    have st := gg_step (N := n + t) hk
    rw [show n + (t + 1) = n + t + 1 by omega]
    omega
theorem sel_short {P k n : Nat} (hk : k < P) {xs : List Str} (h : xs.length ≤ P) : (sel P k n xs).length ≤ 1 := by
  have h1 := sel_len hk n xs
  have h2 := gg_mono hk (n + xs.length) (P - xs.length)
  rw [show n + xs.length + (P - xs.length) = n + P by omega, gg_turn (by omega)] at h2
  omega
theorem sel_whole {P k M : Nat} (hk : k < P) {xs : List Str} (h : xs.length = M * P) : (sel P k 0 xs).length = M := by
  have h1 := sel_len hk 0 xs
  have hP : 0 < P := by omega
  have e1 : gg P k 0 = 0 := by unfold gg; simp
  have e2 : gg P k (0 + xs.length) = M := by
    unfold gg
    rw [Nat.zero_add, h, Nat.mul_div_cancel _ hP, Nat.mul_mod_left]
    simp
  omega
theorem owners_mem : ∀ {ws : List Str} {ts : List Nat} {x : Str}, x ∈ owners ws ts → x ∈ ws
  | [], _, _, h => by simp [owners] at h
  | _ :: _, [], _, h => by simp [owners] at h
  | w :: ws, t :: ts, x, h => by
    unfold owners at h
    rw [List.zipWith_cons_cons, List.flatten_cons] at h
    rcases List.mem_append.mp h with z | z
    · rw [(List.mem_replicate.mp z).2]; exact List.mem_cons_self
    · exact List.mem_cons_of_mem _ (owners_mem (ts := ts) z)
theorem owners_cons {w : Str} {ws : List Str} {t : Nat} {ts : List Nat} : owners (w :: ws) (t :: ts) = List.replicate t w ++ owners ws ts := rfl
theorem sel_nodup {P k : Nat} (hk : k < P) : ∀ {ws : List Str} {ts : List Nat} {n : Nat}, ws.Nodup → (∀ t ∈ ts, t ≤ P) → (sel P k n (owners ws ts)).Nodup
  | [], _, _, _, _ => by simp [owners, sel]
  | _ :: _, [], _, _, _ => by simp [owners, sel]
  | w :: ws, t :: ts, n, nd, ht => by
    obtain ⟨h1, h2⟩ := List.nodup_cons.mp nd
    rw [owners_cons, sel_append, List.nodup_append]
    refine ⟨?_, sel_nodup hk h2 fun t h => ht t (List.mem_cons_of_mem _ h), ?_⟩
    · have := sel_short (n := n) hk (xs := List.replicate t w) (by rw [List.length_replicate]; exact ht t List.mem_cons_self)
      cases e : sel P k n (List.replicate t w) with
      | nil => exact List.nodup_nil
      | cons a r =>
        rw [e, List.length_cons] at this
        rw [List.eq_nil_of_length_eq_zero (by omega : r.length = 0)]
        simp
    · intro a ha b hb e
      have ea := (List.mem_replicate.mp (sel_mem ha)).2
      have eb := owners_mem (sel_mem hb)
      rw [← e, ea] at eb
      exact h1 eb
theorem filter_or (p : Nat → Bool) (c : Nat) : ∀ l : List Nat, (l.filter fun k => p k || decide (k = c)).length ≤ (l.filter p).length + l.count c
  | [] => by simp
  | x :: l => by
    have ih := filter_or p c l
    rw [List.filter_cons, List.filter_cons, List.count_cons]
    by_cases hx : x = c
    · subst hx
      cases hp : p x <;> simp [hp] <;> omega
    · have hb : (x == c) = false := by simpa using hx
      cases hp : p x <;> simp [hp, hx] <;> omega
theorem nd_count {l : List Nat} {c : Nat} (h : l.Nodup) : l.count c ≤ 1 := by
  induction l with
  | nil => simp
  | cons x l ih =>
    obtain ⟨h1, h2⟩ := List.nodup_cons.mp h
    rw [List.count_cons]
    by_cases e : x = c
    · subst e
      rw [List.count_eq_zero.mpr h1]
      simp
    · have : (x == c) = false := by simpa using e
      rw [this]
      simpa using ih h2
theorem load_le {P : Nat} {w : Str} : ∀ (n : Nat) (xs : List Str), ((List.range P).filter fun k => decide (w ∈ sel P k n xs)).length ≤ xs.count w
  | n, [] => by simp [sel]
  | n, x :: xs => by
    have ih := load_le (P := P) (w := w) (n + 1) xs
    by_cases hx : x = w
    · subst hx
      rw [List.count_cons_self]
      have e : ((List.range P).filter fun k => decide (x ∈ sel P k n (x :: xs))) = (List.range P).filter fun k => decide (x ∈ sel P k (n + 1) xs) || decide (k = n % P) := by
        apply List.filter_congr
        intro k hk
        rw [sel]
        by_cases h : n % P = k
        · rw [if_pos h]; simp [h]
        · rw [if_neg h]
          have : ¬ k = n % P := fun e => h e.symm
          simp [this]
      rw [e]
      have h1 := filter_or (fun k => decide (x ∈ sel P k (n + 1) xs)) (n % P) (List.range P)
      have h2 : (List.range P).count (n % P) ≤ 1 := nd_count List.nodup_range
      omega
    · have e : ((List.range P).filter fun k => decide (w ∈ sel P k n (x :: xs))) = (List.range P).filter fun k => decide (w ∈ sel P k (n + 1) xs) := by
        apply List.filter_congr
        intro k hk
        rw [sel]
        have hx' : ¬ w = x := fun e => hx e.symm
        split
        · simp [hx']
        · rfl
      rw [e]
      have hb : (x == w) = false := by simpa using hx
      rw [List.count_cons, hb]
      simpa using ih
theorem owners_count : ∀ {ws : List Str} {ts : List Nat} {j : Nat} (h1 : j < ws.length) (h2 : j < ts.length), ws.Nodup → (owners ws ts).count ws[j] = ts[j]
  | [], _, _, h, _, _ => by simp at h
  | _ :: _, [], _, _, h, _ => by simp at h
  | w :: ws, t :: ts, 0, _, _, nd => by
    obtain ⟨h1, h2⟩ := List.nodup_cons.mp nd
    rw [owners_cons, List.count_append]
    have : (owners ws ts).count w = 0 := List.count_eq_zero.mpr fun h => h1 (owners_mem h)
    simp [this]
  | w :: ws, t :: ts, j + 1, ha, hb, nd => by
    obtain ⟨h1, h2⟩ := List.nodup_cons.mp nd
    have ih := owners_count (ws := ws) (ts := ts) (j := j) (by simpa using ha) (by simpa using hb) h2
    rw [owners_cons, List.count_append]
    have hne : ¬ w = ws[j]'(by simpa using ha) := fun e => h1 (e ▸ List.getElem_mem _)
    simp only [List.getElem_cons_succ]
    rw [ih, List.count_replicate]
    have : (w == ws[j]'(by simpa using ha)) = false := by simpa using hne
    rw [this]
    simp
end K85
set_option Elab.async false
set_option linter.all false
set_option maxRecDepth 100000
set_option maxHeartbeats 2000000
namespace K85
open PySem PySem.Spec PyProof.Rows L2 Pg Pl
theorem prs_sel {ps : List Str} {k : Nat} (hk : k < ps.length) (np : ps.Nodup) : ∀ (n : Nat) (os : List Str), (((os.mapIdx fun i w => (ps[(n + i) % ps.length]?.getD Str.empty, w)).filter fun q => decide (q.1 = ps[k])).map (·.2)) = sel ps.length k n os
  | n, [] => by simp [sel]
  | n, w :: r => by
    have ih := prs_sel hk np (n + 1) r
    have hp : 0 < ps.length := by omega
    have hm := Nat.mod_lt n hp
    rw [List.mapIdx_cons, List.filter_cons, sel]
    have e : (r.mapIdx fun i w => (ps[(n + (i + 1)) % ps.length]?.getD Str.empty, w)) = r.mapIdx fun i w => (ps[(n + 1 + i) % ps.length]?.getD Str.empty, w) := by
      congr 1
      funext i w
      rw [show n + (i + 1) = n + 1 + i by omega]
    rw [e]
    by_cases h : n % ps.length = k
    · have : (ps[(n + 0) % ps.length]?.getD Str.empty) = ps[k] := by
        rw [Nat.add_zero, List.getElem?_eq_getElem hm]
        simp only [Option.getD_some]
        congr 1
      rw [if_pos (by simpa using this), if_pos h, List.map_cons, ih]
    · have : ¬ (ps[(n + 0) % ps.length]?.getD Str.empty) = ps[k] := by
        rw [Nat.add_zero, List.getElem?_eq_getElem hm]
        simp only [Option.getD_some]
        exact fun e => h ((List.getElem_inj np).mp e)
      rw [if_neg (by simpa using this), if_neg h, ih]
theorem minL_cases2 {a b : Int} : minL [a, b] ≤ a ∧ minL [a, b] ≤ b ∧ (minL [a, b] = a ∨ minL [a, b] = b) := by
  have h1 := minL_spec a [b]
  refine ⟨h1.2 a (by simp), h1.2 b (by simp), ?_⟩
  simpa using h1.1
theorem minL_cases3 {a b c : Int} : minL [a, b, c] ≤ a ∧ minL [a, b, c] ≤ b ∧ minL [a, b, c] ≤ c ∧ (minL [a, b, c] = a ∨ minL [a, b, c] = b ∨ minL [a, b, c] = c) := by
  have h1 := minL_spec a [b, c]
  refine ⟨h1.2 a (by simp), h1.2 b (by simp), h1.2 c (by simp), ?_⟩
  simpa using h1.1
theorem room_pos {P : Nat} : ∀ {bs : List Int}, (∀ b ∈ bs, 0 ≤ b) → 0 ≤ room P bs
  | [], _ => by simp [room]
  | b :: bs, h => by
    have h1 := h b List.mem_cons_self
    have h2 := room_pos (P := P) fun c hc => h c (List.mem_cons_of_mem _ hc)
    have h3 := minL_cases2 (a := b) (b := (P : Int))
    unfold room at h2 ⊢
    rw [List.map_cons, List.sum_cons]
    omega
theorem takes_all {P M : Nat} : ∀ {k : Nat} {bs : List Int}, (∀ b ∈ bs, 0 ≤ b) → k ≤ M * P → ((k + (takes P M k bs).sum : Nat) : Int) = min ((M * P : Nat) : Int) (k + room P bs)
  | k, [], _, h => by
    simp only [takes, List.sum_nil, room, List.map_nil]
    omega
  | k, b :: bs, hb, h => by
    have h1 := hb b List.mem_cons_self
    have hb' : ∀ c ∈ bs, 0 ≤ c := fun c hc => hb c (List.mem_cons_of_mem _ hc)
    have e : ((M * P : Nat) : Int) = (M : Int) * P := Int.natCast_mul _ _
    have c2 := minL_cases2 (a := b) (b := (P : Int))
    have c3 := minL_cases3 (a := b) (b := (P : Int)) (c := (M : Int) * P - k)
    have rp := room_pos (P := P) hb'
    have er : room P (b :: bs) = minL [b, (P : Int)] + room P bs := by unfold room; rw [List.map_cons, List.sum_cons]
    have ih := takes_all (P := P) (M := M) (k := k + (minL [b, (P : Int), (M : Int) * P - k]).toNat) hb' (by omega)
    simp only [takes, List.sum_cons]
    rw [er]
    generalize minL [b, (P : Int)] = r2 at *
    generalize minL [b, (P : Int), (M : Int) * P - k] = r3 at *
    generalize (takes P M (k + r3.toNat) bs).sum = S at *
    generalize room P bs = R at *
    generalize ((M * P : Nat) : Int) = MP at *
    generalize (M : Int) * P = MP2 at *
    omega
/-! a whole dealing -/
def dealtLots (ws ps : List Str) (M : Nat) (bs : List Int) : List (List Str) := ps.map (holders (prsOf ps (owners ws (takes ps.length M 0 bs))))
theorem dealt_lot {ws ps : List Str} {M : Nat} {bs : List Int} (np : ps.Nodup) (nd : ws.Nodup) {k : Nat} (hk : k < ps.length) : holders (prsOf ps (owners ws (takes ps.length M 0 bs))) ps[k] = sSort (sDup (sel ps.length k 0 (owners ws (takes ps.length M 0 bs)))) := by
  unfold holders prsOf
  have := prs_sel hk np 0 (owners ws (takes ps.length M 0 bs))
  simp only [Nat.zero_add] at this
  rw [this]
theorem takes_le {P M : Nat} {k : Nat} {bs : List Int} : ∀ t ∈ takes P M k bs, t ≤ P := by
  induction bs generalizing k with
  | nil => intro t ht; simp [takes] at ht
  | cons b bs ih =>
    intro t ht
    rw [takes] at ht
    have c3 := minL_cases3 (a := b) (b := (P : Int)) (c := (M : Int) * P - k)
    rcases List.mem_cons.mp ht with z | z
    · rw [z]; omega
    · exact ih t z
structure DealFacts (ws ps : List Str) (M : Nat) (bs : List Int) (lots : List (List Str)) : Prop where
  len : lots.length = ps.length
  many : ∀ lot ∈ lots, lot.length = M
  good : 0 < M → ∀ lot ∈ lots, GoodLot ws lot
  load : ∀ (j : Nat) (h1 : j < ws.length) (h2 : j < bs.length), (((lots.filter fun lot => decide (ws[j] ∈ lot)).length : Nat) : Int) ≤ bs[j]
theorem deal_facts {ws ps : List Str} {M : Nat} {bs : List Int} (g : GoodNames ws) (h : GoodNames ps) (hl : bs.length = ws.length) (hb : ∀ b ∈ bs, 0 ≤ b) (hr : (M : Int) * ps.length ≤ room ps.length bs) (hM : M ≤ 1000) : DealFacts ws ps M bs (dealtLots ws ps M bs) := by
  have nd := nodup_asc g.asc
  have np := nodup_asc h.asc
  have ht : (takes ps.length M 0 bs).length ≤ ws.length := by rw [takes_len, hl]; exact Nat.le_refl _
  have hsum := takes_all (P := ps.length) (M := M) (k := 0) hb (Nat.zero_le _)
  have e : ((M * ps.length : Nat) : Int) = (M : Int) * ps.length := Int.natCast_mul _ _
  have hol : (owners ws (takes ps.length M 0 bs)).length = M * ps.length := by
    rw [owners_len ht]
    omega
  have at' : ∀ {k : Nat} (hk : k < ps.length), sDup (sel ps.length k 0 (owners ws (takes ps.length M 0 bs))) = sel ps.length k 0 (owners ws (takes ps.length M 0 bs)) := fun hk => sDup_nodup (sel_nodup hk nd takes_le)
  have el : dealtLots ws ps M bs = (List.range ps.length).map fun k => sSort (sel ps.length k 0 (owners ws (takes ps.length M 0 bs))) := by
    unfold dealtLots
    apply List.ext_getElem
    · simp
    · intro k h1 h2
      have hk : k < ps.length := by simpa using h1
      simp only [List.getElem_map, List.getElem_range]
      rw [dealt_lot np nd hk, at' hk]
  have mm : ∀ lot ∈ dealtLots ws ps M bs, ∃ k, k < ps.length ∧ lot = sSort (sel ps.length k 0 (owners ws (takes ps.length M 0 bs))) := fun lot hm => by
    rw [el] at hm
    obtain ⟨k, hk, rfl⟩ := List.mem_map.mp hm
    exact ⟨k, List.mem_range.mp hk, rfl⟩
  have ml : ∀ lot ∈ dealtLots ws ps M bs, lot.length = M := fun lot hm => by
    obtain ⟨k, hk, rfl⟩ := mm lot hm
    rw [(sSort_perm _).length_eq, sel_whole hk hol]
  refine ⟨by unfold dealtLots; simp, ml, fun hM0 lot hm => ?_, fun j h1 h2 => ?_⟩
  · have hlen := ml lot hm
    obtain ⟨k, hk, rfl⟩ := mm lot hm
    refine ⟨fun z => ?_, by omega, fun x hx => owners_mem (sel_mem ((sSort_perm _).mem_iff.mp hx)), asc_sort (sel_nodup hk nd takes_le)⟩
    rw [z] at hlen
    simp at hlen
    omega
  · have e1 : ((dealtLots ws ps M bs).filter fun lot => decide (ws[j] ∈ lot)).length = ((List.range ps.length).filter fun k => decide (ws[j] ∈ sel ps.length k 0 (owners ws (takes ps.length M 0 bs)))).length := by
      rw [el, List.filter_map, List.length_map]
      congr 2
      funext k
      simp only [Function.comp_def]
      rw [decide_eq_decide]
      exact (sSort_perm _).mem_iff
    have hj : j < (takes ps.length M 0 bs).length := by rw [takes_len]; exact h2
    have l1 := load_le (P := ps.length) (w := ws[j]) 0 (owners ws (takes ps.length M 0 bs))
    rw [owners_count h1 hj nd] at l1
    have l2 := takes_at (P := ps.length) (M := M) (k := 0) (bs := bs) hj h2
    have c3 := minL_cases3 (a := bs[j]) (b := (ps.length : Int)) (c := (M : Int) * ps.length - ((0 + ((takes ps.length M 0 bs).take j).sum : Nat) : Int))
    have hbj := hb bs[j] (List.getElem_mem h2)
    rw [e1]
    omega
end K85
set_option Elab.async false
set_option linter.all false
set_option maxRecDepth 100000
set_option maxHeartbeats 2000000
namespace K85
open PySem PySem.Spec PyProof.Rows L2 Pg Pl
/-! ### data of crews -/
theorem name_fine {x : Str} (h : NameOk x) : fineP (.str x) = true := by
  rw [fineP, PyData.canLay0]
  unfold PyData.strOk
  rw [Array.all_eq_true_iff_forall_mem]
  intro c hc
  have h1 : c ∈ low := h.2.2 c (by simpa using hc)
  have h2 : ∀ c ∈ low, c < 0x110000 := by decide
  simpa using h2 c h1
abbrev pT (xs : List Str) : PyData := .tuple (xs.map .str)
theorem names_fine {xs : List Str} (h : ∀ x ∈ xs, NameOk x) : fineP (pT xs) = true := by
  rw [fineP]
  exact fineAll_map PyData.str fun x hx => name_fine (h x hx)
theorem names_weight {xs : List Str} (h : ∀ x ∈ xs, NameOk x) : (pT xs).weight ≤ 9 * xs.length := by
  rw [PyData.weight]
  exact weight_map PyData.str 8 fun x hx => by
    rw [PyData.weight]
    exact (h x hx).2.1
theorem names_depth {xs : List Str} : (pT xs).depth ≤ 1 := by
  rw [PyData.depth]
  have := depth_map PyData.str 0 (xs := xs) fun x _ => Nat.le_of_eq (by rw [PyData.depth])
  omega
theorem toPy_T {st : Sto} {xs : List Str} : toPy st (T xs) = some (pT xs) := by
  rw [toPy, toPys_strs]
  rfl
abbrev pC (ws ps : List Str) (lots : List (List Str)) (w : Int) : PyData := .tuple [pT ws, pT ps, .tuple (lots.map pT), .int w]
theorem toPy_C {st : Sto} {ws ps : List Str} {lots : List (List Str)} {w : Int} : toPy1 st (crewD ws ps lots w) = some (pC ws ps lots w) := by
  have e : toPys st (lots.map T) = some (lots.map pT) := toPys_map T pT (fun x => toPy_T) lots
  have e2 : toPy st (TT lots) = some (.tuple (lots.map pT)) := by rw [toPy, e]; rfl
  show toPy st (.tup [T ws, T ps, TT lots, .int w]) = _
  rw [toPy]
  simp only [toPys, toPy_T, e2]
  simp [toPy]
/-- small crews -/
structure Small (ws ps : List Str) (lots : List (List Str)) (w : Int) : Prop where
  a : ws.length ≤ 100
  b : ps.length ≤ 100
  c : lots.length ≤ 100
  d : ∀ lot ∈ lots, lot.length ≤ 100
  e : -200 ≤ w ∧ w < 1200
  f : ∀ x ∈ ws, NameOk x
  g : ∀ x ∈ ps, NameOk x
  h : ∀ lot ∈ lots, ∀ x ∈ lot, NameOk x
theorem crew_fine {ws ps : List Str} {lots : List (List Str)} {w : Int} (s : Small ws ps lots w) : fineP (pC ws ps lots w) = true := by
  have h3 : fineAll (lots.map pT) = true := fineAll_map pT fun lot hl => names_fine (s.h lot hl)
  rw [fineP]
  simp only [fineAll, names_fine s.f, names_fine s.g, fineP, h3, fine_small s.e.1 s.e.2]
  rw [fineAll_map PyData.str fun x hx => name_fine (s.f x hx), fineAll_map PyData.str fun x hx => name_fine (s.g x hx)]
  rfl
theorem crew_depth {ws ps : List Str} {lots : List (List Str)} {w : Int} : (pC ws ps lots w).depth < 60 := by
  have h1 := names_depth (xs := ws)
  have h2 := names_depth (xs := ps)
  have h3 := depth_map pT 1 (xs := lots) fun x _ => names_depth
  rw [PyData.depth]
  simp only [PyData.depthAll]
  rw [show PyData.depth (.tuple (lots.map pT)) = PyData.depthAll (lots.map pT) + 1 by rw [PyData.depth]]
  rw [show PyData.depth (.int w) = 0 by rw [PyData.depth]]
  omega
theorem crew_weight {ws ps : List Str} {lots : List (List Str)} {w : Int} (s : Small ws ps lots w) : (pC ws ps lots w).weight ≤ 1048576 := by
  have h1 := names_weight s.f
  have h2 := names_weight s.g
  have h3 := weight_map pT 900 (xs := lots) fun lot hl => by
    have := names_weight (s.h lot hl)
    have := s.d lot hl
    omega
  have a := s.a
  have b := s.b
  have c := s.c
  have h5 : 901 * lots.length ≤ 901 * 100 := Nat.mul_le_mul_left _ c
  have h4 : PyData.weight (.int w) ≤ 100 := by
    rw [PyData.weight]
    split
    · omega
    · have hw := s.e
      have : w.natAbs.log2 < 64 := log_lt (by omega)
      omega
  rw [PyData.weight]
  simp only [PyData.weightAll]
  rw [show PyData.weight (.tuple (lots.map pT)) = PyData.weightAll (lots.map pT) by rw [PyData.weight]]
  omega
theorem repr_crew {st : Sto} {ws ps : List Str} {lots : List (List Str)} {w : Int} (s : Small ws ps lots w) : reprD st (crewD ws ps lots w) = .ok (.str (pC ws ps lots w).shown) st := repr_ok toPy_C (crew_fine s) crew_depth (crew_weight s)
theorem repr_int {st : Sto} {i : Int} (h1 : -200 ≤ i) (h2 : i < 1200) : reprD st (.int i) = .ok (.str (PyData.int i).shown) st :=
  repr_ok (p := .int i) (by simp [toPy1, toPy]) (by rw [fineP]; exact fine_small h1 h2) (by rw [PyData.depth]; decide) (by
    rw [PyData.weight]
    split
    · omega
    · have : i.natAbs.log2 < 64 := log_lt (by omega)
      omega)
theorem repr_bl {st : Sto} {b : Bool} : reprD st (.bl b) = .ok (.str (PyData.bool b).shown) st :=
  repr_ok (p := .bool b) (by simp [toPy1, toPy]) (by rw [fineP]) (by rw [PyData.depth]; decide) (by rw [PyData.weight]; decide)
theorem repr_non {st : Sto} : reprD st .non = .ok (.str PyData.none.shown) st :=
  repr_ok (p := .none) (by simp [toPy1, toPy]) (by rw [fineP]) (by rw [PyData.depth]; decide) (by rw [PyData.weight]; decide)
@[simp] theorem ne_str {x : Str} {st : Sto} : oNe st (.str x) (.str x) = .ok (.bl false) st := by simp [oNe, eqD]
@[simp] theorem eq_str {x : Str} {st : Sto} : oEq st (.str x) (.str x) = .ok (.bl true) st := by simp [oEq, eqD]
@[simp] theorem ne_int {i j : Int} {st : Sto} : oNe st (.int i) (.int j) = .ok (.bl (!decide (i = j))) st := by simp [oNe, eqD]
theorem ne_two {st : Sto} {ws ps : List Str} (f : ∀ x ∈ ws, NameOk x) (g : ∀ x ∈ ps, NameOk x) : oNe st (.tup [T ws, T ps]) (.tup [T ws, T ps]) = .ok (.bl false) st := by
  refine ne_self (p := .tuple [pT ws, pT ps]) ?_ ?_ ?_ (fun i e => by cases e) (fun x e => by cases e)
  · show toPy st _ = _
    rw [toPy]
    simp only [toPys, toPy_T]
    rfl
  · rw [fineP]
    simp only [fineAll, names_fine f, names_fine g]
    rfl
  · rw [PyData.depth]
    simp only [PyData.depthAll]
    have h1 := names_depth (xs := ws)
    have h2 := names_depth (xs := ps)
    omega
end K85
set_option Elab.async false
set_option linter.all false
set_option maxRecDepth 100000
set_option maxHeartbeats 2000000
namespace K85
open PySem PySem.Spec PyProof.Rows L2 Pg Pl
theorem two_cut {ws ps : List Str} {lots : List (List Str)} {w : Int} : Pl.cutD [T ws, T ps, TT lots, D.int w] none (some 2) = [T ws, T ps] := by
  rw [cut_hi (by decide)]
  rfl
theorem is_dealt_ok {ws ps : List Str} {lots : List (List Str)} {w : Int} {M : Nat} {bs : List Int} (g : GoodCrew ws ps lots w) (hm : ∀ lot ∈ lots, lot.length = M) (hl : bs.length = ws.length)
    (ld : ∀ (j : Nat) (h1 : j < ws.length) (h2 : j < bs.length), (((lots.filter fun lot => decide (ws[j] ∈ lot)).length : Nat) : Int) ≤ bs[j]) :
    F__law_is_dealt [T ws, T ps, .int M, IT bs, crewD ws ps lots w] [] = .ok (.bl true) [] := by
  have l1 := g.gw.len
  have l2 := g.gp.len
  have l3 := g.len
  have e1 : lcS (itS (op2S oIx (vS 4) (cS (.int 2)))) [6] (nameT 6) (truS toB (op2S oNe (callS (c1 lenD) (consS (vS 6) (nilS))) (vS 2))) (vS 6) [some (T ws), some (T ps), some (.int M), some (IT bs), some (crewD ws ps lots w), none, none] [] = .ok [] [] := by
    rw [lcS_map (xs := lots) T (fun _ => false) T (by simp) (lim_of (by omega)) fun lot hlot => ⟨_, rfl, by simp [wipeF, hm lot hlot], fun z => by cases z⟩]
    rw [List.filter_eq_nil_iff.mpr (by simp)]
    rfl
  obtain ⟨fr', st', e2, rfl, o5, o6, rfl⟩ := forM_nx (it := itR1 (consS (callS (c1 lenD) (consS (vS 0) (nilS))) (nilS))) (tg := nameT 5)
    (body := ifM (truS toB (op2S oGt (callS (c1 lenD) (consS (frzS (lcS (itS (op2S oIx (vS 4) (cS (.int 2)))) [6] (nameT 6) (truS toB (op2S oIn (op2S oIx (vS 0) (vS 5)) (vS 6))) (vS 6))) (nilS))) (op2S oIx (vS 3) (vS 5)))) (retM (cS (.bl false))) (skipM))
    (fr := [some (T ws), some (T ps), some (.int M), some (IT bs), some (crewD ws ps lots w), none, none]) (st := []) (itd := .fix ((List.range ws.length).map fun i : Nat => D.int i)) (st1 := [])
    (fun _ fr st => st = [] ∧ ∃ o5 o6, fr = [some (T ws), some (T ps), some (.int M), some (IT bs), some (crewD ws ps lots w), o5, o6]) (itR1_nat (by omega) (by simp)) ⟨rfl, none, none, rfl⟩ (by
      rintro i fr st hi ⟨rfl, o5, o6, rfl⟩
      have hi : i < ws.length := by simpa [ItD.len] using hi
      have hb : i < bs.length := by omega
      have hix : ∀ st, oIx st (T ws) (.int (i : Int)) = .ok (.str ws[i]) st := fun st => by
        have := oIx_T (xs := ws) (i := i) (st := st) hi
        simpa [hi] using this
      have hix2 : ∀ st, oIx st (IT bs) (.int (i : Int)) = .ok (.int bs[i]) st := fun st => by
        simp [oIx, atI_ok (xs := bs.map D.int) (i := i) (by simpa using hb)]
      have e3 : lcS (itS (op2S oIx (vS 4) (cS (.int 2)))) [6] (nameT 6) (truS toB (op2S oIn (op2S oIx (vS 0) (vS 5)) (vS 6))) (vS 6) [some (T ws), some (T ps), some (.int M), some (IT bs), some (crewD ws ps lots w), some (.int i), o6] [] = .ok ((lots.filter fun lot => decide (ws[i] ∈ lot)).map T) [] :=
        lcS_map (xs := lots) T (fun lot => decide (ws[i] ∈ lot)) T (by simp) (lim_of (by omega)) fun lot hlot => ⟨_, rfl, by simp [wipeF, hix, oIn], fun _ => by simp [wipeF]⟩
      have hle : ¬ bs[i] < (((lots.filter fun lot => decide (ws[i] ∈ lot)).length : Nat) : Int) := by
        have := ld i hi hb
        omega
      exact ⟨.int i, _, _, [], by simp [ItD.at, hi], rfl, .inl (by simp [e3, hix2, oGt, hle]; exact ⟨rfl, rfl⟩), rfl, _, _, rfl⟩) (fun _ _ _ => rfl)
  have e4 := ne_two (st := []) g.gw.ok g.gp.ok
  have l0 : (0 : Nat) ≤ LIM := Nat.zero_le _
  simp [F__law_is_dealt, m__law_is_dealt, is_crew_ok g, two_cut, lim2, e4, e1, ne_nil0, e2]
theorem spare_ok {ws ps : List Str} {lots : List (List Str)} {w : Int} {M : Nat} (h0 : lots ≠ []) (hm : ∀ lot ∈ lots, lot.length = M) (hl : lots.length ≤ 1000) : F_spare_of [crewD ws ps lots w] [] = .ok (.int (M - w)) [] := by
  have e : lcS (itS (op2S oIx (vS 0) (cS (.int 2)))) [1] (nameT 1) (yesS) (callS (c1 lenD) (consS (vS 1) (nilS))) [some (crewD ws ps lots w), none] [] = .ok (lots.map fun _ => D.int M) [] :=
    lcS_all (xs := lots) T (fun _ => D.int M) (by simp) (lim_of hl) fun lot hlot => ⟨_, rfl, by simp [wipeF, hm lot hlot]⟩
  have e2 : minD [] (.lst (lots.map fun _ => D.int M)) = .ok (.int M) [] := by
    cases lots with
    | nil => exact absurd rfl h0
    | cons a r =>
      have hi : intsOf [] (.lst ((a :: r).map fun _ => D.int M)) = some ((M : Int) :: r.map fun _ => (M : Int)) := by
        have := ints_mapF (fun _ : List Str => (M : Int)) (a :: r)
        simpa [intsOf] using this
      unfold minD
      rw [hi]
      dsimp only
      have sp := minL_spec (M : Int) (r.map fun _ => (M : Int))
      have : minL ((M : Int) :: r.map fun _ => (M : Int)) = M := by
        rcases List.mem_cons.mp sp.1 with z | z
        · exact z
        · obtain ⟨_, _, e⟩ := List.mem_map.mp z
          exact e.symm
      rw [this]
  simp [F_spare_of, m_spare_of, F_spare_by, m_spare_by, e, e2, oSub]
theorem GoodLot.names {ws lot : List Str} (g : GoodLot ws lot) (h : ∀ x ∈ ws, NameOk x) : ∀ x ∈ lot, NameOk x := fun x hx => h x (g.sub x hx)
theorem GoodCrew.small {ws ps : List Str} {lots : List (List Str)} {w : Int} (g : GoodCrew ws ps lots w) (h1 : ws.length ≤ 100) (h2 : ps.length ≤ 100) (h3 : ∀ lot ∈ lots, lot.length ≤ 100) (h4 : w < 1200) : Small ws ps lots w :=
  ⟨h1, h2, by have := g.len; omega, h3, ⟨by have := g.pos; omega, h4⟩, g.gw.ok, g.gp.ok, fun lot hl => (g.gl lot hl).names g.gw.ok⟩
end K85
set_option Elab.async false
set_option linter.all false
set_option maxRecDepth 100000
set_option maxHeartbeats 4000000
namespace K85
open PySem PySem.Spec PyProof.Rows L2 Pg Pl
abbrev dealBody : Sm := (seqM (asgS (nameT 7) (op2S oGe (vS 5) (op2S oMul (vS 4) (callS (c1 lenD) (consS (vS 2) (nilS))))))
  (seqM (ifM (truS toB (op2S oNe (callS (c1 reprD) (consS (callP F_can_deal [] (consS (vS 1) (consS (vS 2) (consS (vS 4) (consS (vS 3) (nilS)))))) (nilS))) (callS (c1 reprD) (consS (vS 7) (nilS))))) (retM (cS (.bl false))) (skipM))
  (ifM (truS toB (vS 7)) (seqM (dropM (appS (vS 6) (vS 4)))
  (seqM (asgS (nameT 8) (op2S oAdd (cS (.int 1)) (callM F__law_draw [] (consS (vS 0) (consS (callS (c12 minD min2D) (consS (lstS (consS (cS (.int 3)) (consS (vS 4) (nilS)))) (nilS))) (nilS))))))
  (seqM (asgS (nameT 9) (callP F_dealt [] (consS (vS 1) (consS (vS 2) (consS (vS 4) (consS (vS 3) (consS (vS 8) (nilS))))))))
  (seqM (ifM (orS (notS (truS toB (callP F__law_is_dealt [] (consS (vS 1) (consS (vS 2) (consS (vS 4) (consS (vS 3) (consS (vS 9) (nilS))))))))) (truS toB (op2S oNe (op2S oIx (vS 9) (cS (.int 3))) (vS 8)))) (retM (cS (.bl false))) (skipM))
  (ifM (truS toB (op2S oNe (callS (c1 reprD) (consS (callP F_spare_of [] (consS (vS 9) (nilS))) (nilS))) (callS (c1 reprD) (consS (op2S oSub (vS 4) (vS 8)) (nilS))))) (retM (cS (.bl false))) (skipM)))))) (skipM))))
@[simp] theorem add_int {i j : Int} {st : Sto} : oAdd st (.int i) (.int j) = .ok (.int (i + j)) st := rfl
@[simp] theorem sub_int {i j : Int} {st : Sto} : oSub st (.int i) (.int j) = .ok (.int (i - j)) st := rfl
theorem no_ref {ws ps : List Str} {bs : List Int} : hasRef FUEL (T ws) = false ∧ hasRef FUEL (IT bs) = false := by simp [hasRef, FUEL, List.any_map, Function.comp_def]
theorem no_ref_crew {ws ps : List Str} {lots : List (List Str)} {w : Int} : hasRef FUEL (crewD ws ps lots w) = false := by simp [hasRef, FUEL, List.any_map, Function.comp_def]
theorem no_ref_int {i : Int} : hasRef FUEL (.int i) = false := by simp [hasRef, FUEL]
theorem no_ref_T {ws : List Str} : hasRef FUEL (T ws) = false := by simp [hasRef, FUEL, List.any_map, Function.comp_def]
theorem no_ref_IT {bs : List Int} : hasRef FUEL (IT bs) = false := by simp [hasRef, FUEL, List.any_map, Function.comp_def]
theorem deal_step {K : Int} {ws ps : List Str} {bs : List Int} {i : Nat} {good : List Int} {st : Sto} {o7 o8 o9 o10 : Option D} (g : GoodNames ws) (h : GoodNames ps) (hw : ws.length ≤ 5) (hp : ps.length ≤ 4) (hl : bs.length = ws.length) (hb : ∀ b ∈ bs, 0 ≤ b ∧ b ≤ 10) (hi : i < ws.length) (hg : good.length ≤ 100)
    (hF : Fd K [.lst (good.map .int)] st) (hK : K ≤ 9000) :
    ∃ o7' o8' o9' st', dealBody [some (.ref 0), some (T ws), some (T ps), some (IT bs), some (.int (1 + (i : Int))), some (.int (room ps.length bs)), some (.ref 1), o7, o8, o9, o10] st =
      .nx [some (.ref 0), some (T ws), some (T ps), some (IT bs), some (.int (1 + (i : Int))), some (.int (room ps.length bs)), some (.ref 1), o7', o8', o9', o10] st' ∧
      Fd (K + 1) [.lst ((if (1 + (i : Int)) * ps.length ≤ room ps.length bs then good ++ [1 + (i : Int)] else good).map .int)] st' := by
  have P0 : 0 < ps.length := by have := h.ne; cases ps <;> simp_all
  have hb0 : ∀ b ∈ bs, 0 ≤ b := fun b hx => (hb b hx).1
  have cd : ∀ st, callP1 F_can_deal [] [T ws, T ps, .int (1 + (i : Int)), IT bs] st = .ok (.bl (decide ((1 + (i : Int)) * ps.length ≤ room ps.length bs))) st := fun st =>
    callP1_of (by simpa using can_deal_ok (m := 1 + (i : Int)) g h (by omega) (by omega) hl hb0) (by simp only [List.any_cons, List.any_nil, no_ref_T, no_ref_IT, no_ref_int, Bool.or_self])
  have hm : ∀ st, oMul st (.int (1 + (i : Int))) (.int (ps.length : Int)) = .ok (.int ((1 + (i : Int)) * ps.length)) st := fun st => mul_at (by omega) (by omega)
  obtain ⟨ns, a, b, n, rfl, q1, q2, q3, q4, q5⟩ := hF
  have hlim : good.length < LIM := by unfold LIM; omega
  by_cases hdue : (1 + (i : Int)) * ps.length ≤ room ps.length bs
  · have hF2 : Fd K [.lst ((good ++ [1 + (i : Int)]).map .int)] [feed ns a b n, .lst ((good ++ [1 + (i : Int)]).map .int)] := ⟨ns, a, b, n, rfl, q1, q2, q3, q4, q5⟩
    have mm := minL_cases2 (a := 3) (b := 1 + (i : Int))
    obtain ⟨v, st2, e2, v0, v1, h2⟩ := draw (size := minL [3, 1 + (i : Int)]) hF2 (by omega) (by omega) (by omega)
    simp only [List.map_append, List.map_cons, List.map_nil] at e2
    have hdue' : ((1 + i : Nat) : Int) * ps.length ≤ room ps.length bs := by simpa using hdue
    have sm : (1 + i) * ps.length < 64 := by
      have : (1 + i) * ps.length ≤ 5 * 4 := Nat.mul_le_mul (by omega) hp
      omega
    have DF := deal_facts (ws := ws) (ps := ps) (M := 1 + i) (bs := bs) g h hl hb0 hdue' (by omega)
    have GC : GoodCrew ws ps (dealtLots ws ps (1 + i) bs) (1 + v) := ⟨g, h, DF.len, DF.good (by omega), by omega⟩
    have dl : ∀ st, callP1 F_dealt [] [T ws, T ps, .int (1 + (i : Int)), IT bs, .int (1 + v)] st = .ok (crewD ws ps (dealtLots ws ps (1 + i) bs) (1 + v)) st := fun st =>
      callP1_of (by
        have := dealt_ok (ws := ws) (ps := ps) (M := 1 + i) (bs := bs) (w := 1 + v) g h (by omega) (by omega) hl (fun b hx => ⟨(hb b hx).1, by have := (hb b hx).2; omega⟩) sm hdue' (by omega)
        rw [show ((1 + i : Nat) : Int) = 1 + (i : Int) by simp] at this
        exact this) (by simp only [List.any_cons, List.any_nil, no_ref_T, no_ref_IT, no_ref_int, Bool.or_self])
    have isd : ∀ st, callP1 F__law_is_dealt [] [T ws, T ps, .int (1 + (i : Int)), IT bs, crewD ws ps (dealtLots ws ps (1 + i) bs) (1 + v)] st = .ok (.bl true) st := fun st =>
      callP1_of (by
        have := is_dealt_ok (bs := bs) GC DF.many hl DF.load
        simpa using this) (by simp only [List.any_cons, List.any_nil, no_ref_T, no_ref_IT, no_ref_int, no_ref_crew, Bool.or_self])
    have spr : ∀ st, callP1 F_spare_of [] [crewD ws ps (dealtLots ws ps (1 + i) bs) (1 + v)] st = .ok (.int (1 + (i : Int) - (1 + v))) st := fun st =>
      callP1_of (by
        have := spare_ok (ws := ws) (ps := ps) (w := 1 + v) (M := 1 + i) (lots := dealtLots ws ps (1 + i) bs) (fun z => by have := DF.len; rw [z] at this; simp at this; omega) DF.many (by have := DF.len; omega)
        simpa using this) (by simp only [List.any_cons, List.any_nil, no_ref_crew, Bool.or_self])
    have r1 : ∀ st, reprD st (.int (1 + (i : Int) - (1 + v))) = .ok (.str (PyData.int (1 + (i : Int) - (1 + v))).shown) st := fun st => repr_int (by omega) (by omega)
    rw [if_pos hdue]
    refine ⟨some (.bl true), some (.int (1 + v)), some (crewD ws ps (dealtLots ws ps (1 + i) bs) (1 + v)), st2, ?_, h2⟩
    simp [hm, oGe, hdue, cd, repr_bl, appS, appD, hlim, lim2, e2, dl, isd, spr, r1]
  · rw [if_neg hdue]
    refine ⟨some (.bl false), o8, o9, [feed ns a b n, .lst (good.map .int)], ?_, ns, a, b, n, rfl, q1, q2, q3, q4, by omega⟩
    simp [hm, oGe, hdue, cd, repr_bl]
end K85
set_option Elab.async false
set_option linter.all false
set_option maxRecDepth 100000
set_option maxHeartbeats 4000000
namespace K85
open PySem PySem.Spec PyProof.Rows L2 Pg Pl
/-- how many can be dealt, behind i turns -/
def goods (P : Nat) (R : Int) (i : Nat) : List Int := (List.range (min i (R / P).toNat)).map fun l : Nat => 1 + (l : Int)
theorem goods_step {P : Nat} {R : Int} {i : Nat} (hP : 0 < P) : goods P R (i + 1) = if (1 + (i : Int)) * P ≤ R then goods P R i ++ [1 + (i : Int)] else goods P R i := by
  have hP' : (0 : Int) < P := by omega
  have hd := Int.le_ediv_iff_mul_le (a := 1 + (i : Int)) (b := R) hP'
  unfold goods
  by_cases h : (1 + (i : Int)) * P ≤ R
  · have h2 := hd.mpr h
    rw [if_pos h]
    rw [show min (i + 1) (R / P).toNat = i + 1 by omega, show min i (R / P).toNat = i by omega, List.range_succ, List.map_append]
    rfl
  · have h2 : ¬ 1 + (i : Int) ≤ R / P := fun z => h (hd.mp z)
    rw [if_neg h]
    rw [show min (i + 1) (R / P).toNat = min i (R / P).toNat by omega]
theorem room_le {P : Nat} : ∀ {bs : List Int}, room P bs ≤ bs.length * P
  | [] => by simp [room]
  | b :: bs => by
    have h2 := room_le (P := P) (bs := bs)
    have h3 := minL_cases2 (a := b) (b := (P : Int))
    unfold room at h2 ⊢
    rw [List.map_cons, List.sum_cons, List.length_cons]
    have : (((bs.length + 1 : Nat) : Int)) * P = bs.length * P + P := by
      rw [Int.natCast_add, Int.add_mul]; simp
    omega
theorem last_good {P : Nat} {R : Int} {i : Nat} (hP : 0 < P) (h0 : 0 ≤ R) (h1 : R / P ≤ i) {st : Sto} {cs : Sto} {c0 : Cell} (hst : st = c0 :: .lst ((goods P R i).map .int) :: cs) {fr : Fr} (hf : fr[6]? = some (some (.ref 1))) :
    ifS (truS toB (op2S oNe (vS 6) (lstS (nilS)))) (op2S oIx (vS 6) (op1S oNeg (cS (.int 1)))) (cS (.int 0)) fr st = .ok (.int (R / P)) st := by
  have hq : 0 ≤ R / P := Int.ediv_nonneg h0 (by omega)
  have l0 : (0 : Nat) ≤ LIM := Nat.zero_le _
  have hg : goods P R i = (List.range (R / P).toNat).map fun l : Nat => 1 + (l : Int) := by
    unfold goods
    rw [show min i (R / P).toNat = (R / P).toNat by omega]
  subst hst
  have ne : oNe (c0 :: .lst ((goods P R i).map .int) :: cs) (.ref 1) (.lst []) = .ok (.bl (decide (goods P R i ≠ []))) (c0 :: .lst ((goods P R i).map .int) :: cs) := by
    have e1 : toPy1 (c0 :: .lst ((goods P R i).map .int) :: cs) (.ref 1) = some (.list ((goods P R i).map .int)) := by simp [toPy1, toPys_ints]
    have e2 := ne_nil (st := c0 :: .lst ((goods P R i).map .int) :: cs) (ns := goods P R i)
    have e3 : toPy1 (c0 :: .lst ((goods P R i).map .int) :: cs) (.lst ((goods P R i).map .int)) = some (.list ((goods P R i).map .int)) := by simp [toPy1, toPy, toPys_ints]
    unfold oNe eqD at e2 ⊢
    simp only [e1, e3] at e2 ⊢
    exact e2
  by_cases hz : goods P R i = []
  · have hq0 : R / P = 0 := by
      rw [hz] at hg
      have := congrArg List.length hg
      simp at this
      omega
    simp only [q_ifS, q_truS, q_op2S, q_vS, hf, q_bok, q_lstS, q_nilS, List.length_nil, l0, if_true, ne, q_toB]
    simp [hz, hq0]
  · have hl : (goods P R i).length = (R / P).toNat := by rw [hg]; simp
    have hpos : 0 < (R / P).toNat := by
      rw [← hl]
      cases e : goods P R i with
      | nil => exact absurd e hz
      | cons _ _ => simp
    have hat : atI ((goods P R i).map D.int) (-1) = some (.int (R / P)) := by
      unfold atI ixN
      rw [List.length_map, hl, if_neg (by omega), if_pos (by omega), hg]
      simp only [Option.bind_some]
      rw [show ((-1 : Int) + ((R / P).toNat : Int)).toNat = (R / P).toNat - 1 by omega]
      rw [List.map_map, List.getElem?_map, List.getElem?_range (by omega)]
      simp only [Option.map_some, Function.comp_def, Option.some.injEq, D.int.injEq]
      omega
    have hix : oIx (c0 :: .lst ((goods P R i).map .int) :: cs) (.ref 1) (.int (-1)) = .ok (.int (R / P)) (c0 :: .lst ((goods P R i).map .int) :: cs) := by
      simp [oIx, asL, hat]
    have hneg : ∀ st, oNeg st (.int 1) = .ok (.int (-1)) st := fun st => rfl
    simp only [q_ifS, q_truS, q_op2S, q_op1S, q_vS, hf, q_bok, q_lstS, q_nilS, List.length_nil, l0, if_true, ne, q_toB, q_cS, hneg, hix]
    simp [hz, hix]
theorem bounds_draw {K : Int} {ws ps : List Str} {st : Sto} (hw : ws.length ≤ 8) (h : Fd K [] st) (hK : K ≤ 9000) :
    ∃ (bs : List Int) (st' : Sto), lcS (itS (vS 1)) [10] (nameT 10) (yesS) (callM F__law_draw [] (consS (vS 0) (consS (cS (.int 6)) (nilS)))) [some (.ref 0), some (T ws), some (T ps), none, none, none, none, none, none, none, none] st = .ok (bs.map D.int) st' ∧ bs.length = ws.length ∧ (∀ b ∈ bs, 0 ≤ b ∧ b ≤ 10) ∧ Fd (K + 8) [] st' := by
  obtain ⟨acc, st2, e2, ⟨bs, rfl, h1, h2, h3⟩, _⟩ := lcS_ex (it := itS (vS 1)) (vs := [10]) (tg := nameT 10) (tt := yesS) (te := callM F__law_draw [] (consS (vS 0) (consS (cS (.int 6)) (nilS))))
    (fr := [some (.ref 0), some (T ws), some (T ps), none, none, none, none, none, none, none, none]) (st := st) (st1 := st) (ds := ws.map D.str)
    (fun i acc st => ∃ bs : List Int, acc = bs.map D.int ∧ bs.length = i ∧ (∀ b ∈ bs, 0 ≤ b ∧ b ≤ 10) ∧ Fd (K + i) [] st) (by simp; unfold LIM; omega) (by simp) ⟨[], rfl, rfl, by simp, by simpa using h⟩ (by
      rintro i d acc st hd ⟨bs, rfl, hb, hA, hF⟩ ha
      have hi : i < ws.length := by
        have := (List.getElem?_eq_some_iff.mp hd).1
        simpa using this
      obtain ⟨v, st', e, v0, v1, hF'⟩ := draw (size := 6) hF (by omega) (by decide) (by decide)
      refine ⟨_, true, st, rfl, rfl, fun _ => ⟨.int v, st', by simp [wipeF, e], bs ++ [v], by simp, by simp [hb], fun x hx => ?_, hF'.more (by omega)⟩, fun z => by cases z⟩
      rcases List.mem_append.mp hx with z | z
      · exact hA x z
      · rw [List.mem_singleton.mp z]; omega)
  exact ⟨bs, st2, e2, by simpa using h1, h2, h3.more (by simp; omega)⟩
theorem deals_ok {K : Int} {ws ps : List Str} {st : Sto} (g : GoodNames ws) (h : GoodNames ps) (hw : ws.length ≤ 5) (hp : ps.length ≤ 4) (hF : Fd K [] st) (hK : K ≤ 8000) :
    ∃ st', F__law_deals_right [.ref 0, T ws, T ps] st = .ok (.bl true) st' ∧ Fd (K + 20) [] st' := by
  have P0 : 0 < ps.length := by have := h.ne; cases ps <;> simp_all
  obtain ⟨bs, st1, e1, hl, hb, h1⟩ := bounds_draw (ws := ws) (ps := ps) (by omega) hF (by omega)
  have hb0 : ∀ b ∈ bs, 0 ≤ b := fun b hx => (hb b hx).1
  obtain ⟨ns, a, b, n, rfl, q1, q2, q3, q4, q5⟩ := h1
  have e2 : lcS (itS (vS 3)) [10] (nameT 10) (yesS) (callS (c12 minD min2D) (consS (lstS (consS (vS 10) (consS (callS (c1 lenD) (consS (vS 2) (nilS))) (nilS)))) (nilS))) [some (.ref 0), some (T ws), some (T ps), some (IT bs), none, none, none, none, none, none, none] [feed ns a b n] = .ok (bs.map fun x => D.int (minL [x, (ps.length : Int)])) [feed ns a b n] :=
    lcS_all (xs := bs) D.int (fun x => D.int (minL [x, (ps.length : Int)])) (by simp) (lim_of (by omega)) fun x hx => ⟨_, rfl, by simp [wipeF, lim2]⟩
  have hsum : ∀ st, sumD st (.lst (bs.map fun x => D.int (minL [x, (ps.length : Int)]))) = .ok (.int (room ps.length bs)) st := fun st => by rw [sum_map]; rfl
  obtain ⟨fr3, st3, e3, o4, o7, o8, o9, rfl, h3⟩ := forM_nx (it := itR2 (consS (cS (.int 1)) (consS (op2S oAdd (cS (.int 1)) (callS (c1 lenD) (consS (vS 1) (nilS)))) (nilS)))) (tg := nameT 4) (body := dealBody)
    (fr := [some (.ref 0), some (T ws), some (T ps), some (IT bs), none, some (.int (room ps.length bs)), some (.ref 1), none, none, none, none]) (st := [feed ns a b n, .lst []]) (itd := .fix ((List.range ws.length).map fun i : Nat => D.int (1 + (i : Int)))) (st1 := [feed ns a b n, .lst []])
    (fun i fr st => ∃ o4 o7 o8 o9, fr = [some (.ref 0), some (T ws), some (T ps), some (IT bs), o4, some (.int (room ps.length bs)), some (.ref 1), o7, o8, o9, none] ∧ Fd (K + 8 + i) [.lst ((goods ps.length (room ps.length bs) i).map .int)] st)
    (by
      have := itR2_int (m := consS (cS (.int 1)) (consS (op2S oAdd (cS (.int 1)) (callS (c1 lenD) (consS (vS 1) (nilS)))) (nilS))) (fr := [some (.ref 0), some (T ws), some (T ps), some (IT bs), none, some (.int (room ps.length bs)), some (.ref 1), none, none, none, none]) (st := [feed ns a b n, .lst []]) (i := 1) (j := 1 + (ws.length : Int)) (st1 := [feed ns a b n, .lst []]) (by omega) (by omega) (by omega) (by omega) (by simp)
      rw [this]
      congr 4
      omega) ⟨none, none, none, none, rfl, ns, a, b, n, by simp [goods], q1, q2, q3, q4, by simpa using q5⟩ (by
      rintro i fr st hi ⟨o4, o7, o8, o9, rfl, hF'⟩
      have hi : i < ws.length := by simpa [ItD.len] using hi
      obtain ⟨o7', o8', o9', st', e, h'⟩ := deal_step (K := K + 8 + i) (ws := ws) (ps := ps) (bs := bs) (i := i) (good := goods ps.length (room ps.length bs) i) (o7 := o7) (o8 := o8) (o9 := o9) (o10 := none) g h hw hp hl hb hi (by simp [goods]; omega) hF' (by omega)
      refine ⟨.int (1 + (i : Int)), _, _, _, by simp [ItD.at, hi], rfl, .inl e, _, o7', o8', o9', rfl, ?_⟩
      rw [goods_step P0]
      exact h'.more (by omega)) (fun _ _ _ => rfl)
  have hlen : (ItD.fix ((List.range ws.length).map fun i : Nat => D.int (1 + (i : Int)))).len = ws.length := by simp [ItD.len]
  rw [hlen] at h3
  obtain ⟨ns', a', b', n', rfl, r1, r2, r3, r4, r5⟩ := h3
  have hr0 := room_pos (P := ps.length) hb0
  have hr1 := room_le (P := ps.length) (bs := bs)
  have hq : room ps.length bs / ps.length ≤ ws.length := by
    have := Int.ediv_le_ediv (c := (ps.length : Int)) (by omega) hr1
    rw [Int.mul_ediv_cancel _ (by omega), hl] at this
    exact this
  have hq0 : 0 ≤ room ps.length bs / ps.length := Int.ediv_nonneg hr0 (by omega)
  have me : ∀ st, callP1 F_most_each [] [T ws, T ps, IT bs] st = .ok (.int (room ps.length bs / ps.length)) st := fun st =>
    callP1_of (by simpa using most_each_ok g h hl hb0) (by simp only [List.any_cons, List.any_nil, no_ref_T, no_ref_IT, Bool.or_self])
  have rp : ∀ st, reprD st (.int (room ps.length bs / ps.length)) = .ok (.str (PyData.int (room ps.length bs / ps.length)).shown) st := fun st => repr_int (by omega) (by omega)
  have lg := last_good (P := ps.length) (R := room ps.length bs) (i := ws.length) P0 hr0 hq (st := feed ns' a' b' n' :: [.lst ((goods ps.length (room ps.length bs) ws.length).map .int)]) rfl (fr := [some (.ref 0), some (T ws), some (T ps), some (IT bs), o4, some (.int (room ps.length bs)), some (.ref 1), o7, o8, o9, none]) rfl
  obtain ⟨ns0, a0, b0, n0, rfl, _⟩ := hF
  have hf : finD [feed ns0 a0 b0 n0] (.bl true) (feed ns' a' b' n' :: [.lst ((goods ps.length (room ps.length bs) ws.length).map .int)]) = .ok (.bl true) [feed ns' a' b' n'] := fin_feed (by simp [hasRef, FUEL])
  refine ⟨[feed ns' a' b' n'], ?_, ns', a', b', n', rfl, r1, r2, r3, r4, by omega⟩
  simp only [F__law_deals_right, m__law_deals_right, q_fnF, q_startF, List.map_cons, List.map_nil, List.length_cons, List.length_nil]
  simp [-q_ifS, e1, tupD, tupL, e2, hsum, e3, me, rp, lg, hf]
theorem ring_lap {K : Int} {ws ps : List Str} {m k : Nat} {lots : List (List Str)} {st : Sto} {o5 o7 o8 : Option D} (g : GoodNames ws) (hw : ws.length ≤ 8) (hm : m ≤ ws.length) (hl : lots.length ≤ 100) (h : Fd K [.lst (lots.map T)] st) :
    ∃ o7' st', (seqM (asgS (nameT 7) (frzS (lcS (itR1 (consS (vS 4) (nilS))) [8] (nameT 8) (yesS) (op2S oIx (vS 1) (op2S oMod (callS (c1 intD) (consS (op2S oAdd (vS 3) (vS 8)) (nilS))) (callS (c1 lenD) (consS (vS 1) (nilS))))))))
      (dropM (appS (vS 6) (callS (c1 tupD) (consS (callS (c1 sortD) (consS (vS 7) (nilS))) (nilS)))))) [some (.ref 0), some (T ws), some (T ps), some (.int k), some (.int m), o5, some (.ref 1), o7, o8] st =
      .nx [some (.ref 0), some (T ws), some (T ps), some (.int k), some (.int m), o5, some (.ref 1), o7', o8] st' ∧ Fd K [.lst ((lots ++ [sSort (ring ws k m)]).map T)] st' := by
  have hW : 0 < ws.length := by have := g.ne; cases ws <;> simp_all
  obtain ⟨ns, a, b, n, rfl, q1, q2, q3, q4, q5⟩ := h
  have e : lcS (itR1 (consS (vS 4) (nilS))) [8] (nameT 8) (yesS) (op2S oIx (vS 1) (op2S oMod (callS (c1 intD) (consS (op2S oAdd (vS 3) (vS 8)) (nilS))) (callS (c1 lenD) (consS (vS 1) (nilS))))) [some (.ref 0), some (T ws), some (T ps), some (.int k), some (.int m), o5, some (.ref 1), o7, o8] (feed ns a b n :: [.lst (lots.map T)]) = .ok ((ring ws k m).map D.str) (feed ns a b n :: [.lst (lots.map T)]) := by
    have := lcS_all (it := itR1 (consS (vS 4) (nilS))) (vs := [8]) (tg := nameT 8) (te := op2S oIx (vS 1) (op2S oMod (callS (c1 intD) (consS (op2S oAdd (vS 3) (vS 8)) (nilS))) (callS (c1 lenD) (consS (vS 1) (nilS)))))
      (fr := [some (.ref 0), some (T ws), some (T ps), some (.int k), some (.int m), o5, some (.ref 1), o7, o8]) (st := feed ns a b n :: [.lst (lots.map T)]) (xs := List.range m) (fun i : Nat => D.int i) (fun l => D.str (ws[(k + l) % ws.length]?.getD Str.empty)) (itR1_nat (by omega) (by simp)) (by simp; unfold LIM; omega) fun l hl => ⟨_, rfl, by
        have e5 := ring_at (ws := ws) (k := k) (l := l) (st := feed ns a b n :: [.lst (lots.map T)]) hW
        simp [wipeF, oMod, hW, e5]⟩
    rw [this]
    unfold ring
    rw [List.map_map]
    rfl
  have hs : ∀ st, sortD st (.lst ((ring ws k m).map D.str)) = .ok (.lst ((sSort (ring ws k m)).map D.str)) st := fun st => by
    unfold sortD strsOf
    simp only [q_asL1, Option.bind_some, Pl.strs_map]
    rw [if_pos (by unfold ring; simp; omega)]
  have hlim : lots.length < LIM := by unfold LIM; omega
  refine ⟨some (L (ring ws k m)), feed ns a b n :: [.lst ((lots ++ [sSort (ring ws k m)]).map T)], ?_, ns, a, b, n, rfl, q1, q2, q3, q4, q5⟩
  simp only [q_seqM, q_asgS, q_frzS, e, q_bok, q_sok, q_nameT, q_nx]
  simp [appS, hs, tupD, tupL, appD, hlim]
theorem roundr_ok {K : Int} {ws ps : List Str} {st : Sto} (g : GoodNames ws) (h : GoodNames ps) (hw : ws.length ≤ 5) (hp : ps.length ≤ 4) (hF : Fd K [] st) (hK : K ≤ 8000) :
    ∃ st', F__law_round_right [.ref 0, T ws, T ps] st = .ok (.bl true) st' ∧ Fd (K + 20) [] st' := by
  have hW : 0 < ws.length := by have := g.ne; cases ws <;> simp_all
  obtain ⟨v1, st1, e1, a1, b1, h1⟩ := draw (size := (ws.length : Int)) hF (by omega) (by omega) (by omega)
  obtain ⟨k1, rfl⟩ := Int.eq_ofNat_of_zero_le a1
  obtain ⟨v2, st2, e2, a2, b2, h2⟩ := draw (size := 2) h1 (by omega) (by decide) (by decide)
  obtain ⟨ns, a, b, n, rfl, q1, q2, q3, q4, q5⟩ := h2
  have hm : 1 + k1 ≤ ws.length := by omega
  obtain ⟨fr3, st3, e3, o3, o7, o8, rfl, h3⟩ := forM_nx (it := itR1 (consS (callS (c1 lenD) (consS (vS 2) (nilS))) (nilS))) (tg := nameT 3)
    (body := seqM (asgS (nameT 7) (frzS (lcS (itR1 (consS (vS 4) (nilS))) [8] (nameT 8) (yesS) (op2S oIx (vS 1) (op2S oMod (callS (c1 intD) (consS (op2S oAdd (vS 3) (vS 8)) (nilS))) (callS (c1 lenD) (consS (vS 1) (nilS))))))))
      (dropM (appS (vS 6) (callS (c1 tupD) (consS (callS (c1 sortD) (consS (vS 7) (nilS))) (nilS))))))
    (fr := [some (.ref 0), some (T ws), some (T ps), none, some (.int (1 + (k1 : Int))), some (.int (1 + v2)), some (.ref 1), none, none]) (st := [feed ns a b n, .lst []]) (itd := .fix ((List.range ps.length).map fun i : Nat => D.int i)) (st1 := [feed ns a b n, .lst []])
    (fun i fr st => ∃ o3 o7 o8, fr = [some (.ref 0), some (T ws), some (T ps), o3, some (.int (1 + (k1 : Int))), some (.int (1 + v2)), some (.ref 1), o7, o8] ∧ Fd (K + 2) [.lst (((List.range i).map fun k => sSort (ring ws k (1 + k1))).map T)] st)
    (itR1_nat (by omega) (by simp)) ⟨none, none, none, rfl, ns, a, b, n, by simp, q1, q2, q3, q4, by omega⟩ (by
      rintro i fr st hi ⟨o3, o7, o8, rfl, hF'⟩
      have hi : i < ps.length := by simpa [ItD.len] using hi
      obtain ⟨o7', st', e, h'⟩ := ring_lap (K := K + 2) (ws := ws) (ps := ps) (m := 1 + k1) (k := i) (lots := (List.range i).map fun k => sSort (ring ws k (1 + k1))) (st := st) (o5 := some (.int (1 + v2))) (o7 := o7) (o8 := o8) g (by omega) hm (by simp; omega) hF'
      rw [show ((1 + k1 : Nat) : Int) = 1 + (k1 : Int) by simp] at e
      refine ⟨.int i, _, _, _, by simp [ItD.at, hi], rfl, .inl e, some (.int i), o7', o8, rfl, ?_⟩
      rw [List.range_succ, List.map_append]
      exact h') (fun _ _ _ => rfl)
  have hlen : (ItD.fix ((List.range ps.length).map fun i : Nat => D.int i)).len = ps.length := by simp [ItD.len]
  rw [hlen] at h3
  obtain ⟨ns', a', b', n', rfl, r1, r2, r3, r4, r5⟩ := h3
  have nd := nodup_asc g.asc
  have np := nodup_asc h.asc
  have el := round_lots (ws := ws) (ps := ps) (m := 1 + k1) nd np hm
  have sm : (1 + k1) * ps.length < 64 := by
    have : (1 + k1) * ps.length ≤ 5 * 4 := Nat.mul_le_mul (by omega) hp
    omega
  have dr := deal_round_ok (ws := ws) (ps := ps) (m := 1 + k1) (w := 1 + v2) g h (by omega) hm (by omega) sm
  rw [el, show ((1 + k1 : Nat) : Int) = 1 + (k1 : Int) by simp] at dr
  have drp : ∀ st, callP1 F_deal_round [] [T ws, T ps, .int (1 + (k1 : Int)), .int (1 + v2)] st = .ok (crewD ws ps ((List.range ps.length).map fun k => sSort (ring ws k (1 + k1))) (1 + v2)) st := fun st =>
    callP1_of (by simpa using dr) (by simp only [List.any_cons, List.any_nil, no_ref_T, no_ref_int, Bool.or_self])
  have sml : Small ws ps ((List.range ps.length).map fun k => sSort (ring ws k (1 + k1))) (1 + v2) := by
    refine ⟨by omega, by omega, by simp; omega, fun lot hl => ?_, ⟨by omega, by omega⟩, g.ok, h.ok, fun lot hl x hx => ?_⟩
    · obtain ⟨k, _, rfl⟩ := List.mem_map.mp hl
      rw [(sSort_perm _).length_eq]
      unfold ring
      simp
      omega
    · obtain ⟨k, _, rfl⟩ := List.mem_map.mp hl
      exact g.ok x (ring_mem hW x ((sSort_perm _).mem_iff.mp hx))
  have rc : ∀ st, reprD st (crewD ws ps ((List.range ps.length).map fun k => sSort (ring ws k (1 + k1))) (1 + v2)) = .ok (.str (pC ws ps ((List.range ps.length).map fun k => sSort (ring ws k (1 + k1))) (1 + v2)).shown) st := fun st => repr_crew sml
  obtain ⟨ns0, a0, b0, n0, rfl, _⟩ := hF
  have hf : finD [feed ns0 a0 b0 n0] (.bl true) (feed ns' a' b' n' :: [.lst (((List.range ps.length).map fun k => sSort (ring ws k (1 + k1))).map T)]) = .ok (.bl true) [feed ns' a' b' n'] := fin_feed (by simp [hasRef, FUEL])
  refine ⟨[feed ns' a' b' n'], ?_, ns', a', b', n', rfl, r1, r2, r3, r4, by omega⟩
  simp only [F__law_round_right, m__law_round_right, q_fnF, q_startF, List.map_cons, List.map_nil, List.length_cons, List.length_nil]
  clear el dr sml
  generalize (List.range ps.length).map (fun k => sSort (ring ws k (1 + k1))) = lots at *
  simp [e1, e2, e3, drp, tupD, tupL, lim4, rc, hf]
end K85
set_option Elab.async false
set_option linter.all false
set_option maxRecDepth 100000
set_option maxHeartbeats 4000000
namespace K85
open PySem PySem.Spec PyProof.Rows L2 Pg Pl
theorem missing_len {ws lot : List Str} (nw : ws.Nodup) (nl : lot.Nodup) (hs : ∀ x ∈ lot, x ∈ ws) : (missing ws lot).length + lot.length = ws.length := by
  have h1 : (ws.filter fun x => decide (x ∈ lot)).Perm lot := by
    refine (List.perm_ext_iff_of_nodup (nw.filter _) nl).mpr fun x => ?_
    rw [List.mem_filter, decide_eq_true_eq]
    exact ⟨fun h => h.2, fun h => ⟨hs x h, h⟩⟩
  have h2 := List.length_eq_countP_add_countP (fun x => decide (x ∈ lot)) (l := ws)
  rw [List.countP_eq_length_filter, List.countP_eq_length_filter, h1.length_eq] at h2
  have h3 : (ws.filter fun x => decide ¬decide (x ∈ lot) = true) = missing ws lot := by
    unfold missing
    apply List.filter_congr
    intro x _
    simp
  rw [h3] at h2
  omega
theorem wide_nodup {ws lot : List Str} (nw : ws.Nodup) (nl : lot.Nodup) (n : Nat) : (lot ++ (missing ws lot).take n).Nodup := by
  rw [List.nodup_append]
  refine ⟨nl, (nw.filter _).sublist (List.take_sublist _ _), fun a ha b hb e => ?_⟩
  have hb2 := List.mem_of_mem_take hb
  unfold missing at hb2
  rw [List.mem_filter] at hb2
  rw [← e] at hb2
  simp [ha] at hb2
theorem wLot_perm {ws lot : List Str} {goal : Int} (nw : ws.Nodup) (nl : lot.Nodup) : (wLot ws goal lot).Perm (lot ++ (missing ws lot).take (maxL [0, goal - lot.length]).toNat) := by
  unfold wLot
  rw [sDup_nodup (wide_nodup nw nl _)]
  exact sSort_perm _
theorem maxL_cases {a b : Int} : a ≤ maxL [a, b] ∧ b ≤ maxL [a, b] ∧ (maxL [a, b] = a ∨ maxL [a, b] = b) := by
  have h := maxL_spec a [b]
  refine ⟨h.2 a (by simp), h.2 b (by simp), ?_⟩
  simpa using h.1
theorem wLot_len {ws lot : List Str} {goal : Int} (nw : ws.Nodup) (nl : lot.Nodup) (hs : ∀ x ∈ lot, x ∈ ws) (hg : goal ≤ ws.length) : ((wLot ws goal lot).length : Int) = maxL [(lot.length : Int), goal] := by
  have h1 := missing_len nw nl hs
  have h2 := (wLot_perm (goal := goal) nw nl).length_eq
  rw [List.length_append, List.length_take] at h2
  have h3 := maxL_cases (a := 0) (b := goal - lot.length)
  have h4 := maxL_cases (a := (lot.length : Int)) (b := goal)
  omega
theorem wLot_good {ws lot : List Str} {goal : Int} (g : GoodNames ws) (h : GoodLot ws lot) (hw : ws.length ≤ 100) : GoodLot ws (wLot ws goal lot) := by
  have nw := nodup_asc g.asc
  have nl := nodup_asc h.asc
  have p := wLot_perm (goal := goal) nw nl
  refine ⟨fun z => ?_, ?_, fun x hx => ?_, ?_⟩
  · have := p.length_eq
    rw [z, List.length_append, List.length_nil] at this
    exact h.ne (List.eq_nil_of_length_eq_zero (by omega))
  · have h1 := missing_len nw nl h.sub
    have h2 := p.length_eq
    rw [List.length_append, List.length_take] at h2
    omega
  · rcases List.mem_append.mp (p.mem_iff.mp hx) with z | z
    · exact h.sub x z
    · have := List.mem_of_mem_take z
      unfold missing at this
      exact (List.mem_filter.mp this).1
  · unfold wLot
    rw [sDup_nodup (wide_nodup nw nl _)]
    exact asc_sort (wide_nodup nw nl _)
theorem lacks_bound {lots : List (List Str)} {goal : Int} (h : goal ≤ 20) : 0 ≤ lacks lots goal ∧ lacks lots goal ≤ 20 * lots.length := by
  induction lots with
  | nil => simp [lacks]
  | cons lot lots ih =>
    have h3 := maxL_cases (a := 0) (b := goal - lot.length)
    unfold lacks at ih ⊢
    rw [List.map_cons, List.sum_cons, List.length_cons]
    omega
abbrev innerM : Sm := forM (itZip (consS (op2S oIx (vS 0) (cS (.int 2))) (consS (op2S oIx (vS 5) (cS (.int 2))) (nilS)))) (tupT 2 (consT (nameT 6) (consT (nameT 7) (nilT))) [6, 7]) (ifM (orS (truS toB (op2S oNe (frzS (lcS (itS (vS 6)) [8] (nameT 8) (truS toB (op2S oNotIn (vS 8) (vS 7))) (vS 8))) (lstS (nilS)))) (truS toB (op2S oNe (callS (c1 lenD) (consS (vS 7) (nilS))) (callS (c12 maxD max2D) (consS (lstS (consS (callS (c1 lenD) (consS (vS 6) (nilS))) (consS (vS 2) (nilS)))) (nilS)))))) (retM (cS (.bl false))) (skipM))
theorem inner_ok {ws ps : List Str} {lots : List (List Str)} {w goal : Int} {o1 o3 o4 o6 o7 o8 : Option D} (g : GoodNames ws) (hg : ∀ lot ∈ lots, GoodLot ws lot) (hw : ws.length ≤ 100) (hgoal : goal ≤ ws.length) :
    ∃ o6' o7', innerM [some (crewD ws ps lots w), o1, some (.int goal), o3, o4, some (crewD ws ps (lots.map (wLot ws goal)) w), o6, o7, o8] [] =
      .nx [some (crewD ws ps lots w), o1, some (.int goal), o3, o4, some (crewD ws ps (lots.map (wLot ws goal)) w), o6', o7', o8] [] := by
  have nw := nodup_asc g.asc
  obtain ⟨fr3, st3, e3, rfl, o6', o7', rfl⟩ := forM_nx (it := itZip (consS (op2S oIx (vS 0) (cS (.int 2))) (consS (op2S oIx (vS 5) (cS (.int 2))) (nilS)))) (tg := tupT 2 (consT (nameT 6) (consT (nameT 7) (nilT))) [6, 7])
    (body := ifM (orS (truS toB (op2S oNe (frzS (lcS (itS (vS 6)) [8] (nameT 8) (truS toB (op2S oNotIn (vS 8) (vS 7))) (vS 8))) (lstS (nilS)))) (truS toB (op2S oNe (callS (c1 lenD) (consS (vS 7) (nilS))) (callS (c12 maxD max2D) (consS (lstS (consS (callS (c1 lenD) (consS (vS 6) (nilS))) (consS (vS 2) (nilS)))) (nilS)))))) (retM (cS (.bl false))) (skipM))
    (fr := [some (crewD ws ps lots w), o1, some (.int goal), o3, o4, some (crewD ws ps (lots.map (wLot ws goal)) w), o6, o7, o8]) (st := []) (itd := .fix (List.zipWith (fun x y => .tup [x, y]) (lots.map T) ((lots.map (wLot ws goal)).map T))) (st1 := [])
    (fun _ fr st => st = [] ∧ ∃ o6 o7, fr = [some (crewD ws ps lots w), o1, some (.int goal), o3, o4, some (crewD ws ps (lots.map (wLot ws goal)) w), o6, o7, o8]) (by
      generalize lots.map (wLot ws goal) = late
      simp) ⟨rfl, o6, o7, rfl⟩ (by
      rintro i fr st hi ⟨rfl, o6, o7, rfl⟩
      have hi : i < lots.length := by simpa [ItD.len] using hi
      have gl := hg lots[i] (List.getElem_mem hi)
      have nl := nodup_asc gl.asc
      have hlen := wLot_len (goal := goal) nw nl gl.sub hgoal
      have hp := wLot_perm (goal := goal) nw nl
      have e : lcS (itS (vS 6)) [8] (nameT 8) (truS toB (op2S oNotIn (vS 8) (vS 7))) (vS 8) [some (crewD ws ps lots w), o1, some (.int goal), o3, o4, some (crewD ws ps (lots.map (wLot ws goal)) w), some (T lots[i]), some (T (wLot ws goal lots[i])), o8] [] = .ok [] [] := by
        rw [lcS_map (xs := lots[i]) D.str (fun _ => false) D.str (by simp) (lim_of gl.len) fun x hx => ⟨_, rfl, by
          have : x ∈ wLot ws goal lots[i] := hp.mem_iff.mpr (List.mem_append_left _ hx)
          simp [wipeF, oNotIn, this], fun z => by cases z⟩]
        rw [List.filter_eq_nil_iff.mpr (by simp)]
        rfl
      have l0 : (0 : Nat) ≤ LIM := Nat.zero_le _
      have key : ∀ late : List (List Str), lcS (itS (vS 6)) [8] (nameT 8) (truS toB (op2S oNotIn (vS 8) (vS 7))) (vS 8) [some (crewD ws ps lots w), o1, some (.int goal), o3, o4, some (crewD ws ps late w), some (T lots[i]), some (T (wLot ws goal lots[i])), o8] [] = .ok [] [] →
          (ifM (orS (truS toB (op2S oNe (frzS (lcS (itS (vS 6)) [8] (nameT 8) (truS toB (op2S oNotIn (vS 8) (vS 7))) (vS 8))) (lstS (nilS)))) (truS toB (op2S oNe (callS (c1 lenD) (consS (vS 7) (nilS))) (callS (c12 maxD max2D) (consS (lstS (consS (callS (c1 lenD) (consS (vS 6) (nilS))) (consS (vS 2) (nilS)))) (nilS)))))) (retM (cS (.bl false))) (skipM))
            [some (crewD ws ps lots w), o1, some (.int goal), o3, o4, some (crewD ws ps late w), some (T lots[i]), some (T (wLot ws goal lots[i])), o8] [] = .nx [some (crewD ws ps lots w), o1, some (.int goal), o3, o4, some (crewD ws ps late w), some (T lots[i]), some (T (wLot ws goal lots[i])), o8] [] := fun late e => by
        simp [e, l0, ne_nil0, lim2, hlen]
      exact ⟨.tup [T lots[i], T (wLot ws goal lots[i])], _, _, [], by simp [ItD.at, List.getElem?_zipWith, hi], rfl, .inl (key _ e), rfl, some (T lots[i]), some (T (wLot ws goal lots[i])), rfl⟩) (fun _ _ _ => rfl)
  exact ⟨o6', o7', e3⟩
end K85
set_option Elab.async false
set_option linter.all false
set_option maxRecDepth 100000
set_option maxHeartbeats 4000000
namespace K85
open PySem PySem.Spec PyProof.Rows L2 Pg Pl
abbrev addBody : Sm := (seqM (asgS (nameT 2) (op2S oAdd (vS 1) (op2S oIx (vS 0) (cS (.int 3)))))
  (seqM (asgS (nameT 3) (frzS (lcS (itS (op2S oIx (vS 0) (cS (.int 2)))) [6] (nameT 6) (yesS) (callS (c12 maxD max2D) (consS (lstS (consS (cS (.int 0)) (consS (op2S oSub (vS 2) (callS (c1 lenD) (consS (vS 6) (nilS)))) (nilS)))) (nilS))))))
  (seqM (asgS (nameT 4) (ifS (truS toB (op2S oLe (vS 2) (callS (c1 lenD) (consS (op2S oIx (vS 0) (cS (.int 0))) (nilS))))) (callS (c1 sumD) (consS (vS 3) (nilS))) (cS .non)))
  (seqM (ifM (truS toB (op2S oNe (callS (c1 reprD) (consS (callP F_fewest_added [] (consS (vS 0) (consS (vS 1) (nilS)))) (nilS))) (callS (c1 reprD) (consS (vS 4) (nilS))))) (retM (cS (.bl false))) (skipM))
  (ifM (truS toB (op2S oNotN (vS 4) (cS .non))) (seqM (asgS (nameT 5) (callP F_widened [] (consS (vS 0) (consS (vS 1) (nilS)))))
  (seqM (ifM (orS (notS (truS toB (callP F_is_crew [] (consS (vS 5) (nilS))))) (orS (truS toB (op2S oNe (slS (vS 5) (noP) (partS (cS (.int 2)))) (slS (vS 0) (noP) (partS (cS (.int 2)))))) (truS toB (op2S oNe (op2S oIx (vS 5) (cS (.int 3))) (op2S oIx (vS 0) (cS (.int 3))))))) (retM (cS (.bl false))) (skipM))
  (forM (itZip (consS (op2S oIx (vS 0) (cS (.int 2))) (consS (op2S oIx (vS 5) (cS (.int 2))) (nilS)))) (tupT 2 (consT (nameT 6) (consT (nameT 7) (nilT))) [6, 7]) (ifM (orS (truS toB (op2S oNe (frzS (lcS (itS (vS 6)) [8] (nameT 8) (truS toB (op2S oNotIn (vS 8) (vS 7))) (vS 8))) (lstS (nilS)))) (truS toB (op2S oNe (callS (c1 lenD) (consS (vS 7) (nilS))) (callS (c12 maxD max2D) (consS (lstS (consS (callS (c1 lenD) (consS (vS 6) (nilS))) (consS (vS 2) (nilS)))) (nilS)))))) (retM (cS (.bl false))) (skipM))))) (skipM))))))
theorem add_step {ws ps : List Str} {lots : List (List Str)} {w s : Int} {o2 o3 o4 o5 o6 o7 : Option D} (g : GoodCrew ws ps lots w) (hw : ws.length ≤ 5) (hp : ps.length ≤ 4) (hwid : w ≤ 5) (h1 : -2 ≤ s) (h2 : s ≤ ws.length) :
    ∃ o2' o3' o4' o5' o6' o7', addBody [some (crewD ws ps lots w), some (.int s), o2, o3, o4, o5, o6, o7, none] [] = .nx [some (crewD ws ps lots w), some (.int s), o2', o3', o4', o5', o6', o7', none] [] := by
  have l3 := g.len
  have nw := nodup_asc g.gw.asc
  have ll : ∀ lot ∈ lots, lot.length ≤ 5 := fun lot hl => by
    have gl := g.gl lot hl
    have := missing_len nw (nodup_asc gl.asc) gl.sub
    omega
  have e1 : lcS (itS (op2S oIx (vS 0) (cS (.int 2)))) [6] (nameT 6) (yesS) (callS (c12 maxD max2D) (consS (lstS (consS (cS (.int 0)) (consS (op2S oSub (vS 2) (callS (c1 lenD) (consS (vS 6) (nilS)))) (nilS)))) (nilS))) [some (crewD ws ps lots w), some (.int s), some (.int (s + w)), o3, o4, o5, o6, o7, none] [] = .ok (lots.map fun lot => D.int (maxL [0, (s + w) - lot.length])) [] :=
    lcS_all (xs := lots) T (fun lot => D.int (maxL [0, (s + w) - lot.length])) (by simp) (lim_of (by omega)) fun lot hl => ⟨_, rfl, by simp [wipeF, lim2]⟩
  have fe := fewest_ok (ws := ws) (ps := ps) (lots := lots) (w := w) (s := s) (by omega)
  by_cases hc : (ws.length : Int) < s + w
  · have hc2 : ¬ s + w ≤ (ws.length : Int) := by omega
    rw [if_pos hc] at fe
    refine ⟨some (.int (s + w)), some (.lst (lots.map fun lot => D.int (maxL [0, (s + w) - lot.length]))), some .non, o5, o6, o7, ?_⟩
    simp [e1, oLe, hc2, fe, repr_non, oNotN, Pl.isNon]
  · have hc2 : s + w ≤ (ws.length : Int) := by omega
    rw [if_neg hc] at fe
    have lb := lacks_bound (lots := lots) (goal := s + w) (by omega)
    have rp : reprD [] (.int (lacks lots (s + w))) = .ok (.str (PyData.int (lacks lots (s + w))).shown) [] := repr_int (by omega) (by omega)
    have wd := widened_ok (ws := ws) (ps := ps) (lots := lots) (w := w) (s := s) (by omega) (by omega) (fun lot hl => by have := ll lot hl; omega) hc2
    have GC : GoodCrew ws ps (lots.map (wLot ws (s + w))) w := ⟨g.gw, g.gp, by simpa using l3, fun lot hl => by
      obtain ⟨l, hl2, rfl⟩ := List.mem_map.mp hl
      exact wLot_good g.gw (g.gl l hl2) (by omega), g.pos⟩
    have ic := is_crew_ok GC
    have hs : ∀ st, sumD st (.lst (lots.map fun lot => D.int (maxL [0, (s + w) - lot.length]))) = .ok (.int (lacks lots (s + w))) st := fun st => by rw [sum_map]; rfl
    have n2 := ne_two (st := []) g.gw.ok g.gp.ok
    obtain ⟨o6', o7', ei⟩ := inner_ok (ws := ws) (ps := ps) (lots := lots) (w := w) (goal := s + w) (o1 := some (.int s)) (o3 := some (.lst (lots.map fun lot => D.int (maxL [0, (s + w) - lot.length])))) (o4 := some (.int (lacks lots (s + w)))) (o6 := o6) (o7 := o7) (o8 := none) g.gw g.gl (by omega) hc2
    refine ⟨some (.int (s + w)), some (.lst (lots.map fun lot => D.int (maxL [0, (s + w) - lot.length]))), some (.int (lacks lots (s + w))), some (crewD ws ps (lots.map (wLot ws (s + w))) w), o6', o7', ?_⟩
    clear GC
    generalize lots.map (wLot ws (s + w)) = late at *
    simp [e1, oLe, hc2, hs, fe, rp, oNotN, Pl.isNon, wd, ic, two_cut, n2, ei]
theorem added_ok {ws ps : List Str} {lots : List (List Str)} {w : Int} (g : GoodCrew ws ps lots w) (hw : ws.length ≤ 5) (hp : ps.length ≤ 4) (hwid : w ≤ 5) : F__law_added_right [crewD ws ps lots w] [] = .ok (.bl true) [] := by
  have hneg : ∀ st, oNeg st (.int 2) = .ok (.int (-2)) st := fun st => rfl
  have hn : (((ws.length : Int) + 1) - (-2)).toNat = ws.length + 3 := by omega
  obtain ⟨fr3, st3, e3, rfl, o1, o2, o3, o4, o5, o6, o7, rfl⟩ := forM_nx (it := itR2 (consS (op1S oNeg (cS (.int 2))) (consS (op2S oAdd (callS (c1 lenD) (consS (op2S oIx (vS 0) (cS (.int 0))) (nilS))) (cS (.int 1))) (nilS)))) (tg := nameT 1) (body := addBody)
    (fr := [some (crewD ws ps lots w), none, none, none, none, none, none, none, none]) (st := []) (itd := .fix ((List.range (ws.length + 3)).map fun i : Nat => D.int (-2 + (i : Int)))) (st1 := [])
    (fun _ fr st => st = [] ∧ ∃ o1 o2 o3 o4 o5 o6 o7, fr = [some (crewD ws ps lots w), o1, o2, o3, o4, o5, o6, o7, none]) (by
      have := itR2_int (m := consS (op1S oNeg (cS (.int 2))) (consS (op2S oAdd (callS (c1 lenD) (consS (op2S oIx (vS 0) (cS (.int 0))) (nilS))) (cS (.int 1))) (nilS))) (fr := [some (crewD ws ps lots w), none, none, none, none, none, none, none, none]) (st := []) (i := -2) (j := (ws.length : Int) + 1) (st1 := []) (by omega) (by omega) (by omega) (by omega) (by simp [hneg])
      rw [this, hn]) ⟨rfl, none, none, none, none, none, none, none, rfl⟩ (by
      rintro i fr st hi ⟨rfl, o1, o2, o3, o4, o5, o6, o7, rfl⟩
      have hi : i < ws.length + 3 := by simpa [ItD.len] using hi
      obtain ⟨o2', o3', o4', o5', o6', o7', e⟩ := add_step (s := -2 + (i : Int)) (o2 := o2) (o3 := o3) (o4 := o4) (o5 := o5) (o6 := o6) (o7 := o7) g hw hp hwid (by omega) (by omega)
      exact ⟨.int (-2 + (i : Int)), _, _, [], by simp [ItD.at, hi], rfl, .inl e, rfl, _, _, _, _, _, _, _, rfl⟩) (fun _ _ _ => rfl)
  simp [F__law_added_right, m__law_added_right, e3]
theorem source_ok {ns : List Int} : F__law_source [.scr ns] [] = .ok (.ref 0) [feed (ns.take 63) 0 0 0] := by
  have hl : (1 : Nat) ≤ LIM := by decide
  have hc : Pl.cutD ns none (some 63) = ns.take 63 := by rw [cut_hi (by decide)]; rfl
  simp only [F__law_source, fnK, m__law_source, q_startF, q_retM, q_ownS, q_consS, q_slS, q_vS, q_noP, q_partS, q_cS, q_nilS]
  simp [hc, lim4]
theorem plain (ns : List Int) : F_law [.scr ns] [] = .ok (.bl true) [] := by
  have h0 : Fd 0 [] [feed (ns.take 63) 0 0 0] := ⟨ns.take 63, 0, 0, 0, rfl, by simp; omega, by omega, by omega, by omega, by omega⟩
  obtain ⟨ws, ps, lots, w, st1, e1, g, hw, hp, hwid, h1⟩ := crew_ok h0 (by omega)
  obtain ⟨v2, st2, e2, a2, b2, h2⟩ := draw (size := 4) h1 (by omega) (by decide) (by decide)
  obtain ⟨k2, rfl⟩ := Int.eq_ofNat_of_zero_le a2
  obtain ⟨xs, st3, e3, g3, l3, h3⟩ := many_ok (m := 2 + k2) h2 (by omega) (by omega) (by omega)
  obtain ⟨v4, st4, e4, a4, b4, h4⟩ := draw (size := 4) h3 (by omega) (by decide) (by decide)
  obtain ⟨k4, rfl⟩ := Int.eq_ofNat_of_zero_le a4
  obtain ⟨ys, st5, e5, g5, l5, h5⟩ := many_ok (m := 1 + k4) h4 (by omega) (by omega) (by omega)
  obtain ⟨st6, e6, h6⟩ := deals_ok g3 g5 (by omega) (by omega) h5 (by omega)
  obtain ⟨st7, e7, h7⟩ := roundr_ok g3 g5 (by omega) (by omega) h6 (by omega)
  have e3' : F__law_many [.ref 0, .int (2 + (k2 : Int))] st2 = .ok (T xs) st3 := by simpa using e3
  have e5' : F__law_many [.ref 0, .int (1 + (k4 : Int))] st4 = .ok (T ys) st5 := by simpa using e5
  have nw := nodup_asc g.gw.asc
  have sml : Small ws ps lots w := g.small (by omega) (by omega) (fun lot hl => by
    have gl := g.gl lot hl
    have := missing_len nw (nodup_asc gl.asc) gl.sub
    omega) (by omega)
  have rc : ∀ st, reprD st (crewD ws ps lots w) = .ok (.str (pC ws ps lots w).shown) st := fun st => repr_crew sml
  have ad : ∀ st, callP1 F__law_added_right [] [crewD ws ps lots w] st = .ok (.bl true) st := fun st => callP1_of (by simpa using added_ok g hw (by omega) (by omega)) (by simp only [List.any_cons, List.any_nil, no_ref_crew, Bool.or_self])
  have fin : ∀ st', finD [] (.bl true) st' = .ok (.bl true) [] := fun st' => finD_nil (by simp [hasRef, FUEL])
  simp [F_law, m_law, source_ok, e1, e2, e3', e4, e5', rc, e6, e7, ad, fin]
end K85
theorem PySem.Challenge.cw_withoutslow_k85_whole_dealings_holds : PySem.Challenge.rw_withoutslow_k85_whole_dealings.Holds :=
  k85_of fun ns _ => K85.plain ns
