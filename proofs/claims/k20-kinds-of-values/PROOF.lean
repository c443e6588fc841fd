import PyProof.Rows.All
import Wide.All
import OpenK.AllK
import Wide.FinOn
import HandS.ForMost
import HandS.ForExc
import HandS.Wide
import HandS.IsInst
import HandS.Flow
import HandS.CallSlots
import HandS.TupAny
import HandS.Conv
import HandS.Deep
import KE.GoesEnum
import HandS.Style
import HandS.Ends
import HandS.SortRule
import HandS.SortInts
import HandS.Dict
import HandS.DictComp
import HandS.Defaults
import HandS.MakeKwOnly
import HandS.TryOnly
import HandS.SetFor
import HandS.Strs
import PyProof.P3In
import HandS.More
import PyProof.ReprRoads
import PySem.Challenge.RW_hoursmeant_k20_kinds_of_values
import PyProof.ReprLen
set_option Elab.async false
set_option linter.all false
set_option maxRecDepth 100000
set_option maxHeartbeats 4000000
-- text DmCore
/-! Plain data in place of the heap: values D, a store of cells, programs as Lean functions of both. -/
namespace Dm
open PySem L2
open PySem.W (Frag)

inductive D where
  | non | bl (b : Bool) | int (i : Int) | str (x : Str)
  | tup (xs : List D) | lst (xs : List D)
  | cell (n : Nat) | glo (x : Str)
inductive Cell where
  | lst (xs : List D)
  | obj (c : Str) (fs : List (Str × D))
  | exc (c : Str) (fs : List (Str × D))
  | dic (kvs : List (Key × D))
  | set (xs : List Int)
abbrev Sto := List Cell
inductive Res (α : Type) where
  | ok (a : α) (S : Sto)
  | exc (c : Str) (fs : List (Str × D)) (S : Sto)
  | bad
def Res.bind {α β : Type} (r : Res α) (f : α → Sto → Res β) : Res β := match r with
  | .ok a S => f a S
  | .exc c fs S => .exc c fs S
  | .bad => .bad
abbrev Rho := List (Option D)
abbrev ME := Rho → Sto → Res D
abbrev MA := Rho → Sto → Res (List D)
inductive Out where
  | nx (ρ : Rho) (S : Sto) | rt (d : D) (S : Sto) | bk (ρ : Rho) (S : Sto) | ct (ρ : Rho) (S : Sto)
  | exc (c : Str) (fs : List (Str × D)) (ρ : Rho) (S : Sto) | bad
abbrev MS := Rho → Sto → Out

/-! ### what stands for what -/
def KT (K : Frag) (a : Addr) (xs : List V) : Prop := ∃ (o : Obj) (its : Array Value) (n : Nat), K.lookup a = some o ∧ o.cls = .type "tuple" ∧ o.data = .seq its n ∧ its.size ≤ sizeLine ∧ Vals xs its.toList
def KL (K : Frag) (a : Addr) (xs : List V) : Prop := ∃ (o : Obj) (its : Array Value) (n : Nat), K.lookup a = some o ∧ o.cls = .type "list" ∧ o.dict = none ∧ o.data = .seq its n ∧ its.size ≤ sizeLine ∧ Vals xs its.toList
/-- what is fixed: the written part, the module's names, the addresses of lists that are being made -/
structure Fx where
  K : Frag
  mg : Str → Option Value
  ξ : List Addr
abbrev fx (X : Cx) (ξ : List Addr) : Fx := ⟨X.K, X.mg, ξ⟩
def FzT (F : Fx) (μ : List Addr) (H : Hp) (a : Addr) (xs : List V) : Prop := (Rd H a (.tup xs) ∧ a ∉ μ ∧ a ∉ F.ξ) ∨ KT F.K a xs
def FzL (F : Fx) (μ : List Addr) (H : Hp) (a : Addr) (xs : List V) : Prop := (Rd H a (.lst xs) ∧ a ∉ μ ∧ a ∉ F.ξ) ∨ KL F.K a xs
theorem FzT.sq {F : Fx} {μ : List Addr} {H : Hp} {a : Addr} {xs : List V} (h : FzT F μ H a xs) : SqT F.K H a xs := h.imp (·.1) id
theorem FzL.sq {F : Fx} {μ : List Addr} {H : Hp} {a : Addr} {xs : List V} (h : FzL F μ H a xs) : SqL F.K H a xs := h.imp (·.1) id

mutual
inductive RD (F : Fx) (μ : List Addr) (H : Hp) : V → D → Prop
  | non : RD F μ H .non .non
  | bl (b : Bool) : RD F μ H (.bl b) (.bl b)
  | int (i : Int) : RD F μ H (.int i) (.int i)
  | str (x : Str) : RD F μ H (.str x) (.str x)
  | tup {a : Addr} {xs : List V} {ds : List D} : FzT F μ H a xs → RDs F μ H xs ds → RD F μ H (.ref a) (.tup ds)
  | lst {a : Addr} {xs : List V} {ds : List D} : FzL F μ H a xs → RDs F μ H xs ds → RD F μ H (.ref a) (.lst ds)
  | cell {a : Addr} {n : Nat} : μ[n]? = some a → RD F μ H (.ref a) (.cell n)
  | glo {a : Addr} {x : Str} : F.mg x = some (.ref a) → RD F μ H (.ref a) (.glo x)
inductive RDs (F : Fx) (μ : List Addr) (H : Hp) : List V → List D → Prop
  | nil : RDs F μ H [] []
  | cons {v : V} {vs : List V} {d : D} {ds : List D} : RD F μ H v d → RDs F μ H vs ds → RDs F μ H (v :: vs) (d :: ds)
end

/-- what has gone on: new cells behind the old ones, all but the cells is as it was -/
structure Up (μ : List Addr) (H : Hp) (μ' : List Addr) (H' : Hp) : Prop where
  pre : ∃ ν, μ' = μ ++ ν
  new : ∀ a, a ∈ μ' → a ∉ μ → H a = none
  keep : ∀ a o, H a = some o → a ∉ μ → H' a = some o

section
variable {F : Fx} {μ μ' μ1 μ2 : List Addr} {H H' H1 H2 : Hp}
theorem Up.refl : Up μ H μ H := ⟨⟨[], (List.append_nil _).symm⟩, fun _ h n => absurd h n, fun _ _ h _ => h⟩
theorem Up.notin (u : Up μ H μ' H') {a : Addr} {o : HO} (h : H a = some o) (n : a ∉ μ) : a ∉ μ' := fun z => by
  have q := u.new a z n
  rw [h] at q; cases q
theorem Up.trans (u : Up μ H μ1 H1) (v : Up μ1 H1 μ2 H2) : Up μ H μ2 H2 := by
  obtain ⟨ν, e⟩ := u.pre
  obtain ⟨ν', e'⟩ := v.pre
  refine ⟨⟨ν ++ ν', by rw [e', e, List.append_assoc]⟩, fun a h n => ?_, fun a o h n => v.keep a o (u.keep a o h n) (u.notin h n)⟩
  by_cases h1 : a ∈ μ1
  · exact u.new a h1 n
  · have q := v.new a h h1
    cases z : H a with
    | none => rfl
    | some o =>
      rw [u.keep a o z n] at q; cases q
theorem Up.back (u : Up μ H μ' H') {p : Addr} (h : H' p = none) (n : p ∉ μ := by assumption) : H p = none := by
  cases z : H p with
  | none => rfl
  | some o =>
    rw [u.keep p o z n] at h; cases h
theorem Up.mem (u : Up μ H μ' H') {a : Addr} (h : a ∈ μ) : a ∈ μ' := by
  obtain ⟨ν, e⟩ := u.pre
  rw [e]
  exact List.mem_append_left _ h
theorem Up.get (u : Up μ H μ' H') {n : Nat} {a : Addr} (h : μ[n]? = some a) : μ'[n]? = some a := by
  obtain ⟨ν, e⟩ := u.pre
  rw [e, List.getElem?_append_left (List.getElem?_eq_some_iff.mp h).1]
  exact h
theorem FzT.up (u : Up μ H μ' H') {a : Addr} {xs : List V} (h : FzT F μ H a xs) : FzT F μ' H' a xs := by
  rcases h with ⟨h, n, nx⟩ | h
  · rcases h with h | ⟨o, h⟩
    · exact .inl ⟨.inl (u.keep _ _ h n), u.notin h n, nx⟩
    · exact .inl ⟨.inr ⟨o, u.keep _ _ h n⟩, u.notin h n, nx⟩
  · exact .inr h
theorem FzL.up (u : Up μ H μ' H') {a : Addr} {xs : List V} (h : FzL F μ H a xs) : FzL F μ' H' a xs := by
  rcases h with ⟨h, n, nx⟩ | h
  · rcases h with h | ⟨o, h⟩
    · exact .inl ⟨.inl (u.keep _ _ h n), u.notin h n, nx⟩
    · exact .inl ⟨.inr ⟨o, u.keep _ _ h n⟩, u.notin h n, nx⟩
  · exact .inr h
mutual
theorem RD.up (u : Up μ H μ' H') : ∀ {v : V} (d : D), RD F μ H v d → RD F μ' H' v d
  | _, .non, h => by cases h; exact .non
  | _, .bl b, h => by cases h; exact .bl b
  | _, .int i, h => by cases h; exact .int i
  | _, .str x, h => by cases h; exact .str x
  | _, .tup ds, h => by
    cases h with
    | tup f r => exact .tup (f.up u) (RDs.up u ds r)
  | _, .lst ds, h => by
    cases h with
    | lst f r => exact .lst (f.up u) (RDs.up u ds r)
  | _, .cell n, h => by
    cases h with
    | cell e => exact .cell (u.get e)
  | _, .glo x, h => by
    cases h with
    | glo e => exact .glo e
theorem RDs.up (u : Up μ H μ' H') : ∀ {vs : List V} (ds : List D), RDs F μ H vs ds → RDs F μ' H' vs ds
  | _, [], h => by cases h; exact .nil
  | _, d :: ds, h => by
    cases h with
    | cons a b => exact .cons (RD.up u d a) (RDs.up u ds b)
end
theorem RDs.length : ∀ {vs : List V} {ds : List D}, RDs F μ H vs ds → vs.length = ds.length
  | _, [], h => by cases h; rfl
  | _, d :: ds, h => by
    cases h with
    | cons a b => rw [List.length_cons, List.length_cons, RDs.length b]
theorem RDs.get : ∀ {vs : List V} {ds : List D}, RDs F μ H vs ds → ∀ {i : Nat} {d : D}, ds[i]? = some d → ∃ v, vs[i]? = some v ∧ RD F μ H v d
  | _, [], _, i, d, e => by simp at e
  | _, d0 :: ds, h, 0, d, e => by
    cases h with
    | cons a b =>
      simp at e; subst e
      exact ⟨_, rfl, a⟩
  | _, d0 :: ds, h, i + 1, d, e => by
    cases h with
    | cons a b =>
      obtain ⟨v, h1, h2⟩ := RDs.get b (i := i) (d := d) (by simpa using e)
      exact ⟨v, by simpa using h1, h2⟩
theorem RDs.getV : ∀ {vs : List V} {ds : List D}, RDs F μ H vs ds → ∀ {i : Nat} {v : V}, vs[i]? = some v → ∃ d, ds[i]? = some d ∧ RD F μ H v d
  | _, [], h, i, v, e => by cases h; simp at e
  | _, d0 :: ds, h, 0, v, e => by
    cases h with
    | cons a b =>
      simp at e; subst e
      exact ⟨_, rfl, a⟩
  | _, d0 :: ds, h, i + 1, v, e => by
    cases h with
    | cons a b =>
      obtain ⟨d, h1, h2⟩ := RDs.getV b (i := i) (v := v) (by simpa using e)
      exact ⟨d, by simpa using h1, h2⟩
theorem RDs.append : ∀ {vs ws : List V} {ds es : List D}, RDs F μ H vs ds → RDs F μ H ws es → RDs F μ H (vs ++ ws) (ds ++ es)
  | _, _, [], _, h, k => by cases h; exact k
  | _, _, d :: ds, _, h, k => by
    cases h with
    | cons a b => exact .cons a (RDs.append b k)
theorem RDs.take : ∀ {vs : List V} {ds : List D} (n : Nat), RDs F μ H vs ds → RDs F μ H (vs.take n) (ds.take n)
  | _, _, 0, _ => .nil
  | _, [], _ + 1, h => by cases h; exact .nil
  | _, d :: ds, n + 1, h => by
    cases h with
    | cons a b => exact .cons a (RDs.take n b)
theorem RDs.drop : ∀ {vs : List V} {ds : List D} (n : Nat), RDs F μ H vs ds → RDs F μ H (vs.drop n) (ds.drop n)
  | _, _, 0, h => h
  | _, [], _ + 1, h => by cases h; exact .nil
  | _, d :: ds, n + 1, h => by
    cases h with
    | cons a b => exact RDs.drop n b
theorem RDs.reverse : ∀ {vs : List V} {ds : List D}, RDs F μ H vs ds → RDs F μ H vs.reverse ds.reverse
  | _, [], h => by cases h; exact .nil
  | _, d :: ds, h => by
    cases h with
    | cons a b =>
      rw [List.reverse_cons, List.reverse_cons]
      exact RDs.append (RDs.reverse b) (.cons a .nil)
theorem RDs.set : ∀ {vs : List V} {ds : List D} (n : Nat) {v : V} {d : D}, RDs F μ H vs ds → RD F μ H v d → RDs F μ H (vs.set n v) (ds.set n d)
  | _, [], n, _, _, h, _ => by cases h; exact .nil
  | _, d0 :: ds, 0, _, _, h, k => by
    cases h with
    | cons a b => exact .cons k b
  | _, d0 :: ds, n + 1, _, _, h, k => by
    cases h with
    | cons a b => exact .cons a (RDs.set n b k)
end

/-- fields by name -/
def FsR (F : Fx) (μ : List Addr) (H : Hp) (vfs : List (Str × V)) (fs : List (Str × D)) : Prop := Paired (fun p q => p.1 = q.1 ∧ RD F μ H p.2 q.2) vfs fs
def KvR (F : Fx) (μ : List Addr) (H : Hp) (vk : List (Key × V)) (kvs : List (Key × D)) : Prop := Paired (fun p q => p.1 = q.1 ∧ RD F μ H p.2 q.2) vk kvs
theorem FsR.up {F : Fx} {μ μ' : List Addr} {H H' : Hp} (u : Up μ H μ' H') {vfs : List (Str × V)} {fs : List (Str × D)} (h : FsR F μ H vfs fs) : FsR F μ' H' vfs fs :=
  Paired.mapP h fun _ _ z => ⟨z.1, z.2.up u⟩
theorem KvR.up {F : Fx} {μ μ' : List Addr} {H H' : Hp} (u : Up μ H μ' H') {vfs : List (Key × V)} {fs : List (Key × D)} (h : KvR F μ H vfs fs) : KvR F μ' H' vfs fs :=
  Paired.mapP h fun _ _ z => ⟨z.1, z.2.up u⟩

/-- a cell at its address -/
def CellOk (F : Fx) (μ : List Addr) (H : Hp) (a : Addr) : Cell → Prop
  | .lst ds => ∃ xs, H a = some (.lst xs) ∧ RDs F μ H xs ds
  | .obj c fs => ∃ C dx vfs, H a = some (.ins C dx vfs) ∧ F.mg c = some (.ref C) ∧ FsR F μ H vfs fs
  | .dic kvs => ∃ vk, H a = some (.dK vk) ∧ KvR F μ H vk kvs
  | .exc _ _ => False
  | .set _ => False
structure RS (F : Fx) (μ : List Addr) (H : Hp) (S : Sto) : Prop where
  len : μ.length = S.length
  nd : μ.Nodup
  at_ : ∀ (n : Nat) (a : Addr) (c : Cell), μ[n]? = some a → S[n]? = some c → CellOk F μ H a c
  xi : ∀ a, a ∈ F.ξ → a ∉ μ ∧ ∃ o, H a = some o
/-- the slots -/
structure RG (F : Fx) (μ : List Addr) (H : Hp) (σ : St) (ρ : Rho) : Prop where
  len : σ.length = ρ.length
  at_ : ∀ (i : Nat) (d : D), ρ[i]? = some (some d) → ∃ v, σ[i]? = some (some v) ∧ RD F μ H v d
/-- an exception in the air -/
def XR (F : Fx) (μ : List Addr) (H : Hp) (cls : Value) (dd : Option Addr) (c : Str) (fs : List (Str × D)) : Prop :=
  F.mg c = some cls ∧ (fs = [] ∨ ∃ d vfs, dd = some d ∧ H d = some (.xd vfs) ∧ d ∉ μ ∧ FsR F μ H vfs fs)

section
variable {F : Fx} {μ μ' μ1 : List Addr} {H H' H1 : Hp} {S S' S1 : Sto} {σ : St} {ρ : Rho}
theorem RG.up (u : Up μ H μ' H') (g : RG F μ H σ ρ) : RG F μ' H' σ ρ := ⟨g.len, fun i d e => by
  obtain ⟨v, h, r⟩ := g.at_ i d e
  exact ⟨v, h, r.up u⟩⟩
theorem RG.set {v : V} {d : D} (i : Nat) (g : RG F μ H σ ρ) (r : RD F μ H v d) : RG F μ H (σ.set i (some v)) (ρ.set i (some d)) := ⟨by rw [List.length_set, List.length_set, g.len], fun j d' e => by
  by_cases hj : i = j
  · subst hj
    by_cases hl : i < ρ.length
    · rw [List.getElem?_set_self hl] at e; cases e
      exact ⟨v, List.getElem?_set_self (by rw [g.len]; exact hl), r⟩
    · rw [List.getElem?_eq_none (by simpa using hl)] at e; cases e
  · rw [List.getElem?_set_ne hj] at e
    obtain ⟨w, h, r'⟩ := g.at_ j d' e
    exact ⟨w, by rw [List.getElem?_set_ne hj]; exact h, r'⟩⟩
theorem RG.forget {σ' : St} (i : Nat) (g : RG F μ H σ ρ) : RG F μ H (σ.set i none) (ρ.set i none) := ⟨by rw [List.length_set, List.length_set, g.len], fun j d' e => by
  by_cases hj : i = j
  · subst hj
    by_cases hl : i < ρ.length
    · rw [List.getElem?_set_self hl] at e; cases e
    · rw [List.getElem?_eq_none (by simpa using hl)] at e; cases e
  · rw [List.getElem?_set_ne hj] at e
    obtain ⟨w, h, r'⟩ := g.at_ j d' e
    exact ⟨w, by rw [List.getElem?_set_ne hj]; exact h, r'⟩⟩
/-- a new object beside the cells -/
theorem Up.fresh {p : Addr} {o : HO} (h : H p = none) : Up μ H μ (upd H p o) := ⟨⟨[], (List.append_nil _).symm⟩, fun _ h n => absurd h n, fun a u e _ => by rw [upd_ne (ne_of_none e h)]; exact e⟩
theorem CellOk.up (u : Up μ H μ' H') {a : Addr} {c : Cell} (e : H' a = H a) (h : CellOk F μ H a c) : CellOk F μ' H' a c := by
  cases c with
  | lst ds =>
    obtain ⟨xs, h1, h2⟩ := h
    exact ⟨xs, e.trans h1, h2.up u⟩
  | obj c fs =>
    obtain ⟨C, dx, vfs, h1, h2, h3⟩ := h
    exact ⟨C, dx, vfs, e.trans h1, h2, h3.up u⟩
  | dic kvs =>
    obtain ⟨vk, h1, h2⟩ := h
    exact ⟨vk, e.trans h1, h2.up u⟩
  | exc _ _ => exact h.elim
  | set _ => exact h.elim
theorem CellOk.hasO {a : Addr} {c : Cell} (h : CellOk F μ H a c) : ∃ o, H a = some o := by
  cases c with
  | lst ds =>
    obtain ⟨xs, h1, h2⟩ := h
    exact ⟨_, h1⟩
  | obj c fs =>
    obtain ⟨C, dx, vfs, h1, _⟩ := h
    exact ⟨_, h1⟩
  | dic kvs =>
    obtain ⟨vk, h1, h2⟩ := h
    exact ⟨_, h1⟩
  | exc _ _ => exact h.elim
  | set _ => exact h.elim
theorem RS.there (r : RS F μ H S) {n : Nat} {a : Addr} (h : μ[n]? = some a) : ∃ c, S[n]? = some c := by
  have hn := (List.getElem?_eq_some_iff.mp h).1
  rw [r.len] at hn
  exact ⟨S[n], List.getElem?_eq_getElem hn⟩
theorem RS.hasO (r : RS F μ H S) {a : Addr} (h : a ∈ μ) : ∃ o, H a = some o := by
  obtain ⟨n, e⟩ := List.getElem?_of_mem h
  obtain ⟨c, hc⟩ := r.there e
  exact (r.at_ n a c e hc).hasO
theorem RS.out (r : RS F μ H S) {p : Addr} (h : H p = none) : p ∉ μ := fun z => by
  obtain ⟨o, e⟩ := r.hasO z
  rw [h] at e; cases e
theorem RS.addr (r : RS F μ H S) {n : Nat} {c : Cell} (h : S[n]? = some c) : ∃ a, μ[n]? = some a := by
  have hn := (List.getElem?_eq_some_iff.mp h).1
  rw [← r.len] at hn
  exact ⟨μ[n], List.getElem?_eq_getElem hn⟩
theorem RS.outX (r : RS F μ H S) {p : Addr} (h : H p = none) : p ∉ F.ξ := fun z => by
  obtain ⟨_, o, e⟩ := r.xi p z
  rw [h] at e; cases e
theorem RS.fresh (r : RS F μ H S) {p : Addr} {o : HO} (h : H p = none) : RS F μ (upd H p o) S := ⟨r.len, r.nd, fun n a c e1 e2 => by
  have q := r.at_ n a c e1 e2
  refine q.up (.fresh h) (upd_ne ?_)
  intro z
  subst z
  obtain ⟨o', e⟩ := q.hasO
  rw [h] at e; exact (nomatch e), fun a ha => ⟨(r.xi a ha).1, by
    obtain ⟨o', e⟩ := (r.xi a ha).2
    exact ⟨o', by rw [upd_ne (ne_of_none e h)]; exact e⟩⟩⟩
/-- a new cell -/
theorem Up.alloc {p : Addr} {o : HO} (h : H p = none) : Up μ H (μ ++ [p]) (upd H p o) := ⟨⟨[p], rfl⟩, fun a ha n => by
  rcases List.mem_append.mp ha with z | z
  · exact absurd z n
  · rw [List.mem_singleton.mp z]; exact h, fun a u e _ => by rw [upd_ne (ne_of_none e h)]; exact e⟩
theorem RS.alloc (r : RS F μ H S) {p : Addr} {o : HO} {c : Cell} (h : H p = none) (hc : CellOk F (μ ++ [p]) (upd H p o) p c) : RS F (μ ++ [p]) (upd H p o) (S ++ [c]) := by
  refine ⟨by rw [List.length_append, List.length_append, r.len] <;> rfl, ?_, fun n a c' e1 e2 => ?_, fun a ha => ⟨fun z => ?_, ?_⟩⟩
  · refine List.nodup_append.mpr ⟨r.nd, by simp, fun a ha b hb => ?_⟩
    rw [List.mem_singleton.mp hb]
    rintro rfl
    exact r.out h ha
  · by_cases hn : n < μ.length
    · rw [List.getElem?_append_left hn] at e1
      rw [List.getElem?_append_left (by rw [← r.len]; exact hn)] at e2
      have q := r.at_ n a c' e1 e2
      refine q.up (.alloc h) (upd_ne ?_)
      intro z
      subst z
      obtain ⟨o', e⟩ := q.hasO
      rw [h] at e; cases e
    · have hn' : n = μ.length := by
        have q := (List.getElem?_eq_some_iff.mp e1).1
        rw [List.length_append, List.length_singleton] at q
        omega
      subst hn'
      rw [List.getElem?_append_right (Nat.le_refl _), Nat.sub_self] at e1
      rw [List.getElem?_append_right (by rw [r.len]; exact Nat.le_refl _), r.len, Nat.sub_self] at e2
      cases e1; cases e2
      exact hc
  · rcases List.mem_append.mp z with z | z
    · exact (r.xi a ha).1 z
    · rw [List.mem_singleton.mp z] at ha
      exact r.outX h ha
  · obtain ⟨o', e⟩ := (r.xi a ha).2
    exact ⟨o', by rw [upd_ne (ne_of_none e h)]; exact e⟩
theorem alloc_at {p : Addr} : (μ ++ [p])[μ.length]? = some p := by rw [List.getElem?_append_right (Nat.le_refl _), Nat.sub_self]; rfl
/-- a cell is written -/
theorem Up.write {n : Nat} {a : Addr} {o : HO} (h : μ[n]? = some a) : Up μ H μ (upd H a o) := ⟨⟨[], (List.append_nil _).symm⟩, fun _ h n => absurd h n, fun b u e nb => by
  rw [upd_ne]
  · exact e
  · rintro rfl
    exact nb (List.mem_of_getElem? h)⟩
theorem RS.write (r : RS F μ H S) {n : Nat} {a : Addr} {o : HO} {c : Cell} (h : μ[n]? = some a) (hc : CellOk F μ (upd H a o) a c) : RS F μ (upd H a o) (S.set n c) := by
  refine ⟨by rw [List.length_set, r.len], r.nd, fun m b c' e1 e2 => ?_, fun b hb => ⟨(r.xi b hb).1, by
    obtain ⟨o', e⟩ := (r.xi b hb).2
    refine ⟨o', ?_⟩
    rw [upd_ne]
    · exact e
    · rintro rfl
      exact (r.xi b hb).1 (List.mem_of_getElem? h)⟩⟩
  by_cases hm : n = m
  · subst hm
    rw [h] at e1; cases e1
    have hl : n < S.length := by rw [← r.len]; exact (List.getElem?_eq_some_iff.mp h).1
    rw [List.getElem?_set_self hl] at e2; cases e2
    exact hc
  · rw [List.getElem?_set_ne hm] at e2
    refine (r.at_ m b c' e1 e2).up (.write h) (upd_ne ?_)
    rintro rfl
    have h1 := (List.getElem?_eq_some_iff.mp h)
    have h2 := (List.getElem?_eq_some_iff.mp e1)
    exact hm ((List.getElem_inj r.nd).mp (h1.2.trans h2.2.symm))
/-- a list that is being made: reserved, then let go -/
def Fx.hold (F : Fx) (p : Addr) : Fx := ⟨F.K, F.mg, p :: F.ξ⟩
theorem FzT.free {p a : Addr} {xs : List V} (h : FzT (F.hold p) μ H a xs) : FzT F μ H a xs := h.imp (fun z => ⟨z.1, z.2.1, fun q => z.2.2 (List.mem_cons_of_mem _ q)⟩) id
theorem FzL.free {p a : Addr} {xs : List V} (h : FzL (F.hold p) μ H a xs) : FzL F μ H a xs := h.imp (fun z => ⟨z.1, z.2.1, fun q => z.2.2 (List.mem_cons_of_mem _ q)⟩) id
mutual
theorem RD.free {p : Addr} : ∀ {v : V} (d : D), RD (F.hold p) μ H v d → RD F μ H v d
  | _, .non, h => by cases h; exact .non
  | _, .bl b, h => by cases h; exact .bl b
  | _, .int i, h => by cases h; exact .int i
  | _, .str x, h => by cases h; exact .str x
  | _, .tup ds, h => by
    cases h with
    | tup f r => exact .tup f.free (RDs.free ds r)
  | _, .lst ds, h => by
    cases h with
    | lst f r => exact .lst f.free (RDs.free ds r)
  | _, .cell n, h => by
    cases h with
    | cell e => exact .cell e
  | _, .glo x, h => by
    cases h with
    | glo e => exact .glo e
theorem RDs.free {p : Addr} : ∀ {vs : List V} (ds : List D), RDs (F.hold p) μ H vs ds → RDs F μ H vs ds
  | _, [], h => by cases h; exact .nil
  | _, d :: ds, h => by
    cases h with
    | cons a b => exact .cons (RD.free d a) (RDs.free ds b)
end
/-- .. reserved at its making, .. written while it is reserved -/
theorem FzT.holds {p a : Addr} {o : HO} {xs : List V} (hp : H p = none) (h : FzT F μ H a xs) : FzT (F.hold p) μ (upd H p o) a xs := by
  rcases h with ⟨h, n, nx⟩ | h
  · have hne : a ≠ p := by
      rcases h with h | ⟨o, h⟩ <;> exact ne_of_none h hp
    refine .inl ⟨?_, n, fun q => (List.mem_cons.mp q).elim hne nx⟩
    rcases h with h | ⟨o, h⟩
    · exact .inl (by rw [upd_ne hne]; exact h)
    · exact .inr ⟨o, by rw [upd_ne hne]; exact h⟩
  · exact .inr h
theorem FzL.holds {p a : Addr} {o : HO} {xs : List V} (hp : H p = none) (h : FzL F μ H a xs) : FzL (F.hold p) μ (upd H p o) a xs := by
  rcases h with ⟨h, n, nx⟩ | h
  · have hne : a ≠ p := by
      rcases h with h | ⟨o, h⟩ <;> exact ne_of_none h hp
    refine .inl ⟨?_, n, fun q => (List.mem_cons.mp q).elim hne nx⟩
    rcases h with h | ⟨o, h⟩
    · exact .inl (by rw [upd_ne hne]; exact h)
    · exact .inr ⟨o, by rw [upd_ne hne]; exact h⟩
  · exact .inr h
theorem FzT.wr {p a : Addr} {o : HO} {xs : List V} (h : FzT (F.hold p) μ H a xs) : FzT (F.hold p) μ (upd H p o) a xs := by
  rcases h with ⟨h, n, nx⟩ | h
  · have hne : a ≠ p := fun z => nx (z ▸ List.mem_cons_self)
    refine .inl ⟨?_, n, nx⟩
    rcases h with h | ⟨o, h⟩
    · exact .inl (by rw [upd_ne hne]; exact h)
    · exact .inr ⟨o, by rw [upd_ne hne]; exact h⟩
  · exact .inr h
theorem FzL.wr {p a : Addr} {o : HO} {xs : List V} (h : FzL (F.hold p) μ H a xs) : FzL (F.hold p) μ (upd H p o) a xs := by
  rcases h with ⟨h, n, nx⟩ | h
  · have hne : a ≠ p := fun z => nx (z ▸ List.mem_cons_self)
    refine .inl ⟨?_, n, nx⟩
    rcases h with h | ⟨o, h⟩
    · exact .inl (by rw [upd_ne hne]; exact h)
    · exact .inr ⟨o, by rw [upd_ne hne]; exact h⟩
  · exact .inr h
/-- .. as a cell -/
theorem FzT.asCell {p a : Addr} {xs : List V} (h : FzT (F.hold p) μ H a xs) : FzT F (μ ++ [p]) H a xs :=
  h.imp (fun z => ⟨z.1, fun q => (List.mem_append.mp q).elim z.2.1 fun q => z.2.2 (by rw [List.mem_singleton.mp q]; exact List.mem_cons_self), fun q => z.2.2 (List.mem_cons_of_mem _ q)⟩) id
theorem FzL.asCell {p a : Addr} {xs : List V} (h : FzL (F.hold p) μ H a xs) : FzL F (μ ++ [p]) H a xs :=
  h.imp (fun z => ⟨z.1, fun q => (List.mem_append.mp q).elim z.2.1 fun q => z.2.2 (by rw [List.mem_singleton.mp q]; exact List.mem_cons_self), fun q => z.2.2 (List.mem_cons_of_mem _ q)⟩) id
theorem getl {n : Nat} {a p : Addr} (h : μ[n]? = some a) : (μ ++ [p])[n]? = some a := by
  rw [List.getElem?_append_left (List.getElem?_eq_some_iff.mp h).1]
  exact h
/-- a map of what stands for what -/
structure Mv (F : Fx) (μ : List Addr) (H : Hp) (F' : Fx) (μ' : List Addr) (H' : Hp) : Prop where
  t : ∀ {a : Addr} {xs : List V}, FzT F μ H a xs → FzT F' μ' H' a xs
  l : ∀ {a : Addr} {xs : List V}, FzL F μ H a xs → FzL F' μ' H' a xs
  c : ∀ {n : Nat} {a : Addr}, μ[n]? = some a → μ'[n]? = some a
  g : F'.mg = F.mg
mutual
theorem RD.mv {F' : Fx} (m : Mv F μ H F' μ' H') : ∀ {v : V} (d : D), RD F μ H v d → RD F' μ' H' v d
  | _, .non, h => by cases h; exact .non
  | _, .bl b, h => by cases h; exact .bl b
  | _, .int i, h => by cases h; exact .int i
  | _, .str x, h => by cases h; exact .str x
  | _, .tup ds, h => by
    cases h with
    | tup f r => exact .tup (m.t f) (RDs.mv m ds r)
  | _, .lst ds, h => by
    cases h with
    | lst f r => exact .lst (m.l f) (RDs.mv m ds r)
  | _, .cell n, h => by
    cases h with
    | cell e => exact .cell (m.c e)
  | _, .glo x, h => by
    cases h with
    | glo e => exact .glo (by rw [m.g]; exact e)
theorem RDs.mv {F' : Fx} (m : Mv F μ H F' μ' H') : ∀ {vs : List V} (ds : List D), RDs F μ H vs ds → RDs F' μ' H' vs ds
  | _, [], h => by cases h; exact .nil
  | _, d :: ds, h => by
    cases h with
    | cons a b => exact .cons (RD.mv m d a) (RDs.mv m ds b)
end
theorem Mv.holds {p : Addr} {o : HO} (hp : H p = none) : Mv F μ H (F.hold p) μ (upd H p o) := ⟨fun h => h.holds hp, fun h => h.holds hp, fun h => h, rfl⟩
theorem Mv.wr {p : Addr} {o : HO} : Mv (F.hold p) μ H (F.hold p) μ (upd H p o) := ⟨fun h => h.wr, fun h => h.wr, fun h => h, rfl⟩
theorem Mv.asCell {p : Addr} : Mv (F.hold p) μ H F (μ ++ [p]) H := ⟨fun h => h.asCell, fun h => h.asCell, fun h => getl h, rfl⟩
theorem Mv.free {p : Addr} : Mv (F.hold p) μ H F μ H := ⟨fun h => h.free, fun h => h.free, fun h => h, rfl⟩
theorem CellOk.mv {F' : Fx} (m : Mv F μ H F' μ' H') {a : Addr} {c : Cell} (e : H' a = H a) (h : CellOk F μ H a c) : CellOk F' μ' H' a c := by
  cases c with
  | lst ds =>
    obtain ⟨xs, h1, h2⟩ := h
    exact ⟨xs, e.trans h1, h2.mv m⟩
  | obj c fs =>
    obtain ⟨C, dx, vfs, h1, h2, h3⟩ := h
    exact ⟨C, dx, vfs, e.trans h1, by rw [m.g]; exact h2, Paired.mapP h3 fun _ _ z => ⟨z.1, z.2.mv m⟩⟩
  | dic kvs =>
    obtain ⟨vk, h1, h2⟩ := h
    exact ⟨vk, e.trans h1, Paired.mapP h2 fun _ _ z => ⟨z.1, z.2.mv m⟩⟩
  | exc _ _ => exact h.elim
  | set _ => exact h.elim
theorem RG.mv {F' : Fx} (m : Mv F μ H F' μ' H') (g : RG F μ H σ ρ) : RG F' μ' H' σ ρ := ⟨g.len, fun i d e => by
  obtain ⟨v, h, r⟩ := g.at_ i d e
  exact ⟨v, h, r.mv m⟩⟩
theorem RS.holds (r : RS F μ H S) {p : Addr} {o : HO} (hp : H p = none) : RS (F.hold p) μ (upd H p o) S := ⟨r.len, r.nd, fun n a c e1 e2 => by
  have q := r.at_ n a c e1 e2
  refine q.mv (.holds hp) (upd_ne ?_)
  rintro rfl
  obtain ⟨o', e⟩ := q.hasO
  rw [hp] at e; exact (nomatch e), fun a ha => by
  rcases List.mem_cons.mp ha with z | z
  · rw [z]; exact ⟨r.out hp, o, upd_same⟩
  · obtain ⟨h1, o', e⟩ := r.xi a z
    exact ⟨h1, o', by rw [upd_ne (ne_of_none e hp)]; exact e⟩⟩
theorem RS.wr {p : Addr} {o : HO} (r : RS (F.hold p) μ H S) : RS (F.hold p) μ (upd H p o) S := ⟨r.len, r.nd, fun n a c e1 e2 => by
  have q := r.at_ n a c e1 e2
  refine q.mv .wr (upd_ne fun z => ?_)
  rw [z] at e1
  exact (r.xi p List.mem_cons_self).1 (List.mem_of_getElem? e1), fun a ha => by
  obtain ⟨h1, o', e⟩ := r.xi a ha
  by_cases z : a = p
  · rw [z] at h1 ⊢; exact ⟨h1, o, upd_same⟩
  · exact ⟨h1, o', by rw [upd_ne z]; exact e⟩⟩
theorem RS.free {p : Addr} (r : RS (F.hold p) μ H S) : RS F μ H S := ⟨r.len, r.nd, fun n a c e1 e2 => (r.at_ n a c e1 e2).mv .free rfl, fun a ha => r.xi a (List.mem_cons_of_mem _ ha)⟩
theorem RS.asCell {p : Addr} {ds : List D} {xs : List V} (r : RS (F.hold p) μ H S) (hx : p ∉ F.ξ) (h : H p = some (.lst xs)) (q : RDs (F.hold p) μ H xs ds) : RS F (μ ++ [p]) H (S ++ [.lst ds]) := by
  have np := (r.xi p List.mem_cons_self).1
  refine ⟨by rw [List.length_append, List.length_append, r.len] <;> rfl, ?_, fun n a c' e1 e2 => ?_, fun a ha => ⟨fun z => ?_, (r.xi a (List.mem_cons_of_mem _ ha)).2⟩⟩
  · refine List.nodup_append.mpr ⟨r.nd, by simp, fun a ha b hb => ?_⟩
    rw [List.mem_singleton.mp hb]
    rintro rfl
    exact np ha
  · by_cases hn : n < μ.length
    · rw [List.getElem?_append_left hn] at e1
      rw [List.getElem?_append_left (by rw [← r.len]; exact hn)] at e2
      exact (r.at_ n a c' e1 e2).mv .asCell rfl
    · have hn' : n = μ.length := by
        have q := (List.getElem?_eq_some_iff.mp e1).1
        rw [List.length_append, List.length_singleton] at q
        omega
      subst hn'
      rw [List.getElem?_append_right (Nat.le_refl _), Nat.sub_self] at e1
      rw [List.getElem?_append_right (by rw [r.len]; exact Nat.le_refl _), r.len, Nat.sub_self] at e2
      cases e1; cases e2
      exact ⟨xs, h, q.mv .asCell⟩
  · rcases List.mem_append.mp z with z | z
    · exact (r.xi a (List.mem_cons_of_mem _ ha)).1 z
    · rw [List.mem_singleton.mp z] at ha
      exact hx ha
theorem XR.up (u : Up μ H μ' H') {cls : Value} {dd : Option Addr} {c : Str} {fs : List (Str × D)} (h : XR F μ H cls dd c fs) : XR F μ' H' cls dd c fs := by
  obtain ⟨h1, h2⟩ := h
  refine ⟨h1, h2.imp id ?_⟩
  rintro ⟨d, vfs, e, h3, h4, h5⟩
  exact ⟨d, vfs, e, u.keep _ _ h3 h4, u.notin h3 h4, h5.up u⟩
end

/-! ### what is wanted of a run -/
def WR {α β : Type} (F : Fx) (rel : List Addr → Hp → β → α → Prop) (r : Res α) (Q : β → Hp → Prop) (Wx : Value → Option Addr → Hp → Prop) (μ : List Addr) (H : Hp) : Prop := match r with
  | .ok d S' => ∀ v μ' H', Up μ H μ' H' → RS F μ' H' S' → rel μ' H' v d → Q v H'
  | .exc c fs S' => ∀ cls dd μ' H', Up μ H μ' H' → RS F μ' H' S' → XR F μ' H' cls dd c fs → Wx cls dd H'
  | .bad => False
abbrev WE' (F : Fx) := WR F (fun μ H v d => RD F μ H v d)
abbrev WA' (F : Fx) := WR F (fun μ H v d => RDs F μ H v d)
/-- a fresh list: reserved yet -/
def WL' (F : Fx) (r : Res (List D)) (Q : VK) (Wx : Value → Option Addr → Hp → Prop) (μ : List Addr) (H : Hp) : Prop := match r with
  | .ok ds S' => ∀ p xs μ' H', Up μ H μ' H' → H p = none → RS (F.hold p) μ' H' S' → RDs (F.hold p) μ' H' xs ds → H' p = some (.lst xs) → Q (.ref p) H'
  | .exc c fs S' => ∀ cls dd μ' H', Up μ H μ' H' → RS F μ' H' S' → XR F μ' H' cls dd c fs → Wx cls dd H'
  | .bad => False
/-- a truth value -/
def WT' (F : Fx) (r : Res D) (Q : Bool → Hp → Prop) (Wx : Value → Option Addr → Hp → Prop) (μ : List Addr) (H : Hp) : Prop := match r with
  | .ok (.bl b) S' => ∀ μ' H', Up μ H μ' H' → RS F μ' H' S' → Q b H'
  | .exc c fs S' => ∀ cls dd μ' H', Up μ H μ' H' → RS F μ' H' S' → XR F μ' H' cls dd c fs → Wx cls dd H'
  | _ => False
def WS' (F : Fx) (r : Out) (E : Ends) (W : WX) (μ : List Addr) (H : Hp) : Prop := match r with
  | .nx ρ S => ∀ σ μ' H', Up μ H μ' H' → RS F μ' H' S → RG F μ' H' σ ρ → E.nx σ H'
  | .rt d S => ∀ v μ' H', Up μ H μ' H' → RS F μ' H' S → RD F μ' H' v d → E.rt v H'
  | .bk ρ S => ∀ σ μ' H', Up μ H μ' H' → RS F μ' H' S → RG F μ' H' σ ρ → E.bk σ H'
  | .ct ρ S => ∀ σ μ' H', Up μ H μ' H' → RS F μ' H' S → RG F μ' H' σ ρ → E.ct σ H'
  | .exc c fs ρ S => ∀ cls dd σ μ' H', Up μ H μ' H' → RS F μ' H' S → RG F μ' H' σ ρ → XR F μ' H' cls dd c fs → W cls dd σ H'
  | .bad => False

section
variable {F : Fx} {α β γ δ : Type} {rel : List Addr → Hp → β → α → Prop} {rel' : List Addr → Hp → δ → γ → Prop} {μ μ1 : List Addr} {H H1 : Hp} {Q : β → Hp → Prop} {Wx : Value → Option Addr → Hp → Prop}
theorem WR.shift {r : Res α} (u : Up μ H μ1 H1) (h : WR F rel r Q Wx μ H) : WR F rel r Q Wx μ1 H1 := by
  cases r with
  | ok d S => exact fun v μ' H' u' => h v μ' H' (u.trans u')
  | exc c fs S => exact fun cls dd μ' H' u' => h cls dd μ' H' (u.trans u')
  | bad => exact h
theorem WS'.shift {r : Out} {E : Ends} {W : WX} (u : Up μ H μ1 H1) (h : WS' F r E W μ H) : WS' F r E W μ1 H1 := by
  cases r with
  | nx ρ S => exact fun σ μ' H' u' => h σ μ' H' (u.trans u')
  | rt d S => exact fun v μ' H' u' => h v μ' H' (u.trans u')
  | bk ρ S => exact fun σ μ' H' u' => h σ μ' H' (u.trans u')
  | ct ρ S => exact fun σ μ' H' u' => h σ μ' H' (u.trans u')
  | exc c fs ρ S => exact fun cls dd σ μ' H' u' => h cls dd σ μ' H' (u.trans u')
  | bad => exact h
/-- first r, then f -/
theorem WR.bind {r : Res γ} {f : γ → Sto → Res α} {Q1 : δ → Hp → Prop} (h : WR F rel (r.bind f) Q Wx μ H)
    (k : ∀ x S1 v μ1 H1, Up μ H μ1 H1 → RS F μ1 H1 S1 → rel' μ1 H1 v x → WR F rel (f x S1) Q Wx μ1 H1 → Q1 v H1) : WR F rel' r Q1 Wx μ H := by
  cases r with
  | ok x S1 => exact fun v μ1 H1 u1 s1 r1 => k x S1 v μ1 H1 u1 s1 r1 (WR.shift u1 h)
  | exc c fs S => exact h
  | bad => exact h
theorem WL'.shift {r : Res (List D)} {Q : VK} (u : Up μ H μ1 H1) (h : WL' F r Q Wx μ H) : WL' F r Q Wx μ1 H1 := by
  cases r with
  | ok d S =>
    intro p xs μ' H' u' hp s' r' e'
    have np : p ∉ μ := fun z => (s'.xi p List.mem_cons_self).1 (u'.mem (u.mem z))
    exact h p xs μ' H' (u.trans u') (u.back hp np) s' r' e'
  | exc c fs S => exact fun cls dd μ' H' u' => h cls dd μ' H' (u.trans u')
  | bad => exact h
theorem WL'.bind {r : Res γ} {f : γ → Sto → Res (List D)} {Q : VK} {Q1 : δ → Hp → Prop} (h : WL' F (r.bind f) Q Wx μ H)
    (k : ∀ x S1 v μ1 H1, Up μ H μ1 H1 → RS F μ1 H1 S1 → rel' μ1 H1 v x → WL' F (f x S1) Q Wx μ1 H1 → Q1 v H1) : WR F rel' r Q1 Wx μ H := by
  cases r with
  | ok x S1 => exact fun v μ1 H1 u1 s1 r1 => k x S1 v μ1 H1 u1 s1 r1 (WL'.shift u1 h)
  | exc c fs S => exact h
  | bad => exact h
theorem WT'.shift {r : Res D} {Q : Bool → Hp → Prop} (u : Up μ H μ1 H1) (h : WT' F r Q Wx μ H) : WT' F r Q Wx μ1 H1 := by
  cases r with
  | ok d S =>
    cases d with
    | bl b => exact fun μ' H' u' => h μ' H' (u.trans u')
    | _ => exact h
  | exc c fs S => exact fun cls dd μ' H' u' => h cls dd μ' H' (u.trans u')
  | bad => exact h
/-- first r, then f, whose answer is a truth value -/
theorem WT'.bind {r : Res γ} {f : γ → Sto → Res D} {Q : Bool → Hp → Prop} {Q1 : δ → Hp → Prop} (h : WT' F (r.bind f) Q Wx μ H)
    (k : ∀ x S1 v μ1 H1, Up μ H μ1 H1 → RS F μ1 H1 S1 → rel' μ1 H1 v x → WT' F (f x S1) Q Wx μ1 H1 → Q1 v H1) : WR F rel' r Q1 Wx μ H := by
  cases r with
  | ok x S1 => exact fun v μ1 H1 u1 s1 r1 => k x S1 v μ1 H1 u1 s1 r1 (WT'.shift u1 h)
  | exc c fs S => exact h
  | bad => exact h
/-- first a test, then f -/
theorem WR.bindT {r : Res D} {f : D → Sto → Res α} {Q1 : Bool → Hp → Prop} (h : WR F rel (r.bind f) Q Wx μ H) (hb : ∀ d S, (∀ b, d ≠ .bl b) → f d S = .bad)
    (k : ∀ b S1 μ1 H1, Up μ H μ1 H1 → RS F μ1 H1 S1 → WR F rel (f (.bl b) S1) Q Wx μ1 H1 → Q1 b H1) : WT' F r Q1 Wx μ H := by
  cases r with
  | ok d S =>
    have h : WR F rel (f d S) Q Wx μ H := h
    cases d with
    | bl b => exact fun μ1 H1 u1 s1 => k b S μ1 H1 u1 s1 (WR.shift u1 h)
    | _ =>
      rw [hb _ _ (by intro b e; cases e)] at h
      exact h
  | exc c fs S => exact h
  | bad => exact h
theorem WT'.bindT {r : Res D} {f : D → Sto → Res D} {Q Q1 : Bool → Hp → Prop} (h : WT' F (r.bind f) Q Wx μ H) (hb : ∀ d S, (∀ b, d ≠ .bl b) → f d S = .bad)
    (k : ∀ b S1 μ1 H1, Up μ H μ1 H1 → RS F μ1 H1 S1 → WT' F (f (.bl b) S1) Q Wx μ1 H1 → Q1 b H1) : WT' F r Q1 Wx μ H := by
  cases r with
  | ok d S =>
    have h : WT' F (f d S) Q Wx μ H := h
    cases d with
    | bl b => exact fun μ1 H1 u1 s1 => k b S μ1 H1 u1 s1 (WT'.shift u1 h)
    | _ =>
      rw [hb _ _ (by intro b e; cases e)] at h
      exact h
  | exc c fs S => exact h
  | bad => exact h
/-- as a value -/
theorem WT'.val {r : Res D} {Q : Bool → Hp → Prop} (h : WT' F r Q Wx μ H) : WE' F r (fun x H' => ∃ k, x = .bl k ∧ Q k H') Wx μ H := by
  cases r with
  | ok d S =>
    cases d with
    | bl b =>
      intro v μ' H' u' s' r'
      cases r'
      exact ⟨b, rfl, h μ' H' u' s'⟩
    | _ => exact h.elim
  | exc c fs S => exact h
  | bad => exact h
end
end Dm
-- text DmRules
namespace Dm
open PySem L2
open PySem.W (Frag)

structure DE (X : Cx) (W : WX) (e : Expr) (m : ME) : Prop where
  ex : ∃ te, PE X e te ∧ ∀ ξ μ σ H ρ S Q, RG (fx X ξ) μ H σ ρ → RS (fx X ξ) μ H S → WE' (fx X ξ) (m ρ S) Q (fun cls dd H' => W cls dd σ H') μ H → te σ H Q
structure DT (X : Cx) (W : WX) (e : Expr) (m : ME) : Prop where
  ex : ∃ te, PT X e te ∧ ∀ ξ μ σ H ρ S Q, RG (fx X ξ) μ H σ ρ → RS (fx X ξ) μ H S → WT' (fx X ξ) (m ρ S) Q (fun cls dd H' => W cls dd σ H') μ H → te σ H Q
structure DW (X : Cx) (W : WX) (e : Expr) (m : ME) : Prop where
  ex : ∃ te, PW X e te ∧ ∀ ξ μ σ H ρ S Q, RG (fx X ξ) μ H σ ρ → RS (fx X ξ) μ H S → WT' (fx X ξ) (m ρ S) Q (fun cls dd H' => W cls dd σ H') μ H → te σ H Q
structure DA (X : Cx) (W : WX) (es : List Expr) (m : MA) : Prop where
  ex : ∃ te, PA X es te ∧ ∀ ξ μ σ H ρ S Q, RG (fx X ξ) μ H σ ρ → RS (fx X ξ) μ H S → WA' (fx X ξ) (m ρ S) Q (fun cls dd H' => W cls dd σ H') μ H → te σ H Q
/-- keyword values -/
structure DK (X : Cx) (W : WX) (kws : List Keyword) (m : MA) : Prop where
  ex : ∃ te, PK X kws te ∧ ∀ ξ μ σ H ρ S Q, RG (fx X ξ) μ H σ ρ → RS (fx X ξ) μ H S → WA' (fx X ξ) (m ρ S) Q (fun cls dd H' => W cls dd σ H') μ H → te σ H Q
/-- a fresh list, its items -/
structure DL (X : Cx) (W : WX) (e : Expr) (m : MA) : Prop where
  ex : ∃ te, PE X e te ∧ ∀ ξ μ σ H ρ S Q, RG (fx X ξ) μ H σ ρ → RS (fx X ξ) μ H S →
    WL' (fx X ξ) (m ρ S) Q (fun cls dd H' => W cls dd σ H') μ H → te σ H Q
structure DS (X : Cx) (W : WX) (st : Stmt) (m : MS) : Prop where
  ex : ∃ ts, PS X st ts ∧ ∀ ξ μ σ H ρ S D, RG (fx X ξ) μ H σ ρ → RS (fx X ξ) μ H S → WS' (fx X ξ) (m ρ S) D W μ H → ts D σ H
structure DSs (X : Cx) (W : WX) (st : List Stmt) (m : MS) : Prop where
  ex : ∃ ts, PSs X st ts ∧ ∀ ξ μ σ H ρ S D, RG (fx X ξ) μ H σ ρ → RS (fx X ξ) μ H S → WS' (fx X ξ) (m ρ S) D W μ H → ts D σ H

/-! ### the words -/
def mVar (i : Nat) : ME := fun ρ S => match ρ[i]? with
  | some (some d) => .ok d S
  | _ => .bad
def mK (d : D) : ME := fun _ S => .ok d S
def mOp (g : Sto → D → D → Option D) (a b : ME) : ME := fun ρ S => (a ρ S).bind fun x S1 => (b ρ S1).bind fun y S2 => match g S2 x y with
  | some z => .ok z S2
  | none => .bad
def mUn (g : Sto → D → Option D) (a : ME) : ME := fun ρ S => (a ρ S).bind fun x S1 => match g S1 x with
  | some z => .ok z S1
  | none => .bad
def mAnd (a b : ME) : ME := fun ρ S => (a ρ S).bind fun x S1 => match x with
  | .bl true => b ρ S1
  | .bl false => .ok (.bl false) S1
  | _ => .bad
def mOr (a b : ME) : ME := fun ρ S => (a ρ S).bind fun x S1 => match x with
  | .bl true => .ok (.bl true) S1
  | .bl false => b ρ S1
  | _ => .bad
def mNot (a : ME) : ME := fun ρ S => (a ρ S).bind fun x S1 => match x with
  | .bl c => .ok (.bl (!c)) S1
  | _ => .bad
def mIf (c a b : ME) : ME := fun ρ S => (c ρ S).bind fun x S1 => match x with
  | .bl true => a ρ S1
  | .bl false => b ρ S1
  | _ => .bad
def mNil : MA := fun _ S => .ok [] S
def mCons (a : ME) (r : MA) : MA := fun ρ S => (a ρ S).bind fun x S1 => (r ρ S1).bind fun xs S2 => .ok (x :: xs) S2
def mTup (a : MA) : ME := fun ρ S => (a ρ S).bind fun xs S1 => if xs.length ≤ 16777216 then .ok (.tup xs) S1 else .bad
def mLst (a : MA) : MA := fun ρ S => (a ρ S).bind fun xs S1 => if xs.length ≤ 16777216 then .ok xs S1 else .bad
def mCall (f : List D → Sto → Res D) (a : MA) : ME := fun ρ S => (a ρ S).bind fun xs S1 => f xs S1
/-- a fresh list as plain data; as a cell -/
def mFz (a : MA) : ME := fun ρ S => (a ρ S).bind fun xs S1 => .ok (.lst xs) S1
def mNew (a : MA) : ME := fun ρ S => (a ρ S).bind fun xs S1 => .ok (.cell S1.length) (S1 ++ [.lst xs])

section
variable {X : Cx} {W : WX} {e a b c : Expr} {es : List Expr} {ma mb mc m : ME} {mr : MA} {pos : Pos}

/-- weakening by what a rule asks -/
theorem d_var (i : Nat) {x : Str} (hN : X.N[i]? = some x := by rfl) (hv : Vis X.env.scope x := by first | exact Or.inl rfl | exact Or.inr (Or.inl rfl) | exact Or.inr (Or.inr rfl)) (hd : (x == ("__debug__" : Str)) = false := by decide)
    (hcd : (x == ("__classdict__" : Str)) = false := by decide) : DE X W (.Name x pos) (mVar i) :=
  ⟨_, pe_var hN hv hd hcd, fun ξ μ σ H ρ S Q g s h => by
    unfold mVar at h
    cases e : ρ[i]? with
    | none => rw [e] at h; exact h.elim
    | some o =>
      cases o with
      | none => rw [e] at h; exact h.elim
      | some d =>
        rw [e] at h
        obtain ⟨v, hv, r⟩ := g.at_ i d e
        exact ⟨v, hv, h v μ H .refl s r⟩⟩
theorem d_k {te : TE} {v : V} {d : D} (hp : PE X e te) (ht : te = tC v) (hr : ∀ ξ μ H, RD (fx X ξ) μ H v d) : DE X W e (mK d) :=
  ⟨te, hp, fun ξ μ σ H ρ S Q g s h => by subst ht; exact h v μ H .refl s (hr ξ μ H)⟩
theorem d_int {i : Int} {j} : DE X W (.Constant (.int i) j pos) (mK (.int i)) := d_k pe_int rfl fun _ _ _ => .int i
theorem d_bl {i : Bool} {j} : DE X W (.Constant (.bool i) j pos) (mK (.bl i)) := d_k pe_bl rfl fun _ _ _ => .bl i
theorem d_non {j} : DE X W (.Constant .none j pos) (mK .non) := d_k pe_non rfl fun _ _ _ => .non
theorem d_str {i : Str} {j} : DE X W (.Constant (.str i) j pos) (mK (.str i)) := d_k pe_str rfl fun _ _ _ => .str i
/-- a constant of the module -/
def GlD (X : Cx) (x : Str) (d : D) : Prop := ∃ u v, X.mg x = some u ∧ RelV v u ∧ ∀ ξ μ H, RD (fx X ξ) μ H v d
theorem d_glob {x : Str} {d : D} (hg : Gl X x) (hm : GlD X x d) (hd : (x == ("__debug__" : Str)) = false := by decide) : DE X W (.Name x pos) (mK d) := by
  obtain ⟨u, v, h1, h2, h3⟩ := hm
  exact d_k (pe_glob hg h1 h2 hd) rfl h3

/-! operators -/
def OpD (X : Cx) (r : R2) (g : Sto → D → D → Option D) : Prop :=
  ∀ ξ μ H S x y v u z Q, RS (fx X ξ) μ H S → RD (fx X ξ) μ H v x → RD (fx X ξ) μ H u y → g S x y = some z → (∀ w μ' H', Up μ H μ' H' → RS (fx X ξ) μ' H' S → RD (fx X ξ) μ' H' w z → Q w H') → r v u H Q
theorem op2 {r : R2} {g : Sto → D → D → Option D} {ta tb : TE} {μ ξ : List Addr} {σ : St} {H : Hp} {ρ : Rho} {S : Sto} {Q : VK} (hd : OpD X r g)
    (ka : ∀ ξ μ σ H ρ S Q, RG (fx X ξ) μ H σ ρ → RS (fx X ξ) μ H S → WE' (fx X ξ) (ma ρ S) Q (fun cls dd H' => W cls dd σ H') μ H → ta σ H Q)
    (kb : ∀ ξ μ σ H ρ S Q, RG (fx X ξ) μ H σ ρ → RS (fx X ξ) μ H S → WE' (fx X ξ) (mb ρ S) Q (fun cls dd H' => W cls dd σ H') μ H → tb σ H Q)
    (g0 : RG (fx X ξ) μ H σ ρ) (s : RS (fx X ξ) μ H S) (h : WE' (fx X ξ) (mOp g ma mb ρ S) Q (fun cls dd H' => W cls dd σ H') μ H) : tOp r ta tb σ H Q := by
  refine ka ξ μ σ H ρ S _ g0 s (WR.bind h fun x S1 v μ1 H1 u1 s1 r1 h1 => ?_)
  refine kb ξ μ1 σ H1 ρ S1 _ (g0.up u1) s1 (WR.bind h1 fun y S2 v2 μ2 H2 u2 s2 r2 h2 => ?_)
  cases e : g S2 x y with
  | none => rw [e] at h2; exact h2.elim
  | some z =>
    rw [e] at h2
    exact hd ξ μ2 H2 S2 x y v v2 z Q s2 (r1.up u2) r2 e fun w μ' H' u' s' r' => h2 w μ' H' u' s' r'
theorem d_op {op : Operator} {r : R2} {g : Sto → D → D → Option D} (ho : OpR X (binaryOp op) r) (hd : OpD X r g) (ha : DE X W a ma) (hb : DE X W b mb) : DE X W (.BinOp a op b pos) (mOp g ma mb) := by
  obtain ⟨ta, pa, ka⟩ := ha
  obtain ⟨tb, pb, kb⟩ := hb
  exact ⟨_, pe_op ho pa pb, fun ξ μ σ H ρ S Q g0 s h => op2 (ξ := ξ) hd ka kb g0 s h⟩
theorem d_cmp {op : CmpOp} {r : R2} {g : Sto → D → D → Option D} (ho : OpR X (compareOp op) r) (hd : OpD X r g) (ha : DE X W a ma) (hb : DE X W b mb) (hm : behindInMarks op b = false := by first | exact nomark _ | rfl) : DE X W (.Compare a [op] [b] pos) (mOp g ma mb) := by
  obtain ⟨ta, pa, ka⟩ := ha
  obtain ⟨tb, pb, kb⟩ := hb
  exact ⟨_, pe_cmpR ho pa pb hm, fun ξ μ σ H ρ S Q g0 s h => op2 (ξ := ξ) hd ka kb g0 s h⟩
theorem dt_val (h : DE X W e m) (he : ∀ whole, isTrue e X.env whole = (do let v ← whole; standAt e.pos; holding [v] (truthy v)) := by intro _; rfl) : DT X W e m := by
  obtain ⟨te, p, k⟩ := h
  exact ⟨_, pt_val p he, fun ξ μ σ H ρ S Q g s h => k ξ μ σ H ρ S _ g s (WT'.val h)⟩
theorem dt_cmp {op : CmpOp} {r : R2} {g : Sto → D → D → Option D} (ho : OpR X (compareOp op) r) (hd : OpD X r g) (ha : DE X W a ma) (hb : DE X W b mb) (hm : behindInMarks op b = false := by first | exact nomark _ | rfl) : DT X W (.Compare a [op] [b] pos) (mOp g ma mb) := by
  obtain ⟨ta, pa, ka⟩ := ha
  obtain ⟨tb, pb, kb⟩ := hb
  exact ⟨_, pt_cmpR ho pa pb hm, fun ξ μ σ H ρ S Q g0 s h => op2 (ξ := ξ) hd ka kb g0 s (WT'.val h)⟩
theorem DT.w (h : DW X W e m) : DT X W e m := let ⟨t, p, k⟩ := h; ⟨t, p.pt, k⟩
theorem notb {f g : Sto → Res D} {α : Type} {k : Bool → Sto → Res α} : ∀ (d : D) (S : Sto), (∀ b, d ≠ .bl b) → (match d with | .bl c => k c S | _ => Res.bad) = Res.bad := fun d S h => by
  cases d with
  | bl b => exact absurd rfl (h b)
  | _ => rfl
theorem notb2 {α : Type} {k l : Sto → Res α} : ∀ (d : D) (S : Sto), (∀ b, d ≠ .bl b) → (match d with | .bl true => k S | .bl false => l S | _ => Res.bad) = Res.bad := fun d S h => by
  cases d with
  | bl b => exact absurd rfl (h b)
  | _ => rfl
theorem dw_and1 (ha : DT X W a ma) : DW X W (.BoolOp .And [a] pos) ma := let ⟨_, p, k⟩ := ha; ⟨_, pw_and1 p, k⟩
theorem dw_or1 (ha : DT X W a ma) : DW X W (.BoolOp .Or [a] pos) ma := let ⟨_, p, k⟩ := ha; ⟨_, pw_or1 p, k⟩
theorem dw_and {rest : List Expr} (ha : DT X W a ma) (hb : DW X W (.BoolOp .And (b :: rest) pos) mb) : DW X W (.BoolOp .And (a :: b :: rest) pos) (mAnd ma mb) := by
  obtain ⟨ta, pa, ka⟩ := ha
  obtain ⟨tb, pb, kb⟩ := hb
  refine ⟨_, pw_and pa pb, fun ξ μ σ H ρ S Q g s h => ?_⟩
  refine ka ξ μ σ H ρ S _ g s (WT'.bindT h (fun d S h => notb2 d S h) fun c S1 μ1 H1 u1 s1 h1 => ?_)
  cases c with
  | true => exact kb ξ μ1 σ H1 ρ S1 Q (g.up u1) s1 h1
  | false => exact h1 μ1 H1 .refl s1
theorem dw_or {rest : List Expr} (ha : DT X W a ma) (hb : DW X W (.BoolOp .Or (b :: rest) pos) mb) : DW X W (.BoolOp .Or (a :: b :: rest) pos) (mOr ma mb) := by
  obtain ⟨ta, pa, ka⟩ := ha
  obtain ⟨tb, pb, kb⟩ := hb
  refine ⟨_, pw_or pa pb, fun ξ μ σ H ρ S Q g s h => ?_⟩
  refine ka ξ μ σ H ρ S _ g s (WT'.bindT h (fun d S h => notb2 d S h) fun c S1 μ1 H1 u1 s1 h1 => ?_)
  cases c with
  | false => exact kb ξ μ1 σ H1 ρ S1 Q (g.up u1) s1 h1
  | true => exact h1 μ1 H1 .refl s1
theorem dt_not (ha : DT X W a ma) : DT X W (.UnaryOp .Not a pos) (mNot ma) := by
  obtain ⟨ta, pa, ka⟩ := ha
  refine ⟨_, pt_not pa, fun ξ μ σ H ρ S Q g s h => ?_⟩
  refine ka ξ μ σ H ρ S _ g s (WT'.bindT h (fun d S h => by cases d <;> first | rfl | exact absurd rfl (h _)) fun c S1 μ1 H1 u1 s1 h1 => ?_)
  exact h1 μ1 H1 .refl s1
/-- and, or, not as values -/
theorem d_one {op} (h : DE X W a m) : DE X W (.BoolOp op [a] pos) m := let ⟨_, p, k⟩ := h; ⟨_, pe_one p, k⟩
theorem WE'.boolv {r : Res D} {f : D → Sto → Res D} {Q Q1 : VK} {Wx : Value → Option Addr → Hp → Prop} {μ ξ : List Addr} {H : Hp} (h : WE' (fx X ξ) (r.bind f) Q Wx μ H) (hb : ∀ d S, (∀ b, d ≠ .bl b) → f d S = .bad)
    (k : ∀ b S1 μ1 H1, Up μ H μ1 H1 → RS (fx X ξ) μ1 H1 S1 → WE' (fx X ξ) (f (.bl b) S1) Q Wx μ1 H1 → Q1 (.bl b) H1) : WE' (fx X ξ) r Q1 Wx μ H := by
  refine WR.bind h fun x S1 v μ1 H1 u1 s1 r1 h1 => ?_
  cases r1 with
  | bl b => exact k b S1 μ1 H1 u1 s1 h1
  | _ =>
    rw [hb _ _ (by intro b e; cases e)] at h1
    exact h1.elim
theorem d_and {rest : List Expr} (ha : DE X W a ma) (hb : DE X W (.BoolOp .And (b :: rest) pos) mb) : DE X W (.BoolOp .And (a :: b :: rest) pos) (mAnd ma mb) := by
  obtain ⟨ta, pa, ka⟩ := ha
  obtain ⟨tb, pb, kb⟩ := hb
  refine ⟨_, pe_and pa pb, fun ξ μ σ H ρ S Q g s h => ?_⟩
  refine ka ξ μ σ H ρ S _ g s (WE'.boolv h (fun d S h => notb2 d S h) fun c S1 μ1 H1 u1 s1 h1 => ⟨c, rfl, ?_⟩)
  cases c with
  | true => exact kb ξ μ1 σ H1 ρ S1 Q (g.up u1) s1 h1
  | false => exact h1 _ μ1 H1 .refl s1 (.bl _)
theorem d_or {rest : List Expr} (ha : DE X W a ma) (hb : DE X W (.BoolOp .Or (b :: rest) pos) mb) : DE X W (.BoolOp .Or (a :: b :: rest) pos) (mOr ma mb) := by
  obtain ⟨ta, pa, ka⟩ := ha
  obtain ⟨tb, pb, kb⟩ := hb
  refine ⟨_, pe_or pa pb, fun ξ μ σ H ρ S Q g s h => ?_⟩
  refine ka ξ μ σ H ρ S _ g s (WE'.boolv h (fun d S h => notb2 d S h) fun c S1 μ1 H1 u1 s1 h1 => ⟨c, rfl, ?_⟩)
  cases c with
  | false => exact kb ξ μ1 σ H1 ρ S1 Q (g.up u1) s1 h1
  | true => exact h1 _ μ1 H1 .refl s1 (.bl _)
theorem d_not (ha : DE X W a ma) : DE X W (.UnaryOp .Not a pos) (mNot ma) := by
  obtain ⟨ta, pa, ka⟩ := ha
  refine ⟨_, pe_not pa, fun ξ μ σ H ρ S Q g s h => ?_⟩
  exact ka ξ μ σ H ρ S _ g s (WE'.boolv h (fun d S h => by cases d <;> first | rfl | exact absurd rfl (h _)) fun c S1 μ1 H1 u1 s1 h1 => ⟨c, rfl, h1 _ μ1 H1 .refl s1 (.bl _)⟩)
theorem d_ifExp (hc : DT X W c mc) (ha : DE X W a ma) (hb : DE X W b mb) : DE X W (.IfExp c a b pos) (mIf mc ma mb) := by
  obtain ⟨tc, pc, kc⟩ := hc
  obtain ⟨ta, pa, ka⟩ := ha
  obtain ⟨tb, pb, kb⟩ := hb
  refine ⟨_, pe_ifExp pc pa pb, fun ξ μ σ H ρ S Q g s h => ?_⟩
  refine kc ξ μ σ H ρ S _ g s (WR.bindT h (fun d S h => notb2 d S h) fun c S1 μ1 H1 u1 s1 h1 => ?_)
  cases c with
  | true => exact ka ξ μ1 σ H1 ρ S1 Q (g.up u1) s1 h1
  | false => exact kb ξ μ1 σ H1 ρ S1 Q (g.up u1) s1 h1
/-- one-place operators -/
def UnD (X : Cx) (r : V → Hp → VK → Prop) (g : Sto → D → Option D) : Prop :=
  ∀ ξ μ H S x v z Q, RS (fx X ξ) μ H S → RD (fx X ξ) μ H v x → g S x = some z → (∀ w μ' H', Up μ H μ' H' → RS (fx X ξ) μ' H' S → RD (fx X ξ) μ' H' w z → Q w H') → r v H Q
theorem d_un {op : UnaryOp} {r : V → Hp → VK → Prop} {g : Sto → D → Option D} (ho : UnR X (unaryOp op) r) (hd : UnD X r g) (ha : DE X W a ma) : DE X W (.UnaryOp op a pos) (mUn g ma) := by
  obtain ⟨ta, pa, ka⟩ := ha
  refine ⟨_, pe_un ho pa, fun ξ μ σ H ρ S Q g0 s h => ka ξ μ σ H ρ S _ g0 s (WR.bind h fun x S1 v μ1 H1 u1 s1 r1 h1 => ?_)⟩
  cases e : g S1 x with
  | none => rw [e] at h1; exact h1.elim
  | some z =>
    rw [e] at h1
    exact hd ξ μ1 H1 S1 x v z Q s1 r1 e h1
/-- arguments -/
theorem da_nil : DA X W [] mNil := ⟨_, pa_nil, fun ξ μ σ H ρ S Q g s h => h [] μ H .refl s .nil⟩
theorem da_cons (ha : DE X W e ma) (hr : DA X W es mr) (hs : starEach (e :: es) X.env = (false, eval e X.env) :: starEach es X.env := by rfl) : DA X W (e :: es) (mCons ma mr) := by
  obtain ⟨ta, pa, ka⟩ := ha
  obtain ⟨tr, pr, kr⟩ := hr
  refine ⟨_, pa_cons pa pr hs, fun ξ μ σ H ρ S Q g s h => ka ξ μ σ H ρ S _ g s (WR.bind h fun x S1 v μ1 H1 u1 s1 r1 h1 => ?_)⟩
  refine kr ξ μ1 σ H1 ρ S1 _ (g.up u1) s1 (WR.bind h1 fun xs S2 vs μ2 H2 u2 s2 r2 h2 => ?_)
  exact h2 _ μ2 H2 .refl s2 (.cons (r1.up u2) r2)
theorem d_tup {x1} (h : DA X W es mr) : DE X W (.Tuple es x1 pos) (mTup mr) := by
  obtain ⟨ta, pa, ka⟩ := h
  refine ⟨_, pe_tup pa, fun ξ μ σ H ρ S Q g s h => ka ξ μ σ H ρ S _ g s (WR.bind h fun xs S1 vs μ1 H1 u1 s1 r1 h1 => ?_)⟩
  by_cases hz : xs.length ≤ 16777216
  · rw [if_pos hz] at h1
    refine ⟨by rw [r1.length, sizeLine_eq]; exact hz, fun p hp => ?_⟩
    exact h1 _ μ1 _ (.fresh hp) (s1.fresh hp) (.tup (.inl ⟨.inl upd_same, s1.out hp, s1.outX hp⟩) (r1.up (.fresh hp)))
  · rw [if_neg hz] at h1; exact h1.elim
theorem dl_lst (h : DA X W es mr) : DL X W (.List es pos) (mLst mr) := by
  obtain ⟨ta, pa, ka⟩ := h
  refine ⟨_, pe_lst pa, fun ξ μ σ H ρ S Q g s h => ka ξ μ σ H ρ S _ g s (WL'.bind h fun xs S1 vs μ1 H1 u1 s1 r1 h1 => ?_)⟩
  by_cases hz : xs.length ≤ 16777216
  · rw [if_pos hz] at h1
    exact ⟨by rw [r1.length, sizeLine_eq]; exact hz, fun p hp => h1 p vs μ1 _ (.fresh hp) hp (s1.holds hp) (r1.mv (.holds hp)) upd_same⟩
  · rw [if_neg hz] at h1; exact h1.elim
/-- a fresh list as data, as a cell -/
theorem d_fz (h : DL X W e mr) : DE X W e (mFz mr) := by
  obtain ⟨te, p, k⟩ := h
  refine ⟨_, p, fun ξ μ σ H ρ S Q g s h => k ξ μ σ H ρ S Q g s ?_⟩
  unfold mFz at h
  cases e : mr ρ S with
  | bad => rw [e] at h; exact h.elim
  | exc c fs S' => rw [e] at h; exact h
  | ok ds S' =>
    rw [e] at h
    intro q xs μ' H' u' hq s' r' e'
    exact h _ μ' H' u' s'.free (.lst (.inl ⟨.inl e', (s'.xi q List.mem_cons_self).1, s.outX hq⟩) (r'.mv .free))
theorem d_new (h : DL X W e mr) : DE X W e (mNew mr) := by
  obtain ⟨te, p, k⟩ := h
  refine ⟨_, p, fun ξ μ σ H ρ S Q g s h => k ξ μ σ H ρ S Q g s ?_⟩
  unfold mNew at h
  cases e : mr ρ S with
  | bad => rw [e] at h; exact h.elim
  | exc c fs S' => rw [e] at h; exact h
  | ok ds S' =>
    rw [e] at h
    intro q xs μ' H' u' hq s' r' e'
    have l : S'.length = μ'.length := s'.len.symm
    refine h (.ref q) (μ' ++ [q]) H' ⟨?_, fun a ha n => ?_, u'.keep⟩ (s'.asCell (s.outX hq) e' r') (.cell (by rw [l]; exact alloc_at))
    · obtain ⟨ν, z⟩ := u'.pre
      exact ⟨ν ++ [q], by rw [z, List.append_assoc]⟩
    · rcases List.mem_append.mp ha with z | z
      · exact u'.new a z n
      · rw [List.mem_singleton.mp z]; exact hq
end
end Dm
-- text DmOps
namespace Dm
open PySem L2
open PySem.W (Frag)

/-! ### the items of a tuple, a list -/
def tupOf : D → Option (List D)
  | .tup ds => some ds
  | _ => none
def lstOf (S : Sto) : D → Option (List D)
  | .lst ds => some ds
  | .cell n => match S[n]? with
    | some (.lst ds) => some ds
    | _ => none
  | _ => none
def seqOf (S : Sto) : D → Option (List D)
  | .tup ds => some ds
  | d => lstOf S d
section
variable {F : Fx} {μ : List Addr} {H : Hp} {S : Sto} {v : V} {d : D} {ds : List D}
theorem RD.tupS (r : RD F μ H v d) (h : tupOf d = some ds) : ∃ a xs, v = .ref a ∧ SqT F.K H a xs ∧ RDs F μ H xs ds := by
  cases r with
  | tup f r =>
    cases h
    exact ⟨_, _, rfl, f.sq, r⟩
  | _ => exact nomatch h
theorem RD.lstS (s : RS F μ H S) (r : RD F μ H v d) (h : lstOf S d = some ds) : ∃ a xs, v = .ref a ∧ SqL F.K H a xs ∧ RDs F μ H xs ds := by
  cases r with
  | lst f r =>
    cases h
    exact ⟨_, _, rfl, f.sq, r⟩
  | @cell a n e =>
    simp only [lstOf] at h
    cases q : S[n]? with
    | none => rw [q] at h; exact nomatch h
    | some c =>
      rw [q] at h
      cases c with
      | lst es =>
        cases h
        obtain ⟨xs, h1, h2⟩ := s.at_ n a _ e q
        exact ⟨a, xs, rfl, SqL.of h1, h2⟩
      | _ => exact nomatch h
  | _ => exact nomatch h
theorem RD.seqS (s : RS F μ H S) (r : RD F μ H v d) (h : seqOf S d = some ds) : ∃ a xs, v = .ref a ∧ (SqL F.K H a xs ∨ SqT F.K H a xs) ∧ RDs F μ H xs ds := by
  cases r with
  | tup f r =>
    cases h
    exact ⟨_, _, rfl, .inr f.sq, r⟩
  | lst f r =>
    obtain ⟨a, xs, e, q, z⟩ := RD.lstS s (.lst f r) h
    exact ⟨a, xs, e, .inl q, z⟩
  | cell e =>
    obtain ⟨a, xs, e, q, z⟩ := RD.lstS s (.cell e) h
    exact ⟨a, xs, e, .inl q, z⟩
  | _ => exact nomatch h
theorem RDs.atI {vs : List V} {i : Int} (r : RDs F μ H vs ds) (h : atI ds i = some d) : ∃ v, L2.atI vs i = some v ∧ RD F μ H v d := by
  unfold L2.atI at h ⊢
  rw [r.length]
  cases e : ixN ds.length i with
  | none => rw [e] at h; exact nomatch h
  | some j =>
    rw [e] at h
    exact r.get h
end

/-! ### whole numbers -/
def gI (f : Int → Int → D) : Sto → D → D → Option D := fun _ x y => match x, y with
  | .int i, .int j => some (f i j)
  | _, _ => none
def gIC (C : Int → Int → Prop) [∀ i j, Decidable (C i j)] (f : Int → Int → D) : Sto → D → D → Option D := fun _ x y => match x, y with
  | .int i, .int j => if C i j then some (f i j) else none
  | _, _ => none
section
variable {X : Cx}
theorem opd_I0 {fv : Int → Int → V} {fd : Int → Int → D} (h : ∀ i j ξ μ H, RD (fx X ξ) μ H (fv i j) (fd i j)) : OpD X (rI0 fv) (gI fd) := by
  intro ξ μ H S x y v u z Q s rx ry e k
  cases rx with
  | int i =>
    cases ry with
    | int j =>
      cases e
      exact ⟨i, j, rfl, rfl, k _ μ H .refl s (h i j ξ μ H)⟩
    | _ => exact nomatch e
  | _ => exact nomatch e
theorem opd_I {C : Int → Int → Prop} [∀ i j, Decidable (C i j)] {fv : Int → Int → V} {fd : Int → Int → D} (h : ∀ i j ξ μ H, RD (fx X ξ) μ H (fv i j) (fd i j)) : OpD X (rI C fv) (gIC C fd) := by
  intro ξ μ H S x y v u z Q s rx ry e k
  cases rx with
  | int i =>
    cases ry with
    | int j =>
      unfold gIC at e
      by_cases c : C i j
      · simp only [if_pos c] at e
        cases e
        exact ⟨i, j, rfl, rfl, c, k _ μ H .refl s (h i j ξ μ H)⟩
      · simp only [if_neg c] at e
        exact nomatch e
    | _ => exact nomatch e
  | _ => exact nomatch e
theorem OpD.or {r r' : R2} {g g' : Sto → D → D → Option D} (h : OpD X r g) (h' : OpD X r' g') : OpD X (fun x y H Q => r x y H Q ∨ r' x y H Q) (fun S x y => (g S x y).or (g' S x y)) := by
  intro ξ μ H S x y v u z Q s rx ry e k
  have e : (g S x y).or (g' S x y) = some z := e
  cases q : g S x y with
  | some w =>
    rw [q] at e
    cases e
    exact .inl (h ξ μ H S x y v u _ Q s rx ry q k)
  | none =>
    rw [q] at e
    exact .inr (h' ξ μ H S x y v u z Q s rx ry e k)
abbrev gSub := gI fun i j => .int (i - j)
abbrev gLt := gI fun i j => .bl (decide (i < j))
abbrev gLe := gI fun i j => .bl (decide (i ≤ j))
abbrev gGt := gI fun i j => .bl (decide (j < i))
abbrev gGe := gI fun i j => .bl (decide (j ≤ i))
instance : ∀ i j, Decidable (CMulW i j) := fun i j => inferInstanceAs (Decidable (_ < _))
instance : ∀ i j, Decidable (CDivW i j) := fun i j => inferInstanceAs (Decidable (_ ∧ _))
instance : ∀ i j, Decidable (CPow i j) := fun i j => inferInstanceAs (Decidable (_ ∧ _ ∧ _))
abbrev gMul := gIC CMulW fun i j => .int (i * j)
abbrev gFdiv := gIC CDivW fun i j => .int (i / j)
abbrev gMod := gIC (fun _ j => 0 < j) fun i j => .int (i % j)
abbrev gPow := gIC CPow fun i j => .int (i ^ j.toNat)
theorem o_sub : OpD X (rI0 fun i j => .int (i - j)) gSub := opd_I0 fun _ _ _ _ _ => .int _
theorem o_lt : OpD X (rI0 fun i j => .bl (decide (i < j))) gLt := opd_I0 fun _ _ _ _ _ => .bl _
theorem o_le : OpD X (rI0 fun i j => .bl (decide (i ≤ j))) gLe := opd_I0 fun _ _ _ _ _ => .bl _
theorem o_gt : OpD X (rI0 fun i j => .bl (decide (j < i))) gGt := opd_I0 fun _ _ _ _ _ => .bl _
theorem o_ge : OpD X (rI0 fun i j => .bl (decide (j ≤ i))) gGe := opd_I0 fun _ _ _ _ _ => .bl _
theorem o_mul : OpD X (rI CMulW fun i j => .int (i * j)) gMul := opd_I fun _ _ _ _ _ => .int _
theorem o_fdiv : OpD X (rI CDivW fun i j => .int (i / j)) gFdiv := opd_I fun _ _ _ _ _ => .int _
theorem o_mod : OpD X (rI (fun _ j => 0 < j) fun i j => .int (i % j)) gMod := opd_I fun _ _ _ _ _ => .int _
theorem o_pow : OpD X (rI CPow fun i j => .int (i ^ j.toNat)) gPow := opd_I fun _ _ _ _ _ => .int _
/-- + of ints, of tuples -/
def gCatT : Sto → D → D → Option D := fun _ x y => match x, y with
  | .tup a, .tup b => if a.length + b.length ≤ 16777216 then some (.tup (a ++ b)) else none
  | _, _ => none
def gAdd : Sto → D → D → Option D := fun S x y => (gI (fun i j => .int (i + j)) S x y).or (gCatT S x y)
theorem o_catT : OpD X (rCatA X.K) gCatT := by
  intro ξ μ H S x y v u z Q s rx ry e k
  cases rx with
  | @tup a xs ds f r =>
    cases ry with
    | @tup b ys es f' r' =>
      unfold gCatT at e
      by_cases c : ds.length + es.length ≤ 16777216
      · simp only [if_pos c] at e
        cases e
        refine ⟨a, b, xs, ys, rfl, rfl, f.sq, f'.sq, by rw [r.length, r'.length, sizeLine_eq]; exact c, fun e => ?_, fun _ e => ?_, fun _ _ p hp => ?_⟩
        · subst e
          have e' : ds = [] := List.eq_nil_of_length_eq_zero r.length.symm
          subst e'
          exact k _ μ H .refl s (.tup f' r')
        · subst e
          have e' : es = [] := List.eq_nil_of_length_eq_zero r'.length.symm
          subst e'
          rw [List.append_nil] at k
          exact k _ μ H .refl s (.tup f r)
        · exact k _ μ _ (.fresh hp) (s.fresh hp) (.tup (.inl ⟨.inl upd_same, s.out hp, s.outX hp⟩) ((r.append r').up (.fresh hp)))
      · simp only [if_neg c] at e
        exact nomatch e
    | _ => exact nomatch e
  | _ => exact nomatch e
theorem op_addD : OpR X (binaryOp .Add) (fun x y H Q => rI0 (fun i j => .int (i + j)) x y H Q ∨ rCatA X.K x y H Q) := op_add.or op_catA
theorem o_add : OpD X (fun x y H Q => rI0 (fun i j => .int (i + j)) x y H Q ∨ rCatA X.K x y H Q) gAdd := (opd_I0 fun _ _ _ _ _ => .int _).or o_catT
/-- -i -/
def gNeg : Sto → D → Option D := fun _ x => match x with
  | .int i => some (.int (-i))
  | _ => none
theorem o_neg : UnD X (rU fun i => .int (-i)) gNeg := by
  intro ξ μ H S x v z Q s rx e k
  cases rx with
  | int i =>
    cases e
    exact ⟨i, rfl, k _ μ H .refl s (.int _)⟩
  | _ => exact nomatch e

/-! ### == -/
mutual
def toPy : D → Option PyData
  | .non => some .none
  | .bl b => some (.bool b)
  | .int i => some (.int i)
  | .str x => some (.str x)
  | .tup ds => (toPys ds).map .tuple
  | .lst ds => (toPys ds).map .list
  | .cell _ => none
  | .glo _ => none
def toPys : List D → Option (List PyData)
  | [] => some []
  | d :: ds => (toPy d).bind fun p => (toPys ds).map fun ps => p :: ps
end
/-- a cell's list, its items plain -/
def toPyS (S : Sto) (d : D) : Option PyData := match d with
  | .cell n => match S[n]? with
    | some (.lst ds) => (toPys ds).map .list
    | _ => none
  | d => toPy d
section
variable {F : Fx} {μ : List Addr} {H : Hp} {S : Sto}
mutual
theorem dp_of : ∀ {v : V} (d : D) {p : PyData}, RD F μ H v d → toPy d = some p → Dp F.K H v p
  | _, .non, p, r, e => by cases r; cases e; exact .non
  | _, .bl b, p, r, e => by cases r; cases e; exact .bl b
  | _, .int i, p, r, e => by cases r; cases e; exact .int i
  | _, .str x, p, r, e => by cases r; cases e; exact .str x
  | _, .tup ds, p, r, e => by
    cases r with
    | tup f r =>
      unfold toPy at e
      cases q : toPys ds with
      | none => rw [q] at e; exact nomatch e
      | some ps =>
        rw [q] at e; cases e
        exact .tup f.sq (dps_of ds r q)
  | _, .lst ds, p, r, e => by
    cases r with
    | lst f r =>
      unfold toPy at e
      cases q : toPys ds with
      | none => rw [q] at e; exact nomatch e
      | some ps =>
        rw [q] at e; cases e
        exact .lst f.sq (dps_of ds r q)
  | _, .cell _, p, r, e => nomatch e
  | _, .glo _, p, r, e => nomatch e
theorem dps_of : ∀ {vs : List V} (ds : List D) {ps : List PyData}, RDs F μ H vs ds → toPys ds = some ps → DpAll F.K H vs ps
  | _, [], ps, r, e => by cases r; cases e; exact .nil
  | _, d :: ds, ps, r, e => by
    cases r with
    | cons a b =>
      unfold toPys at e
      cases q : toPy d with
      | none => rw [q] at e; exact nomatch e
      | some p =>
        rw [q] at e
        cases q' : toPys ds with
        | none => rw [q'] at e; exact nomatch e
        | some ps' =>
          rw [q'] at e; cases e
          exact .cons (dp_of d a q) (dps_of ds b q')
end
theorem dpS_of {v : V} {d : D} {p : PyData} (s : RS F μ H S) (r : RD F μ H v d) (e : toPyS S d = some p) : Dp F.K H v p := by
  cases d with
  | cell n =>
    unfold toPyS at e
    cases r with
    | @cell a _ ea =>
      cases q : S[n]? with
      | none => simp only [q] at e; exact nomatch e
      | some c =>
        simp only [q] at e
        cases c with
        | lst ds =>
          cases q' : toPys ds with
          | none => simp only [q'] at e; exact nomatch e
          | some ps =>
            simp only [q'] at e; cases e
            obtain ⟨xs, h1, h2⟩ := s.at_ n a _ ea q
            exact .lst (SqL.of h1) (dps_of ds h2 q')
        | _ => exact nomatch e
  | _ => exact dp_of _ r e
end
/-- == of two values; none: no rule -/
def eqD (S : Sto) (x y : D) : Option Bool := match x, y with
  | .int i, .int j => some (i == j)
  | .str i, .str j => some (i == j)
  | x, y => match toPyS S x, toPyS S y with
    | some p, some q => if SeqAt.shaped p = true ∧ SeqAt.shaped q = true then some (PyData.eqv p q) else none
    | _, _ => none
theorem eqD_cases {S : Sto} {x y : D} {b : Bool} (h : eqD S x y = some b) : (∃ i j, x = .int i ∧ y = .int j ∧ b = (i == j)) ∨ (∃ i j, x = .str i ∧ y = .str j ∧ b = (i == j)) ∨
    ∃ p q, toPyS S x = some p ∧ toPyS S y = some q ∧ SeqAt.shaped p = true ∧ SeqAt.shaped q = true ∧ b = PyData.eqv p q := by
  unfold eqD at h
  split at h
  · cases h; exact .inl ⟨_, _, rfl, rfl, rfl⟩
  · cases h; exact .inr (.inl ⟨_, _, rfl, rfl, rfl⟩)
  · split at h
    · rename_i p q hp hq
      split at h
      · rename_i hs
        cases h
        exact .inr (.inr ⟨p, q, hp, hq, hs.1, hs.2, rfl⟩)
      · exact nomatch h
    · exact nomatch h
def gEq : Sto → D → D → Option D := fun S x y => (eqD S x y).map .bl
def gNe : Sto → D → D → Option D := fun S x y => (eqD S x y).map fun b => .bl (!b)
def rEqA (K : Frag) : R2 := fun x y H Q => rEq x y H Q ∨ rEqD K x y H Q
def rNeA (K : Frag) : R2 := fun x y H Q => rNe x y H Q ∨ rNeD K x y H Q
theorem op_eqA (hu : X.A.units + 64 < cLine) : OpR X (compareOp .Eq) (rEqA X.K) := op_eq.or (op_eqD hu)
theorem op_neA (hu : X.A.units + 64 < cLine) : OpR X (compareOp .NotEq) (rNeA X.K) := op_ne.or (op_neD hu)
theorem o_eq : OpD X (rEqA X.K) gEq := by
  intro ξ μ H S x y v u z Q s rx ry e k
  unfold gEq at e
  cases q : eqD S x y with
  | none => rw [q] at e; exact nomatch e
  | some b =>
    rw [q] at e; cases e
    rcases eqD_cases q with ⟨i, j, rfl, rfl, rfl⟩ | ⟨i, j, rfl, rfl, rfl⟩ | ⟨p, q', h1, h2, h3, h4, rfl⟩
    · cases rx; cases ry
      exact .inl ⟨rfl, by rw [dec_int]; exact k _ μ H .refl s (.bl _)⟩
    · cases rx; cases ry
      exact .inl ⟨rfl, by rw [dec_str]; exact k _ μ H .refl s (.bl _)⟩
    · exact .inr ⟨p, q', dpS_of s rx h1, dpS_of s ry h2, h3, h4, k _ μ H .refl s (.bl _)⟩
theorem o_ne : OpD X (rNeA X.K) gNe := by
  intro ξ μ H S x y v u z Q s rx ry e k
  unfold gNe at e
  cases q : eqD S x y with
  | none => rw [q] at e; exact nomatch e
  | some b =>
    rw [q] at e; cases e
    rcases eqD_cases q with ⟨i, j, rfl, rfl, rfl⟩ | ⟨i, j, rfl, rfl, rfl⟩ | ⟨p, q', h1, h2, h3, h4, rfl⟩
    · cases rx; cases ry
      exact .inl ⟨rfl, by rw [dec_int]; exact k _ μ H .refl s (.bl _)⟩
    · cases rx; cases ry
      exact .inl ⟨rfl, by rw [dec_str]; exact k _ μ H .refl s (.bl _)⟩
    · exact .inr ⟨p, q', dpS_of s rx h1, dpS_of s ry h2, h3, h4, k _ μ H .refl s (.bl _)⟩
/-! ### in -/
def flatD : D → Bool
  | .non => true
  | .bl _ => true
  | .int _ => true
  | .str _ => true
  | _ => false
def eqF : D → D → Bool
  | .non, .non => true
  | .bl a, .bl b => a == b
  | .bl a, .int b => (if a then 1 else 0) == b
  | .int a, .bl b => a == (if b then 1 else 0)
  | .int a, .int b => a == b
  | .str a, .str b => a == b
  | _, _ => false
theorem flat_of {F : Fx} {μ : List Addr} {H : Hp} {v : V} {d : D} (r : RD F μ H v d) : flatV v = flatD d := by cases r <;> rfl
theorem eqF_of {F : Fx} {μ : List Addr} {H : Hp} {v u : V} {d e : D} (r : RD F μ H v d) (r' : RD F μ H u e) : eqV v u = eqF d e := by cases r <;> cases r' <;> rfl
theorem flats_of {F : Fx} {μ : List Addr} {H : Hp} : ∀ {vs : List V} {ds : List D}, RDs F μ H vs ds → vs.all flatV = ds.all flatD
  | _, [], r => by cases r; rfl
  | _, d :: ds, r => by
    cases r with
    | cons a b => rw [List.all_cons, List.all_cons, flat_of a, flats_of b]
theorem anyF_of {F : Fx} {μ : List Addr} {H : Hp} {u : V} {e : D} (r' : RD F μ H u e) : ∀ {vs : List V} {ds : List D}, RDs F μ H vs ds → inV u vs = ds.any (eqF · e)
  | _, [], r => by cases r; rfl
  | _, d :: ds, r => by
    cases r with
    | cons a b =>
      have q := anyF_of r' b
      unfold inV at q ⊢
      rw [List.any_cons, List.any_cons, eqF_of a r', q]
def gIn (neg : Bool) : Sto → D → D → Option D := fun S x y => match seqOf S y with
  | some ds => if flatD x = true ∧ ds.all flatD = true then some (.bl (if neg then !ds.any (eqF · x) else ds.any (eqF · x))) else none
  | none => none
theorem o_in {neg : Bool} : OpD X (rIn X.K neg) (gIn neg) := by
  intro ξ μ H S x y v u z Q s rx ry e k
  unfold gIn at e
  cases q : seqOf S y with
  | none => rw [q] at e; exact nomatch e
  | some ds =>
    rw [q] at e
    by_cases c : flatD x = true ∧ ds.all flatD = true
    · simp only [if_pos c] at e
      cases e
      obtain ⟨a, xs, rfl, h1, h2⟩ := RD.seqS s ry q
      refine ⟨a, xs, rfl, h1, by rw [flat_of rx]; exact c.1, by rw [flats_of h2]; exact c.2, ?_⟩
      rw [anyF_of rx h2]
      exact k _ μ H .refl s (.bl _)
    · simp only [if_neg c] at e
      exact nomatch e
/-! ### is None -/
def isNon : D → Bool
  | .non => true
  | _ => false
def gIsN (neg : Bool) : Sto → D → D → Option D := fun _ x y => match y with
  | .non => some (.bl (if neg then !isNon x else isNon x))
  | _ => none
theorem isNon_of {F : Fx} {μ : List Addr} {H : Hp} {v : V} {d : D} (r : RD F μ H v d) : decide (v = .non) = isNon d := by cases r <;> rfl
theorem o_isN : OpD X (fun x y H Q => y = .non ∧ Q (.bl (decide (x = .non))) H) (gIsN false) := by
  intro ξ μ H S x y v u z Q s rx ry e k
  cases ry with
  | non =>
    cases e
    exact ⟨rfl, by rw [isNon_of rx]; exact k _ μ H .refl s (.bl _)⟩
  | _ => exact nomatch e
theorem o_notN : OpD X (fun x y H Q => y = .non ∧ Q (.bl (!decide (x = .non))) H) (gIsN true) := by
  intro ξ μ H S x y v u z Q s rx ry e k
  cases ry with
  | non =>
    cases e
    exact ⟨rfl, by rw [isNon_of rx]; exact k _ μ H .refl s (.bl _)⟩
  | _ => exact nomatch e
end

/-! ### chains -/
def mChain (g g' : Sto → D → D → Option D) (a b c : ME) : ME := fun ρ S => (a ρ S).bind fun x S1 => (b ρ S1).bind fun y S2 => match g S2 x y with
  | some (.bl true) => (c ρ S2).bind fun z S3 => match g' S3 y z with
    | some w => .ok w S3
    | none => .bad
  | some (.bl false) => .ok (.bl false) S2
  | _ => .bad
section
variable {X : Cx} {W : WX} {e a b c : Expr} {es : List Expr} {ma mb mc m : ME} {mr : MA} {pos : Pos}
theorem chain2 {r r' : R2} {g g' : Sto → D → D → Option D} {ta tb tc : TE} {ξ μ : List Addr} {σ : St} {H : Hp} {ρ : Rho} {S : Sto} {Q : VK} (hd : OpD X r g) (hd' : OpD X r' g')
    (ka : ∀ ξ μ σ H ρ S Q, RG (fx X ξ) μ H σ ρ → RS (fx X ξ) μ H S → WE' (fx X ξ) (ma ρ S) Q (fun cls dd H' => W cls dd σ H') μ H → ta σ H Q)
    (kb : ∀ ξ μ σ H ρ S Q, RG (fx X ξ) μ H σ ρ → RS (fx X ξ) μ H S → WE' (fx X ξ) (mb ρ S) Q (fun cls dd H' => W cls dd σ H') μ H → tb σ H Q)
    (kc : ∀ ξ μ σ H ρ S Q, RG (fx X ξ) μ H σ ρ → RS (fx X ξ) μ H S → WE' (fx X ξ) (mc ρ S) Q (fun cls dd H' => W cls dd σ H') μ H → tc σ H Q)
    (g0 : RG (fx X ξ) μ H σ ρ) (s : RS (fx X ξ) μ H S) (h : WE' (fx X ξ) (mChain g g' ma mb mc ρ S) Q (fun cls dd H' => W cls dd σ H') μ H) : tChain r r' ta tb tc σ H Q := by
  refine ka ξ μ σ H ρ S _ g0 s (WR.bind h fun x S1 v μ1 H1 u1 s1 r1 h1 => ?_)
  refine kb ξ μ1 σ H1 ρ S1 _ (g0.up u1) s1 (WR.bind h1 fun y S2 v2 μ2 H2 u2 s2 r2 h2 => ?_)
  cases e : g S2 x y with
  | none => rw [e] at h2; exact h2.elim
  | some z =>
    rw [e] at h2
    refine hd ξ μ2 H2 S2 x y v v2 z _ s2 (r1.up u2) r2 e fun w μ' H' u' s' r' => ?_
    cases r' with
    | bl k =>
      refine ⟨k, rfl, ?_⟩
      cases k with
      | false => exact h2 _ μ' H' u' s' (.bl false)
      | true =>
        refine kc ξ μ' σ H' ρ S2 _ (g0.up (u1.trans (u2.trans u'))) s' (WR.bind (WR.shift u' h2) fun z S3 v3 μ3 H3 u3 s3 r3 h3 => ?_)
        cases e3 : g' S3 y z with
        | none => rw [e3] at h3; exact h3.elim
        | some w =>
          rw [e3] at h3
          exact hd' ξ μ3 H3 S3 y z v2 v3 w Q s3 (r2.up (u'.trans u3)) r3 e3 h3
    | _ => exact h2.elim
theorem d_chain {op op' : CmpOp} {r r' : R2} {g g' : Sto → D → D → Option D} (ho : OpR X (compareOp op) r) (ho' : OpR X (compareOp op') r') (hd : OpD X r g) (hd' : OpD X r' g') (ha : DE X W a ma) (hb : DE X W b mb) (hc : DE X W c mc)
    (hm : lastMarks [op, op'] [b, c] = false := by with_unfolding_all rfl) : DE X W (.Compare a [op, op'] [b, c] pos) (mChain g g' ma mb mc) := by
  obtain ⟨ta, pa, ka⟩ := ha
  obtain ⟨tb, pb, kb⟩ := hb
  obtain ⟨tc, pc, kc⟩ := hc
  exact ⟨_, pe_chain ho ho' pa pb pc hm, fun ξ μ σ H ρ S Q g0 s h => chain2 hd hd' ka kb kc g0 s h⟩
theorem dt_chain {op op' : CmpOp} {r r' : R2} {g g' : Sto → D → D → Option D} (ho : OpR X (compareOp op) r) (ho' : OpR X (compareOp op') r') (hd : OpD X r g) (hd' : OpD X r' g') (ha : DE X W a ma) (hb : DE X W b mb) (hc : DE X W c mc)
    (hm : lastMarks [op, op'] [b, c] = false := by with_unfolding_all rfl) : DT X W (.Compare a [op, op'] [b, c] pos) (mChain g g' ma mb mc) := by
  obtain ⟨ta, pa, ka⟩ := ha
  obtain ⟨tb, pb, kb⟩ := hb
  obtain ⟨tc, pc, kc⟩ := hc
  exact ⟨_, pt_chain ho ho' pa pb pc hm, fun ξ μ σ H ρ S Q g0 s h => chain2 hd hd' ka kb kc g0 s (WT'.val h)⟩

/-! ### subscripts -/
def gIx : Sto → D → D → Option D := fun S x i => match i with
  | .int k => match x with
    | .str z => if z.length ≤ 16777216 then (atI z.cps.toList k).map fun c => .str ⟨#[c]⟩ else none
    | x => (seqOf S x).bind fun ds => atI ds k
  | _ => none
theorem o_ix : OpD X (rIx X.K) gIx := by
  intro ξ μ H S x y v u z Q s rx ry e k
  unfold gIx at e
  cases ry with
  | int i =>
    have main : ∀ ds, seqOf S x = some ds → atI ds i = some z → rIx X.K v (.int i) H Q := fun ds h1 h2 => by
      obtain ⟨a, xs, rfl, h3, h4⟩ := RD.seqS s rx h1
      obtain ⟨w, h5, h6⟩ := h4.atI h2
      rcases h3 with h3 | h3
      · exact .inl ⟨a, xs, i, w, rfl, rfl, h3, h5, k w μ H .refl s h6⟩
      · exact .inr (.inl ⟨a, xs, i, w, rfl, rfl, h3, h5, k w μ H .refl s h6⟩)
    cases rx with
    | str z =>
      simp only at e
      by_cases c : z.length ≤ 16777216
      · rw [if_pos c] at e
        cases q : atI z.cps.toList i with
        | none => rw [q] at e; exact nomatch e
        | some w =>
          rw [q] at e; cases e
          exact .inr (.inr ⟨z, i, w, rfl, rfl, by rw [sizeLine_eq]; exact c, q, k _ μ H .refl s (.str _)⟩)
      · rw [if_neg c] at e; exact nomatch e
    | tup f r =>
      exact main _ rfl e
    | @lst _ _ ds f r => exact main ds rfl e
    | @cell a n ea =>
      simp only at e
      cases q : seqOf S (.cell n) with
      | none => rw [q] at e; exact nomatch e
      | some ds => rw [q] at e; exact main ds q e
    | _ => exact nomatch e
  | _ => exact nomatch e
theorem d_ix {r : R2} {g : Sto → D → D → Option D} (hr : IxR X r) (hd : OpD X r g) (ha : DE X W a ma) (hb : DE X W b mb) (hs : PlainIx b := by exact fun _ _ => rfl) : DE X W (.Subscript a b pos) (mOp g ma mb) := by
  obtain ⟨ta, pa, ka⟩ := ha
  obtain ⟨tb, pb, kb⟩ := hb
  exact ⟨_, pe_ix hr pa pb hs, fun ξ μ σ H ρ S Q g0 s h => op2 (ξ := ξ) hd ka kb g0 s h⟩
/-- slices -/
abbrev MO := Rho → Sto → Res (Option Int)
structure DO (X : Cx) (W : WX) (e : Option Expr) (m : MO) : Prop where
  ex : ∃ te, PO X e te ∧ ∀ ξ μ σ H ρ S Q, RG (fx X ξ) μ H σ ρ → RS (fx X ξ) μ H S → WR (fx X ξ) (fun _ _ (o : Option Int) o' => o = o') (m ρ S) Q (fun cls dd H' => W cls dd σ H') μ H → te σ H Q
def mPart (m : ME) : MO := fun ρ S => (m ρ S).bind fun x S1 => match x with
  | .int i => .ok (some i) S1
  | _ => .bad
def mNoPart : MO := fun _ S => .ok none S
theorem do_none : DO X W none mNoPart := ⟨_, po_none, fun ξ μ σ H ρ S Q g s h => h none μ H .refl s rfl⟩
theorem do_some (h : DE X W e m) : DO X W (some e) (mPart m) := by
  obtain ⟨te, p, k⟩ := h
  refine ⟨_, po_some p, fun ξ μ σ H ρ S Q g s h => k ξ μ σ H ρ S _ g s (WR.bind h fun x S1 v μ1 H1 u1 s1 r1 h1 => ?_)⟩
  cases r1 with
  | int i => exact ⟨i, rfl, h1 _ μ1 H1 .refl s1 rfl⟩
  | _ => exact h1.elim
def cutD (ds : List D) (lo hi : Option Int) : List D := (ds.drop (HT.sIx ds.length 0 lo)).take (HT.sIx ds.length ds.length hi - HT.sIx ds.length 0 lo)
theorem cut_of {F : Fx} {μ : List Addr} {H : Hp} {vs : List V} {ds : List D} {lo hi : Option Int} (r : RDs F μ H vs ds) : RDs F μ H (cutV vs lo hi) (cutD ds lo hi) := by
  unfold cutV cutD
  rw [r.length]
  exact (r.drop _).take _
def mSlT (a : ME) (lo hi : MO) : ME := fun ρ S => (a ρ S).bind fun x S1 => (lo ρ S1).bind fun l S2 => (hi ρ S2).bind fun h S3 => match x with
  | .tup ds => .ok (.tup (cutD ds l h)) S3
  | _ => .bad
def mSlL (a : ME) (lo hi : MO) : MA := fun ρ S => (a ρ S).bind fun x S1 => (lo ρ S1).bind fun l S2 => (hi ρ S2).bind fun h S3 => match lstOf S3 x with
  | some ds => .ok (cutD ds l h) S3
  | none => .bad
variable {lo hi : Option Expr} {ml mh : MO} {p2 : Pos}
theorem cut_whole {ds : List D} {lo hi : Option Int} (h : HT.sIx ds.length 0 lo = 0 ∧ HT.sIx ds.length ds.length hi = ds.length) : cutD ds lo hi = ds := by
  unfold cutD
  rw [h.1, h.2, List.drop_zero, Nat.sub_zero, List.take_length]
theorem d_slT (ha : DE X W a ma) (hl : DO X W lo ml) (hh : DO X W hi mh) : DE X W (.Subscript a (.Slice lo hi none p2) pos) (mSlT ma ml mh) := by
  obtain ⟨ta, pa, ka⟩ := ha
  obtain ⟨tl, pl, kl⟩ := hl
  obtain ⟨th, ph, kh⟩ := hh
  refine ⟨_, pe_slice sl_tupA pa pl ph, fun ξ μ σ H ρ S Q g s h => ka ξ μ σ H ρ S _ g s (WR.bind h fun x S1 v μ1 H1 u1 s1 r1 h1 => ?_)⟩
  refine kl ξ μ1 σ H1 ρ S1 _ (g.up u1) s1 (WR.bind h1 fun l S2 l' μ2 H2 u2 s2 r2 h2 => ?_)
  subst r2
  refine kh ξ μ2 σ H2 ρ S2 _ (g.up (u1.trans u2)) s2 (WR.bind h2 fun u S3 u' μ3 H3 u3 s3 r3 h3 => ?_)
  subst r3
  have rx := r1.up (u2.trans u3)
  cases rx with
  | @tup a xs ds f r =>
    refine ⟨a, xs, rfl, f.sq, fun hw => ?_, fun _ p hp => ?_⟩
    · rw [r.length] at hw
      have e := cut_whole hw
      exact h3 _ μ3 H3 .refl s3 (by rw [e]; exact .tup f r)
    · exact h3 _ μ3 _ (.fresh hp) (s3.fresh hp) (.tup (.inl ⟨.inl upd_same, s3.out hp, s3.outX hp⟩) ((cut_of r).up (.fresh hp)))
  | _ => exact h3.elim
theorem dl_slL (ha : DE X W a ma) (hl : DO X W lo ml) (hh : DO X W hi mh) : DL X W (.Subscript a (.Slice lo hi none p2) pos) (mSlL ma ml mh) := by
  obtain ⟨ta, pa, ka⟩ := ha
  obtain ⟨tl, pl, kl⟩ := hl
  obtain ⟨th, ph, kh⟩ := hh
  refine ⟨_, pe_slice sl_list pa pl ph, fun ξ μ σ H ρ S Q g s h => ka ξ μ σ H ρ S _ g s (WL'.bind h fun x S1 v μ1 H1 u1 s1 r1 h1 => ?_)⟩
  refine kl ξ μ1 σ H1 ρ S1 _ (g.up u1) s1 (WL'.bind h1 fun l S2 l' μ2 H2 u2 s2 r2 h2 => ?_)
  subst r2
  refine kh ξ μ2 σ H2 ρ S2 _ (g.up (u1.trans u2)) s2 (WL'.bind h2 fun u S3 u' μ3 H3 u3 s3 r3 h3 => ?_)
  subst r3
  have rx := r1.up (u2.trans u3)
  cases e : lstOf S3 x with
  | none => rw [e] at h3; exact h3.elim
  | some ds =>
    rw [e] at h3
    obtain ⟨a, xs, rfl, h4, h5⟩ := RD.lstS s3 rx e
    exact ⟨a, xs, rfl, h4, fun p hp => h3 p _ μ3 _ (.fresh hp) hp (s3.holds hp) ((cut_of h5).mv (.holds hp)) upd_same⟩
end
end Dm
-- text DmStm
namespace Dm
open PySem L2
open PySem.W (Frag)

/-! ### isinstance -/
inductive Tn where | non | bl | int | str | tup | lst | dic
  deriving DecidableEq
def tnName : Tn → String
  | .non => "NoneType" | .bl => "bool" | .int => "int" | .str => "str" | .tup => "tuple" | .lst => "list" | .dic => "dict"
def isTn : Tn → Tn → Bool
  | .bl, .int => true
  | a, b => decide (a = b)
theorem kit_tn (a b : Tn) (h : b ≠ .non) : kitB (tnName a) (tnName b) = some (isTn a b) := by
  cases b <;> first | exact absurd rfl h | (cases a <;> decide +kernel)
def tyOf (S : Sto) : D → Option Tn
  | .non => some .non
  | .bl _ => some .bl
  | .int _ => some .int
  | .str _ => some .str
  | .tup _ => some .tup
  | .lst _ => some .lst
  | .cell n => match S[n]? with
    | some (.lst _) => some .lst
    | some (.dic _) => some .dic
    | _ => none
  | .glo _ => none
theorem tyX_of {F : Fx} {μ : List Addr} {H : Hp} {S : Sto} {v : V} {d : D} {t : Tn} (s : RS F μ H S) (r : RD F μ H v d) (e : tyOf S d = some t) : TyX F.K H v (.type (tnName t)) := by
  cases r with
  | non => cases e; exact .base .non
  | bl b => cases e; exact .base (.bl b)
  | int i => cases e; exact .base (.int i)
  | str x => cases e; exact .base (.str x)
  | tup f r =>
    cases e
    rcases f with ⟨h | ⟨o, h⟩, _⟩ | ⟨o, its, n, h1, h2, _⟩
    · exact .base (.tup h)
    · exact .fTuple h
    · exact .kTuple h1 h2
  | lst f r =>
    cases e
    rcases f with ⟨h | ⟨o, h⟩, _⟩ | ⟨o, its, n, h1, h2, _⟩
    · exact .base (.lst h)
    · exact .base (.frz h)
    · exact .kList h1 h2
  | @cell a n ea =>
    simp only [tyOf] at e
    cases q : S[n]? with
    | none => rw [q] at e; exact nomatch e
    | some c =>
      rw [q] at e
      cases c with
      | lst ds =>
        cases e
        obtain ⟨xs, h1, _⟩ := s.at_ n a _ ea q
        exact .base (.lst h1)
      | dic kvs =>
        cases e
        obtain ⟨xs, h1, _⟩ := s.at_ n a _ ea q
        exact .base (.dK h1)
      | _ => exact nomatch e
  | glo _ => exact nomatch e
def mIsi (T : Tn) (m : ME) : ME := mUn (fun S d => (tyOf S d).map fun t => .bl (isTn t T)) m
def mIsiT (Ts : List Tn) (m : ME) : ME := mUn (fun S d => (tyOf S d).map fun t => .bl (Ts.any (isTn t ·))) m
section
variable {X : Cx} {W : WX} {e a b c : Expr} {es : List Expr} {ma mb mc m : ME} {mr : MA} {pos p p1 p2 p3 : Pos}
theorem d_isi (T : Tn) {x : Str} (h : DE X W e m) (hm : X.mg "isinstance" = none) (hx : X.mg x = none) (hv : bootBuiltins x = some (.type (tnName T)) := by decide +kernel) (hT : T ≠ .non := by decide) (hg : Gl X "isinstance" := by rfl) (hgx : Gl X x := by rfl)
    (hn : x ≠ "__name__" := by decide) (hd : (x == ("__debug__" : Str)) = false := by decide)
    (he : starEach [e, .Name x p1] X.env = (false, eval e X.env) :: starEach [.Name x p1] X.env := by rfl) (hpl : (backTo pos (starEach [.Name x p1] X.env)).any (·.1) = false := by rfl)
    (hs2 : starEach [.Name x p1] X.env = (false, eval (.Name x p1) X.env) :: starEach [] X.env := by rfl) :
    DE X W (.Call (.Name "isinstance" p) [e, .Name x p1] [] pos) (mIsi T m) := by
  obtain ⟨te, pe, k⟩ := h
  refine ⟨_, pe_callB call_isi hg hm (by decide +kernel) (pa_cons pe (pa_cons (pe_bltn (v := .ty (tnName T)) hgx hx hv rfl hn hd) pa_nil hs2) he) (he := he) (hpl := hpl), fun ξ μ σ H ρ S Q g s h => k ξ μ σ H ρ S _ g s (WR.bind h fun x S1 v μ1 H1 u1 s1 r1 h1 => ?_)⟩
  cases q : tyOf S1 x with
  | none => simp only [q] at h1; exact h1.elim
  | some t =>
    simp only [q] at h1
    exact ⟨v, .ty (tnName T), _, _, _, rfl, .ty _, tyX_of s1 r1 q, kit_ty (kit_tn t T hT), h1 _ μ1 H1 .refl s1 (.bl _)⟩
theorem kitAny_tn {K : Frag} (t : Tn) : ∀ Ts : List Tn, (∀ T ∈ Ts, T ≠ .non) → PySem.W.kitAny K (.type (tnName t)) (Ts.map fun T => .type (tnName T)) = some (Ts.any (isTn t ·))
  | [], _ => kitAny_nil
  | T :: Ts, h => kitAny_cons (b := isTn t T) (kit_ty (kit_tn t T (h T List.mem_cons_self))) (fun e => by rw [List.any_cons, e, Bool.false_or]; exact kitAny_tn t Ts fun T' h' => h T' (List.mem_cons_of_mem _ h')) fun e => by rw [List.any_cons, e, Bool.true_or]
theorem clsV_all : ∀ Ts : List Tn, Paired ClsV (Ts.map fun T => V.ty (tnName T)) (Ts.map fun T => Value.type (tnName T))
  | [] => .nil
  | T :: Ts => .cons (.ty _) (clsV_all Ts)
/-- isinstance(x, (T, ..)); ht: the classes' names as arguments -/
theorem d_isiT (Ts : List Tn) {ts : List Expr} {tt : TA} {k1} (h : DE X W e m) (ht : PA X ts tt) (htt : ∀ σ H Q, tt σ H Q = Q (Ts.map fun T => V.ty (tnName T)) H) (hm : X.mg "isinstance" = none) (hT : ∀ T ∈ Ts, T ≠ .non := by decide) (hl : Ts.length ≤ 100 := by decide) (hg : Gl X "isinstance" := by rfl)
    (he : starEach [e, .Tuple ts k1 p1] X.env = (false, eval e X.env) :: starEach [.Tuple ts k1 p1] X.env := by rfl) (hpl : (backTo pos (starEach [.Tuple ts k1 p1] X.env)).any (·.1) = false := by rfl)
    (hs2 : starEach [.Tuple ts k1 p1] X.env = (false, eval (.Tuple ts k1 p1) X.env) :: starEach [] X.env := by rfl) :
    DE X W (.Call (.Name "isinstance" p) [e, .Tuple ts k1 p1] [] pos) (mIsiT Ts m) := by
  obtain ⟨te, pe, k⟩ := h
  refine ⟨_, pe_callB call_isiT hg hm (by decide +kernel) (pa_cons pe (pa_cons (pe_tup ht) pa_nil hs2) he) (he := he) (hpl := hpl), fun ξ μ σ H ρ S Q g s h => k ξ μ σ H ρ S _ g s (WR.bind h fun x S1 v μ1 H1 u1 s1 r1 h1 => ?_)⟩
  cases q : tyOf S1 x with
  | none => simp only [q] at h1; exact h1.elim
  | some t =>
    simp only [q] at h1
    unfold tCons tTup
    rw [htt]
    refine ⟨by rw [List.length_map, sizeLine_eq]; omega, fun p hp => ?_⟩
    have s2 := s1.fresh (o := .tup (Ts.map fun T => V.ty (tnName T))) hp
    exact ⟨v, p, _, _, _, _, rfl, upd_same, clsV_all Ts, tyX_of s2 (r1.up (.fresh hp)) q, kitAny_tn t Ts hT, h1 _ μ1 _ (.fresh hp) s2 (.bl _)⟩

/-! ### built-in functions and types called -/
def CallD (X : Cx) (r : List V → Hp → VK → Prop) (g : Sto → List D → Option D) : Prop :=
  ∀ ξ μ H S ds vs z Q, RS (fx X ξ) μ H S → RDs (fx X ξ) μ H vs ds → g S ds = some z → (∀ w μ' H', Up μ H μ' H' → RS (fx X ξ) μ' H' S → RD (fx X ξ) μ' H' w z → Q w H') → r vs H Q
/-- .. that give a fresh list -/
def CallDL (X : Cx) (r : List V → Hp → VK → Prop) (g : Sto → List D → Option (List D)) : Prop :=
  ∀ ξ μ H S ds vs zs Q, RS (fx X ξ) μ H S → RDs (fx X ξ) μ H vs ds → g S ds = some zs → (∀ p xs μ' H', Up μ H μ' H' → H p = none → RS ((fx X ξ).hold p) μ' H' S → RDs ((fx X ξ).hold p) μ' H' xs zs → H' p = some (.lst xs) → Q (.ref p) H') → r vs H Q
def mCallB (g : Sto → List D → Option D) (a : MA) : ME := fun ρ S => (a ρ S).bind fun xs S1 => match g S1 xs with
  | some z => .ok z S1
  | none => .bad
def mCallBL (g : Sto → List D → Option (List D)) (a : MA) : MA := fun ρ S => (a ρ S).bind fun xs S1 => match g S1 xs with
  | some z => .ok z S1
  | none => .bad
theorem d_callB {id : String} {x : Str} {r : List V → Hp → VK → Prop} {g : Sto → List D → Option D} (hc : CallR X (.builtin id) r) (hd : CallD X r g) (hm : X.mg x = none) (ha : DA X W (e :: es) mr) (hv : bootBuiltins x = some (.builtin id) := by decide +kernel) (hg : Gl X x := by rfl)
    (hn : x ≠ "__name__" := by decide) (hdb : (x == ("__debug__" : Str)) = false := by decide)
    (he : starEach (e :: es) X.env = (false, eval e X.env) :: starEach es X.env := by rfl) (hpl : (backTo pos (starEach es X.env)).any (·.1) = false := by rfl) : DE X W (.Call (.Name x p) (e :: es) [] pos) (mCallB g mr) := by
  obtain ⟨ta, pa, ka⟩ := ha
  refine ⟨_, pe_callB hc hg hm hv pa hn hdb he hpl, fun ξ μ σ H ρ S Q g0 s h => ka ξ μ σ H ρ S _ g0 s (WR.bind h fun xs S1 vs μ1 H1 u1 s1 r1 h1 => ?_)⟩
  cases q : g S1 xs with
  | none => rw [q] at h1; exact h1.elim
  | some z =>
    rw [q] at h1
    exact hd ξ μ1 H1 S1 xs vs z Q s1 r1 q h1
theorem d_callTy {T : String} {x : Str} {r : List V → Hp → VK → Prop} {g : Sto → List D → Option D} (hc : CallR X (.type T) r) (hd : CallD X r g) (hm : X.mg x = none) (ha : DA X W (e :: es) mr) (hv : bootBuiltins x = some (.type T) := by decide +kernel) (hg : Gl X x := by rfl)
    (hn : x ≠ "__name__" := by decide) (hdb : (x == ("__debug__" : Str)) = false := by decide)
    (he : starEach (e :: es) X.env = (false, eval e X.env) :: starEach es X.env := by rfl) (hpl : (backTo pos (starEach es X.env)).any (·.1) = false := by rfl) : DE X W (.Call (.Name x p) (e :: es) [] pos) (mCallB g mr) := by
  obtain ⟨ta, pa, ka⟩ := ha
  refine ⟨_, pe_callTy hc hg hm hv pa hn hdb he hpl, fun ξ μ σ H ρ S Q g0 s h => ka ξ μ σ H ρ S _ g0 s (WR.bind h fun xs S1 vs μ1 H1 u1 s1 r1 h1 => ?_)⟩
  cases q : g S1 xs with
  | none => rw [q] at h1; exact h1.elim
  | some z =>
    rw [q] at h1
    exact hd ξ μ1 H1 S1 xs vs z Q s1 r1 q h1
theorem dl_callB {id : String} {x : Str} {r : List V → Hp → VK → Prop} {g : Sto → List D → Option (List D)} (hc : CallR X (.builtin id) r) (hd : CallDL X r g) (hm : X.mg x = none) (ha : DA X W (e :: es) mr) (hv : bootBuiltins x = some (.builtin id) := by decide +kernel) (hg : Gl X x := by rfl)
    (hn : x ≠ "__name__" := by decide) (hdb : (x == ("__debug__" : Str)) = false := by decide)
    (he : starEach (e :: es) X.env = (false, eval e X.env) :: starEach es X.env := by rfl) (hpl : (backTo pos (starEach es X.env)).any (·.1) = false := by rfl) : DL X W (.Call (.Name x p) (e :: es) [] pos) (mCallBL g mr) := by
  obtain ⟨ta, pa, ka⟩ := ha
  refine ⟨_, pe_callB hc hg hm hv pa hn hdb he hpl, fun ξ μ σ H ρ S Q g0 s h => ka ξ μ σ H ρ S _ g0 s (WL'.bind h fun xs S1 vs μ1 H1 u1 s1 r1 h1 => ?_)⟩
  cases q : g S1 xs with
  | none => rw [q] at h1; exact h1.elim
  | some z =>
    rw [q] at h1
    exact hd ξ μ1 H1 S1 xs vs z Q s1 r1 q h1
theorem dl_callTy {T : String} {x : Str} {r : List V → Hp → VK → Prop} {g : Sto → List D → Option (List D)} (hc : CallR X (.type T) r) (hd : CallDL X r g) (hm : X.mg x = none) (ha : DA X W (e :: es) mr) (hv : bootBuiltins x = some (.type T) := by decide +kernel) (hg : Gl X x := by rfl)
    (hn : x ≠ "__name__" := by decide) (hdb : (x == ("__debug__" : Str)) = false := by decide)
    (he : starEach (e :: es) X.env = (false, eval e X.env) :: starEach es X.env := by rfl) (hpl : (backTo pos (starEach es X.env)).any (·.1) = false := by rfl) : DL X W (.Call (.Name x p) (e :: es) [] pos) (mCallBL g mr) := by
  obtain ⟨ta, pa, ka⟩ := ha
  refine ⟨_, pe_callTy hc hg hm hv pa hn hdb he hpl, fun ξ μ σ H ρ S Q g0 s h => ka ξ μ σ H ρ S _ g0 s (WL'.bind h fun xs S1 vs μ1 H1 u1 s1 r1 h1 => ?_)⟩
  cases q : g S1 xs with
  | none => rw [q] at h1; exact h1.elim
  | some z =>
    rw [q] at h1
    exact hd ξ μ1 H1 S1 xs vs z Q s1 r1 q h1
def gLen : Sto → List D → Option D := fun S ds => match ds with
  | [.str z] => if z.length ≤ 16777216 then some (.int z.length) else none
  | [d] => (seqOf S d).map fun ds => .int ds.length
  | _ => none
theorem c_len : CallD X (fun xs H Q => ∃ x n, xs = [x] ∧ LenV X.K x H n ∧ Q (.int n) H) gLen := by
  intro ξ μ H S ds vs z Q s r e k
  unfold gLen at e
  cases r with
  | nil => exact nomatch e
  | @cons v vs d ds r rr =>
    cases rr with
    | cons _ _ => cases d <;> exact nomatch e
    | nil =>
      have main : ∀ es, seqOf S d = some es → D.int es.length = z → ∃ x n, [v] = [x] ∧ LenV X.K x H n ∧ Q (.int n) H := fun es h1 h2 => by
        obtain ⟨a, xs, rfl, h3, h4⟩ := RD.seqS s r h1
        refine ⟨.ref a, xs.length, rfl, h3.imp (fun z => ⟨xs, z, rfl⟩) fun z => ⟨xs, z, rfl⟩, ?_⟩
        rw [h4.length]
        subst h2
        exact k _ μ H .refl s (.int _)
      cases r with
      | str x =>
        simp only at e
        by_cases c : x.length ≤ 16777216
        · rw [if_pos c] at e; cases e
          exact ⟨_, _, rfl, ⟨by rw [sizeLine_eq]; exact c, rfl⟩, k _ μ H .refl s (.int _)⟩
        · rw [if_neg c] at e; exact nomatch e
      | tup f r => exact main _ rfl (Option.some.inj e)
      | lst f r => exact main _ rfl (Option.some.inj e)
      | @cell a n ea =>
        simp only at e
        cases q : seqOf S (.cell n) with
        | none => rw [q] at e; exact nomatch e
        | some es => rw [q] at e; exact main es q (Option.some.inj e)
      | _ => exact nomatch e
def gInt1 : Sto → List D → Option D := fun _ ds => match ds with
  | [.int i] => some (.int i)
  | [.bl b] => some (.int (if b then 1 else 0))
  | _ => none
theorem c_int1 : CallD X (fun xs H Q => (∃ i, xs = [.int i] ∧ Q (.int i) H) ∨ ∃ k, xs = [.bl k] ∧ Q (.int (if k then 1 else 0)) H) gInt1 := by
  intro ξ μ H S ds vs z Q s r e k
  unfold gInt1 at e
  cases r with
  | nil => exact nomatch e
  | @cons v vs d ds r rr =>
    cases rr with
    | cons _ _ => cases d <;> exact nomatch e
    | nil =>
      cases r with
      | int i => cases e; exact .inl ⟨i, rfl, k _ μ H .refl s (.int _)⟩
      | bl b => cases e; exact .inr ⟨b, rfl, k _ μ H .refl s (.int _)⟩
      | _ => exact nomatch e
def gII (f : Int → Int → Int) : Sto → List D → Option D := fun _ ds => match ds with
  | [.int i, .int j] => some (.int (f i j))
  | _ => none
theorem c_II {f : Int → Int → Int} : CallD X (fun xs H Q => ∃ i j, xs = [.int i, .int j] ∧ Q (.int (f i j)) H) (gII f) := by
  intro ξ μ H S ds vs z Q s r e k
  unfold gII at e
  cases r with
  | nil => exact nomatch e
  | @cons v vs d ds r rr =>
    cases rr with
    | nil => cases d <;> exact nomatch e
    | @cons v2 vs2 d2 ds2 r2 rr2 =>
      cases rr2 with
      | cons _ _ => cases d <;> cases d2 <;> exact nomatch e
      | nil =>
        cases r with
        | int i =>
          cases r2 with
          | int j => cases e; exact ⟨i, j, rfl, k _ μ H .refl s (.int _)⟩
          | _ => exact nomatch e
        | _ => exact nomatch e
abbrev gMax2 := gII fun i j => if j > i then j else i
abbrev gMin2 := gII fun i j => if j < i then j else i
def gAbs : Sto → List D → Option D := fun _ ds => match ds with
  | [.int i] => some (.int (if i < 0 then -i else i))
  | _ => none
theorem c_abs : CallD X (fun xs H Q => ∃ i, xs = [.int i] ∧ Q (.int (if i < 0 then -i else i)) H) gAbs := by
  intro ξ μ H S ds vs z Q s r e k
  unfold gAbs at e
  cases r with
  | nil => exact nomatch e
  | @cons v vs d ds r rr =>
    cases rr with
    | cons _ _ => cases d <;> exact nomatch e
    | nil =>
      cases r with
      | int i => cases e; exact ⟨i, rfl, k _ μ H .refl s (.int _)⟩
      | _ => exact nomatch e
def gTuple : Sto → List D → Option D := fun S ds => match ds with
  | [d] => (seqOf S d).map .tup
  | _ => none
theorem c_tuple : CallD X (fun xs H Q => ∃ p ys, xs = [.ref p] ∧ ((SqL X.K H p ys ∧ ∀ l, H l = none → Q (.ref l) (upd H l (.tup ys))) ∨ (SqT X.K H p ys ∧ Q (.ref p) H))) gTuple := by
  intro ξ μ H S ds vs z Q s r e k
  unfold gTuple at e
  cases r with
  | nil => exact nomatch e
  | @cons v vs d ds r rr =>
    cases rr with
    | cons _ _ => exact nomatch e
    | nil =>
      simp only at e
      have lst : ∀ es, lstOf S d = some es → D.tup es = z → ∃ p ys, [v] = [.ref p] ∧ ((SqL X.K H p ys ∧ ∀ l, H l = none → Q (.ref l) (upd H l (.tup ys))) ∨ (SqT X.K H p ys ∧ Q (.ref p) H)) := fun es h1 h2 => by
        obtain ⟨a, xs, rfl, h3, h4⟩ := RD.lstS s r h1
        subst h2
        exact ⟨a, xs, rfl, .inl ⟨h3, fun l hl => k _ μ _ (.fresh hl) (s.fresh hl) (.tup (.inl ⟨.inl upd_same, s.out hl, s.outX hl⟩) (h4.up (.fresh hl)))⟩⟩
      cases r with
      | tup f r =>
        cases Option.some.inj e
        exact ⟨_, _, rfl, .inr ⟨f.sq, k _ μ H .refl s (.tup f r)⟩⟩
      | lst f r => exact lst _ rfl (Option.some.inj e)
      | @cell a n ea =>
        cases q : lstOf S (.cell n) with
        | none =>
          have e : (lstOf S (.cell n)).map D.tup = some z := e
          rw [q] at e; exact nomatch e
        | some es =>
          have e : (lstOf S (.cell n)).map D.tup = some z := e
          rw [q] at e; exact lst es q (Option.some.inj e)
      | _ => exact nomatch e
def gList : Sto → List D → Option (List D) := fun S ds => match ds with
  | [d] => seqOf S d
  | _ => none
theorem c_list : CallDL X (fun xs H Q => ∃ p ys, xs = [.ref p] ∧ (SqL X.K H p ys ∨ SqT X.K H p ys) ∧ ∀ l, H l = none → Q (.ref l) (upd H l (.lst ys))) gList := by
  intro ξ μ H S ds vs z Q s r e k
  unfold gList at e
  cases r with
  | nil => exact nomatch e
  | @cons v vs d ds r rr =>
    cases rr with
    | cons _ _ => exact nomatch e
    | nil =>
      obtain ⟨a, xs, rfl, h1, h2⟩ := RD.seqS s r e
      exact ⟨a, xs, rfl, h1, fun l hl => k l xs μ _ (.fresh hl) hl (s.holds hl) (h2.mv (.holds hl)) upd_same⟩
def blsOf : List D → Option (List Bool)
  | [] => some []
  | .bl b :: ds => (blsOf ds).map (b :: ·)
  | _ :: _ => none
theorem bls_of {F : Fx} {μ : List Addr} {H : Hp} : ∀ {vs : List V} {ds : List D} {bs : List Bool}, RDs F μ H vs ds → blsOf ds = some bs → vs = bs.map V.bl
  | _, [], bs, r, e => by cases r; cases e; rfl
  | _, d :: ds, bs, r, e => by
    cases r with
    | cons a b =>
      cases a with
      | bl x =>
        have e : (blsOf ds).map (x :: ·) = some bs := e
        cases q : blsOf ds with
        | none => rw [q] at e; exact nomatch e
        | some cs =>
          rw [q] at e; cases e
          rw [bls_of b q] <;> rfl
      | _ => exact nomatch e
def gAll : Sto → List D → Option D := fun S ds => match ds with
  | [d] => (lstOf S d).bind fun es => (blsOf es).map fun bs => .bl (bs.all id)
  | _ => none
theorem c_all : CallD X (rAll X.K) gAll := by
  intro ξ μ H S ds vs z Q s r e k
  unfold gAll at e
  cases r with
  | nil => exact nomatch e
  | @cons v vs d ds r rr =>
    cases rr with
    | cons _ _ => exact nomatch e
    | nil =>
      simp only at e
      cases q : lstOf S d with
      | none => rw [q] at e; exact nomatch e
      | some es =>
        rw [q] at e
        have e : (blsOf es).map (fun bs => D.bl (bs.all id)) = some z := e
        cases q' : blsOf es with
        | none => rw [q'] at e; exact nomatch e
        | some bs =>
          rw [q'] at e; cases e
          obtain ⟨a, xs, rfl, h1, h2⟩ := RD.lstS s r q
          have e := bls_of h2 q'
          subst e
          exact ⟨a, bs, rfl, h1, k _ μ H .refl s (.bl _)⟩

/-! ### lists put together -/
def mCatL (a b : MA) : MA := fun ρ S => (a ρ S).bind fun xs S1 => (b ρ S1).bind fun ys S2 => if xs.length + ys.length ≤ 16777216 then .ok (xs ++ ys) S2 else .bad
theorem WL'.bindL {F : Fx} {Q : VK} {Q1 : VK} {Wx : Value → Option Addr → Hp → Prop} {μ : List Addr} {H : Hp} {r : Res (List D)} {f : List D → Sto → Res (List D)} (h : WL' F (r.bind f) Q Wx μ H)
    (k : ∀ ds S1 p xs μ1 H1, Up μ H μ1 H1 → H p = none → RS (F.hold p) μ1 H1 S1 → RDs (F.hold p) μ1 H1 xs ds → H1 p = some (.lst xs) → WL' F (f ds S1) Q Wx μ1 H1 → Q1 (.ref p) H1) : WL' F r Q1 Wx μ H := by
  cases r with
  | ok x S1 => exact fun p xs μ1 H1 u1 hp s1 r1 e1 => k x S1 p xs μ1 H1 u1 hp s1 r1 e1 (WL'.shift u1 h)
  | exc c fs S => exact h
  | bad => exact h
theorem XR.hold {F : Fx} {μ : List Addr} {H : Hp} {cls : Value} {dd : Option Addr} {c : Str} {fs : List (Str × D)} {p : Addr} (h : XR (F.hold p) μ H cls dd c fs) : XR F μ H cls dd c fs := by
  obtain ⟨h1, h2⟩ := h
  refine ⟨h1, h2.imp id ?_⟩
  rintro ⟨d, vfs, e, h3, h4, h5⟩
  exact ⟨d, vfs, e, h3, h4, Paired.mapP h5 fun _ _ z => ⟨z.1, z.2.mv .free⟩⟩
theorem dl_cat {na nb : MA} (ha : DL X W a na) (hb : DL X W b nb) : DL X W (.BinOp a .Add b pos) (mCatL na nb) := by
  obtain ⟨ta, pa, ka⟩ := ha
  obtain ⟨tb, pb, kb⟩ := hb
  refine ⟨_, pe_op op_cat pa pb, fun ξ μ σ H ρ S Q g s h => ka ξ μ σ H ρ S _ g s (WL'.bindL h fun ds S1 p xs μ1 H1 u1 hp s1 r1 e1 h1 => ?_)⟩
  refine kb (p :: ξ) μ1 σ H1 ρ S1 _ ?_ s1 ?_
  · exact ⟨g.len, fun i d e => by
      obtain ⟨v, h, r⟩ := (g.up u1).at_ i d e
      obtain ⟨v', h', r'⟩ := g.at_ i d e
      rw [h] at h'; cases h'
      have m : Mv (fx X ξ) μ H ((fx X ξ).hold p) μ1 H1 := ⟨fun {a xs} q => by
        rcases q.up u1 with ⟨z, n, nx⟩ | z
        · rcases q with ⟨z0, _⟩ | z0
          · refine .inl ⟨z, n, fun m => (List.mem_cons.mp m).elim (fun e => ?_) nx⟩
            subst e
            rcases z0 with z0 | ⟨o, z0⟩ <;> (rw [hp] at z0; cases z0)
          · exact .inr z0
        · exact .inr z, fun {a xs} q => by
        rcases q.up u1 with ⟨z, n, nx⟩ | z
        · rcases q with ⟨z0, _⟩ | z0
          · refine .inl ⟨z, n, fun m => (List.mem_cons.mp m).elim (fun e => ?_) nx⟩
            subst e
            rcases z0 with z0 | ⟨o, z0⟩ <;> (rw [hp] at z0; cases z0)
          · exact .inr z0
        · exact .inr z, fun q => u1.get q, rfl⟩
      exact ⟨v, h, r'.mv m⟩⟩
  cases e : nb ρ S1 with
  | bad => rw [e] at h1; exact h1.elim
  | exc c fs S2 =>
    rw [e] at h1
    exact fun cls dd μ' H' u' s' x' => h1 cls dd μ' H' u' (RS.free (F := fx X ξ) (p := p) s') (XR.hold (F := fx X ξ) (p := p) x')
  | ok es S2 =>
    rw [e] at h1
    intro q ys μ2 H2 u2 hq s2 r2 e2
    have hpq : p ∉ μ1 := (s1.xi p List.mem_cons_self).1
    have ep := u2.keep _ _ e1 hpq
    by_cases c : ds.length + es.length ≤ 16777216
    · have h1 : WL' (fx X ξ) (if ds.length + es.length ≤ 16777216 then Res.ok (ds ++ es) S2 else .bad) Q (fun cls dd H' => W cls dd σ H') μ1 H1 := h1
      rw [if_pos c] at h1
      refine ⟨p, q, xs, ys, rfl, rfl, ep, e2, by rw [r1.length, r2.length, sizeLine_eq]; exact c, fun r hr => ?_⟩
      have rr : RDs (fx X ξ) μ2 H2 (xs ++ ys) (ds ++ es) := RDs.append ((r1.mv .free).up u2) ((RDs.free (F := fx X ξ) (p := p) es (RDs.free (F := fx X (p :: ξ)) (p := q) es r2)))
      have ss : RS (fx X ξ) μ2 H2 S2 := RS.free (F := fx X ξ) (p := p) (RS.free (F := fx X (p :: ξ)) (p := q) s2)
      have nr : r ∉ μ1 := fun z => ss.out hr (u2.mem z)
      exact h1 r _ μ2 _ (u2.trans (.fresh hr)) (u2.back hr nr) (ss.holds hr) (rr.mv (.holds hr)) upd_same
    · have h1 : WL' (fx X ξ) (if ds.length + es.length ≤ 16777216 then Res.ok (ds ++ es) S2 else .bad) Q (fun cls dd H' => W cls dd σ H') μ1 H1 := h1
      rw [if_neg c] at h1
      exact h1.elim
end

/-! ### statements -/
def mNop : MS := fun ρ S => .nx ρ S
def mSeq (a b : MS) : MS := fun ρ S => match a ρ S with
  | .nx ρ1 S1 => b ρ1 S1
  | o => o
def ofRes {α : Type} (r : Res α) (ρ : Rho) (k : α → Sto → Out) : Out := match r with
  | .ok a S => k a S
  | .exc c fs S => .exc c fs ρ S
  | .bad => .bad
def mAsg (i : Nat) (m : ME) : MS := fun ρ S => ofRes (m ρ S) ρ fun d S1 => .nx (ρ.set i (some d)) S1
def mRet (m : ME) : MS := fun ρ S => ofRes (m ρ S) ρ fun d S1 => .rt d S1
def mRetN : MS := fun _ S => .rt .non S
def mDrop (m : ME) : MS := fun ρ S => ofRes (m ρ S) ρ fun _ S1 => .nx ρ S1
def mIfS (c : ME) (a b : MS) : MS := fun ρ S => ofRes (c ρ S) ρ fun d S1 => match d with
  | .bl true => a ρ S1
  | .bl false => b ρ S1
  | _ => .bad
def mBrk : MS := fun ρ S => .bk ρ S
def mCont : MS := fun ρ S => .ct ρ S
section
variable {F : Fx} {α β : Type} {rel : List Addr → Hp → β → α → Prop} {μ : List Addr} {H : Hp} {E : Ends} {W : WX} {σ : St} {ρ : Rho}
/-- first r, then the statement's rest -/
theorem WS'.bind {r : Res α} {f : α → Sto → Out} {Q1 : β → Hp → Prop} (g : RG F μ H σ ρ) (h : WS' F (ofRes r ρ f) E W μ H)
    (k : ∀ x S1 v μ1 H1, Up μ H μ1 H1 → RS F μ1 H1 S1 → rel μ1 H1 v x → WS' F (f x S1) E W μ1 H1 → Q1 v H1) : WR F rel r Q1 (fun cls dd H' => W cls dd σ H') μ H := by
  cases r with
  | ok x S1 => exact fun v μ1 H1 u1 s1 r1 => k x S1 v μ1 H1 u1 s1 r1 (WS'.shift u1 h)
  | exc c fs S => exact fun cls dd μ' H' u' s' x' => h cls dd σ μ' H' u' s' (g.up u') x'
  | bad => exact h
theorem WS'.bindT {r : Res D} {f : D → Sto → Out} {Q1 : Bool → Hp → Prop} (g : RG F μ H σ ρ) (h : WS' F (ofRes r ρ f) E W μ H) (hb : ∀ d S, (∀ b, d ≠ .bl b) → f d S = .bad)
    (k : ∀ b S1 μ1 H1, Up μ H μ1 H1 → RS F μ1 H1 S1 → WS' F (f (.bl b) S1) E W μ1 H1 → Q1 b H1) : WT' F r Q1 (fun cls dd H' => W cls dd σ H') μ H := by
  cases r with
  | ok d S1 =>
    have h : WS' F (f d S1) E W μ H := h
    cases d with
    | bl b => exact fun μ1 H1 u1 s1 => k b S1 μ1 H1 u1 s1 (WS'.shift u1 h)
    | _ =>
      rw [hb _ _ (by intro b e; cases e)] at h
      exact h
  | exc c fs S => exact fun cls dd μ' H' u' s' x' => h cls dd σ μ' H' u' s' (g.up u') x'
  | bad => exact h
end
section
variable {X : Cx} {W : WX} {e a b c : Expr} {es : List Expr} {st : Stmt} {sts ts : List Stmt} {ma mb mc m : ME} {mr : MA} {m1 m2 : MS} {pos p p1 p2 p3 : Pos}
theorem dss_nil : DSs X W [] mNop := ⟨_, pss_nil, fun ξ μ σ H ρ S D g s h => h σ μ H .refl s g⟩
theorem WS'.seq {F : Fx} {μ : List Addr} {H : Hp} {D : Ends} {W : WX} {o : Out} {k : Rho → Sto → Out} {u : TS} (h : WS' F (match o with | .nx ρ1 S1 => k ρ1 S1 | o => o) D W μ H)
    (hu : ∀ σ ρ1 S1 μ1 H1, Up μ H μ1 H1 → RS F μ1 H1 S1 → RG F μ1 H1 σ ρ1 → WS' F (k ρ1 S1) D W μ1 H1 → u D σ H1) : WS' F o { D with nx := u D } W μ H := by
  cases o with
  | nx ρ1 S1 => exact fun σ μ1 H1 u1 s1 g1 => hu σ ρ1 S1 μ1 H1 u1 s1 g1 (WS'.shift u1 h)
  | _ => exact h
theorem dss_cons (h1 : DS X W st m1) (h2 : DSs X W sts m2) : DSs X W (st :: sts) (mSeq m1 m2) := by
  obtain ⟨ta, pa, ka⟩ := h1
  obtain ⟨tb, pb, kb⟩ := h2
  exact ⟨_, pss_cons pa pb, fun ξ μ σ H ρ S D g s h => ka ξ μ σ H ρ S _ g s (WS'.seq h fun σ' ρ1 S1 μ1 H1 u1 s1 g1 h1 => kb ξ μ1 σ' H1 ρ1 S1 D g1 s1 h1)⟩
theorem dss_one (h1 : DS X W st m1) : DSs X W [st] m1 := let ⟨_, p, k⟩ := h1; ⟨_, pss_one p, k⟩
theorem ds_pass : DS X W (.Pass pos) mNop := ⟨_, ps_pass, fun ξ μ σ H ρ S D g s h => h σ μ H .refl s g⟩
theorem ds_break : DS X W (.Break pos) mBrk := ⟨_, ps_break, fun ξ μ σ H ρ S D g s h => h σ μ H .refl s g⟩
theorem ds_continue : DS X W (.Continue pos) mCont := ⟨_, ps_continue, fun ξ μ σ H ρ S D g s h => h σ μ H .refl s g⟩
theorem ds_set (i : Nat) {x : Str} {pos' : Pos} (hN : X.N.Nodup) (he : DE X W e m) (hi : X.N[i]? = some x := by rfl) (hx : Loc X.env.scope x := by first | exact Or.inl rfl | exact Or.inr rfl) (hs : swapsWith e (some (.Name x pos')) pos.line X.env = pure false := by rfl)
    (hf : X.fn x = true ∨ X.env.scope.names.lookup x = some .local := by first | exact .inl rfl | exact .inr rfl) : DS X W (.Assign [.Name x pos'] e pos) (mAsg i m) := by
  obtain ⟨te, p, k⟩ := he
  refine ⟨_, ps_set hN hi hx p hs hf, fun ξ μ σ H ρ S D g s h => k ξ μ σ H ρ S _ g s (WS'.bind g h fun x S1 v μ1 H1 u1 s1 r1 h1 => ?_)⟩
  exact h1 _ μ1 H1 .refl s1 ((g.up u1).set i r1)
theorem ds_ret (he : DE X W e m) : DS X W (.Return (some e) pos) (mRet m) := by
  obtain ⟨te, p, k⟩ := he
  exact ⟨_, ps_ret p, fun ξ μ σ H ρ S D g s h => k ξ μ σ H ρ S _ g s (WS'.bind g h fun x S1 v μ1 H1 u1 s1 r1 h1 => h1 _ μ1 H1 .refl s1 r1)⟩
theorem ds_retN : DS X W (.Return none pos) mRetN := ⟨_, ps_retN, fun ξ μ σ H ρ S D g s h => h _ μ H .refl s .non⟩
theorem ds_expr (he : DE X W e m) (hs : swapsWith e none pos.line X.env = pure false := by rfl) : DS X W (.Expr e pos) (mDrop m) := by
  obtain ⟨te, p, k⟩ := he
  exact ⟨_, ps_expr p hs, fun ξ μ σ H ρ S D g s h => k ξ μ σ H ρ S _ g s (WS'.bind g h fun x S1 v μ1 H1 u1 s1 r1 h1 => h1 _ μ1 H1 .refl s1 (g.up u1))⟩
theorem ds_if (hc : DT X W c mc) (ha : DSs X W sts m1) (hb : DSs X W ts m2) : DS X W (.If c sts ts pos) (mIfS mc m1 m2) := by
  obtain ⟨tc, pc, kc⟩ := hc
  obtain ⟨ta, pa, ka⟩ := ha
  obtain ⟨tb, pb, kb⟩ := hb
  refine ⟨_, ps_if pc pa pb, fun ξ μ σ H ρ S D g s h => kc ξ μ σ H ρ S _ g s (WS'.bindT g h (fun d S h => by cases d <;> first | rfl | exact absurd rfl (h _)) fun c S1 μ1 H1 u1 s1 h1 => ?_)⟩
  cases c with
  | true => exact ka ξ μ1 σ H1 ρ S1 D (g.up u1) s1 h1
  | false => exact kb ξ μ1 σ H1 ρ S1 D (g.up u1) s1 h1

/-! ### targets -/
structure DG (X : Cx) (tg : Expr) (f : D → Rho → Option Rho) (is : List Nat) : Prop where
  ex : ∃ t, PG X tg t ∧ ∀ ξ μ σ H ρ v d ρ' (Q : St → Hp → Prop), RG (fx X ξ) μ H σ ρ → RD (fx X ξ) μ H v d → f d ρ = some ρ' →
    (∀ σ', RG (fx X ξ) μ H σ' ρ' → (∀ js : List Nat, (∀ i ∈ is, i ∈ js) → wipe σ' js = wipe σ js) → Q σ' H) → t v σ H Q
structure DGs (X : Cx) (tg : List Expr) (f : List D → Rho → Option Rho) (is : List Nat) : Prop where
  ex : ∃ t, PGs X tg t ∧ ∀ ξ μ σ H ρ vs ds ρ' (Q : St → Hp → Prop), RG (fx X ξ) μ H σ ρ → RDs (fx X ξ) μ H vs ds → f ds ρ = some ρ' →
    (∀ σ', RG (fx X ξ) μ H σ' ρ' → (∀ js : List Nat, (∀ i ∈ is, i ∈ js) → wipe σ' js = wipe σ js) → Q σ' H) → t vs σ H Q
theorem wipe_get (σ : St) (i : Nat) : ∀ js : List Nat, (wipe σ js)[i]? = if i ∈ js ∧ i < σ.length then some none else σ[i]?
  | [] => by simp [wipe]
  | j :: js => by
    unfold wipe
    have ih := wipe_get σ i js
    by_cases hj : j = i
    · subst hj
      by_cases hl : j < σ.length
      · rw [List.getElem?_set_self (by rw [wipe_length]; exact hl), if_pos ⟨List.mem_cons_self, hl⟩]
      · rw [List.getElem?_eq_none (by rw [List.length_set, wipe_length]; omega), if_neg (fun z => hl z.2), List.getElem?_eq_none (by omega)]
    · rw [List.getElem?_set_ne hj, ih]
      have e : (i ∈ j :: js ∧ i < σ.length) ↔ (i ∈ js ∧ i < σ.length) := by
        constructor
        · rintro ⟨z, l⟩
          exact ⟨(List.mem_cons.mp z).resolve_left fun q => hj q.symm, l⟩
        · rintro ⟨z, l⟩
          exact ⟨List.mem_cons_of_mem _ z, l⟩
      by_cases q : i ∈ js ∧ i < σ.length
      · rw [if_pos q, if_pos (e.mpr q)]
      · rw [if_neg q, if_neg fun z => q (e.mp z)]
theorem wipe_set {σ : St} {i : Nat} {o : Option V} {js : List Nat} (h : i ∈ js) : wipe (σ.set i o) js = wipe σ js := by
  refine List.ext_getElem? fun k => ?_
  rw [wipe_get, wipe_get, List.length_set]
  by_cases q : k ∈ js ∧ k < σ.length
  · rw [if_pos q, if_pos q]
  · rw [if_neg q, if_neg q]
    by_cases e : i = k
    · subst e
      have l : ¬ i < σ.length := fun l => q ⟨h, l⟩
      rw [List.getElem?_eq_none (by rw [List.length_set]; omega), List.getElem?_eq_none (by omega)]
    · rw [List.getElem?_set_ne e]
def tgN (i : Nat) : D → Rho → Option Rho := fun d ρ => some (ρ.set i (some d))
theorem dg_name (i : Nat) {x : Str} (hN : X.N.Nodup) (hi : X.N[i]? = some x := by rfl) (hx : Loc X.env.scope x := by first | exact Or.inl rfl | exact Or.inr rfl) (hf : X.fn x = true ∨ X.env.scope.names.lookup x = some .local := by first | exact .inl rfl | exact .inr rfl) : DG X (.Name x pos) (tgN i) [i] :=
  ⟨_, pg_name hN hi hx hf, fun ξ μ σ H ρ v d ρ' Q g r e k => by
    cases e
    exact k _ (g.set i r) fun js h => wipe_set (h i List.mem_cons_self)⟩
def tgNil : List D → Rho → Option Rho := fun ds ρ => match ds with
  | [] => some ρ
  | _ => none
def tgCons (f : D → Rho → Option Rho) (g : List D → Rho → Option Rho) : List D → Rho → Option Rho := fun ds ρ => match ds with
  | d :: ds => (f d ρ).bind fun ρ1 => g ds ρ1
  | [] => none
theorem dgs_nil : DGs X [] tgNil [] := ⟨_, pgs_nil, fun ξ μ σ H ρ vs ds ρ' Q g r e k => by
  cases r with
  | nil => cases e; exact ⟨rfl, k σ g fun _ _ => rfl⟩
  | cons _ _ => exact nomatch e⟩
theorem dgs_cons {f : D → Rho → Option Rho} {fs : List D → Rho → Option Rho} {is js : List Nat} (h1 : DG X e f is) (h2 : DGs X es fs js) (hs : (assignEach (e :: es) X.env).map (·.2) = assign e X.env :: (assignEach es X.env).map (·.2) := by rfl) : DGs X (e :: es) (tgCons f fs) (is ++ js) := by
  obtain ⟨t1, p1, k1⟩ := h1
  obtain ⟨t2, p2, k2⟩ := h2
  refine ⟨_, pgs_cons p1 p2 hs, fun ξ μ σ H ρ vs ds ρ' Q g r e k => ?_⟩
  cases r with
  | nil => exact nomatch e
  | @cons v vs d ds r rr =>
    have e : (f d ρ).bind (fun ρ1 => fs ds ρ1) = some ρ' := e
    cases q : f d ρ with
    | none => rw [q] at e; exact nomatch e
    | some ρ1 =>
      rw [q] at e
      refine ⟨v, vs, rfl, k1 ξ μ σ H ρ v d ρ1 _ g r q fun σ1 g1 w1 => ?_⟩
      refine k2 ξ μ σ1 H ρ1 vs ds ρ' Q g1 rr e fun σ2 g2 w2 => k σ2 g2 fun ks hk => ?_
      rw [w2 ks fun i hi => hk i (List.mem_append_right _ hi), w1 ks fun i hi => hk i (List.mem_append_left _ hi)]
def tgT (n : Nat) (f : List D → Rho → Option Rho) : D → Rho → Option Rho := fun d ρ => match d with
  | .tup ds => if ds.length = n then f ds ρ else none
  | _ => none
theorem dg_tup {k n : Nat} {f : List D → Rho → Option Rho} {is : List Nat} {tp : Pos} (hc : X.calm = true) (h : DGs X es f is) (hn : (assignEach es X.env).length = n := by rfl) (hst : (assignEach es X.env).findIdx? (·.1) = none := by rfl) : DG X (.Tuple es k tp) (tgT n f) is := by
  obtain ⟨t, p, k⟩ := h
  refine ⟨_, pg_tup hc p hn hst, fun ξ μ σ H ρ v d ρ' Q g r e kk => ?_⟩
  cases r with
  | @tup a xs ds fz r =>
    unfold tgT at e
    by_cases c : ds.length = n
    · simp only [if_pos c] at e
      exact ⟨a, xs, rfl, fz.sq, by rw [r.length]; exact c, k ξ μ σ H ρ xs ds ρ' Q g r e kk⟩
    · simp only [if_neg c] at e
      exact nomatch e
  | _ => exact nomatch e
/-- target = e -/
def mAsgG (f : D → Rho → Option Rho) (m : ME) : MS := fun ρ S => ofRes (m ρ S) ρ fun d S1 => match f d ρ with
  | some ρ1 => .nx ρ1 S1
  | none => .bad
theorem ds_asg {tg : Expr} {f : D → Rho → Option Rho} {is : List Nat} (he : DE X W e m) (hg : DG X tg f is) (hs : swapsWithSole [tg] e pos.line X.env = pure false := by rfl) (hw : swappedStores [tg] e X.env = pure none := by rfl) (h1 : (assignEach [tg] X.env).map (·.2) = [assign tg X.env] := by rfl) : DS X W (.Assign [tg] e pos) (mAsgG f m) := by
  obtain ⟨te, p, k⟩ := he
  obtain ⟨tg, pg, kg⟩ := hg
  refine ⟨_, ps_asg p pg hs hw h1, fun ξ μ σ H ρ S D g s h => k ξ μ σ H ρ S _ g s (WS'.bind g h fun x S1 v μ1 H1 u1 s1 r1 h1 => ?_)⟩
  cases q : f x ρ with
  | none => rw [q] at h1; exact h1.elim
  | some ρ1 =>
    rw [q] at h1
    exact kg ξ μ1 σ H1 ρ v x ρ1 _ (g.up u1) r1 q fun σ' g' _ => h1 σ' μ1 H1 .refl s1 g'
/-- o[i] = e, o a list's cell -/
def mSetIx (m o i : ME) : MS := fun ρ S => ofRes (m ρ S) ρ fun d S1 => ofRes (o ρ S1) ρ fun x S2 => ofRes (i ρ S2) ρ fun y S3 => match x, y with
  | .cell n, .int j => match S3[n]? with
    | some (.lst ds) => match ixN ds.length j with
      | some k => .nx ρ (S3.set n (.lst (ds.set k d)))
      | none => .bad
    | _ => .bad
  | _, _ => .bad
theorem ds_setIx {o i : Expr} {mo mi : ME} (he : DE X W e m) (ho : DE X W o mo) (hi : DE X W i mi)
    (ha : ∀ v, assign (.Subscript o i p) X.env v = (do
      let ov ← holding [v] (eval o X.env)
      let iv ← holding [v, ov] (eval i X.env)
      standAt p
      holding [v, ov, iv] (setItem ov iv v)
      release [v, ov, iv] []) := by intro _; rfl) (hs : swapsWithSole [.Subscript o i p] e pos.line X.env = pure false := by rfl) (hw : swappedStores [.Subscript o i p] e X.env = pure none := by rfl) : DS X W (.Assign [.Subscript o i p] e pos) (mSetIx m mo mi) := by
  obtain ⟨te, pe, ke⟩ := he
  obtain ⟨to, po, ko⟩ := ho
  obtain ⟨ti, pi, ki⟩ := hi
  refine ⟨_, ps_asg pe (pg_sub po pi set_list ha) hs hw, fun ξ μ σ H ρ S D g s h => ke ξ μ σ H ρ S _ g s (WS'.bind g h fun d S1 v μ1 H1 u1 s1 r1 h1 => ?_)⟩
  refine ko ξ μ1 σ H1 ρ S1 _ (g.up u1) s1 (WS'.bind (g.up u1) h1 fun x S2 v2 μ2 H2 u2 s2 r2 h2 => ?_)
  refine ki ξ μ2 σ H2 ρ S2 _ (g.up (u1.trans u2)) s2 (WS'.bind (g.up (u1.trans u2)) h2 fun y S3 v3 μ3 H3 u3 s3 r3 h3 => ?_)
  have rd := r1.up (u2.trans u3)
  have rx := r2.up u3
  cases rx with
  | @cell a n ea =>
    cases r3 with
    | int j =>
      simp only at h3
      cases q : S3[n]? with
      | none => rw [q] at h3; exact h3.elim
      | some c =>
        rw [q] at h3
        cases c with
        | lst ds =>
          simp only at h3
          cases q2 : ixN ds.length j with
          | none => rw [q2] at h3; exact h3.elim
          | some k =>
            rw [q2] at h3
            obtain ⟨xs, e1, e2⟩ := s3.at_ n a _ ea q
            refine ⟨a, xs, j, k, rfl, rfl, e1, by rw [e2.length]; exact q2, ?_⟩
            exact h3 σ μ3 _ (.write ea) (s3.write ea ⟨_, upd_same, ((e2.set k rd).up (.write ea))⟩) (g.up (u1.trans (u2.trans (u3.trans (.write ea)))))
        | _ => exact h3.elim
    | _ => exact h3.elim
  | _ => exact h3.elim
/-- o.append(e), o a list's cell -/
def mApp (o m : ME) : MS := fun ρ S => ofRes (o ρ S) ρ fun x S1 => match x with
  | .cell n => match S1[n]? with
    | some (.lst _) => ofRes (m ρ S1) ρ fun d S2 => match S2[n]? with
      | some (.lst ds) => if ds.length < 16777216 then .nx ρ (S2.set n (.lst (ds ++ [d]))) else .bad
      | _ => .bad
    | _ => .bad
  | _ => .bad
theorem ds_app {o : Expr} {mo : ME} (ho : DE X W o mo) (he : DE X W e m) (hp : ∀ {to te : TE}, PE X o to → PE X e te → PS X st (tDrop (tBM X.K "list" rAppend to (tCons te tNil)))) : DS X W st (mApp mo m) := by
  obtain ⟨to, po, ko⟩ := ho
  obtain ⟨te, pe, ke⟩ := he
  refine ⟨_, hp po pe, fun ξ μ σ H ρ S D g s h => ?_⟩
  refine ko ξ μ σ H ρ S _ g s (WS'.bind g h fun x S1 v μ1 H1 u1 s1 r1 h1 => ?_)
  cases r1 with
  | @cell a n ea =>
    simp only at h1
    cases q : S1[n]? with
    | none => rw [q] at h1; exact h1.elim
    | some c =>
      rw [q] at h1
      cases c with
      | lst ds0 =>
        simp only at h1
        obtain ⟨xs0, e1, _⟩ := s1.at_ n a _ ea q
        refine ⟨.inl ⟨rfl, _, SqL.of e1⟩, ?_⟩
        refine ke ξ μ1 σ H1 ρ S1 _ (g.up u1) s1 (WS'.bind (g.up u1) h1 fun d S2 v2 μ2 H2 u2 s2 r2 h2 => ?_)
        cases q2 : S2[n]? with
        | none => simp only [q2] at h2; exact h2.elim
        | some c2 =>
          simp only [q2] at h2
          cases c2 with
          | lst ds =>
            simp only at h2
            by_cases l : ds.length < 16777216
            · rw [if_pos l] at h2
              have ea2 := u2.get ea
              obtain ⟨xs, e2, e3⟩ := s2.at_ n a _ ea2 q2
              refine ⟨a, xs, v2, rfl, rfl, e2, by rw [e3.length, sizeLine_eq]; exact l, ?_⟩
              exact h2 σ μ2 _ (.write ea2) (s2.write ea2 ⟨_, upd_same, (e3.append (.cons r2 .nil)).up (.write ea2)⟩) (g.up (u1.trans (u2.trans (.write ea2))))
            · rw [if_neg l] at h2; exact h2.elim
          | _ => exact h2.elim
      | _ => exact h1.elim
  | _ => exact h1.elim
end
end Dm
-- text DmLoop
namespace Dm
open PySem L2
open PySem.W (Frag)

/-- more may be reserved later -/
structure Ext (F F' : Fx) (H : Hp) : Prop where
  k : F'.K = F.K
  g : F'.mg = F.mg
  x : ∀ a, a ∈ F'.ξ → a ∈ F.ξ ∨ H a = none
theorem Ext.refl {F : Fx} {H : Hp} : Ext F F H := ⟨rfl, rfl, fun _ h => .inl h⟩
theorem Mv.ext {F F' : Fx} {μ μ' : List Addr} {H H' : Hp} (e : Ext F F' H) (u : Up μ H μ' H') : Mv F μ H F' μ' H' := ⟨fun {a xs} q => by
    rcases q.up u with ⟨z, n, nx⟩ | z
    · rcases q with ⟨z0, _⟩ | z0
      · refine .inl ⟨z, n, fun m => ?_⟩
        rcases e.x _ m with q | q
        · exact nx q
        · rcases z0 with z0 | ⟨o, z0⟩ <;> (rw [q] at z0; cases z0)
      · exact .inr (by rw [e.k]; exact z0)
    · exact .inr (by rw [e.k]; exact z), fun {a xs} q => by
    rcases q.up u with ⟨z, n, nx⟩ | z
    · rcases q with ⟨z0, _⟩ | z0
      · refine .inl ⟨z, n, fun m => ?_⟩
        rcases e.x _ m with q | q
        · exact nx q
        · rcases z0 with z0 | ⟨o, z0⟩ <;> (rw [q] at z0; cases z0)
      · exact .inr (by rw [e.k]; exact z0)
    · exact .inr (by rw [e.k]; exact z), fun q => u.get q, e.g⟩

/-- an iterator gives these items -/
def ItOk (F : Fx) (μ : List Addr) (H : Hp) (J : It) (ds : List D) : Prop := ds.length ≤ 16777216 ∧
  ∀ (F' : Fx) (μ' : List Addr) (H' : Hp) (S' : Sto) (i : Nat), Ext F F' H → Up μ H μ' H' → RS F' μ' H' S' → i ≤ ds.length →
    (∀ d, ds[i]? = some d → J.go i H' ∧ ∀ x H'', J.yld i H' x H'' → Up μ' H' μ' H'' ∧ RS F' μ' H'' S' ∧ RD F' μ' H'' x d) ∧ (i = ds.length → J.stop i H')
structure DI (X : Cx) (W : WX) (tg iter : Expr) (m : MA) : Prop where
  ex : ∃ wi, PI X tg iter wi ∧ ∀ ξ μ σ H ρ S R, RG (fx X ξ) μ H σ ρ → RS (fx X ξ) μ H S → WR (fx X ξ) (fun μ H (J : It) (ds : List D) => ItOk (fx X ξ) μ H J ds) (m ρ S) R (fun cls dd H' => W cls dd σ H') μ H → wi σ H R

section
variable {X : Cx} {W : WX} {tg e a b c : Expr} {es : List Expr} {st : Stmt} {sts ts : List Stmt} {ma mb mc m : ME} {mr : MA} {m1 m2 : MS} {pos p p1 p2 p3 : Pos}
def Sized (K : Frag) (H : Hp) : Prop := ∀ a xs, SqL K H a xs ∨ SqT K H a xs → xs.length ≤ 16777216
theorem sized_of {pins : List (Addr × Obj)} {σ : St} {H : Hp} {s : Shared} (I : Inv X pins σ H s) : Sized X.K H := fun a xs h => by
  rcases h with h | h
  · obtain ⟨_, _, _, z⟩ := I.list h
    rw [sizeLine_eq] at z; exact z
  · obtain ⟨_, _, _, z⟩ := I.tuple h
    rw [sizeLine_eq] at z; exact z
theorem piSized {wi : TI} (h : PI X tg e wi) : PI X tg e (fun σ H R => wi σ H fun J H1 => Sized X.K H1 → R J H1) := ⟨fun pins s σ H R I hw =>
  thn (h.run pins s σ H _ I hw) fun v s1 h1 => thn h1 fun itv s2 ⟨it, fp, tn, J, H', a1, a2, a3, a4, a5, a6⟩ => ⟨it, fp, tn, J, H', a1, a2, a3, a4, a5, a6 (sized_of a2)⟩⟩
theorem piOr {wi wj : TI} (h : PI X tg e wi) (h' : PI X tg e wj) : PI X tg e (fun σ H R => wi σ H R ∨ wj σ H R) := ⟨fun pins s σ H R I hw =>
  hw.elim (h.run pins s σ H R I) (h'.run pins s σ H R I)⟩
theorem itt_ok {F : Fx} {μ : List Addr} {H : Hp} {a : Addr} {xs : List V} {ds : List D} (f : FzT F μ H a xs) (r : RDs F μ H xs ds) (z : Sized F.K H) : ItOk F μ H (Itt F.K a) ds := by
  refine ⟨by rw [← r.length]; exact z a xs (.inr f.sq), fun F' μ' H' S' i e u s hi => ⟨fun d hd => ?_, fun hi => ?_⟩⟩
  · obtain ⟨v, h1, h2⟩ := r.get hd
    refine ⟨⟨xs, v, (f.up u).sq, h1⟩, fun x H'' y => ?_⟩
    obtain ⟨e1, y⟩ := y
    subst e1
    have q := y xs (f.up u).sq
    rw [h1] at q; cases q
    exact ⟨.refl, s, h2.mv (.ext e u)⟩
  · exact ⟨xs, (f.up u).sq, by rw [r.length, hi]; exact Nat.le_refl _⟩
theorem itl_ok {F : Fx} {μ : List Addr} {H : Hp} {a : Addr} {xs : List V} {ds : List D} (f : FzL F μ H a xs) (r : RDs F μ H xs ds) (z : Sized F.K H) : ItOk F μ H (Itl F.K a) ds := by
  refine ⟨by rw [← r.length]; exact z a xs (.inl f.sq), fun F' μ' H' S' i e u s hi => ⟨fun d hd => ?_, fun hi => ?_⟩⟩
  · obtain ⟨v, h1, h2⟩ := r.get hd
    refine ⟨⟨xs, v, (f.up u).sq, h1⟩, fun x H'' y => ?_⟩
    obtain ⟨e1, y⟩ := y
    subst e1
    have q := y xs (f.up u).sq
    rw [h1] at q; cases q
    exact ⟨.refl, s, h2.mv (.ext e u)⟩
  · exact ⟨xs, (f.up u).sq, by rw [r.length, hi]; exact Nat.le_refl _⟩
/-- over a tuple, a list that stands still -/
def iSeq (m : ME) : MA := fun ρ S => (m ρ S).bind fun d S1 => match d with
  | .tup ds => .ok ds S1
  | .lst ds => .ok ds S1
  | _ => .bad
theorem di_seq (h : DE X W e m) : DI X W tg e (iSeq m) := by
  obtain ⟨te, pe, k⟩ := h
  refine ⟨_, piOr (piSized (pi_tup pe)) (piSized (pi_list pe)), fun ξ μ σ H ρ S R g s h => ?_⟩
  cases e1 : m ρ S with
  | bad => unfold iSeq at h; rw [e1] at h; exact h.elim
  | exc c fs S1 =>
    unfold iSeq at h; rw [e1] at h
    refine .inl (k ξ μ σ H ρ S _ g s ?_)
    rw [e1]; exact h
  | ok d S1 =>
    cases d with
    | tup ds =>
      refine .inl (k ξ μ σ H ρ S _ g s ?_)
      unfold iSeq at h
      rw [e1] at h ⊢
      intro v μ1 H1 u1 s1 r1
      cases r1 with
      | @tup a xs _ f r => exact ⟨a, rfl, ⟨xs, f.sq⟩, fun z => h _ μ1 H1 u1 s1 (itt_ok f r z)⟩
    | lst ds =>
      refine .inr (k ξ μ σ H ρ S _ g s ?_)
      unfold iSeq at h
      rw [e1] at h ⊢
      intro v μ1 H1 u1 s1 r1
      cases r1 with
      | @lst a xs _ f r => exact ⟨a, rfl, ⟨xs, f.sq⟩, fun z => h _ μ1 H1 u1 s1 (itl_ok f r z)⟩
    | _ => unfold iSeq at h; rw [e1] at h; exact h.elim
/-- over range(n), range(a, n) -/
def rngD (lo : Int) (n : Nat) : List D := (List.range n).map fun (i : Nat) => D.int (lo + i)
theorem rngD_length {lo : Int} {n : Nat} : (rngD lo n).length = n := by unfold rngD; rw [List.length_map, List.length_range]
theorem itr_ok {F : Fx} {μ : List Addr} {H : Hp} {lo : Int} {n : Nat} (hn : n ≤ 16777216) : ItOk F μ H (Itr lo n) (rngD lo n) := by
  refine ⟨by rw [rngD_length]; exact hn, fun F' μ' H' S' i e u s hi => ⟨fun d hd => ?_, fun hi => ?_⟩⟩
  · have hl : i < n := by
      have q := (List.getElem?_eq_some_iff.mp hd).1
      rw [rngD_length] at q; exact q
    refine ⟨hl, fun x H'' y => ?_⟩
    obtain ⟨e1, y⟩ := y
    subst e1
    subst y
    have e2 : d = .int (lo + i) := by
      unfold rngD at hd
      rw [List.getElem?_map, List.getElem?_range hl] at hd
      exact (Option.some.inj hd).symm
    subst e2
    exact ⟨.refl, s, .int _⟩
  · rw [rngD_length] at hi
    exact Nat.le_of_eq hi.symm
noncomputable def iRange1 (a : MA) : MA := fun ρ S => (a ρ S).bind fun ds S1 => match ds with
  | [.int j] => @ite _ (j ≤ 16777216 ∧ -4611686018427387904 ≤ j) (Classical.propDecidable _) (.ok (rngD 0 j.toNat) S1) .bad
  | _ => .bad
theorem di_range1 (ha : DA X W [a] mr) (hm : X.mg "range" = none) (hg : Gl X "range" := by rfl) (hs : starEach [a] X.env = [(false, eval a X.env)] := by rfl) : DI X W tg (.Call (.Name "range" p) [a] [] pos) (iRange1 mr) := by
  obtain ⟨ta, pa, ka⟩ := ha
  refine ⟨_, pi_range1 hg hm pa hs, fun ξ μ σ H ρ S R g s h => ka ξ μ σ H ρ S _ g s (WR.bind h fun ds S1 vs μ1 H1 u1 s1 r1 h1 => ?_)⟩
  cases r1 with
  | nil => exact h1.elim
  | @cons v vs d ds r rr =>
    cases rr with
    | cons _ _ => cases d <;> exact h1.elim
    | nil =>
      cases r with
      | int j =>
        simp only at h1
        by_cases c : j ≤ 16777216 ∧ -4611686018427387904 ≤ j
        · rw [if_pos c] at h1
          exact ⟨j, rfl, by omega, by omega, h1 _ μ1 H1 .refl s1 (itr_ok (by omega))⟩
        · rw [if_neg c] at h1; exact h1.elim
      | _ => exact h1.elim
noncomputable def iRange2 (a : MA) : MA := fun ρ S => (a ρ S).bind fun ds S1 => match ds with
  | [.int i, .int j] => @ite _ (-1000000000000 ≤ i ∧ i ≤ 1000000000000 ∧ -1000000000000 ≤ j ∧ j ≤ 1000000000000 ∧ j - i ≤ 16777216) (Classical.propDecidable _) (.ok (rngD i (j - i).toNat) S1) .bad
  | _ => .bad
theorem di_range2 (ha : DA X W [a, b] mr) (hm : X.mg "range" = none) (hg : Gl X "range" := by rfl) (hs : starEach [a, b] X.env = [(false, eval a X.env), (false, eval b X.env)] := by rfl) (hs2 : starEach [b] X.env = [(false, eval b X.env)] := by rfl) :
    DI X W tg (.Call (.Name "range" p) [a, b] [] pos) (iRange2 mr) := by
  obtain ⟨ta, pa, ka⟩ := ha
  refine ⟨_, pi_range2 hg hm pa hs hs2, fun ξ μ σ H ρ S R g s h => ka ξ μ σ H ρ S _ g s (WR.bind h fun ds S1 vs μ1 H1 u1 s1 r1 h1 => ?_)⟩
  cases r1 with
  | nil => exact h1.elim
  | @cons v vs d ds r rr =>
    cases rr with
    | nil => cases d <;> exact h1.elim
    | @cons v2 vs2 d2 ds2 r2 rr2 =>
      cases rr2 with
      | cons _ _ => cases d <;> cases d2 <;> exact h1.elim
      | nil =>
        cases r with
        | int i =>
          cases r2 with
          | int j =>
            simp only at h1
            by_cases c : -1000000000000 ≤ i ∧ i ≤ 1000000000000 ∧ -1000000000000 ≤ j ∧ j ≤ 1000000000000 ∧ j - i ≤ 16777216
            · rw [if_pos c] at h1
              exact ⟨i, j, rfl, ⟨by omega, by omega, by omega, by omega⟩, h1 _ μ1 H1 .refl s1 (itr_ok (by omega))⟩
            · rw [if_neg c] at h1; exact h1.elim
          | _ => exact h1.elim
        | _ => exact h1.elim

/-! ### for -/
def forL (f : D → Rho → Option Rho) (mb : MS) : List D → Rho → Sto → Out
  | [], ρ, S => .nx ρ S
  | d :: r, ρ, S => match f d ρ with
    | none => .bad
    | some ρ1 => match mb ρ1 S with
      | .nx ρ2 S2 => forL f mb r ρ2 S2
      | .ct ρ2 S2 => forL f mb r ρ2 S2
      | .bk ρ2 S2 => .nx ρ2 S2
      | .rt d S2 => .rt d S2
      | .exc c fs ρ2 S2 => .exc c fs ρ2 S2
      | .bad => .bad
def mFor (mi : MA) (f : D → Rho → Option Rho) (mb : MS) : MS := fun ρ S => ofRes (mi ρ S) ρ fun ds S1 => forL f mb ds ρ S1
theorem ds_for {f : D → Rho → Option Rho} {is : List Nat} {mb : MS} (hp : PassesOwn (model X.prog X.w) X.A X.env X.xe) (hc : X.calm = true) (hi : DI X W tg e mr) (hg : DG X tg f is) (hb : DSs X W sts mb)
    (hs : ∀ x, foldedSetIterable e X.env x = pure x := by intro _; rfl) : DS X W (.For tg e sts [] pos) (mFor mr f mb) := by
  obtain ⟨wi, pi, ki⟩ := hi
  obtain ⟨tg', pg, kg⟩ := hg
  obtain ⟨tb, pb, kb⟩ := hb
  refine ⟨_, ps_for hp hc pi pg pb hs, fun ξ μ σ H ρ S D g s h => ki ξ μ σ H ρ S _ g s (WS'.bind g h fun ds S1 J μ1 H1 u1 s1 r1 h1 => ?_)⟩
  refine ⟨fun i m σ' H' => ∃ μ' ρ' S', Up μ1 H1 μ' H' ∧ RS (fx X ξ) μ' H' S' ∧ RG (fx X ξ) μ' H' σ' ρ' ∧ i ≤ ds.length ∧ m = ds.length - i ∧ WS' (fx X ξ) (forL f mb (ds.drop i) ρ' S') D W μ' H',
    ⟨_, μ1, ρ, S1, .refl, s1, g.up u1, Nat.zero_le _, rfl, by rw [List.drop_zero]; exact h1⟩, ?_⟩
  rintro i m σ' H' ⟨μ', ρ', S', u', s', g', hi, rfl, w⟩
  obtain ⟨t1, t2⟩ := r1.2 (fx X ξ) μ' H' S' i .refl u' s' hi
  by_cases hl : i < ds.length
  · have hd : ds[i]? = some ds[i] := List.getElem?_eq_getElem hl
    obtain ⟨go, yl⟩ := t1 _ hd
    rw [List.drop_eq_getElem_cons hl] at w
    unfold forL at w
    cases ef : f ds[i] ρ' with
    | none => rw [ef] at w; exact w.elim
    | some ρ1 =>
      rw [ef] at w
      simp only at w
      refine .inr ⟨go, fun σ2 H2 => ∃ μ' ρ' S', Up μ1 H1 μ' H2 ∧ RS (fx X ξ) μ' H2 S' ∧ RG (fx X ξ) μ' H2 σ2 ρ' ∧ WS' (fx X ξ) (forL f mb (ds.drop (i + 1)) ρ' S') D W μ' H2,
        fun σ2 H2 ⟨μ2, ρ2, S2, a1, a2, a3, a4⟩ => ⟨_, by omega, μ2, ρ2, S2, a1, a2, a3, hl, rfl, a4⟩, fun x H2 y => ?_⟩
      obtain ⟨u2, s2, r2⟩ := yl x H2 y
      refine kg ξ μ' σ' H2 ρ' x _ ρ1 _ (g'.up u2) r2 ef fun σ2 g2 _ => ?_
      refine kb ξ μ' σ2 H2 ρ1 S' _ g2 s2 ?_
      have w := WS'.shift u2 w
      cases eb : mb ρ1 S' with
      | nx ρ2 S2 =>
        rw [eb] at w
        exact fun σ3 μ3 H3 u3 s3 g3 => ⟨μ3, ρ2, S2, u'.trans (u2.trans u3), s3, g3, w.shift u3⟩
      | ct ρ2 S2 =>
        rw [eb] at w
        exact fun σ3 μ3 H3 u3 s3 g3 => ⟨μ3, ρ2, S2, u'.trans (u2.trans u3), s3, g3, w.shift u3⟩
      | bk ρ2 S2 => rw [eb] at w; exact w
      | rt d S2 => rw [eb] at w; exact w
      | exc c fs ρ2 S2 => rw [eb] at w; exact w
      | bad => rw [eb] at w; exact w
  · have e : i = ds.length := by omega
    rw [e, List.drop_length] at w
    exact .inl ⟨t2 e, w σ' μ' H' .refl s' g'⟩

/-! ### for over a list's cell, as it stands at each turn -/
def forC (n : Nat) (f : D → Rho → Option Rho) (mb : MS) : Nat → Nat → Rho → Sto → Out
  | 0, _, _, _ => .bad
  | k + 1, i, ρ, S => match S[n]? with
    | some (.lst ds) => match ds[i]? with
      | none => if i = ds.length then .nx ρ S else .bad
      | some d => match f d ρ with
        | none => .bad
        | some ρ1 => match mb ρ1 S with
          | .nx ρ2 S2 => forC n f mb k (i + 1) ρ2 S2
          | .ct ρ2 S2 => forC n f mb k (i + 1) ρ2 S2
          | .bk ρ2 S2 => .nx ρ2 S2
          | .rt d S2 => .rt d S2
          | .exc c fs ρ2 S2 => .exc c fs ρ2 S2
          | .bad => .bad
    | _ => .bad
def mForC (m : ME) (f : D → Rho → Option Rho) (mb : MS) : MS := fun ρ S => ofRes (m ρ S) ρ fun d S1 => match d with
  | .cell n => match S1[n]? with
    | some (.lst ds) => forC n f mb (ds.length + 1) 0 ρ S1
    | _ => .bad
  | _ => .bad
theorem ds_forC {f : D → Rho → Option Rho} {is : List Nat} {mb : MS} (hp : PassesOwn (model X.prog X.w) X.A X.env X.xe) (hc : X.calm = true) (hi : DE X W e m) (hg : DG X tg f is) (hb : DSs X W sts mb)
    (hs : ∀ x, foldedSetIterable e X.env x = pure x := by intro _; rfl) : DS X W (.For tg e sts [] pos) (mForC m f mb) := by
  obtain ⟨te, pe, ke⟩ := hi
  obtain ⟨tg', pg, kg⟩ := hg
  obtain ⟨tb, pb, kb⟩ := hb
  refine ⟨_, ps_for hp hc (pi_list pe) pg pb hs, fun ξ μ σ H ρ S D g s h => ke ξ μ σ H ρ S _ g s (WS'.bind g h fun d S1 v μ1 H1 u1 s1 r1 h1 => ?_)⟩
  cases r1 with
  | @cell a n ea =>
    simp only at h1
    cases q : S1[n]? with
    | none => rw [q] at h1; exact h1.elim
    | some c =>
      rw [q] at h1
      cases c with
      | lst ds =>
        simp only at h1
        obtain ⟨xs, e1, _⟩ := s1.at_ n a _ ea q
        refine ⟨a, rfl, ⟨xs, SqL.of e1⟩, ?_⟩
        refine ⟨fun i k σ' H' => ∃ μ' ρ' S', Up μ1 H1 μ' H' ∧ RS (fx X ξ) μ' H' S' ∧ RG (fx X ξ) μ' H' σ' ρ' ∧ WS' (fx X ξ) (forC n f mb k i ρ' S') D W μ' H',
          ⟨_, μ1, ρ, S1, .refl, s1, g.up u1, h1⟩, ?_⟩
        rintro i k σ' H' ⟨μ', ρ', S', u', s', g', w⟩
        cases k with
        | zero => exact w.elim
        | succ k =>
          unfold forC at w
          have ea' := u'.get ea
          cases q' : S'[n]? with
          | none => rw [q'] at w; exact w.elim
          | some c' =>
            rw [q'] at w
            cases c' with
            | lst es =>
              simp only at w
              obtain ⟨ys, e2, e3⟩ := s'.at_ n a _ ea' q'
              cases q2 : es[i]? with
              | none =>
                rw [q2] at w
                simp only at w
                by_cases hi : i = es.length
                · rw [if_pos hi] at w
                  exact .inl ⟨⟨ys, SqL.of e2, by rw [e3.length, hi]; exact Nat.le_refl _⟩, w σ' μ' H' .refl s' g'⟩
                · rw [if_neg hi] at w; exact w.elim
              | some d =>
                rw [q2] at w
                simp only at w
                cases ef : f d ρ' with
                | none => rw [ef] at w; exact w.elim
                | some ρ1 =>
                  rw [ef] at w
                  simp only at w
                  obtain ⟨v, h2, h3⟩ := e3.get q2
                  refine .inr ⟨⟨ys, v, SqL.of e2, h2⟩, fun σ2 H2 => ∃ μ' ρ' S', Up μ1 H1 μ' H2 ∧ RS (fx X ξ) μ' H2 S' ∧ RG (fx X ξ) μ' H2 σ2 ρ' ∧ WS' (fx X ξ) (forC n f mb k (i + 1) ρ' S') D W μ' H2,
                    fun σ2 H2 z => ⟨k, Nat.lt_succ_self k, z⟩, fun x H2 y => ?_⟩
                  obtain ⟨y1, y⟩ := y
                  subst y1
                  have q := y ys (SqL.of e2)
                  rw [h2] at q; cases q
                  refine kg ξ μ' σ' H2 ρ' v d ρ1 _ g' h3 ef fun σ2 g2 _ => ?_
                  refine kb ξ μ' σ2 H2 ρ1 S' _ g2 s' ?_
                  cases eb : mb ρ1 S' with
                  | nx ρ2 S2 =>
                    rw [eb] at w
                    exact fun σ3 μ3 H3 u3 s3 g3 => ⟨μ3, ρ2, S2, u'.trans u3, s3, g3, w.shift u3⟩
                  | ct ρ2 S2 =>
                    rw [eb] at w
                    exact fun σ3 μ3 H3 u3 s3 g3 => ⟨μ3, ρ2, S2, u'.trans u3, s3, g3, w.shift u3⟩
                  | bk ρ2 S2 => rw [eb] at w; exact w
                  | rt d S2 => rw [eb] at w; exact w
                  | exc c fs ρ2 S2 => rw [eb] at w; exact w
                  | bad => rw [eb] at w; exact w
            | _ => exact w.elim
      | _ => exact h1.elim
  | _ => exact h1.elim

/-! ### while -/
def whileL (mc : ME) (mb : MS) : Nat → Rho → Sto → Out
  | 0, _, _ => .bad
  | k + 1, ρ, S => ofRes (mc ρ S) ρ fun d S1 => match d with
    | .bl true => match mb ρ S1 with
      | .nx ρ2 S2 => whileL mc mb k ρ2 S2
      | .ct ρ2 S2 => whileL mc mb k ρ2 S2
      | .bk ρ2 S2 => .nx ρ2 S2
      | .rt d S2 => .rt d S2
      | .exc c fs ρ2 S2 => .exc c fs ρ2 S2
      | .bad => .bad
    | .bl false => .nx ρ S1
    | _ => .bad
theorem ds_while (n : Nat) {mb : MS} (hp : PassesOwn (model X.prog X.w) X.A X.env X.xe) (hc : DT X W c mc) (hb : DSs X W sts mb) : DS X W (.While c sts [] pos) (whileL mc mb n) := by
  obtain ⟨tc, pc, kc⟩ := hc
  obtain ⟨tb, pb, kb⟩ := hb
  refine ⟨_, ps_while hp pc pb, fun ξ μ σ H ρ S D g s h => ?_⟩
  refine ⟨fun k σ' H' => ∃ μ' ρ' S', Up μ H μ' H' ∧ RS (fx X ξ) μ' H' S' ∧ RG (fx X ξ) μ' H' σ' ρ' ∧ WS' (fx X ξ) (whileL mc mb k ρ' S') D W μ' H', ⟨n, μ, ρ, S, .refl, s, g, h⟩, ?_⟩
  rintro k σ' H' ⟨μ', ρ', S', u', s', g', w⟩
  cases k with
  | zero => exact w.elim
  | succ k =>
    unfold whileL at w
    refine kc ξ μ' σ' H' ρ' S' _ g' s' (WS'.bindT g' w (fun d S h => by cases d <;> first | rfl | exact absurd rfl (h _)) fun b S1 μ1 H1 u1 s1 h1 => ?_)
    cases b with
    | false => exact h1 σ' μ1 H1 .refl s1 (g'.up u1)
    | true =>
      refine ⟨fun σ2 H2 => ∃ μ' ρ' S', Up μ H μ' H2 ∧ RS (fx X ξ) μ' H2 S' ∧ RG (fx X ξ) μ' H2 σ2 ρ' ∧ WS' (fx X ξ) (whileL mc mb k ρ' S') D W μ' H2, fun σ2 H2 z => ⟨k, Nat.lt_succ_self k, z⟩, ?_⟩
      refine kb ξ μ1 σ' H1 ρ' S1 _ (g'.up u1) s1 ?_
      simp only at h1
      cases eb : mb ρ' S1 with
      | nx ρ2 S2 =>
        rw [eb] at h1
        exact fun σ3 μ3 H3 u3 s3 g3 => ⟨μ3, ρ2, S2, u'.trans (u1.trans u3), s3, g3, h1.shift u3⟩
      | ct ρ2 S2 =>
        rw [eb] at h1
        exact fun σ3 μ3 H3 u3 s3 g3 => ⟨μ3, ρ2, S2, u'.trans (u1.trans u3), s3, g3, h1.shift u3⟩
      | bk ρ2 S2 => rw [eb] at h1; exact h1
      | rt d S2 => rw [eb] at h1; exact h1
      | exc c fs ρ2 S2 => rw [eb] at h1; exact h1
      | bad => rw [eb] at h1; exact h1
end

/-! ### comprehensions -/
def wipeD (ρ : Rho) : List Nat → Rho
  | [] => ρ
  | v :: vs => (wipeD ρ vs).set v none
theorem RG.wipe {F : Fx} {μ : List Addr} {H : Hp} {σ : St} {ρ : Rho} (g : RG F μ H σ ρ) : ∀ vs : List Nat, RG F μ H (L2.wipe σ vs) (wipeD ρ vs)
  | [] => g
  | v :: vs => (RG.wipe g vs).forget (σ' := σ) v
def lcL (f : D → Rho → Option Rho) (mt me : ME) (ρ : Rho) : List D → Sto → Option (List D × Sto)
  | [], S => some ([], S)
  | d :: r, S => match f d ρ with
    | none => none
    | some ρ1 => match mt ρ1 S with
      | .ok (.bl true) S1 => match me ρ1 S1 with
        | .ok y S2 => match lcL f mt me ρ r S2 with
          | some (ys, S3) => some (y :: ys, S3)
          | none => none
        | _ => none
      | .ok (.bl false) S1 => lcL f mt me ρ r S1
      | _ => none
def mLc (mi : MA) (f : D → Rho → Option Rho) (mt me : ME) (vs : List Nat) : MA := fun ρ S => (mi ρ S).bind fun ds S1 => match lcL f mt me (wipeD ρ vs) ds S1 with
  | some (ys, S2) => .ok ys S2
  | none => .bad
def mYes : ME := fun _ S => .ok (.bl true) S
abbrev W0 : WX := fun _ _ _ _ => False
structure DTs (X : Cx) (W : WX) (es : List Expr) (m : ME) : Prop where
  ex : ∃ te, PTs X es te ∧ ∀ ξ μ σ H ρ S Q, RG (fx X ξ) μ H σ ρ → RS (fx X ξ) μ H S → WT' (fx X ξ) (m ρ S) Q (fun cls dd H' => W cls dd σ H') μ H → te σ H Q
section
variable {X : Cx} {W : WX} {tg e a b c : Expr} {es : List Expr} {st : Stmt} {sts ts : List Stmt} {ma mb mc m : ME} {mr : MA} {m1 m2 : MS} {pos p p1 p2 p3 : Pos}
theorem dts_nil : DTs X W [] mYes := ⟨_, pts_nil, fun ξ μ σ H ρ S Q g s h => h μ H .refl s⟩
theorem dts_one (h : DT X W c mc) : DTs X W [c] mc := let ⟨_, p, k⟩ := h; ⟨_, pts_one p, k⟩
/-- one word for all contexts of a family -/
theorem de_all {ι : Type} {Xf : ι → Cx} {e : Expr} {m : ME} {K : Frag} {mg : Str → Option Value} (hK : ∀ i, (Xf i).K = K) (hg : ∀ i, (Xf i).mg = mg) (h : ∀ i, DE (Xf i) W e m) :
    ∃ te, (∀ i, PE (Xf i) e te) ∧ ∀ ξ μ σ H ρ S Q, RG ⟨K, mg, ξ⟩ μ H σ ρ → RS ⟨K, mg, ξ⟩ μ H S → WE' ⟨K, mg, ξ⟩ (m ρ S) Q (fun cls dd H' => W cls dd σ H') μ H → te σ H Q := by
  refine ⟨fun σ H Q => ∀ i, ∃ te, PE (Xf i) e te ∧ te σ H Q, fun i => ⟨fun pins s σ H Q I hw => ?_⟩, fun ξ μ σ H ρ S Q g s hw i => ?_⟩
  · obtain ⟨te, p, q⟩ := hw i
    exact p.run pins s σ H Q I q
  · obtain ⟨te, p, k⟩ := h i
    refine ⟨te, p, k ξ μ σ H ρ S Q ?_ ?_ ?_⟩
    all_goals (unfold fx; rw [hK, hg]; assumption)
theorem dts_all {ι : Type} {Xf : ι → Cx} {es : List Expr} {m : ME} {K : Frag} {mg : Str → Option Value} (hK : ∀ i, (Xf i).K = K) (hg : ∀ i, (Xf i).mg = mg) (h : ∀ i, DTs (Xf i) W es m) :
    ∃ te, (∀ i, PTs (Xf i) es te) ∧ ∀ ξ μ σ H ρ S Q, RG ⟨K, mg, ξ⟩ μ H σ ρ → RS ⟨K, mg, ξ⟩ μ H S → WT' ⟨K, mg, ξ⟩ (m ρ S) Q (fun cls dd H' => W cls dd σ H') μ H → te σ H Q := by
  refine ⟨fun σ H Q => ∀ i, ∃ te, PTs (Xf i) es te ∧ te σ H Q, fun i => ⟨fun pins s σ H Q I hw => ?_⟩, fun ξ μ σ H ρ S Q g s hw i => ?_⟩
  · obtain ⟨te, p, q⟩ := hw i
    exact p.run pins s σ H Q I q
  · obtain ⟨te, p, k⟩ := h i
    refine ⟨te, p, k ξ μ σ H ρ S Q ?_ ?_ ?_⟩
    all_goals (unfold fx; rw [hK, hg]; assumption)
theorem dg_all {ι : Type} {Xf : ι → Cx} {tg : Expr} {f : D → Rho → Option Rho} {is : List Nat} {K : Frag} {mg : Str → Option Value} (hK : ∀ i, (Xf i).K = K) (hg : ∀ i, (Xf i).mg = mg) (h : ∀ i, DG (Xf i) tg f is) :
    ∃ t, (∀ i, PG (Xf i) tg t) ∧ ∀ ξ μ σ H ρ v d ρ' (Q : St → Hp → Prop), RG ⟨K, mg, ξ⟩ μ H σ ρ → RD ⟨K, mg, ξ⟩ μ H v d → f d ρ = some ρ' →
    (∀ σ', RG ⟨K, mg, ξ⟩ μ H σ' ρ' → (∀ js : List Nat, (∀ i ∈ is, i ∈ js) → wipe σ' js = wipe σ js) → Q σ' H) → t v σ H Q := by
  refine ⟨fun v σ H Q => ∀ i, ∃ t, PG (Xf i) tg t ∧ t v σ H Q, fun i => ⟨fun pins s σ H v u Q I r hw => ?_⟩, fun ξ μ σ H ρ v d ρ' Q g r e k i => ?_⟩
  · obtain ⟨t, p, q⟩ := hw i
    exact p.run pins s σ H v u Q I r q
  · obtain ⟨t, p, kk⟩ := h i
    refine ⟨t, p, kk ξ μ σ H ρ v d ρ' Q ?_ ?_ e fun σ' g' w => k σ' ?_ w⟩
    · unfold fx; rw [hK, hg]; exact g
    · unfold fx; rw [hK, hg]; exact r
    · have g'' := g'
      unfold fx at g''
      rw [hK, hg] at g''
      exact g''
abbrev Blk := Shared × Hp × Addr × List (Str × Addr) × List Addr
abbrev blkOf (X : Cx) (scope : Scope) (i : Blk) : Cx := X.blk i.1 i.2.1 scope (compEnvC scope i.2.2.2.1 i.2.2.1 X.env) i.2.2.2.2
/-- the reading of a comprehension -/
theorem lc_read {wi : TI} {tg' : TG} {tt : TT} {te : TE} {f : D → Rho → Option Rho} {is vs : List Nat} {ξ μ : List Addr} {σ : St} {H : Hp} {ρ : Rho} {S : Sto} {Q : VK} {Wx : Value → Option Addr → Hp → Prop} {mi : MA} {mt me : ME}
    (ki : ∀ R, WR (fx X ξ) (fun μ H (J : It) (ds : List D) => ItOk (fx X ξ) μ H J ds) (mi ρ S) R Wx μ H → wi σ H R)
    (kg : ∀ ξ μ σ H ρ v d ρ' (Q : St → Hp → Prop), RG (fx X ξ) μ H σ ρ → RD (fx X ξ) μ H v d → f d ρ = some ρ' → (∀ σ', RG (fx X ξ) μ H σ' ρ' → (∀ js : List Nat, (∀ i ∈ is, i ∈ js) → wipe σ' js = wipe σ js) → Q σ' H) → tg' v σ H Q)
    (kt : ∀ ξ μ σ H ρ S Q, RG (fx X ξ) μ H σ ρ → RS (fx X ξ) μ H S → WT' (fx X ξ) (mt ρ S) Q (fun cls dd H' => W0 cls dd σ H') μ H → tt σ H Q)
    (ke : ∀ ξ μ σ H ρ S Q, RG (fx X ξ) μ H σ ρ → RS (fx X ξ) μ H S → WE' (fx X ξ) (me ρ S) Q (fun cls dd H' => W0 cls dd σ H') μ H → te σ H Q)
    (hv : ∀ i ∈ is, i ∈ vs) (g : RG (fx X ξ) μ H σ ρ) (s : RS (fx X ξ) μ H S) (h : WL' (fx X ξ) (mLc mi f mt me vs ρ S) Q Wx μ H) : tLc wi tg' tt te vs σ H Q := by
  refine ki _ (WL'.bind h fun ds S1 J μ1 H1 u1 s1 r1 h1 => ?_)
  intro D hD
  obtain ⟨hz, r1⟩ := r1
  have n1 : D ∉ μ1 := s1.out hD
  have x1 : D ∉ ξ := s1.outX hD
  have ext : Ext (fx X ξ) ((fx X ξ).hold D) H1 := ⟨rfl, rfl, fun a ha => (List.mem_cons.mp ha).elim (fun z => .inr (by rw [z]; exact hD)) .inl⟩
  have main : WL' (fx X ξ) (match lcL f mt me (wipeD ρ vs) ds S1 with
    | some (ys, S2) => Res.ok ys S2
    | none => .bad) Q Wx μ1 H1 := h1
  refine ⟨fun i m H' => ∃ μ' S' acc dacc, Up μ1 H1 μ' H' ∧ RS ((fx X ξ).hold D) μ' H' S' ∧ H' D = some (.lst acc) ∧ RDs ((fx X ξ).hold D) μ' H' acc dacc ∧ acc.length ≤ i ∧ i ≤ ds.length ∧ m = ds.length - i ∧
      ∃ ys S2, lcL f mt me (wipeD ρ vs) (ds.drop i) S' = some (ys, S2) ∧ ∀ μ2 H2 xs, Up μ1 H1 μ2 H2 → RS ((fx X ξ).hold D) μ2 H2 S2 → RDs ((fx X ξ).hold D) μ2 H2 xs (dacc ++ ys) → H2 D = some (.lst xs) → Q (.ref D) H2,
    ⟨_, μ1, S1, [], [], .fresh hD, s1.holds hD, upd_same, .nil, Nat.le_refl _, Nat.zero_le _, rfl, ?_⟩, ?_⟩
  · rw [List.drop_zero]
    cases q : lcL f mt me (wipeD ρ vs) ds S1 with
    | none => rw [q] at main; exact main.elim
    | some r =>
      obtain ⟨ys, S2⟩ := r
      rw [q] at main
      exact ⟨ys, S2, rfl, fun μ2 H2 xs u2 s2 r2 e2 => main D xs μ2 H2 u2 hD s2 r2 e2⟩
  rintro i m H' ⟨μ', S', acc, dacc, u', s', hacc, racc, hla, hi, rfl, ys, S2, eL, fin⟩
  obtain ⟨t1, t2⟩ := r1 ((fx X ξ).hold D) μ' H' S' i ext u' s' hi
  by_cases hl : i < ds.length
  · obtain ⟨go, yl⟩ := t1 _ (List.getElem?_eq_getElem hl)
    rw [List.drop_eq_getElem_cons hl] at eL
    unfold lcL at eL
    cases ef : f ds[i] (wipeD ρ vs) with
    | none => rw [ef] at eL; exact nomatch eL
    | some ρ1 =>
      rw [ef] at eL
      simp only at eL
      refine .inr ⟨go, fun H2 => ∃ μ' S' acc dacc, Up μ1 H1 μ' H2 ∧ RS ((fx X ξ).hold D) μ' H2 S' ∧ H2 D = some (.lst acc) ∧ RDs ((fx X ξ).hold D) μ' H2 acc dacc ∧ acc.length ≤ i + 1 ∧
          ∃ ys S2, lcL f mt me (wipeD ρ vs) (ds.drop (i + 1)) S' = some (ys, S2) ∧ ∀ μ2 H2 xs, Up μ1 H1 μ2 H2 → RS ((fx X ξ).hold D) μ2 H2 S2 → RDs ((fx X ξ).hold D) μ2 H2 xs (dacc ++ ys) → H2 D = some (.lst xs) → Q (.ref D) H2,
        fun H2 ⟨μ2, S3, acc2, dacc2, a1, a2, a3, a4, a5, a6⟩ => ⟨_, by omega, μ2, S3, acc2, dacc2, a1, a2, a3, a4, a5, hl, rfl, a6⟩, fun x H2 y => ?_⟩
      obtain ⟨u2, s2, r2⟩ := yl x H2 y
      have g2 : RG (fx X (D :: ξ)) μ' H2 (wipe σ vs) (wipeD ρ vs) := (((g.up u1).mv (.ext ext (u'.trans u2)))).wipe vs
      refine kg (D :: ξ) μ' (wipe σ vs) H2 (wipeD ρ vs) x _ ρ1 _ g2 r2 ef fun σ3 g3 w3 => ?_
      have nD : D ∉ μ' := (s'.xi D List.mem_cons_self).1
      have eD : H2 D = some (.lst acc) := u2.keep _ _ hacc nD
      have ww : wipe (wipe σ vs) vs = wipe σ vs := by
        refine List.ext_getElem? fun k => ?_
        rw [wipe_get, wipe_get, wipe_length]
        by_cases q : k ∈ vs ∧ k < σ.length
        · rw [if_pos q, if_pos q]
        · rw [if_neg q, if_neg q]
      refine ⟨by rw [w3 vs hv, ww], ?_⟩
      refine kt (D :: ξ) μ' σ3 H2 ρ1 S' _ g3 s2 ?_
      have racc2 := racc.up u2
      cases et : mt ρ1 S' with
      | bad => rw [et] at eL; exact nomatch eL
      | exc c fs S3 => rw [et] at eL; exact nomatch eL
      | ok d S3 =>
        rw [et] at eL
        cases d with
        | bl b =>
          intro μ3 H3 u3 s3
          have eD3 : H3 D = some (.lst acc) := u3.keep _ _ eD nD
          cases b with
          | false =>
            exact ⟨μ3, S3, acc, dacc, u'.trans (u2.trans u3), s3, eD3, racc2.up u3, Nat.le_succ_of_le hla, ys, S2, eL, fin⟩
          | true =>
            simp only at eL
            refine ke (D :: ξ) μ3 σ3 H3 ρ1 S3 _ (g3.up u3) s3 ?_
            cases ee : me ρ1 S3 with
            | bad => rw [ee] at eL; exact nomatch eL
            | exc c fs S4 => rw [ee] at eL; exact nomatch eL
            | ok y S4 =>
              rw [ee] at eL
              intro v μ4 H4 u4 s4 r4
              simp only at eL
              cases er : lcL f mt me (wipeD ρ vs) (ds.drop (i + 1)) S4 with
              | none => rw [er] at eL; exact nomatch eL
              | some q =>
                obtain ⟨zs, S5⟩ := q
                rw [er] at eL
                cases eL
                have nD3 : D ∉ μ3 := (s3.xi D List.mem_cons_self).1
                have eD4 : H4 D = some (.lst acc) := u4.keep _ _ eD3 nD3
                refine ⟨acc, eD4, by rw [sizeLine_eq]; omega, μ4, S4, acc ++ [v], dacc ++ [y], ?_, RS.wr (F := fx X ξ) (p := D) s4, upd_same, RDs.mv (Mv.wr (F := fx X ξ) (p := D)) _ (RDs.append (F := (fx X ξ).hold D) ((racc2.up u3).up u4) (.cons r4 .nil)), by rw [List.length_append, List.length_singleton]; omega, zs, S2, er, fun μ5 H5 xs u5 s5 r5 e5 => fin μ5 H5 xs u5 s5 (by rw [List.append_assoc] at r5; exact r5) e5⟩
                have U := u'.trans (u2.trans (u3.trans u4))
                exact ⟨U.pre, U.new, fun a o ha na => by
                  rw [upd_ne (ne_of_none ha hD)]
                  exact U.keep a o ha na⟩
        | _ => exact nomatch eL
  · have e : i = ds.length := by omega
    rw [e, List.drop_length] at eL
    cases eL
    exact .inl ⟨t2 e, fin μ' H' acc u' s' (by rw [List.append_nil]; exact racc) hacc⟩
theorem dl_lc {elt : Expr} {ifs : List Expr} {scope : Scope} {own : List (Str × Nat)} {f : D → Rho → Option Rho} {is : List Nat} {mt me : ME} (hc : X.calm = true) (hN : X.N.Nodup) (hi : DI X W tg e mr) (ok : BlkOk X.N X.env.scope scope own)
    (hg : ∀ (s : Shared) (H : Hp) (C : Addr) (cl : List (Str × Addr)) (fp : List Addr), DG (X.blk s H scope (compEnvC scope cl C X.env) fp) tg f is)
    (ht : ∀ (s : Shared) (H : Hp) (C : Addr) (cl : List (Str × Addr)) (fp : List Addr), DTs (X.blk s H scope (compEnvC scope cl C X.env) fp) W0 ifs mt)
    (he : ∀ (s : Shared) (H : Hp) (C : Addr) (cl : List (Str × Addr)) (fp : List Addr), DE (X.blk s H scope (compEnvC scope cl C X.env) fp) W0 elt me)
    (hv : ∀ i ∈ is, i ∈ own.map (·.2) := by decide) (hs : ∀ x, foldedSetIterable e X.env x = pure x := by intro _; rfl) : DL X W (.ListComp elt [⟨tg, e, ifs, 0⟩] scope pos) (mLc mr f mt me (own.map (·.2))) := by
  obtain ⟨wi, pi, ki⟩ := hi
  obtain ⟨tg', pg, kg⟩ := dg_all (Xf := blkOf X scope) (K := X.K) (mg := X.mg) (fun _ => rfl) (fun _ => rfl) fun i => hg i.1 i.2.1 i.2.2.1 i.2.2.2.1 i.2.2.2.2
  obtain ⟨tt, pt, kt⟩ := dts_all (Xf := blkOf X scope) (K := X.K) (mg := X.mg) (fun _ => rfl) (fun _ => rfl) fun i => ht i.1 i.2.1 i.2.2.1 i.2.2.2.1 i.2.2.2.2
  obtain ⟨te, pe, ke⟩ := de_all (Xf := blkOf X scope) (K := X.K) (mg := X.mg) (fun _ => rfl) (fun _ => rfl) fun i => he i.1 i.2.1 i.2.2.1 i.2.2.2.1 i.2.2.2.2
  refine ⟨_, pe_lc hc hN pi ok (fun s H C cl fp => pg (s, H, C, cl, fp)) (fun s H C cl fp => pt (s, H, C, cl, fp)) (fun s H C cl fp => pe (s, H, C, cl, fp)) hs, fun ξ μ σ H ρ S Q g s h => ?_⟩
  exact lc_read (fun R => ki ξ μ σ H ρ S R g s) kg kt ke hv g s h
end
end Dm
-- text DmDef
namespace Dm
open PySem L2 PySem.Spec PyProof.Rows
open PySem.W (Frag)

/-! ### defs -/
def mDef (np nN : Nat) (b : MS) (ds : List D) (S : Sto) : Res D := if ds.length = np then
    match b (ds.map some ++ List.replicate (nN - np) none) S with
    | .nx _ S' => .ok .non S'
    | .rt d S' => .ok d S'
    | .exc c fs _ S' => .exc c fs S'
    | _ => .bad
  else .bad
/-- a def's promise: what its word says -/
def spD (K : Frag) (mg : Str → Option Value) (m : List D → Sto → Res D) : Sp := fun vs H Q E => ∃ ξ μ ds S, RS ⟨K, mg, ξ⟩ μ H S ∧ RDs ⟨K, mg, ξ⟩ μ H vs ds ∧ WE' ⟨K, mg, ξ⟩ (m ds S) Q (fun cls dd H' => E cls dd H') μ H
structure FnD (P : Program) (w : World) (K : Frag) (mg : Str → Option Value) (base : Heap) (k : Nat) (x : Str) (st : Stmt) (ps : List Str) (m : List D → Sto → Res D) : Prop where
  ex : ∃ f fd, mg x = some (.ref f) ∧ Fun K x x st f fd ∧ Binds K fd ps [] ∧ FnOk P w K mg base (L2.CX P w) k f fd ps (spD K mg m)
section
variable {P : Program} {w : World} {K : Frag} {mg : Str → Option Value} {base : Heap}
theorem FnD.mono {j k : Nat} {x : Str} {st : Stmt} {ps : List Str} {m : List D → Sto → Res D} (F : FnD P w K mg base j x st ps m) (h : j ≤ k) : FnD P w K mg base k x st ps m :=
  let ⟨f, fd, a, b, c, d⟩ := F; ⟨f, fd, a, b, c, d.mono h⟩
theorem rg_start {F : Fx} {μ : List Addr} {H : Hp} {N : List Str} {vs : List V} {ds : List D} (r : RDs F μ H vs ds) : RG F μ H (L2.start N vs) (ds.map some ++ List.replicate (N.length - ds.length) none) := by
  refine ⟨by unfold L2.start; rw [List.length_append, List.length_append, List.length_map, List.length_map, List.length_replicate, List.length_replicate, r.length], fun i d e => ?_⟩
  by_cases h : i < ds.length
  · rw [List.getElem?_append_left (by rw [List.length_map]; exact h), List.getElem?_map] at e
    cases q : ds[i]? with
    | none => rw [q] at e; exact nomatch e
    | some d' =>
      rw [q] at e
      cases e
      obtain ⟨v, h1, h2⟩ := r.get q
      refine ⟨v, ?_, h2⟩
      unfold L2.start
      rw [List.getElem?_append_left (by rw [List.length_map, r.length]; exact h), List.getElem?_map, h1] <;> rfl
  · rw [List.getElem?_append_right (by rw [List.length_map]; omega), List.getElem?_replicate] at e
    split at e <;> cases e
theorem fnd_mk {x : Str} {st : Stmt} {f : Addr} {fd : FuncData} {N ps : List Str} {k np nN : Nat} {mb : MS} (hm : mg x = some (.ref f)) (F : Fun K x x st f fd) (B : Binds K fd ps []) (S : FnScope N ps (defScope st)) (hnp : ps.length = np) (hnN : N.length = nN)
    (hb : ∀ (cdv : Value) (A : Around) (outer : List Env) (s : Shared) (H : Hp) (E : XK), Room k (A.deeper (envOfC x (defScope st) s.heap.objs.size f cdv)) →
      DSs (cxOf (L2.CX P w) P w K mg base N x (defScope st) f cdv A outer s H E) (fun cls d _ H => E cls d H) (defBody st) mb) : FnD P w K mg base (k + 1) x st ps (mDef np nN mb) := by
  subst hnp hnN
  refine ⟨f, fd, hm, F, B, F.okX S (fun vs H Q E h => ?_) (fun cdv A outer s H vs Q E hr h => ?_)⟩
  · obtain ⟨ξ, μ, ds, S0, s0, r0, w0⟩ := h
    unfold mDef at w0
    by_cases c : ds.length = ps.length
    · rw [r0.length]; exact c
    · rw [if_neg c] at w0; exact w0.elim
  · obtain ⟨ξ, μ, ds, S0, s0, r0, w0⟩ := h
    obtain ⟨ts, pt, kt⟩ := hb cdv A outer s H E hr
    refine ⟨ts, pt, ?_⟩
    unfold mDef at w0
    by_cases c : ds.length = ps.length
    · rw [if_pos c] at w0
      refine kt ξ μ _ H _ S0 _ (rg_start r0) s0 ?_
      show WS' ⟨K, mg, ξ⟩ _ _ _ μ H
      rw [c]
      cases e : mb (ds.map some ++ List.replicate (N.length - ps.length) none) S0 with
      | nx ρ S' => rw [e] at w0; exact fun σ μ' H' u s g => w0 _ μ' H' u s .non
      | rt d S' => rw [e] at w0; exact w0
      | exc c fs ρ S' => rw [e] at w0; exact fun cls dd σ μ' H' u s g x => w0 cls dd μ' H' u s x
      | bk ρ S' => rw [e] at w0; exact w0.elim
      | ct ρ S' => rw [e] at w0; exact w0.elim
      | bad => rw [e] at w0; exact w0.elim
    · rw [if_neg c] at w0; exact w0.elim
/-- nothing is promised -/
theorem fnd_bad {x : Str} {st : Stmt} {f : Addr} {fd : FuncData} {ps : List Str} {k : Nat} (hm : mg x = some (.ref f)) (F : Fun K x x st f fd) (B : Binds K fd ps []) : FnD P w K mg base k x st ps (fun _ _ => .bad) :=
  ⟨f, fd, hm, F, B, ⟨fun vs H Q E h => (let ⟨_, _, _, _, _, _, w0⟩ := h; False.elim w0), fun A outer s H args us vs Q E hr he hb hv h => (let ⟨_, _, _, _, _, _, w0⟩ := h; False.elim w0)⟩⟩
end

/-! ### calls of defs -/
theorem vals_perm : ∀ (p : List Nat) {vs : List V} {us : List Value}, Vals vs us → Vals (p.filterMap (vs[·]?)) (p.filterMap (us[·]?))
  | [], _, _, _ => .nil
  | i :: p, vs, us, r => by
    rw [List.filterMap_cons, List.filterMap_cons]
    cases e : vs[i]? with
    | none =>
      rw [r.none_of e]
      exact vals_perm p r
    | some v =>
      obtain ⟨u, h1, h2⟩ := r.get e
      rw [h1]
      exact .cons h2 (vals_perm p r)
theorem rds_perm {F : Fx} {μ : List Addr} {H : Hp} : ∀ (p : List Nat) {vs : List V} {ds : List D}, RDs F μ H vs ds → RDs F μ H (p.filterMap (vs[·]?)) (p.filterMap (ds[·]?))
  | [], _, _, _ => .nil
  | i :: p, vs, ds, r => by
    rw [List.filterMap_cons, List.filterMap_cons]
    cases e : vs[i]? with
    | none =>
      have e' : ds[i]? = none := by
        rw [List.getElem?_eq_none_iff] at e ⊢
        rw [← r.length]; exact e
      rw [e']
      exact rds_perm p r
    | some v =>
      obtain ⟨d, h1, h2⟩ := r.getV e
      rw [h1]
      exact .cons h2 (rds_perm p r)
section
variable {X : Cx} {W : WX} {tg e a b c : Expr} {es : List Expr} {kws : List Keyword} {st : Stmt} {sts ts : List Stmt} {ma mb mc m : ME} {mr mk : MA} {m1 m2 : MS} {pos p p1 p2 p3 kpos : Pos} {nm : Option Str}
/-- f(e, ..) -/
theorem d_call {j k : Nat} {x : Str} {ps : List Str} {f : List D → Sto → Res D} (F : FnD X.prog X.w X.K X.mg X.base j x st ps f) (hr : Room k X.A) (tk : Takes X W) (ha : DA X W (e :: es) mr) (hj : j ≤ k := by decide) (hg : Gl X x := by rfl)
    (hdb : (x == ("__debug__" : Str)) = false := by decide) (he : starEach (e :: es) X.env = (false, eval e X.env) :: starEach es X.env := by rfl) (hpl : (backTo pos (starEach es X.env)).any (·.1) = false := by rfl) :
    DE X W (.Call (.Name x p) (e :: es) [] pos) (mCall f mr) := by
  obtain ⟨fa, fd, hm, Fu, B, G⟩ := F
  obtain ⟨ta, pa, ka⟩ := ha
  refine ⟨_, pe_callSD G (hr.mono hj) hg hm Fu.kp B .nil (fun σ => passAt tk σ) pa hdb he hpl, fun ξ μ σ H ρ S Q g s h => ka ξ μ σ H ρ S _ g s (WR.bind h fun xs S1 vs μ1 H1 u1 s1 r1 h1 => ?_)⟩
  rw [List.append_nil]
  exact ⟨ξ, μ1, xs, S1, s1, r1, h1⟩
theorem pe_call0S {CX : CXT} {j k : Nat} {x : Str} {f : Addr} {fd : FuncData} {ps : List Str} {sp : Sp} {E : L2.St → XK} (F : FnOk X.prog X.w X.K X.mg X.base CX k f fd ps sp) (hr : Room k X.A) (hg : Gl X x) (hm : X.mg x = some (.ref f)) (hk : PySem.W.keepIn X.K (.ref f) = true) (hb : Binds X.K fd ps []) (hx : ∀ σ, PassesAt CX X σ (E σ))
    (hdb : (x == ("__debug__" : Str)) = false := by decide) : PE X (.Call (.Name x p) [] [] pos) (tCallSD sp [] E tNil) := by
  refine ⟨fun pins s σ H Q I h => ?_⟩
  refine wpAny_Call_Name_kw (ld_glob I hg hm ?_ hdb)
  refine PySem.W.callWith_K0 I.kIn hk ?_
  exact run_fnSD F hr hb .nil (hx σ) I .nil h
/-- f() -/
theorem d_call0 {j k : Nat} {x : Str} {ps : List Str} {f : List D → Sto → Res D} (F : FnD X.prog X.w X.K X.mg X.base j x st ps f) (hr : Room k X.A) (tk : Takes X W) (hj : j ≤ k := by decide) (hg : Gl X x := by rfl)
    (hdb : (x == ("__debug__" : Str)) = false := by decide) : DE X W (.Call (.Name x p) [] [] pos) (mCall f mNil) := by
  obtain ⟨fa, fd, hm, Fu, B, G⟩ := F
  refine ⟨_, pe_call0S (j := j) G (hr.mono hj) hg hm Fu.kp B (fun σ => passAt tk σ) hdb, fun ξ μ σ H ρ S Q g s h => ?_⟩
  exact ⟨ξ, μ, [], S, s, .nil, h⟩
theorem dk_nil : DK X W [] mNil := ⟨_, pk_nil, fun ξ μ σ H ρ S Q g s h => h [] μ H .refl s .nil⟩
theorem dk_cons (ha : DE X W e ma) (hr : DK X W kws mr) : DK X W (⟨nm, e, kpos⟩ :: kws) (mCons ma mr) := by
  obtain ⟨ta, pa, ka⟩ := ha
  obtain ⟨tr, pr, kr⟩ := hr
  refine ⟨_, pk_cons pa pr, fun ξ μ σ H ρ S Q g s h => ka ξ μ σ H ρ S _ g s (WR.bind h fun x S1 v μ1 H1 u1 s1 r1 h1 => ?_)⟩
  refine kr ξ μ1 σ H1 ρ S1 _ (g.up u1) s1 (WR.bind h1 fun xs S2 vs μ2 H2 u2 s2 r2 h2 => ?_)
  exact h2 _ μ2 H2 .refl s2 (.cons (r1.up u2) r2)
/-- f(e, .., k = v, ..): perm puts the written values, then the keywords', in the parameters' order; n, q: how many of each -/
def mCallK (f : List D → Sto → Res D) (n q : Nat) (perm : List Nat) (a k : MA) : ME := fun ρ S => (a ρ S).bind fun xs S1 => (k ρ S1).bind fun zs S2 => if xs.length = n ∧ zs.length = q then f (perm.filterMap ((xs ++ zs)[·]?)) S2 else .bad
def tCallP (n q : Nat) (sp : Sp) (perm : List Nat) (E : L2.St → XK) (t tk : TA) : TE := fun σ H Q => t σ H fun vs H1 => tk σ H1 fun zs H2 => vs.length = n ∧ zs.length = q ∧ sp (perm.filterMap ((vs ++ zs)[·]?)) H2 Q (E σ)
/-- how the arguments come to the parameters -/
def KwB (K : Frag) (fd : FuncData) (ps : List Str) (n : Nat) (ks : List Str) (perm : List Nat) : Prop := ∀ (us ws : List Value), us.length = n → ws.length = ks.length → bindArgs fd ⟨us, ks.zip ws⟩ = pure (ps.zip (perm.filterMap ((us ++ ws)[·]?)))
theorem run_fnP {CX : CXT} {k n : Nat} {f : Addr} {fd : FuncData} {ps ks : List Str} {sp : Sp} {E : L2.St → XK} {perm : List Nat} {pins : List (Addr × Obj)} {σ : L2.St} {H : Hp} {s : Shared} {Q : VK} {us ws : List Value} {vs zs : List V} (F : FnOk X.prog X.w X.K X.mg X.base CX k f fd ps sp) (hr : Room k X.A)
    (hb : KwB X.K fd ps n ks perm) (hx : ∀ σ, PassesAt CX X σ (E σ)) (I : Inv X pins σ H s) (r : Vals vs us) (rz : Vals zs ws) (l1 : vs.length = n) (l2 : zs.length = ks.length) (h : sp (perm.filterMap ((vs ++ zs)[·]?)) H Q (E σ)) :
    wpAny (model X.prog X.w) X.A (call (.ref f) us (ks.zip ws)) (EP X pins σ Q) X.xe s := by
  have r2 := vals_perm perm (r.append rz)
  refine wpAny_call (codeAny_mono (F.run X.A X.stack s H ⟨us, ks.zip ws⟩ _ _ Q (E σ) hr I.env0 (.of_eq (hb us ws (r.length.symm.trans l1) (rz.length.symm.trans l2))) r2 h) fun r s' hq => ?_)
  cases r with
  | error e => exact hx σ pins H s e s' I hq
  | ok fl =>
    cases fl with
    | ret u => exact I.after hq
    | next => exact False.elim hq
    | brk => exact False.elim hq
    | cont => exact False.elim hq
theorem d_callK {j k n : Nat} {x : Str} {ps ks : List Str} {f : List D → Sto → Res D} (F : FnD X.prog X.w X.K X.mg X.base j x st ps f) (perm : List Nat)
    (hb : ∀ (kV doc pm : Value) (an : Option Addr) (cdv ct : Value) (us ws : List Value), us.length = n → ws.length = ks.length → bindArgs (PySem.W.fnOf x x (defArgs st) (defBody st) (defScope st) .none kV doc pm an cdv ct) ⟨us, ks.zip ws⟩ = pure (ps.zip (perm.filterMap ((us ++ ws)[·]?))))
    (hr : Room k X.A) (tk : Takes X W) (ha : DA X W (e :: es) mr) (hkw : DK X W kws mk) (hj : j ≤ k := by decide) (hg : Gl X x := by rfl) (hall : (backToKw pos (keywordEach kws X.env)).all (·.1.isSome) = true := by rfl) (hks : (backToKw pos (keywordEach kws X.env)).filterMap (·.1) = ks := by rfl)
    (hdb : (x == ("__debug__" : Str)) = false := by decide) (he : starEach (e :: es) X.env = (false, eval e X.env) :: starEach es X.env := by rfl)
    (hpl : ((backTo pos (starEach (e :: es) X.env)).any (·.1) || (backToKw pos (keywordEach kws X.env)).any (·.1.isNone)) = false := by rfl) : DE X W (.Call (.Name x p) (e :: es) kws pos) (mCallK f n ks.length perm mr mk) := by
  obtain ⟨fa, fd, hm, Fu, B, G⟩ := F
  obtain ⟨ta, pa, ka⟩ := ha
  obtain ⟨tk', pk, kk⟩ := hkw
  have hB : KwB X.K fd ps n ks perm := by
    obtain ⟨oc, od, kV, doc, pm, an, cdv, ct, osl, rfl, lk, hcd⟩ := Fu.ex
    exact hb kV doc pm an cdv ct
  refine ⟨tCallP n ks.length (spD X.K X.mg f) perm (WE W) ta tk', ⟨fun pins s σ H Q I h => ?_⟩, fun ξ μ σ H ρ S Q g s h => ka ξ μ σ H ρ S _ g s (WR.bind h fun xs S1 vs μ1 H1 u1 s1 r1 h1 => ?_)⟩
  · refine wpAny_Call_Name_kw (ld_glob I hg hm ?_ hdb)
    refine PySem.W.callWith_KW (h₀ := X.base) I.ok.mod.kin Fu.kp hall (thn (pa.run pos pins s σ H _ I h) fun us s1 ⟨vs, H1, I1, r, q⟩ => ?_) hpl he
    refine thn (pk.run pos pins s1 σ H1 _ I1 q) fun ws s2 ⟨zs, H2, I2, rz, l1, l2, q2⟩ => ⟨I2.kIn, ?_⟩
    rw [hks]
    exact run_fnP G (hr.mono hj) hB (fun σ => passAt tk σ) I2 r rz l1 l2 q2
  · refine kk ξ μ1 σ H1 ρ S1 _ (g.up u1) s1 (WR.bind h1 fun zs S2 ws μ2 H2 u2 s2 r2 h2 => ?_)
    by_cases c : xs.length = n ∧ zs.length = ks.length
    · rw [if_pos c] at h2
      exact ⟨by rw [r1.length]; exact c.1, by rw [r2.length]; exact c.2, ξ, μ2, _, S2, s2, rds_perm perm ((r1.up u2).append r2), h2⟩
    · rw [if_neg c] at h2; exact h2.elim
/-- f(k = v, ..) -/
theorem d_callK0 {j k : Nat} {x : Str} {ps ks : List Str} {f : List D → Sto → Res D} (F : FnD X.prog X.w X.K X.mg X.base j x st ps f) (perm : List Nat)
    (hb : ∀ (kV doc pm : Value) (an : Option Addr) (cdv ct : Value) (us ws : List Value), us.length = 0 → ws.length = ks.length → bindArgs (PySem.W.fnOf x x (defArgs st) (defBody st) (defScope st) .none kV doc pm an cdv ct) ⟨us, ks.zip ws⟩ = pure (ps.zip (perm.filterMap ((us ++ ws)[·]?))))
    (hr : Room k X.A) (tk : Takes X W) (hkw : DK X W kws mk) (hj : j ≤ k := by decide) (hg : Gl X x := by rfl) (hall : (backToKw pos (keywordEach kws X.env)).all (·.1.isSome) = true := by rfl) (hks : (backToKw pos (keywordEach kws X.env)).filterMap (·.1) = ks := by rfl)
    (hdb : (x == ("__debug__" : Str)) = false := by decide) (hpl : ((backTo pos (starEach [] X.env)).any (·.1) || (backToKw pos (keywordEach kws X.env)).any (·.1.isNone)) = false := by rfl) :
    DE X W (.Call (.Name x p) [] kws pos) (mCallK f 0 ks.length perm mNil mk) := by
  obtain ⟨fa, fd, hm, Fu, B, G⟩ := F
  obtain ⟨tk', pk, kk⟩ := hkw
  have hB : KwB X.K fd ps 0 ks perm := by
    obtain ⟨oc, od, kV, doc, pm, an, cdv, ct, osl, rfl, lk, hcd⟩ := Fu.ex
    exact hb kV doc pm an cdv ct
  refine ⟨tCallP 0 ks.length (spD X.K X.mg f) perm (WE W) tNil tk', ⟨fun pins s σ H Q I h => ?_⟩, fun ξ μ σ H ρ S Q g s h => ?_⟩
  · refine wpAny_Call_Name_kw (ld_glob I hg hm ?_ hdb)
    refine PySem.W.callWith_KW0 (h₀ := X.base) I.ok.mod.kin Fu.kp hall (thn (pk.run pos pins s σ H _ I h) fun ws s2 ⟨zs, H2, I2, rz, l1, l2, q2⟩ => ⟨I2.kIn, ?_⟩) hpl
    rw [hks]
    exact run_fnP G (hr.mono hj) hB (fun σ => passAt tk σ) I2 .nil rz l1 l2 q2
  · refine kk ξ μ σ H ρ S _ g s (WR.bind (f := fun zs S2 => if ([] : List D).length = 0 ∧ zs.length = ks.length then f (perm.filterMap (([] ++ zs)[·]?)) S2 else .bad) h fun zs S2 ws μ2 H2 u2 s2 r2 h2 => ?_)
    by_cases c : ([] : List D).length = 0 ∧ zs.length = ks.length
    · rw [if_pos c] at h2
      exact ⟨rfl, by rw [r2.length]; exact c.2, ξ, μ2, _, S2, s2, rds_perm perm (RDs.append .nil r2), h2⟩
    · rw [if_neg c] at h2; exact h2.elim

/-! ### raise X('..') -/
structure XcOk (K : Frag) (mg : Str → Option Value) (x : Str) : Prop where
  ex : ∃ C : Addr, mg x = some (.ref C) ∧ PySem.W.excIn K C [.type "ValueError", .type "Exception", .type "BaseException", .type "object"] "ValueError.__new__" = true ∧ PySem.W.keepIn K (.ref C) = true ∧ PySem.W.subIn K (.ref C) (.type "BaseException") = some true ∧ PySem.W.typeIn K (.ref C) = some (.type "type")
def mRaise (c : Str) : MS := fun ρ S => .exc c [] ρ S
theorem ds_raise {x msg : Str} {jj : Nat} {pos2 : Pos} (C : XcOk X.K X.mg x) (hc : X.calm = true) (tk : Takes X W) (hg : Gl X x := by rfl) (hdb : (x == ("__debug__" : Str)) = false := by decide) :
    DS X W (.Raise (some (.Call (.Name x p) [.Constant (.str msg) jj p2] [] pos)) none pos2) (mRaise x) := by
  obtain ⟨C, h1, h2, h3, h4, h5⟩ := C
  exact ⟨_, ps_raise hc tk (pmk_own PySem.F.excBase_ValueError h2 h1 h3 (raises_own h4 h5) hg hdb), fun ξ μ σ H ρ S D g s h => h _ none σ μ H .refl s g ⟨h1, .inl rfl⟩⟩
/-- a statement that is never reached -/
def mBad : MS := fun _ _ => .bad
theorem ds_never : DS X W st mBad := ⟨_, ps_never, fun ξ μ σ H ρ S D g s h => h.elim⟩
/-- x += e -/
def mAug (i : Nat) (f : Int → Int → Int) (m : ME) : MS := fun ρ S => match ρ[i]? with
  | some (some (.int a)) => ofRes (m ρ S) ρ fun d S1 => match d with
    | .int b => .nx (ρ.set i (some (.int (f a b)))) S1
    | _ => .bad
  | _ => .bad
theorem ds_aug (i : Nat) {x : Str} {f : Int → Int → Int} {op : Operator} {pos' : Pos} (hN : X.N.Nodup) (ho : PIp X op (ipI f)) (he : DE X W e ma) (hi : X.N[i]? = some x := by rfl) (hx : Loc X.env.scope x := by first | exact Or.inl rfl | exact Or.inr rfl)
    (hf : X.fn x = true ∨ X.env.scope.names.lookup x = some .local := by first | exact .inl rfl | exact .inr rfl)
    (hp : ∀ {te : TE}, X.N.Nodup → PIp X op (ipI f) → PE X e te → PS X (.AugAssign (.Name x pos') op e pos) (tAug i te (ipI f)) := by exact fun hN ho h => ps_aug hN rfl (by first | exact Or.inl rfl | exact Or.inr rfl) h ho) : DS X W (.AugAssign (.Name x pos') op e pos) (mAug i f ma) := by
  obtain ⟨te, pe, ke⟩ := he
  refine ⟨_, hp hN ho pe, fun ξ μ σ H ρ S D g s h => ?_⟩
  unfold mAug at h
  cases q : ρ[i]? with
  | none => rw [q] at h; exact h.elim
  | some o =>
    cases o with
    | none => rw [q] at h; exact h.elim
    | some d =>
      obtain ⟨v, hv, rv⟩ := g.at_ i d q
      rw [q] at h
      cases rv with
      | int a =>
        refine ⟨_, hv, ke ξ μ σ H ρ S _ g s (WS'.bind g h fun y S1 v1 μ1 H1 u1 s1 r1 h1 => ?_)⟩
        cases r1 with
        | int b => exact ⟨a, b, rfl, rfl, h1 _ μ1 H1 .refl s1 ((g.up u1).set i (.int _))⟩
        | _ => exact h1.elim
      | _ => exact h.elim
end
end Dm
-- text DmIter
namespace Dm
open PySem L2 PySem.Spec PyProof.Rows
open PySem.W (Frag)

/-! ### enumerate of a tuple -/
theorem enumNew1 {v : Value} {o : Obj} {Hh : Heap → Prop} (B : Begins v o Hh) :
    Meets (Builtin.«enumerate.__new__» ⟨[.type "enumerate", v], []⟩) (fun _ R s => Hh s.heap ∧
      R (.ok (.ret (.ref (s.heap.push o).objs.size))) { s with heap := (s.heap.push o).push { cls := .type "enumerate", data := .fields #[.none, .bool false, .ref s.heap.objs.size, rawInt 0, .none, .none] } }) :=
  .of_wp fun prog w A R s hh => by
    obtain ⟨hp, g, d, tk, os⟩ := s
    obtain ⟨ha, hb⟩ := hh
    have hsub := sub_enumerate
    have q1 : ∀ {A' : Around} {E : Value → Shared → Prop} {Q : Value → Shared → Prop}, Q (.ref hp.objs.size) ⟨hp.push o, g, d, tk, os⟩ → wpAny (model prog w) A' (pyIter v) Q E ⟨hp, g, d, tk, os⟩ :=
      fun q => B.iter prog w _ _ ⟨hp, g, d, tk, os⟩ _ ha q
    wp_walk using q1
    refine wpAny_stack_any fun st => wpAny_pure ?_
    split
    · rename_i c _ _ _ _ _
      cases (c == Value.type "enumerate") <;> (wp_walk using q1; exact ⟨_, rfl, hb⟩)
    · (wp_walk using q1); exact ⟨_, rfl, hb⟩
theorem enumBegin1 {prog : Program} {w : World} {A : Around} {E : Value → Shared → Prop} {s : Shared} {v : Value} {o : Obj} {Hh : Heap → Prop} {Q : Value → Shared → Prop} (B : Begins v o Hh) (ha : Hh s.heap)
    (k : ∀ h', IsEnum h' (s.heap.objs.size + 1) s.heap.objs.size 0 .none → h'.get? s.heap.objs.size = some o → (∀ b u, s.heap.get? b = some u → h'.get? b = some u) → Q (.ref (s.heap.objs.size + 1)) { s with heap := h' }) :
    wpAny (model prog w) A (call (.type "enumerate") [v]) Q E s := by
  refine callType_new F.called_enumerate (by decide) (F.typeCall_enumerate_1 _) (F.newCall_enumerate_1 _) (fun obj => F.args_object_init_2 obj _) F.entry_enumerate_new (enumNew1 B) ⟨ha, ?_⟩
  have z : (s.heap.push o).objs.size = s.heap.objs.size + 1 := Heap.size_push ..
  have en := Heap.get?_push_size (s.heap.push o) (o := { cls := .type "enumerate", data := .fields #[.none, .bool false, .ref s.heap.objs.size, rawInt 0, .none, .none] }) rfl
  rw [z] at en
  show _ ∧ _
  rw [z]
  exact ⟨⟨_, en, rfl⟩, k _ en (Heap.get?_push_of_some _ (Heap.get?_push_size _ B.free)) fun b u q => Heap.get?_push_of_some _ (Heap.get?_push_of_some _ q)⟩
def IteT (K : Frag) (a : Addr) : It :=
  ⟨fun i H => ∃ (xs : List V) (x : V), SqT K H a xs ∧ xs[i]? = some x, fun i H v H' => ∃ T x, v = .ref T ∧ H T = none ∧ H' = upd H T (.tup [.int (i : Nat), x]) ∧ ∀ xs, SqT K H a xs → xs[i]? = some x, fun i H => ∃ xs : List V, SqT K H a xs ∧ xs.length ≤ i⟩
theorem turn_enumT {P : Program} {w : World} {K : Frag} {elts : List Expr} {kk : Nat} {tpos : Pos} (a e it : Addr) (hne : e ≠ it) :
    Turn P w K (.Tuple elts kk tpos) (IteT K a) [e, it] e (fun i h => (∃ old, IsEnum h e it ((i : Nat) : Int) old) ∧ h.IsTupleIter it a i) where
  mem := List.mem_cons_self
  obj := fun i h st b hb => by
    obtain ⟨⟨old, he⟩, ⟨o, ho, hc, hd⟩⟩ := st
    rcases List.mem_cons.mp hb with z | z
    · rw [z]; exact ⟨_, he, fun v q => nomatch q⟩
    · rw [List.mem_singleton.mp z]; exact ⟨o, ho, fun v q => by rw [hd] at q; cases q⟩
  keep := fun i h h' st k => by
    obtain ⟨⟨old, he⟩, ⟨o, ho, r⟩⟩ := st
    exact ⟨⟨old, k e List.mem_cons_self _ he⟩, ⟨o, k it (List.mem_cons_of_mem _ List.mem_cons_self) o ho, r⟩⟩
  item := by
    intro X hP hw hK hc i pins s σ H E I hf st hg
    subst hP hw hK
    obtain ⟨⟨old, he⟩, hit⟩ := st
    obtain ⟨xs, x, hq, hx⟩ := hg
    obtain ⟨its, rv, ht, hz⟩ := I.tuple hq
    obtain ⟨u, hu, ru⟩ := rv.get hx
    have hel : e < s.heap.objs.size := Heap.lt_size he
    have hil : it < s.heap.objs.size := by obtain ⟨_, q, _⟩ := hit; exact Heap.lt_size q
    have nai : a ≠ it := by
      rintro rfl
      obtain ⟨o1, q1, c1, _⟩ := ht
      obtain ⟨o2, q2, c2, _⟩ := hit
      rw [q1] at q2; cases q2
      rw [c1] at c2
      exact absurd (Value.type.inj c2) (by decide)
    have nae : e ∉ [it, a] := fun z => by
      rcases List.mem_cons.mp z with z | z
      · exact hne z
      · rw [List.mem_singleton.mp z] at he
        obtain ⟨o1, q1, c1, _⟩ := ht
        have he' : s.heap.get? a = some _ := he
        rw [q1] at he'; cases he'
        exact absurd (Value.type.inj c1) (by decide)
    have D := Draws.tuple (prog := X.prog) (w := X.w) (A := X.A.in1) (by exact I.ok.hd hc) it a nai its.toArray
    have hlt : i < its.toArray.size := by
      have q := (List.getElem?_eq_some_iff.mp hu).1
      rw [List.size_toArray]; exact q
    refine wpAny_pyNext_enum_itemD D he ⟨hit, ht⟩ hlt hne nae fun x' h' tk hx' ho hit' hT hsz hk => ?_
    have ex : x' = u := by
      have hx'' : its.toArray[i]? = some x' := hx'
      rw [List.getElem?_toArray, hu] at hx''
      exact (Option.some.inj hx'').symm
    subst ex
    refine ⟨_, rfl, wpAny_letOwnedTupleGo_enum (s := { s with heap := h', toks := tk + 1 }) ho fun h'' he' sb => ?_⟩
    have hT2 : h''.get? s.heap.objs.size = some { cls := .type "tuple", data := .seq #[.int i tk, x'] } := (sb.2 _ (Nat.ne_of_gt hel)).trans hT
    have new : ObjOk X.prog X.w (upd H s.heap.objs.size (.tup [.int (i : Nat), x])) h'' s.heap.objs.size (.tup [.int (i : Nat), x]) :=
      ⟨by rw [sizeLine_eq]; show 2 ≤ 16777216; decide, [.int i tk, x'], .cons ⟨_, rfl⟩ (.cons ru .nil), ⟨_, hT2, rfl, _, rfl⟩⟩
    have I1 : Inv X pins σ (upd H s.heap.objs.size (.tup [.int (i : Nat), x])) { s with heap := h'', toks := tk + 1 } :=
      I.turnedNew (ch := [e, it]) (fun b ob hb q => (sb.2 b fun z => hb (by rw [z]; exact List.mem_cons_self)).trans (hk b ob (fun z => hb (by rw [z]; exact List.mem_cons_self)) (fun z => hb (by rw [z]; exact List.mem_cons_of_mem _ List.mem_cons_self)) q)) hf (Nat.le_refl _) new
    refine ⟨.ref s.heap.objs.size, _, I1, rfl, ⟨_, x, rfl, I.hok.fresh (Nat.le_refl _), rfl, fun ys hy => by rw [I.tuple_inj hy hq]; exact hx⟩, ⟨⟨x', ?_⟩, ?_⟩, fun b hb => ?_⟩
    · have e1 : ((i + 1 : Nat) : Int) = (i : Int) + 1 := by omega
      rw [e1]; exact he'
    · obtain ⟨⟨o1, q1, r1⟩, _⟩ := hit'
      exact ⟨o1, (sb.2 it hne.symm).trans q1, r1⟩
    · have hb' : b < s.heap.objs.size := by
        rcases List.mem_cons.mp hb with z | z
        · rw [z]; exact hel
        · rw [List.mem_singleton.mp z]; exact hil
      rw [upd_ne (Nat.ne_of_lt hb')]
      exact (hf b hb).1
  done := by
    intro X hP hw hK hc i pins s σ H E I hf st hg
    subst hP hw hK
    obtain ⟨⟨old, he⟩, hit⟩ := st
    obtain ⟨xs, hq, hx⟩ := hg
    obtain ⟨its, rv, ht, hz⟩ := I.tuple hq
    obtain ⟨f0, f1, f2, f3, f4, f5⟩ := hf it (List.mem_cons_of_mem _ List.mem_cons_self)
    have hl := rv.length
    have nx : its.toArray[i]? = none := by
      rw [List.getElem?_toArray]
      exact List.getElem?_eq_none_iff.mpr (by omega)
    have D : Draws X.prog X.w X.A.in1 it [it, a] i (fun _ _ => False) (fun j hh => j = i ∧ hh.IsTupleIter it a i ∧ hh.IsTuple a its.toArray) :=
      { live := fun j hh z => let ⟨o, ho, _⟩ := z.2.1; ⟨o, ho⟩
        frame := fun j hh h' z k => by
          obtain ⟨z1, ⟨o1, e1, r1⟩, ⟨o2, e2, r2⟩⟩ := z
          exact ⟨z1, ⟨o1, k it List.mem_cons_self o1 e1, r1⟩, ⟨o2, k a (List.mem_cons_of_mem _ List.mem_cons_self) o2 e2, r2⟩⟩
        item := fun j s Q E hj z => absurd z.1 (Nat.ne_of_lt hj)
        done := fun s Q E z kE => wpAny_nextOf_tuple_end (I.ok.hd hc) z.2.1 z.2.2 nx kE }
    exact wpAny_pyNext_enum_endD D he ⟨rfl, hit, ht⟩ fun h' eb => ⟨rfl, I.turned (t' := s.toks) (fun b o hb q => eb b o hb q) f0 f1 f3 f4 f5⟩
  self := fun A i s Q E st k => let ⟨⟨_, he⟩, _⟩ := st; wpAny_pyIter_enum he k
def iEnumT (K : Frag) (ta : TA) : TI := fun σ H R => ta σ H fun vs H1 => ∃ a xs, vs = [.ref a] ∧ SqT K H1 a xs ∧ R (IteT K a) H1
theorem pi_enumT {X : Cx} {e : Expr} {ta : TA} {p pos tpos : Pos} {elts : List Expr} {kk : Nat} (hg : Gl X "enumerate") (hm : X.mg "enumerate" = none) (ha : PA X [e] ta) (hs : starEach [e] X.env = [(false, eval e X.env)] := by rfl) :
    PI X (.Tuple elts kk tpos) (.Call (.Name "enumerate" p) [e] [] pos) (iEnumT X.K ta) := by
  refine ⟨fun pins s σ H R I hw => ?_⟩
  refine Call_ (ld_blt I hg hm boot_enumerate (PyProof.Rows.callWith_type1 (thn (ha.run pos pins s σ H _ I hw) fun us s1 hh => ?_) hs rfl))
  obtain ⟨vs, H1, I1, r1, a, xs, ex, hq, q⟩ := hh
  subst ex
  cases r1 with
  | cons r rr =>
    cases rr
    cases r
    obtain ⟨its, rv, ht, hz⟩ := I1.tuple hq
    refine enumBegin1 (begins_tuple a its.toArray) ht fun h' he ho hk => wpAny_pyIter_enum he ?_
    have I2 : Inv X pins σ H1 { s1 with heap := h' } := I1.kept (t' := s1.toks) hk
    refine ⟨s1.heap.objs.size + 1, [s1.heap.objs.size + 1, s1.heap.objs.size], _, _, H1, rfl, I2, turn_enumT a (s1.heap.objs.size + 1) s1.heap.objs.size (Nat.succ_ne_self _), ⟨⟨.none, he⟩, ⟨_, ho, rfl, rfl⟩⟩, fun b hb => ?_, q⟩
    have hle : s1.heap.objs.size ≤ b := by
      rcases List.mem_cons.mp hb with z | z
      · rw [z]; exact Nat.le_succ _
      · rw [List.mem_singleton.mp z]; exact Nat.le_refl _
    exact I1.fpOk hle (I1.hok.fresh hle)

/-- enumerate(v): a tuple, a list that stands still -/
def enumD (ds : List D) : List D := ds.zipIdx.map fun p => .tup [.int (p.2 : Nat), p.1]
theorem enumD_length {ds : List D} : (enumD ds).length = ds.length := by unfold enumD; rw [List.length_map, List.length_zipIdx]
theorem enumD_get {ds : List D} {i : Nat} {d : D} (h : (enumD ds)[i]? = some d) : ∃ x, ds[i]? = some x ∧ d = .tup [.int (i : Nat), x] := by
  unfold enumD at h
  rw [List.getElem?_map, List.getElem?_zipIdx] at h
  cases q : ds[i]? with
  | none => rw [q] at h; exact nomatch h
  | some x =>
    rw [q] at h
    refine ⟨x, rfl, ?_⟩
    have h' := Option.some.inj h
    rw [← h', Nat.zero_add]
def iEnumS (m : ME) : MA := fun ρ S => (m ρ S).bind fun d S1 => match d with
  | .tup ds => .ok (enumD ds) S1
  | .lst ds => .ok (enumD ds) S1
  | _ => .bad
section
variable {X : Cx} {W : WX} {tg e a b c : Expr} {m : ME} {pos p tpos : Pos}
theorem di_enum {elts : List Expr} {kk : Nat} (h : DE X W e m) (hm : X.mg "enumerate" = none) (hg : Gl X "enumerate" := by rfl) (hs : starEach [e] X.env = [(false, eval e X.env)] := by rfl)
    (hs1 : starEach [e] X.env = (false, eval e X.env) :: starEach [] X.env := by rfl) : DI X W (.Tuple elts kk tpos) (.Call (.Name "enumerate" p) [e] [] pos) (iEnumS m) := by
  obtain ⟨te, pe, k⟩ := h
  refine ⟨_, piOr (piSized (pi_enumT hg hm (pa_cons pe pa_nil hs1) hs)) (piSized (pi_enum hg hm (pa_cons pe pa_nil hs1) hs)), fun ξ μ σ H ρ S R g s h => ?_⟩
  cases e1 : m ρ S with
  | bad => unfold iEnumS at h; rw [e1] at h; exact h.elim
  | exc c fs S1 =>
    unfold iEnumS at h; rw [e1] at h
    refine .inl (k ξ μ σ H ρ S _ g s ?_)
    rw [e1]; exact h
  | ok d S1 =>
    cases d with
    | tup ds =>
      refine .inl (k ξ μ σ H ρ S _ g s ?_)
      unfold iEnumS at h
      rw [e1] at h ⊢
      intro v μ1 H1 u1 s1 r1
      cases r1 with
      | @tup a xs _ f r =>
        refine ⟨a, xs, rfl, f.sq, fun z => h _ μ1 H1 u1 s1 ⟨by rw [enumD_length, ← r.length]; exact z a xs (.inr f.sq), fun F' μ' H' S' i ex u s hi => ⟨fun d hd => ?_, fun hi => ?_⟩⟩⟩
        · obtain ⟨x, hx, rfl⟩ := enumD_get hd
          obtain ⟨v, h1, h2⟩ := r.get hx
          refine ⟨⟨xs, v, (f.up u).sq, h1⟩, fun y H'' yy => ?_⟩
          obtain ⟨T, x', e2, e3, e4, e5⟩ := yy
          subst e2 e4
          have q := e5 xs (f.up u).sq
          rw [h1] at q; cases q
          exact ⟨.fresh e3, s.fresh e3, .tup (.inl ⟨.inl upd_same, s.out e3, s.outX e3⟩) (.cons (.int _) (.cons ((h2.mv (.ext ex u)).up (.fresh e3)) .nil))⟩
        · rw [enumD_length] at hi
          exact ⟨xs, (f.up u).sq, by rw [r.length, hi]; exact Nat.le_refl _⟩
    | lst ds =>
      refine .inr (k ξ μ σ H ρ S _ g s ?_)
      unfold iEnumS at h
      rw [e1] at h ⊢
      intro v μ1 H1 u1 s1 r1
      cases r1 with
      | @lst a xs _ f r =>
        refine ⟨a, xs, rfl, f.sq, fun z => h _ μ1 H1 u1 s1 ⟨by rw [enumD_length, ← r.length]; exact z a xs (.inl f.sq), fun F' μ' H' S' i ex u s hi => ⟨fun d hd => ?_, fun hi => ?_⟩⟩⟩
        · obtain ⟨x, hx, rfl⟩ := enumD_get hd
          obtain ⟨v, h1, h2⟩ := r.get hx
          refine ⟨⟨xs, v, (f.up u).sq, h1⟩, fun y H'' yy => ?_⟩
          obtain ⟨T, x', e2, e3, e4, e5⟩ := yy
          subst e2 e4
          have q := e5 xs (f.up u).sq
          rw [h1] at q; cases q
          exact ⟨.fresh e3, s.fresh e3, .tup (.inl ⟨.inl upd_same, s.out e3, s.outX e3⟩) (.cons (.int _) (.cons ((h2.mv (.ext ex u)).up (.fresh e3)) .nil))⟩
        · rw [enumD_length] at hi
          exact ⟨xs, (f.up u).sq, by rw [r.length, hi]; exact Nat.le_refl _⟩
    | _ => unfold iEnumS at h; rw [e1] at h; exact h.elim
end
end Dm
-- text DmRev
namespace Dm
open PySem L2 PySem.Spec PyProof.Rows
open PySem.W (Frag)

/-! ### t[::-1] of a tuple -/
section
variable {prog : Program} {w : World} {A : Around} {E : Value → Shared → Prop} {s : Shared}
theorem backPlaces (n : Nat) : Builtin.Slice.sliceAdjust none none (-1) (n : Int) = ((n : Int) - 1, -1) ∧ Builtin.Slice.slicePlaces ((n : Int) - 1) (-1) (-1) = n := by
  refine ⟨rfl, ?_⟩
  unfold Builtin.Slice.slicePlaces
  rw [if_neg (by decide)]
  by_cases hn : n = 0
  · subst hn; decide
  · rw [if_pos (by omega)]
    have e : ((n : Int) - 1 - -1 - 1) / (- -1) = (n : Int) - 1 := by
      rw [show (- -1 : Int) = 1 from rfl, Int.ediv_one]; omega
    rw [e]; omega
theorem fm_congr {α β : Type} {f g : α → Option β} : ∀ l : List α, (∀ x ∈ l, f x = g x) → l.filterMap f = l.filterMap g
  | [], _ => rfl
  | x :: l, h => by rw [List.filterMap_cons, List.filterMap_cons, h x List.mem_cons_self, fm_congr l fun y hy => h y (List.mem_cons_of_mem _ hy)]
theorem backPick (xs : Array Value) : ((List.range xs.size).filterMap fun (m : Nat) => xs[(((xs.size : Nat) : Int) - 1 + (m : Int) * -1).toNat]?) = xs.toList.reverse := by
  refine List.ext_getElem? fun k => ?_
  have e : ((List.range xs.size).filterMap fun (m : Nat) => xs[(((xs.size : Nat) : Int) - 1 + (m : Int) * -1).toNat]?) = (List.range xs.size).map fun m => xs.toList.reverse.getD m .none := by
    rw [← List.filterMap_eq_map]
    refine fm_congr _ fun m hm => ?_
    have hl : m < xs.size := List.mem_range.mp hm
    have e1 : (((xs.size : Nat) : Int) - 1 + (m : Int) * -1).toNat = xs.size - 1 - m := by omega
    rw [e1]
    have hr : m < xs.toList.reverse.length := by rw [List.length_reverse, Array.length_toList]; exact hl
    have h2 : xs.size - 1 - m < xs.size := by omega
    rw [Array.getElem?_eq_getElem h2]
    show some _ = some (xs.toList.reverse.getD m .none)
    rw [List.getD_eq_getElem?_getD, List.getElem?_eq_getElem hr, List.getElem_reverse]
    simp
  rw [e, List.getElem?_map]
  by_cases hk : k < xs.size
  · rw [List.getElem?_range hk]
    have hr : k < xs.toList.reverse.length := by rw [List.length_reverse, Array.length_toList]; exact hk
    rw [List.getElem?_eq_getElem hr]
    show some (xs.toList.reverse.getD k .none) = _
    rw [List.getD_eq_getElem?_getD, List.getElem?_eq_getElem hr] <;> rfl
  · rw [List.getElem?_eq_none (by rw [List.length_range]; omega), List.getElem?_eq_none (by rw [List.length_reverse, Array.length_toList]; omega)] <;> rfl
theorem backSlice {t sl : Addr} {items : Array Value} {vl vu vs : Value} {Q : Value → Shared → Prop} (ht : IsTup s.heap t items) (hs : s.heap.IsSliceOf sl vl vu vs) (pl : IsPart vl none) (pu : IsPart vu none) (ps : IsPart vs (some (-1)))
    (h : Q (.ref s.heap.objs.size) { s with heap := s.heap.push { cls := .type "tuple", data := .seq items.toList.reverse.toArray } }) (hsz : items.size ≤ sizeLine) : wpAny (model prog w) A (getItem (.ref t) (.ref sl)) Q E s := by
  have fits : sizeOk (.seq items.toList.reverse.toArray) := by
    show items.toList.reverse.toArray.size ≤ sizeLine
    rw [List.size_toArray, List.length_reverse, Array.length_toList]; exact hsz
  obtain ⟨os, hos, hcs, hds⟩ := id hs
  have tS : s.TypeIs (.ref sl) "slice" := ⟨os, hos, hcs⟩
  unfold getItem
  try with_reducible refine wpAny_holding ?_
  first | refine wpAny_bind (wpAny_pure ?_) | skip
  refine wpAny_bind (wpAny_sequenceKey ht.typeIs (by decide) ?_)
  refine wpAny_bind (wpAny_callSpecial?_slot (name := Str.ofString "__getitem__") ht.typeIs PyProof.Rows.slot_tuple_getitem (wpAny_call_entry PyProof.Rows.slot_tuple_getitem ht.typeIs entry_tuple_getitem ?_ (args_tuple_getitem _ _)))
  show wpAny _ _ (Builtin.Tuple.tupleItemsOf (.ref t) >>= _) _ _ s
  refine wpAny_bind (tupleItemsOf_ ht (wpAny_bind (wpAny_typeOf tS ?_)))
  rw [if_pos (by decide)]
  have app : ∀ {Q' : Int × Int × Nat → Shared → Prop} {E' : Value → Shared → Prop} {A' : Around}, Q' ((items.size : Int) - 1, -1, items.size) s → wpAny (model prog w) A' (Builtin.Slice.sliceApplied (.ref sl) (pure (items.size : Int))) Q' E' s := fun {Q' E' A'} hq => by
    unfold Builtin.Slice.sliceApplied Builtin.Slice.sliceFields
    refine wpAny_bind (wpAny_bind (wpAny_field hos hds (x := vl) rfl (wpAny_bind (wpAny_field hos hds (x := vu) rfl (wpAny_bind (wpAny_field hos hds (x := vs) rfl (wpAny_pure ?_)))))))
    refine wpAny_bind (HT.slicePart_ ps ?_)
    show wpAny _ _ (if ((-1 : Int) == 0) = true then _ else _) _ _ s
    rw [if_neg (by decide)]
    refine wpAny_bind (HT.slicePart_ pl (wpAny_bind (HT.slicePart_ pu (wpAny_bind (wpAny_pure ?_)))))
    show wpAny _ _ (match Builtin.Slice.sliceAdjust none none (-1) (items.size : Int) with | (lo, hi) => pure (lo, (-1 : Int), Builtin.Slice.slicePlaces lo hi (-1))) _ _ s
    rw [(backPlaces items.size).1]
    show wpAny _ _ (pure ((items.size : Int) - 1, (-1 : Int), Builtin.Slice.slicePlaces ((items.size : Int) - 1) (-1) (-1))) _ _ s
    rw [(backPlaces items.size).2]
    exact wpAny_pure hq
  refine wpAny_bind (app ?_)
  have no : ¬ ((((items.size : Int) - 1) == 0 && (-1 : Int) == 1 && items.size == items.size) = true) := by
    intro q
    rw [Bool.and_eq_true, Bool.and_eq_true] at q
    exact absurd q.1.2 (by decide)
  show wpAny _ _ (if (((items.size : Int) - 1) == 0 && (-1 : Int) == 1 && items.size == items.size) = true then _ else _) _ _ s
  rw [if_neg no]
  rw [backPick]
  first
    | exact wpAny_bind (m := Builtin.Tuple.tupleExact _) (wpAny_newObj_type (wpAny_pure ⟨_, rfl, wpAny_pure h⟩) fits)
    | exact wpAny_bind (m := Builtin.Tuple.tupleExact _) (wpAny_newObj_type (wpAny_bind (wpAny_pure (wpAny_pure ⟨_, rfl, wpAny_pure h⟩))) fits)
    | exact wpAny_bind (wpAny_bind (m := Builtin.Tuple.tupleExact _) (wpAny_newObj_type (wpAny_pure (wpAny_pure ⟨_, rfl, wpAny_pure h⟩)) fits))
    | exact wpAny_bind (wpAny_bind (m := Builtin.Tuple.tupleExact _) (wpAny_newObj_type (wpAny_pure ⟨_, rfl, wpAny_pure h⟩) fits))
end
def tBackT (K : Frag) (te : TE) : TE := fun σ H Q => te σ H fun x H1 => ∃ a xs, x = .ref a ∧ SqT K H1 a xs ∧ ∀ p, H1 p = none → Q (.ref p) (upd H1 p (.tup xs.reverse))
section
variable {X : Cx} {W : WX} {e : Expr} {m : ME} {te : TE} {k : Nat} {p1 p2 p3 pos : Pos}
theorem pe_backT (he : PE X e te) : PE X (.Subscript e (.Slice none none (some (.UnaryOp .USub (.Constant (.int 1) k p1) p2)) p3) pos) (tBackT X.K te) := by
  refine ⟨fun pins s σ H Q I hw => ?_⟩
  refine Subscript_ (thn (he.run pins s σ H _ I hw) fun v s1 hh => ?_)
  obtain ⟨x, H1, I1, r1, a, xs, ex, hx, q⟩ := hh
  subst ex
  cases r1
  have stp : PO X (some (.UnaryOp .USub (.Constant (.int 1) k p1) p2)) (tPart (tUn (rU fun i => .int (-i)) (tC (.int 1)))) := po_some (pe_un un_neg pe_int)
  refine wpAny_Slice (thn (po_none.run pins s1 σ H1 (fun o H2 => o = none ∧ H2 = H1) I1 ⟨rfl, rfl⟩) fun vl s2 hh => ?_)
  obtain ⟨l, H2, I2, pl, el, e2⟩ := hh
  subst el e2
  refine thn (po_none.run pins s2 σ H2 (fun o H3 => o = none ∧ H3 = H2) I2 ⟨rfl, rfl⟩) fun vu s3 hh => ?_
  obtain ⟨u, H3, I3, pu, eu, e3⟩ := hh
  subst eu e3
  refine thn (stp.run pins s3 σ H3 (fun o H4 => o = some (-1) ∧ H4 = H3) I3 ⟨1, rfl, -1, rfl, rfl, rfl⟩) fun vs s4 hh => ?_
  obtain ⟨o, H4, I4, ps, eo, e4⟩ := hh
  subst eo e4
  have I5 : Inv X pins σ H4 { s4 with heap := s4.heap.push { cls := .type "slice", data := .fields #[vl, vu, vs] } } := I4.kept (t' := s4.toks) fun b ob q => Heap.get?_push_of_some _ q
  obtain ⟨its, r, ht, hz⟩ := I5.tuple hx
  have hlen := r.length
  show wpAny (model X.prog X.w) X.A (subscriptTail e (.Slice none none (some (.UnaryOp .USub (.Constant (.int 1) k p1) p2)) p3) (.ref a) (.ref s4.heap.objs.size)) (EP X pins σ Q) X.xe { s4 with heap := s4.heap.push { cls := .type "slice", data := .fields #[vl, vu, vs] } }
  refine tail_any (ops := [.ref a, .ref s4.heap.objs.size]) ht.typeIs (PyProof.Rows.slot_tuple_getitem.lookup) ?_ (by with_unfolding_all rfl)
  refine backSlice ht (Heap.IsSliceOf.new _ vl vu vs) pl pu ps ?_ (by rw [List.size_toArray]; omega)
  refine ⟨.ref _, _, I5.laid (t' := s4.toks) (o := .tup xs.reverse) (fun b ob q => Heap.get?_push_of_some _ q) (Nat.le_refl _) ?_, rfl, q _ (I5.hok.fresh (Nat.le_refl _))⟩
  exact ⟨by rw [List.length_reverse]; exact hz, its.reverse, r.reverse, ⟨_, Heap.get?_push_size _ rfl, rfl, _, rfl⟩⟩
def mBack (m : ME) : ME := fun ρ S => (m ρ S).bind fun x S1 => match x with
  | .tup ds => .ok (.tup ds.reverse) S1
  | _ => .bad
theorem d_back (h : DE X W e m) : DE X W (.Subscript e (.Slice none none (some (.UnaryOp .USub (.Constant (.int 1) k p1) p2)) p3) pos) (mBack m) := by
  obtain ⟨te, pe, ke⟩ := h
  refine ⟨_, pe_backT pe, fun ξ μ σ H ρ S Q g s h => ke ξ μ σ H ρ S _ g s (WR.bind h fun x S1 v μ1 H1 u1 s1 r1 h1 => ?_)⟩
  cases r1 with
  | @tup a xs ds f r =>
    exact ⟨a, xs, rfl, f.sq, fun p hp => h1 _ μ1 _ (.fresh hp) (s1.fresh hp) (.tup (.inl ⟨.inl upd_same, s1.out hp, s1.outX hp⟩) (r.reverse.up (.fresh hp)))⟩
  | _ => exact h1.elim
end
end Dm
-- text DmEnd
namespace Dm
open PySem L2 PySem.Spec PyProof.Rows
open PySem.W (Frag)
theorem d_fold {X : Cx} {W : WX} {e : Expr} {m : ME} {d : D} (h : DE X W e m) (hm : ∀ ρ S, m ρ S = .ok d S) : DE X W e (mK d) := by
  have q : m = mK d := funext fun ρ => funext fun S => hm ρ S
  rw [← q]; exact h
def LawTrue (m : List D → Sto → Res D) : Prop := ∀ ns : List Int, ns.length ≤ 63 → ∃ S', m [.lst (ns.map .int)] [] = .ok (.bl true) S'
def spLaw (K : Frag) : Sp := fun vs H Q _ => ∃ (a : Addr) (ns : List Int), vs = [.ref a] ∧ SqL K H a (ns.map V.int) ∧ ns.length ≤ 63 ∧ ∀ H', Q (.bl true) H'
section
variable {P : Program} {w : World} {K : Frag} {mg : Str → Option Value} {base : Heap}
theorem rds_ints {F : Fx} {μ : List Addr} {H : Hp} : ∀ ns : List Int, RDs F μ H (ns.map V.int) (ns.map D.int)
  | [] => .nil
  | n :: ns => .cons (.int n) (rds_ints ns)
theorem law_ok {x sp : Str} {st : Stmt} {f : Addr} {fd : FuncData} {k : Nat} {m : List D → Sto → Res D} (hm : mg x = some (.ref f)) (F : Fun K x x st f fd) (G : FnD P w K mg base k x st [sp] m) (h : LawTrue m) :
    FnOk P w K mg base (L2.CX P w) k f fd [sp] (spLaw K) := by
  obtain ⟨f', fd', hm', F', B', G'⟩ := G
  rw [hm] at hm'
  cases hm'
  have e : fd = fd' := by
    obtain ⟨oc, od, kV, doc, pm, an, cdv, ct, osl, e1, lk, hcd⟩ := F.ex
    obtain ⟨oc', od', kV', doc', pm', an', cdv', ct', osl', e1', lk', hcd'⟩ := F'.ex
    rw [lk] at lk'
    have q := Option.some.inj lk'
    injection q with q1 q2 q3 q4
    injection q3
  subst e
  refine G'.imp fun vs H Q E hh => ?_
  obtain ⟨a, ns, rfl, hS, hl, q⟩ := hh
  obtain ⟨S', e⟩ := h ns hl
  refine ⟨[], [], [.lst (ns.map .int)], [], ⟨rfl, .nil, (fun n a c e _ => nomatch e), (fun a h => nomatch h)⟩, .cons (.lst ?_ (rds_ints ns)) .nil, ?_⟩
  · exact hS.imp (fun z => ⟨z, List.not_mem_nil, List.not_mem_nil⟩) id
  · rw [e]
    intro v μ' H' u s r
    cases r
    exact q H'
theorem cx_no {P : Program} {w : World} {H : Hp} {s s' : Shared} {e : Value} (z : L2.CX P w [] H s (fun _ _ _ => False) e s') : False := by
  obtain ⟨_, _, _, _, _, _, _, _, _, _, _, _, z⟩ := z
  exact z
end
end Dm
-- text DmMore
namespace Dm
open PySem L2
open PySem.W (Frag)
section
variable {X : Cx} {W : WX} {tg e a b c : Expr} {es : List Expr} {ma mb mc m : ME} {pos p p1 p2 p3 : Pos}
/-! ### a list some times -/
def mRepL (a : MA) (b : ME) : MA := fun ρ S => (a ρ S).bind fun xs S1 => (b ρ S1).bind fun y S2 => match y with
  | .int k => if k < 1000000 ∧ xs.length * k.toNat ≤ 16777216 ∧ -1000000 < k then .ok (List.replicate k.toNat xs).flatten S2 else .bad
  | _ => .bad
theorem RDs.rep {F : Fx} {μ : List Addr} {H : Hp} {vs : List V} {ds : List D} (h : RDs F μ H vs ds) : ∀ k : Nat, RDs F μ H (List.replicate k vs).flatten (List.replicate k ds).flatten
  | 0 => .nil
  | k + 1 => by
    rw [List.replicate_succ, List.replicate_succ, List.flatten_cons, List.flatten_cons]
    exact RDs.append h (RDs.rep h k)
theorem mv_hold {ξ : List Addr} {μ μ1 : List Addr} {H H1 : Hp} {p : Addr} {xs : List V} (u1 : Up μ H μ1 H1) (hp : H p = none) (e1 : H1 p = some (.lst xs)) : Mv (fx X ξ) μ H ((fx X ξ).hold p) μ1 H1 :=
  ⟨fun {a xs} q => by
    rcases q.up u1 with ⟨z, n, nx⟩ | z
    · rcases q with ⟨z0, _⟩ | z0
      · refine .inl ⟨z, n, fun m => (List.mem_cons.mp m).elim (fun e => ?_) nx⟩
        subst e
        rcases z0 with z0 | ⟨o, z0⟩ <;> (rw [hp] at z0; cases z0)
      · exact .inr z0
    · exact .inr z, fun {a xs} q => by
    rcases q.up u1 with ⟨z, n, nx⟩ | z
    · rcases q with ⟨z0, _⟩ | z0
      · refine .inl ⟨z, n, fun m => (List.mem_cons.mp m).elim (fun e => ?_) nx⟩
        subst e
        rcases z0 with z0 | ⟨o, z0⟩ <;> (rw [hp] at z0; cases z0)
      · exact .inr z0
    · exact .inr z, fun q => u1.get q, rfl⟩
theorem dl_rep {na : MA} (ha : DL X W a na) (hb : DE X W b mb) : DL X W (.BinOp a .Mult b pos) (mRepL na mb) := by
  obtain ⟨ta, pa, ka⟩ := ha
  obtain ⟨tb, pb, kb⟩ := hb
  refine ⟨_, pe_op op_rep pa pb, fun ξ μ σ H ρ S Q g s h => ka ξ μ σ H ρ S _ g s (WL'.bindL h fun ds S1 p xs μ1 H1 u1 hp s1 r1 e1 h1 => ?_)⟩
  refine kb (p :: ξ) μ1 σ H1 ρ S1 _ ?_ s1 ?_
  · exact ⟨g.len, fun i d e => by
      obtain ⟨v, h, r⟩ := (g.up u1).at_ i d e
      obtain ⟨v', h', r'⟩ := g.at_ i d e
      rw [h] at h'; cases h'
      exact ⟨v, h, r'.mv (mv_hold u1 hp e1)⟩⟩
  cases e : mb ρ S1 with
  | bad => rw [e] at h1; exact h1.elim
  | exc c fs S2 =>
    rw [e] at h1
    exact fun cls dd μ' H' u' s' x' => h1 cls dd μ' H' u' (RS.free (F := fx X ξ) (p := p) s') (XR.hold (F := fx X ξ) (p := p) x')
  | ok y S2 =>
    rw [e] at h1
    intro v μ2 H2 u2 s2 r2
    have hpq : p ∉ μ1 := (s1.xi p List.mem_cons_self).1
    have ep := u2.keep _ _ e1 hpq
    cases y with
    | int k =>
      cases r2
      by_cases c : k < 1000000 ∧ ds.length * k.toNat ≤ 16777216 ∧ -1000000 < k
      · have h1 : WL' (fx X ξ) (if k < 1000000 ∧ ds.length * k.toNat ≤ 16777216 ∧ -1000000 < k then Res.ok (List.replicate k.toNat ds).flatten S2 else .bad) Q (fun cls dd H' => W cls dd σ H') μ1 H1 := h1
        rw [if_pos c] at h1
        refine ⟨p, k, xs, rfl, rfl, ep, by omega, by omega, by rw [r1.length, sizeLine_eq]; exact c.2.1, fun r hr => ?_⟩
        have rr : RDs (fx X ξ) μ2 H2 (List.replicate k.toNat xs).flatten (List.replicate k.toNat ds).flatten := RDs.rep ((r1.mv .free).up u2) _
        have ss : RS (fx X ξ) μ2 H2 S2 := RS.free (F := fx X ξ) (p := p) s2
        have nr : r ∉ μ1 := fun z => ss.out hr (u2.mem z)
        exact h1 r _ μ2 _ (u2.trans (.fresh hr)) (u2.back hr nr) (ss.holds hr) (rr.mv (.holds hr)) upd_same
      · have h1 : WL' (fx X ξ) (if k < 1000000 ∧ ds.length * k.toNat ≤ 16777216 ∧ -1000000 < k then Res.ok (List.replicate k.toNat ds).flatten S2 else .bad) Q (fun cls dd H' => W cls dd σ H') μ1 H1 := h1
        rw [if_neg c] at h1
        exact h1.elim
    | _ => exact h1.elim
/-! ### a comprehension that is kept by a name -/
abbrev RdL (X : Cx) (W : WX) (te : TE) (mr : MA) : Prop := ∀ ξ μ σ H ρ S Q, RG (fx X ξ) μ H σ ρ → RS (fx X ξ) μ H S → WL' (fx X ξ) (mr ρ S) Q (fun cls dd H' => W cls dd σ H') μ H → te σ H Q
abbrev RdE (X : Cx) (W : WX) (te : TE) (m : ME) : Prop := ∀ ξ μ σ H ρ S Q, RG (fx X ξ) μ H σ ρ → RS (fx X ξ) μ H S → WE' (fx X ξ) (m ρ S) Q (fun cls dd H' => W cls dd σ H') μ H → te σ H Q
theorem rd_fz {te : TE} {mr : MA} (k : RdL X W te mr) : RdE X W te (mFz mr) := by
  intro ξ μ σ H ρ S Q g s h
  refine k ξ μ σ H ρ S Q g s ?_
  unfold mFz at h
  cases e : mr ρ S with
  | bad => rw [e] at h; exact h.elim
  | exc c fs S' => rw [e] at h; exact h
  | ok ds S' =>
    rw [e] at h
    exact fun q xs μ' H' u' hq s' r' e' => h _ μ' H' u' s'.free (.lst (.inl ⟨.inl e', (s'.xi q List.mem_cons_self).1, s.outX hq⟩) (r'.mv .free))
theorem rd_new {te : TE} {mr : MA} (k : RdL X W te mr) : RdE X W te (mNew mr) := by
  intro ξ μ σ H ρ S Q g s h
  refine k ξ μ σ H ρ S Q g s ?_
  unfold mNew at h
  cases e : mr ρ S with
  | bad => rw [e] at h; exact h.elim
  | exc c fs S' => rw [e] at h; exact h
  | ok ds S' =>
    rw [e] at h
    intro q xs μ' H' u' hq s' r' e'
    have l : S'.length = μ'.length := s'.len.symm
    refine h (.ref q) (μ' ++ [q]) H' ⟨?_, fun a ha n => (List.mem_append.mp ha).elim (fun z => u'.new a z n) (fun z => by rw [List.mem_singleton.mp z]; exact hq), u'.keep⟩ (s'.asCell (s.outX hq) e' r') (.cell (by rw [l]; exact alloc_at))
    obtain ⟨ν, z⟩ := u'.pre
    exact ⟨ν ++ [q], by rw [z, List.append_assoc]⟩
/-- .. the ways to keep it: as it is, or as a cell -/
theorem ds_setLc {mr : MA} (i : Nat) {y : Str} {py spos : Pos} {elt : Expr} {ifs : List Expr} {scope : Scope} {own : List (Str × Nat)} {f : D → Rho → Option Rho} {is : List Nat} {mt me : ME} {mw : MA → ME} (hw : ∀ {te : TE} {mr : MA}, RdL X W te mr → RdE X W te (mw mr)) (hc : X.calm = true) (hN : X.N.Nodup) (hi : DI X W tg e mr) (ok : BlkOk X.N X.env.scope scope own)
    (hg : ∀ (s : Shared) (H : Hp) (C : Addr) (cl : List (Str × Addr)) (fp : List Addr), DG (X.blk s H scope (compEnvC scope cl C X.env) fp) tg f is)
    (ht : ∀ (s : Shared) (H : Hp) (C : Addr) (cl : List (Str × Addr)) (fp : List Addr), DTs (X.blk s H scope (compEnvC scope cl C X.env) fp) W0 ifs mt)
    (he : ∀ (s : Shared) (H : Hp) (C : Addr) (cl : List (Str × Addr)) (fp : List Addr), DE (X.blk s H scope (compEnvC scope cl C X.env) fp) W0 elt me)
    (hv : ∀ i ∈ is, i ∈ own.map (·.2) := by decide) (hy : X.N[i]? = some y := by rfl) (hyl : X.env.scope.names.lookup y = some .local := by rfl)
    (hsw : swapsWith (.ListComp elt [⟨tg, e, ifs, 0⟩] scope pos) (some (.Name y py)) spos.line X.env = pure true := by rfl) (hs : ∀ x, foldedSetIterable e X.env x = pure x := by intro _; rfl) :
    DS X W (.Assign [.Name y py] (.ListComp elt [⟨tg, e, ifs, 0⟩] scope pos) spos) (mAsg i (mw (mLc mr f mt me (own.map (·.2))))) := by
  obtain ⟨wi, pi, ki⟩ := hi
  obtain ⟨tg', pg, kg⟩ := dg_all (Xf := blkOf X scope) (K := X.K) (mg := X.mg) (fun _ => rfl) (fun _ => rfl) fun i => hg i.1 i.2.1 i.2.2.1 i.2.2.2.1 i.2.2.2.2
  obtain ⟨tt, pt, kt⟩ := dts_all (Xf := blkOf X scope) (K := X.K) (mg := X.mg) (fun _ => rfl) (fun _ => rfl) fun i => ht i.1 i.2.1 i.2.2.1 i.2.2.2.1 i.2.2.2.2
  obtain ⟨te, pe, ke⟩ := de_all (Xf := blkOf X scope) (K := X.K) (mg := X.mg) (fun _ => rfl) (fun _ => rfl) fun i => he i.1 i.2.1 i.2.2.1 i.2.2.2.1 i.2.2.2.2
  have rd : RdL X W (tLc wi tg' tt te (own.map (·.2))) (mLc mr f mt me (own.map (·.2))) := fun ξ μ σ H ρ S Q g s h => lc_read (fun R => ki ξ μ σ H ρ S R g s) kg kt ke hv g s h
  refine ⟨_, ps_setLc (i := i) hc hN hy hyl hsw pi ok (fun s H C cl fp => pg (s, H, C, cl, fp)) (fun s H C cl fp => pt (s, H, C, cl, fp)) (fun s H C cl fp => pe (s, H, C, cl, fp)) hs, fun ξ μ σ H ρ S D g s h => ?_⟩
  exact hw rd ξ μ σ H ρ S _ g s (WS'.bind g h fun x S1 v μ1 H1 u1 s1 r1 h1 => h1 _ μ1 H1 .refl s1 ((g.up u1).set i r1))
/-! ### a kept list and a new one behind it -/
def mCatC (a : ME) (b : MA) : MA := fun ρ S => (a ρ S).bind fun x S1 => (b ρ S1).bind fun ys S2 => match x with
  | .cell n => match S2[n]? with
    | some (.lst xs) => if xs.length + ys.length ≤ 16777216 then .ok (xs ++ ys) S2 else .bad
    | _ => .bad
  | _ => .bad
theorem dl_catC {nb : MA} (ha : DE X W a ma) (hb : DL X W b nb) : DL X W (.BinOp a .Add b pos) (mCatC ma nb) := by
  obtain ⟨ta, pa, ka⟩ := ha
  obtain ⟨tb, pb, kb⟩ := hb
  refine ⟨_, pe_op op_cat pa pb, fun ξ μ σ H ρ S Q g s h => ka ξ μ σ H ρ S _ g s (WL'.bind h fun x S1 v μ1 H1 u1 s1 r1 h1 => ?_)⟩
  refine kb ξ μ1 σ H1 ρ S1 _ (g.up u1) s1 (WL'.bindL h1 fun es S2 q ys μ2 H2 u2 hq s2 r2 e2 h2 => ?_)
  cases r1 with
  | @cell a n ea =>
    cases c : S2[n]? with
    | none => simp only [c] at h2; exact h2.elim
    | some cc =>
      cases cc with
      | lst ds =>
        simp only [c] at h2
        obtain ⟨xs, e3, r3⟩ := s2.at_ n a _ (u2.get ea) c
        by_cases l : ds.length + es.length ≤ 16777216
        · rw [if_pos l] at h2
          refine ⟨a, q, xs, ys, rfl, rfl, e3, e2, by rw [r3.length, r2.length, sizeLine_eq]; exact l, fun r hr => ?_⟩
          have rr : RDs (fx X ξ) μ2 H2 (xs ++ ys) (ds ++ es) := RDs.free (F := fx X ξ) (p := q) _ (RDs.append r3 r2)
          have ss : RS (fx X ξ) μ2 H2 S2 := RS.free (F := fx X ξ) (p := q) s2
          exact h2 r _ μ2 _ (.fresh hr) hr (ss.holds hr) (rr.mv (.holds hr)) upd_same
        · rw [if_neg l] at h2
          exact h2.elim
      | _ => simp only [c] at h2; exact h2.elim
  | _ => exact h2.elim
end
end Dm
-- text DmCat
namespace Dm
open PySem L2 PySem.Spec PyProof.Rows
open PySem.W (Frag)
section
variable {X : Cx} {W : WX} {tg e a b c : Expr} {es : List Expr} {ma mb mc m : ME} {pos p p1 p2 p3 : Pos}
def rCatB (K : Frag) : R2 := fun x y H Q => ∃ l b xs zs, x = .ref l ∧ y = .ref b ∧ SqL K H l xs ∧ SqL K H b zs ∧ xs.length + zs.length ≤ sizeLine ∧ ∀ p, H p = none → Q (.ref p) (upd H p (.lst (xs ++ zs)))
theorem op_catB : OpR X (binaryOp .Add) (rCatB X.K) := by
  intro pins s σ H x y v u Q I rx ry h
  obtain ⟨l, b, xs, zs, rfl, rfl, hl, hb, hz, q⟩ := h
  cases rx
  cases ry
  obtain ⟨its, r, ⟨o, n, ho, hc, hd, hs⟩, z⟩ := I.list hl
  obtain ⟨its2, r2, ⟨o2, n2, ho2, hc2, hd2, hs2⟩, z2⟩ := I.list hb
  obtain ⟨cls, dd, data, sl⟩ := o
  obtain ⟨cls2, dd2, data2, sl2⟩ := o2
  simp only at hc hd hs hc2 hd2 hs2
  subst hc hd hs hc2 hd2 hs2
  have ea : its.toArray ++ its2.toArray = (its ++ its2).toArray := by simp
  refine concat_meets ⟨_, ho, rfl⟩ ⟨_, ho2, rfl⟩ noFill_list_add seq_list_add PySem.F.slot_list_add PySem.F.entry_list_add (PySem.F.args_list_add_2 _ _) (list_addW l b its.toArray its2.toArray n n2 none none sl sl2 (by rw [List.size_toArray, List.size_toArray, ← r.length, ← r2.length]; exact hz)) ⟨ho, ho2, ?_⟩
  rw [ea]
  exact ⟨.ref _, _, I.lnew (t' := s.toks) (r.append r2) (by rw [List.length_append]; exact hz), rfl, q _ I.fresh⟩
/-- a list that stands somewhere and a new one behind it -/
def mCatV (a : ME) (b : MA) : MA := fun ρ S => (a ρ S).bind fun x S1 => (b ρ S1).bind fun ys S2 => match lstOf S2 x with
  | some xs => if xs.length + ys.length ≤ 16777216 then .ok (xs ++ ys) S2 else .bad
  | none => .bad
theorem dl_catV {nb : MA} (ha : DE X W a ma) (hb : DL X W b nb) : DL X W (.BinOp a .Add b pos) (mCatV ma nb) := by
  obtain ⟨ta, pa, ka⟩ := ha
  obtain ⟨tb, pb, kb⟩ := hb
  refine ⟨_, pe_op op_catB pa pb, fun ξ μ σ H ρ S Q g s h => ka ξ μ σ H ρ S _ g s (WL'.bind h fun x S1 v μ1 H1 u1 s1 r1 h1 => ?_)⟩
  refine kb ξ μ1 σ H1 ρ S1 _ (g.up u1) s1 (WL'.bindL h1 fun es S2 q ys μ2 H2 u2 hq s2 r2 e2 h2 => ?_)
  cases c : lstOf S2 x with
  | none => simp only [c] at h2; exact h2.elim
  | some ds =>
    simp only [c] at h2
    have ss : RS (fx X ξ) μ2 H2 S2 := RS.free (F := fx X ξ) (p := q) s2
    obtain ⟨l, xs, rfl, h4, r3⟩ := RD.lstS ss (r1.up u2) c
    by_cases l : ds.length + es.length ≤ 16777216
    · rw [if_pos l] at h2
      refine ⟨_, q, xs, ys, rfl, rfl, h4, SqL.of e2, by rw [r3.length, r2.length, sizeLine_eq]; exact l, fun r hr => ?_⟩
      have rr : RDs (fx X ξ) μ2 H2 (xs ++ ys) (ds ++ es) := RDs.append r3 (RDs.free (F := fx X ξ) (p := q) _ r2)
      exact h2 r _ μ2 _ (.fresh hr) hr (ss.holds hr) (rr.mv (.holds hr)) upd_same
    · rw [if_neg l] at h2
      exact h2.elim
/-- is, is not of truth values -/
def gIsB (neg : Bool) : Sto → D → D → Option D := fun _ x y => match x, y with
  | .bl a, .bl b => some (.bl (if neg then !decide (a = b) else decide (a = b)))
  | _, _ => none
theorem o_isB : OpD X rIsB (gIsB false) := by
  intro ξ μ H S x y v u z Q s rx ry e k
  cases rx with
  | bl a =>
    cases ry with
    | bl b => cases e; exact ⟨a, b, rfl, rfl, k _ μ H .refl s (.bl _)⟩
    | _ => exact nomatch e
  | _ => cases ry <;> exact nomatch e
theorem o_notB : OpD X rNotB (gIsB true) := by
  intro ξ μ H S x y v u z Q s rx ry e k
  cases rx with
  | bl a =>
    cases ry with
    | bl b => cases e; exact ⟨a, b, rfl, rfl, k _ μ H .refl s (.bl _)⟩
    | _ => exact nomatch e
  | _ => cases ry <;> exact nomatch e
end
end Dm
-- text DmAll

-- text Hw
namespace Dm
open PySem L2
noncomputable section
def m_is_integer : List D → Sto → Res D := mDef 1 1 (mRet (mAnd (mIsi .int (mVar 0)) (mNot (mIsi .bl (mVar 0)))))
def m_is_zone : List D → Sto → Res D := mDef 1 5 (mSeq (mIfS (mOr (mNot (mIsi .tup (mVar 0))) (mOp gNe (mCallB gLen (mCons (mVar 0) mNil)) (mK (.int 2)))) (mRet (mK (.bl false))) mNop) (mSeq (mAsgG (tgT 2 (tgCons (tgN 1) (tgCons (tgN 2) tgNil))) (mVar 0)) (mSeq (mIfS (mOr (mNot (mIsi .tup (mVar 1))) (mNot (mChain gLe gLe (mK (.int 1)) (mCallB gLen (mCons (mVar 1) mNil)) (mK (.int 3))))) (mRet (mK (.bl false))) mNop) (mSeq (mFor (iSeq (mVar 1)) (tgN 3) (mIfS (mOr (mNot (mCall m_is_integer (mCons (mVar 3) mNil))) (mNot (mChain gLe gLe (mUn gNeg (mK (.int 900))) (mVar 3) (mK (.int 900))))) (mRet (mK (.bl false))) mNop)) (mSeq (mFor (iRange2 (mCons (mK (.int 1)) (mCons (mCallB gLen (mCons (mVar 1) mNil)) mNil))) (tgN 4) (mIfS (mOp gLe (mOp gIx (mVar 1) (mVar 4)) (mOp gIx (mVar 1) (mOp gSub (mVar 4) (mK (.int 1))))) (mRet (mK (.bl false))) mNop)) (mRet (mAnd (mCall m_is_integer (mCons (mVar 2) mNil)) (mChain gLt gLe (mOp gSub (mOp gIx (mVar 1) (mK (.int (-1)))) (mOp gIx (mVar 1) (mK (.int 0)))) (mVar 2) (mK (.int 1000000))))))))))
def m_need_zone : List D → Sto → Res D := mDef 1 1 (mIfS (mNot (mCall m_is_zone (mCons (mVar 0) mNil))) (mRaise "InvalidZone") mNop)
def m_need_number : List D → Sto → Res D := mDef 1 1 (mIfS (mNot (mCall m_is_integer (mCons (mVar 0) mNil))) (mRaise "InvalidNumber") mNop)
def m_is_offset : List D → Sto → Res D := mDef 2 2 (mRet (mAnd (mCall m_is_integer (mCons (mVar 1) mNil)) (mOp (gIn false) (mVar 1) (mOp gIx (mVar 0) (mK (.int 0))))))
def m_is_mark : List D → Sto → Res D := mDef 2 2 (mRet (mAnd (mIsi .tup (mVar 1)) (mAnd (mOp gEq (mCallB gLen (mCons (mVar 1) mNil)) (mK (.int 2))) (mAnd (mCall m_is_integer (mCons (mOp gIx (mVar 1) (mK (.int 0))) mNil)) (mCall m_is_offset (mCons (mVar 0) (mCons (mOp gIx (mVar 1) (mK (.int 1))) mNil)))))))
def m_is_table : List D → Sto → Res D := mDef 2 6 (mSeq (mDrop (mCall m_need_zone (mCons (mVar 0) mNil))) (mSeq (mIfS (mOr (mNot (mIsi .tup (mVar 1))) (mOr (mOp gNe (mCallB gLen (mCons (mVar 1) mNil)) (mK (.int 2))) (mNot (mCall m_is_offset (mCons (mVar 0) (mCons (mOp gIx (mVar 1) (mK (.int 0))) mNil)))))) (mRet (mK (.bl false))) mNop) (mSeq (mAsgG (tgT 2 (tgCons (tgN 2) (tgCons (tgN 3) tgNil))) (mVar 1)) (mSeq (mIfS (mNot (mIsi .tup (mVar 3))) (mRet (mK (.bl false))) mNop) (mSeq (mFor (iEnumS (mVar 3)) (tgT 2 (tgCons (tgN 4) (tgCons (tgN 5) tgNil))) (mSeq (mIfS (mOr (mNot (mCall m_is_mark (mCons (mVar 0) (mCons (mVar 5) mNil)))) (mOp gEq (mOp gIx (mVar 5) (mK (.int 1))) (mVar 2))) (mRet (mK (.bl false))) mNop) (mSeq (mIfS (mAnd (mOp gGt (mVar 4) (mK (.int 0))) (mOp gLt (mOp gSub (mOp gIx (mVar 5) (mK (.int 0))) (mOp gIx (mOp gIx (mVar 3) (mOp gSub (mVar 4) (mK (.int 1)))) (mK (.int 0)))) (mOp gIx (mVar 0) (mK (.int 1))))) (mRet (mK (.bl false))) mNop) (mAsg 2 (mOp gIx (mVar 5) (mK (.int 1))))))) (mRet (mK (.bl true))))))))
def m_need_table : List D → Sto → Res D := mDef 2 2 (mIfS (mNot (mCall m_is_table (mCons (mVar 0) (mCons (mVar 1) mNil)))) (mRaise "InvalidTable") mNop)
def m_offset_in : List D → Sto → Res D := mDef 2 5 (mSeq (mAsg 2 (mOp gIx (mVar 0) (mK (.int 0)))) (mSeq (mFor (iSeq (mOp gIx (mVar 0) (mK (.int 1)))) (tgT 2 (tgCons (tgN 3) (tgCons (tgN 4) tgNil))) (mSeq (mIfS (mOp gGt (mVar 3) (mVar 1)) mBrk mNop) (mAsg 2 (mVar 4)))) (mRet (mVar 2))))
def m_offset_at : List D → Sto → Res D := mDef 3 3 (mSeq (mDrop (mCall m_need_zone (mCons (mVar 0) mNil))) (mSeq (mDrop (mCall m_need_table (mCons (mVar 0) (mCons (mVar 1) mNil)))) (mSeq (mDrop (mCall m_need_number (mCons (mVar 2) mNil))) (mRet (mCall m_offset_in (mCons (mVar 1) (mCons (mVar 2) mNil)))))))
def m_reading_at : List D → Sto → Res D := mDef 3 3 (mRet (mOp gAdd (mVar 2) (mCall m_offset_at (mCons (mVar 0) (mCons (mVar 1) (mCons (mVar 2) mNil))))))
def m_law_digits : List D → Sto → Res D := mDef 1 4 (mSeq (mIfS (mOp gGe (mVar 0) (mK (.int 1000000000000000000))) (mRet (mNew (mLst (mCons (mOp gSub (mVar 0) (mK (.int 1000000000000000000))) mNil)))) mNop) (mSeq (mAsg 1 (mOp gAdd (mOp gMod (mCallB gInt1 (mCons (mVar 0) mNil)) (mK (.int 100000000000000000000000000000000000133))) (mK (.int 7)))) (mSeq (mAsg 2 (mK (.int 1))) (mSeq (mFor (iRange1 (mCons (mK (.int 19)) mNil)) (tgN 3) (mSeq (mAsg 1 (mOp gMod (mOp gAdd (mOp gAdd (mOp gAdd (mOp gMul (mVar 1) (mVar 1)) (mOp gMul (mK (.int 31415926535)) (mVar 1))) (mOp gMul (mK (.int 271829)) (mVar 3))) (mK (.int 17))) (mK (.int 100000000000000000000000000000000000000009)))) (mIfS (mOp gGt (mVar 3) (mK (.int 2))) (mAsg 2 (mOp gAdd (mOp gMul (mVar 2) (mK (.int 100000000000000000000000000000000000000000))) (mVar 1))) mNop))) (mRet (mNew (mLst (mCons (mVar 2) mNil))))))))
def m_law_draw : List D → Sto → Res D := mDef 2 3 (mSeq (mAsg 2 (mOp gMod (mCallB gInt1 (mCons (mOp gIx (mVar 0) (mK (.int 0))) mNil)) (mVar 1))) (mSeq (mSetIx (mOp gFdiv (mOp gIx (mVar 0) (mK (.int 0))) (mVar 1)) (mVar 0) (mK (.int 0))) (mRet (mVar 2))))
def m_law_any_hour : List D → Sto → Res D := mDef 1 2 (mSeq (mAsg 1 (mCall m_law_draw (mCons (mVar 0) (mCons (mK (.int 4)) mNil)))) (mSeq (mIfS (mOp gLt (mVar 1) (mK (.int 2))) (mRet (mOp gSub (mCall m_law_draw (mCons (mVar 0) (mCons (mK (.int 241)) mNil))) (mK (.int 120)))) mNop) (mSeq (mIfS (mOp gEq (mVar 1) (mK (.int 2))) (mRet (mOp gSub (mCall m_law_draw (mCons (mVar 0) (mCons (mK (.int 1800000000001)) mNil))) (mK (.int 900000000000)))) mNop) (mRet (mOp gIx (mFz (mLst (mCons (mK (.int 0)) (mCons (mK (.int 1)) (mCons (mK (.int (-1))) (mCons (mK (.int 1440)) (mCons (mK (.int (-525600))) (mCons (mK (.int 999799999999)) (mCons (mK (.int (-999999999999))) mNil))))))))) (mCall m_law_draw (mCons (mVar 0) (mCons (mK (.int 7)) mNil))))))))
def m_law_make_region : List D → Sto → Res D := mDef 1 11 (mSeq (mAsg 1 (mCall m_law_draw (mCons (mVar 0) (mCons (mK (.int 6)) mNil)))) (mSeq (mAsg 2 (mK (.int (-900)))) (mSeq (mIfS (mOp gLt (mVar 1) (mK (.int 2))) (mAsg 2 (mOp gSub (mCall m_law_draw (mCons (mVar 0) (mCons (mK (.int 7)) mNil))) (mK (.int 3)))) (mIfS (mOp gEq (mVar 1) (mK (.int 2))) (mAsg 2 (mOp gMul (mK (.int 30)) (mOp gSub (mCall m_law_draw (mCons (mVar 0) (mCons (mK (.int 45)) mNil))) (mK (.int 22))))) (mIfS (mOp gEq (mVar 1) (mK (.int 4))) (mAsg 2 (mOp gSub (mCall m_law_draw (mCons (mVar 0) (mCons (mK (.int 1201)) mNil))) (mK (.int 900)))) mNop))) (mSeq (mAsgG (tgT 2 (tgCons (tgN 3) (tgCons (tgN 4) tgNil))) (mOp gIx (mFz (mLst (mCons (mTup (mCons (mK (.int 1)) (mCons (mK (.int 4)) mNil))) (mCons (mTup (mCons (mK (.int 1)) (mCons (mK (.int 4)) mNil))) (mCons (mTup (mCons (mK (.int 30)) (mCons (mK (.int 4)) mNil))) (mCons (mTup (mCons (mK (.int 1)) (mCons (mK (.int 900)) mNil))) (mCons (mTup (mCons (mK (.int 1)) (mCons (mK (.int 300)) mNil))) (mCons (mTup (mCons (mK (.int 900)) (mCons (mK (.int 1)) mNil))) mNil)))))))) (mVar 1))) (mSeq (mAsg 5 (mOp gAdd (mVar 2) (mOp gMul (mVar 3) (mOp gAdd (mK (.int 1)) (mCall m_law_draw (mCons (mVar 0) (mCons (mVar 4) mNil))))))) (mSeq (mAsg 6 (mOp gAdd (mVar 5) (mOp gMul (mVar 3) (mOp gAdd (mK (.int 1)) (mCall m_law_draw (mCons (mVar 0) (mCons (mVar 4) mNil))))))) (mSeq (mAsg 7 (mFz (mLst (mCons (mTup (mCons (mVar 2) (mCons (mVar 5) mNil))) (mCons (mTup (mCons (mVar 2) (mCons (mVar 5) (mCons (mVar 6) mNil)))) (mCons (mTup (mCons (mVar 2) (mCons (mVar 6) mNil))) (mCons (mTup (mCons (mVar 2) (mCons (mVar 5) (mCons (mVar 6) mNil)))) (mCons (mTup (mCons (mVar 6) mNil)) mNil)))))))) (mSeq (mAsg 7 (mOp gIx (mVar 7) (mOp gFdiv (mCall m_law_draw (mCons (mVar 0) (mCons (mK (.int 9)) mNil))) (mK (.int 2))))) (mSeq (mIfS (mOp gEq (mCall m_law_draw (mCons (mVar 0) (mCons (mK (.int 2)) mNil))) (mK (.int 1))) (mAsg 7 (mCallB gTuple (mCons (mFz (mLc (iSeq (mBack (mVar 7))) (tgN 10) mYes (mUn gNeg (mVar 10)) [10])) mNil))) mNop) (mSeq (mAsg 8 (mOp gSub (mOp gIx (mVar 7) (mK (.int (-1)))) (mOp gIx (mVar 7) (mK (.int 0))))) (mSeq (mAsg 9 (mFz (mLst (mCons (mK (.int 0)) (mCons (mK (.int 0)) (mCons (mK (.int 1)) (mCons (mCall m_law_draw (mCons (mVar 0) (mCons (mK (.int 1000)) mNil))) (mCons (mCall m_law_draw (mCons (mVar 0) (mCons (mOp gSub (mK (.int 1000000)) (mVar 8)) mNil))) (mCons (mOp gSub (mK (.int 999999)) (mVar 8)) mNil))))))))) (mRet (mTup (mCons (mVar 7) (mCons (mOp gAdd (mOp gAdd (mVar 8) (mK (.int 1))) (mOp gIx (mVar 9) (mCall m_law_draw (mCons (mVar 0) (mCons (mK (.int 6)) mNil))))) mNil)))))))))))))))
def m_law_make_chart : List D → Sto → Res D := mDef 3 11 (mSeq (mAsgG (tgT 2 (tgCons (tgN 3) (tgCons (tgN 4) tgNil))) (mVar 1)) (mSeq (mAsg 5 (mCall m_law_draw (mCons (mVar 0) (mCons (mCallB gLen (mCons (mVar 3) mNil)) mNil)))) (mSeq (mAsg 6 (mOp gIx (mVar 3) (mVar 5))) (mSeq (mAsg 7 (mCall m_law_any_hour (mCons (mVar 0) mNil))) (mSeq (mAsg 8 (mNew (mLst mNil))) (mSeq (mFor (iRange1 (mCons (mOp gMul (mCall m_law_draw (mCons (mVar 0) (mCons (mOp gAdd (mVar 2) (mK (.int 1))) mNil))) (mCallB gInt1 (mCons (mOp gGt (mCallB gLen (mCons (mVar 3) mNil)) (mK (.int 1))) mNil))) mNil)) (tgN 9) (mSeq (mAsg 5 (mOp gMod (mCallB gInt1 (mCons (mOp gAdd (mOp gAdd (mVar 5) (mK (.int 1))) (mCall m_law_draw (mCons (mVar 0) (mCons (mOp gSub (mCallB gLen (mCons (mVar 3) mNil)) (mK (.int 1))) mNil)))) mNil)) (mCallB gLen (mCons (mVar 3) mNil)))) (mSeq (mApp (mVar 8) (mTup (mCons (mVar 7) (mCons (mOp gIx (mVar 3) (mVar 5)) mNil)))) (mSeq (mAsg 7 (mOp gAdd (mVar 7) (mVar 4))) (mSeq (mAsg 10 (mCall m_law_draw (mCons (mVar 0) (mCons (mK (.int 5)) mNil)))) (mIfS (mOp gGt (mVar 10) (mK (.int 2))) (mAsg 7 (mOp gAdd (mVar 7) (mCall m_law_draw (mCons (mVar 0) (mCons (mOp gIx (mFz (mLst (mCons (mK (.int 0)) (mCons (mK (.int 0)) (mCons (mK (.int 0)) (mCons (mK (.int 5)) (mCons (mOp gMul (mK (.int 2)) (mVar 4)) mNil))))))) (mVar 10)) mNil))))) mNop)))))) (mRet (mTup (mCons (mVar 6) (mCons (mCallB gTuple (mCons (mVar 8) mNil)) mNil))))))))))
def m_law_shift_at : List D → Sto → Res D := mDef 2 5 (mSeq (mAsg 2 (mOp gIx (mVar 0) (mK (.int 0)))) (mSeq (mFor (iSeq (mOp gIx (mVar 0) (mK (.int 1)))) (tgT 2 (tgCons (tgN 3) (tgCons (tgN 4) tgNil))) (mIfS (mOp gLe (mVar 3) (mVar 1)) (mAsg 2 (mVar 4)) mNop)) (mRet (mVar 2))))
def m_law_near : List D → Sto → Res D := mDef 3 7 (mSeq (mAsg 3 (mOp gIx (mVar 2) (mK (.int 1)))) (mSeq (mIfS (mOr (mOp gEq (mCallB gLen (mCons (mVar 3) mNil)) (mK (.int 0))) (mOp gEq (mCall m_law_draw (mCons (mVar 0) (mCons (mK (.int 8)) mNil))) (mK (.int 7)))) (mRet (mCall m_law_any_hour (mCons (mVar 0) mNil))) mNop) (mSeq (mAsg 4 (mOp gIx (mOp gIx (mVar 3) (mCall m_law_draw (mCons (mVar 0) (mCons (mCallB gLen (mCons (mVar 3) mNil)) mNil)))) (mK (.int 0)))) (mSeq (mAsg 5 (mOp gSub (mOp gIx (mOp gIx (mVar 1) (mK (.int 0))) (mK (.int (-1)))) (mOp gIx (mOp gIx (mVar 1) (mK (.int 0))) (mK (.int 0))))) (mSeq (mAsg 6 (mOp gSub (mOp gSub (mCall m_law_draw (mCons (mVar 0) (mCons (mOp gAdd (mOp gMul (mK (.int 2)) (mVar 5)) (mK (.int 5))) mNil))) (mVar 5)) (mK (.int 2)))) (mSeq (mAsg 4 (mOp gAdd (mVar 4) (mOp gIx (mFz (mLst (mCons (mK (.int 0)) (mCons (mK (.int (-1))) (mCons (mK (.int 1)) (mCons (mVar 5) (mCons (mUn gNeg (mVar 5)) (mCons (mOp gSub (mVar 5) (mK (.int 1))) (mCons (mOp gSub (mK (.int 1)) (mVar 5)) (mCons (mVar 6) mNil)))))))))) (mCall m_law_draw (mCons (mVar 0) (mCons (mK (.int 8)) mNil)))))) (mRet (mCallB gMax2 (mCons (mK (.int (-999999999999))) (mCons (mCallB gMin2 (mCons (mK (.int 999999999999)) (mCons (mVar 4) mNil))) mNil))))))))))
def m_law_whole : List D → Sto → Res D := mDef 1 1 (mRet (mAnd (mIsi .int (mVar 0)) (mNot (mIsi .bl (mVar 0)))))
def m_law_same : Nat → List D → Sto → Res D
  | 0 => fun _ _ => .bad
  | n + 1 => mDef 2 3 (mSeq (mIfS (mIsiT [.tup, .lst] (mVar 1)) (mSeq (mIfS (mOr (mNot (mIsiT [.tup, .lst] (mVar 0))) (mOp gNe (mIsi .lst (mVar 0)) (mIsi .lst (mVar 1)))) (mRet (mK (.bl false))) mNop) (mRet (mAnd (mOp gEq (mCallB gLen (mCons (mVar 0) mNil)) (mCallB gLen (mCons (mVar 1) mNil))) (mCallB gAll (mCons (mFz (mLc (iRange1 (mCons (mCallB gLen (mCons (mVar 1) mNil)) mNil)) (tgN 2) mYes (mCall (m_law_same n) (mCons (mOp gIx (mVar 0) (mVar 2)) (mCons (mOp gIx (mVar 1) (mVar 2)) mNil))) [2])) mNil))))) mNop) (mSeq (mIfS (mOp (gIsN false) (mVar 1) (mK .non)) (mRet (mOp (gIsN false) (mVar 0) (mK .non))) mNop) (mSeq (mIfS (mIsi .bl (mVar 1)) (mRet (mAnd (mIsi .bl (mVar 0)) (mOp gEq (mVar 0) (mVar 1)))) mNop) (mSeq (mIfS (mIsi .int (mVar 1)) (mRet (mAnd (mCall m_law_whole (mCons (mVar 0) mNil)) (mOp gEq (mVar 0) (mVar 1)))) mNop) (mSeq (mIfS (mIsi .str (mVar 1)) (mRet (mAnd (mIsi .str (mVar 0)) (mOp gEq (mVar 0) (mVar 1)))) mNop) (mRet (mAnd (mNot (mIsiT [.tup, .lst, .int, .str] (mVar 0))) (mOp (gIsN true) (mVar 0) (mK .non)))))))))
def m_law_k04_offset_and_reading : List D → Sto → Res D := mDef 1 10 (mSeq (mFor (iSeq (mFz (mCatL (mLst (mCons (mK (.int 1000000000000000000000000000000000000733091582246670195518844)) mNil)) (mSlL (mVar 0) mNoPart (mPart (mK (.int 8))))))) (tgN 1) (mSeq (mAsg 2 (mCall m_law_digits (mCons (mVar 1) mNil))) (mSeq (mAsg 3 (mNew (mLst mNil))) (mSeq (mFor (iRange1 (mCons (mK (.int 2)) mNil)) (tgN 4) (mSeq (mAsg 5 (mCall m_law_make_region (mCons (mVar 2) mNil))) (mSeq (mAsg 6 (mCall m_law_make_chart (mCons (mVar 2) (mCons (mVar 5) (mCons (mOp gIx (mFz (mLst (mCons (mK (.int 2)) (mCons (mK (.int 9)) (mCons (mK (.int 60)) mNil))))) (mCall m_law_draw (mCons (mVar 2) (mCons (mK (.int 3)) mNil)))) mNil))))) (mApp (mVar 3) (mTup (mCons (mVar 5) (mCons (mVar 6) mNil))))))) (mFor (iRange1 (mCons (mK (.int 6)) mNil)) (tgN 4) (mForC (mVar 3) (tgT 2 (tgCons (tgN 5) (tgCons (tgN 7) tgNil))) (mSeq (mAsg 8 (mOp gAdd (mCall m_law_near (mCons (mVar 2) (mCons (mVar 5) (mCons (mVar 7) mNil)))) (mOp gIx (mFz (mLst (mCons (mK (.int 0)) (mCons (mK (.int 0)) (mCons (mK (.int 0)) (mCons (mK (.int 0)) (mCons (mK (.int 0)) (mCons (mK (.int 0)) (mCons (mK (.int 1000000000000)) (mCons (mK (.int (-1000000000000))) mNil)))))))))) (mCall m_law_draw (mCons (mVar 2) (mCons (mK (.int 8)) mNil)))))) (mSeq (mAsg 9 (mCall m_law_shift_at (mCons (mVar 7) (mCons (mVar 8) mNil)))) (mSeq (mIfS (mNot (mCall (m_law_same 30) (mCons (mCall m_offset_at (mCons (mVar 5) (mCons (mVar 7) (mCons (mVar 8) mNil)))) (mCons (mVar 9) mNil)))) (mRet (mK (.bl false))) mNop) (mSeq (mIfS (mNot (mCall (m_law_same 30) (mCons (mCallK m_reading_at 0 3 [2, 1, 0] mNil (mCons (mVar 8) (mCons (mVar 7) (mCons (mVar 5) mNil)))) (mCons (mOp gAdd (mVar 8) (mVar 9)) mNil)))) (mRet (mK (.bl false))) mNop) (mSeq (mIfS (mNot (mCall (m_law_same 30) (mCons (mCallK m_offset_at 0 3 [1, 0, 2] mNil (mCons (mVar 7) (mCons (mVar 5) (mCons (mVar 8) mNil)))) (mCons (mVar 9) mNil)))) (mRet (mK (.bl false))) mNop) (mIfS (mNot (mCall (m_law_same 30) (mCons (mCall m_reading_at (mCons (mVar 5) (mCons (mVar 7) (mCons (mVar 8) mNil)))) (mCons (mOp gAdd (mVar 8) (mVar 9)) mNil)))) (mRet (mK (.bl false))) mNop)))))))))))) (mRet (mK (.bl true))))
def m_moments_of : List D → Sto → Res D := mDef 3 4 (mSeq (mDrop (mCall m_need_zone (mCons (mVar 0) mNil))) (mSeq (mDrop (mCall m_need_table (mCons (mVar 0) (mCons (mVar 1) mNil)))) (mSeq (mDrop (mCall m_need_number (mCons (mVar 2) mNil))) (mRet (mNew (mLc (iSeq (mBack (mOp gIx (mVar 0) (mK (.int 0))))) (tgN 3) (mOp gEq (mCall m_offset_in (mCons (mVar 1) (mCons (mOp gSub (mVar 2) (mVar 3)) mNil))) (mVar 3)) (mOp gSub (mVar 2) (mVar 3)) [3]))))))
def m_law_hours_of : List D → Sto → Res D := mDef 2 7 (mSeq (mAsg 2 (mOp gIx (mVar 0) (mK (.int 1)))) (mSeq (mAsg 3 (mNew (mLst mNil))) (mSeq (mAsg 4 (mOp gIx (mVar 0) (mK (.int 0)))) (mSeq (mFor (iRange1 (mCons (mOp gAdd (mCallB gLen (mCons (mVar 2) mNil)) (mK (.int 1))) mNil)) (tgN 5) (mSeq (mAsg 6 (mOp gSub (mVar 1) (mVar 4))) (mSeq (mIfS (mAnd (mOr (mOp gEq (mVar 5) (mK (.int 0))) (mOp gLe (mOp gIx (mOp gIx (mVar 2) (mOp gSub (mVar 5) (mK (.int 1)))) (mK (.int 0))) (mVar 6))) (mOr (mOp gEq (mVar 5) (mCallB gLen (mCons (mVar 2) mNil))) (mOp gLt (mVar 6) (mOp gIx (mOp gIx (mVar 2) (mVar 5)) (mK (.int 0)))))) (mApp (mVar 3) (mVar 6)) mNop) (mIfS (mOp gLt (mVar 5) (mCallB gLen (mCons (mVar 2) mNil))) (mAsg 4 (mOp gIx (mOp gIx (mVar 2) (mVar 5)) (mK (.int 1)))) mNop)))) (mRet (mVar 3))))))
def m_law_k05_moments_of_a_reading : List D → Sto → Res D := mDef 1 11 (mSeq (mFor (iSeq (mFz (mCatL (mLst (mCons (mK (.int 1000000000000000000000000000000000000188203764419925570813366)) mNil)) (mSlL (mVar 0) mNoPart (mPart (mK (.int 8))))))) (tgN 1) (mSeq (mAsg 2 (mCall m_law_digits (mCons (mVar 1) mNil))) (mSeq (mAsg 3 (mNew (mLst mNil))) (mSeq (mFor (iRange1 (mCons (mK (.int 2)) mNil)) (tgN 4) (mSeq (mAsg 5 (mCall m_law_make_region (mCons (mVar 2) mNil))) (mSeq (mAsg 6 (mCall m_law_make_chart (mCons (mVar 2) (mCons (mVar 5) (mCons (mOp gIx (mFz (mLst (mCons (mK (.int 2)) (mCons (mK (.int 9)) (mCons (mK (.int 60)) mNil))))) (mCall m_law_draw (mCons (mVar 2) (mCons (mK (.int 3)) mNil)))) mNil))))) (mApp (mVar 3) (mTup (mCons (mVar 5) (mCons (mVar 6) mNil))))))) (mFor (iRange1 (mCons (mK (.int 6)) mNil)) (tgN 4) (mForC (mVar 3) (tgT 2 (tgCons (tgN 5) (tgCons (tgN 7) tgNil))) (mSeq (mAsg 8 (mOp gAdd (mCall m_law_near (mCons (mVar 2) (mCons (mVar 5) (mCons (mVar 7) mNil)))) (mOp gIx (mOp gIx (mVar 5) (mK (.int 0))) (mCall m_law_draw (mCons (mVar 2) (mCons (mCallB gLen (mCons (mOp gIx (mVar 5) (mK (.int 0))) mNil)) mNil)))))) (mSeq (mAsg 8 (mOp gAdd (mVar 8) (mOp gIx (mFz (mLst (mCons (mK (.int 0)) (mCons (mK (.int 0)) (mCons (mK (.int 0)) (mCons (mK (.int 0)) (mCons (mK (.int 0)) (mCons (mK (.int 0)) (mCons (mK (.int 1000000000000)) (mCons (mK (.int (-1000000000000))) mNil)))))))))) (mCall m_law_draw (mCons (mVar 2) (mCons (mK (.int 8)) mNil)))))) (mSeq (mAsg 9 (mCall m_law_hours_of (mCons (mVar 7) (mCons (mVar 8) mNil)))) (mSeq (mAsg 10 (mCall m_moments_of (mCons (mVar 5) (mCons (mVar 7) (mCons (mVar 8) mNil))))) (mSeq (mIfS (mNot (mCall (m_law_same 30) (mCons (mVar 10) (mCons (mVar 9) mNil)))) (mRet (mK (.bl false))) mNop) (mSeq (mApp (mVar 10) (mVar 8)) (mIfS (mNot (mCall (m_law_same 30) (mCons (mCallK m_moments_of 0 3 [2, 1, 0] mNil (mCons (mVar 8) (mCons (mVar 7) (mCons (mVar 5) mNil)))) (mCons (mVar 9) mNil)))) (mRet (mK (.bl false))) mNop))))))))))))) (mRet (mK (.bl true))))
def m_is_looks : List D → Sto → Res D := mDef 2 4 (mSeq (mDrop (mCall m_need_zone (mCons (mVar 0) mNil))) (mSeq (mIfS (mOr (mNot (mIsi .tup (mVar 1))) (mNot (mCallB gAll (mCons (mFz (mLc (iSeq (mVar 1)) (tgN 2) mYes (mCall m_is_mark (mCons (mVar 0) (mCons (mVar 2) mNil))) [2])) mNil)))) (mRet (mK (.bl false))) mNop) (mRet (mCallB gAll (mCons (mFz (mLc (iRange2 (mCons (mK (.int 1)) (mCons (mCallB gLen (mCons (mVar 1) mNil)) mNil))) (tgN 3) mYes (mOp gLt (mOp gIx (mOp gIx (mVar 1) (mOp gSub (mVar 3) (mK (.int 1)))) (mK (.int 0))) (mOp gIx (mOp gIx (mVar 1) (mVar 3)) (mK (.int 0)))) [3])) mNil)))))
def m_need_looks : List D → Sto → Res D := mDef 2 2 (mIfS (mNot (mCall m_is_looks (mCons (mVar 0) (mCons (mVar 1) mNil)))) (mRaise "InvalidLooks") mNop)
def m_early_of : List D → Sto → Res D := mDef 2 6 (mSeq (mAsg 2 (mNew (mLst mNil))) (mSeq (mFor (iRange2 (mCons (mK (.int 1)) (mCons (mCallB gLen (mCons (mVar 1) mNil)) mNil))) (tgN 3) (mIfS (mOp gNe (mOp gIx (mOp gIx (mVar 1) (mVar 3)) (mK (.int 1))) (mOp gIx (mOp gIx (mVar 1) (mOp gSub (mVar 3) (mK (.int 1)))) (mK (.int 1)))) (mSeq (mAsg 4 (mOp gAdd (mOp gIx (mOp gIx (mVar 1) (mOp gSub (mVar 3) (mK (.int 1)))) (mK (.int 0))) (mK (.int 1)))) (mSeq (mIfS (mOp gGt (mCallB gLen (mCons (mVar 2) mNil)) (mK (.int 0))) (mAsg 4 (mCallB gMax2 (mCons (mVar 4) (mCons (mOp gAdd (mOp gIx (mOp gIx (mVar 2) (mK (.int (-1)))) (mK (.int 0))) (mOp gIx (mVar 0) (mK (.int 1)))) mNil)))) mNop) (mSeq (mIfS (mOp gGt (mVar 4) (mOp gIx (mOp gIx (mVar 1) (mVar 3)) (mK (.int 0)))) (mRet (mK .non)) mNop) (mApp (mVar 2) (mTup (mCons (mVar 4) (mCons (mOp gIx (mOp gIx (mVar 1) (mVar 3)) (mK (.int 1))) mNil))))))) mNop)) (mSeq (mAsg 5 (mIf (mOp gEq (mCallB gLen (mCons (mVar 1) mNil)) (mK (.int 0))) (mOp gIx (mOp gIx (mVar 0) (mK (.int 0))) (mK (.int 0))) (mOp gIx (mOp gIx (mVar 1) (mK (.int 0))) (mK (.int 1))))) (mRet (mTup (mCons (mVar 5) (mCons (mCallB gTuple (mCons (mVar 2) mNil)) mNil)))))))
def m_looks_fit : List D → Sto → Res D := mDef 2 2 (mRet (mOp (gIsN true) (mCall m_early_of (mCons (mVar 0) (mCons (mVar 1) mNil))) (mK .non)))
def m_stretch_of : List D → Sto → Res D := mDef 2 6 (mSeq (mFor (iRange2 (mCons (mK (.int 1)) (mCons (mCallB gLen (mCons (mVar 1) mNil)) mNil))) (tgN 2) (mSeq (mAsg 3 (mK (.int 0))) (mFor (iRange1 (mCons (mVar 2) mNil)) (tgN 4) (mSeq (mAsg 5 (mOp gSub (mOp gSub (mVar 2) (mK (.int 1))) (mVar 4))) (mSeq (mIfS (mOp gNe (mOp gIx (mOp gIx (mVar 1) (mVar 5)) (mK (.int 1))) (mOp gIx (mOp gIx (mVar 1) (mOp gAdd (mVar 5) (mK (.int 1)))) (mK (.int 1)))) (mAug 3 (fun i j => i + j) (mK (.int 1))) mNop) (mIfS (mOp gGt (mOp gMul (mOp gSub (mVar 3) (mK (.int 1))) (mOp gIx (mVar 0) (mK (.int 1)))) (mOp gSub (mOp gSub (mOp gIx (mOp gIx (mVar 1) (mVar 2)) (mK (.int 0))) (mOp gIx (mOp gIx (mVar 1) (mVar 5)) (mK (.int 0)))) (mK (.int 1)))) (mRet (mTup (mCons (mVar 5) (mCons (mVar 2) mNil)))) mNop)))))) (mRet (mK .non)))
def m_can_hold : List D → Sto → Res D := mDef 2 2 (mSeq (mDrop (mCall m_need_zone (mCons (mVar 0) mNil))) (mSeq (mDrop (mCall m_need_looks (mCons (mVar 0) (mCons (mVar 1) mNil)))) (mRet (mCall m_looks_fit (mCons (mVar 0) (mCons (mVar 1) mNil))))))
def m_crowded : List D → Sto → Res D := mDef 2 2 (mSeq (mDrop (mCall m_need_zone (mCons (mVar 0) mNil))) (mSeq (mDrop (mCall m_need_looks (mCons (mVar 0) (mCons (mVar 1) mNil)))) (mRet (mCall m_stretch_of (mCons (mVar 0) (mCons (mVar 1) mNil))))))
def m_law_make_sights : List D → Sto → Res D := mDef 3 17 (mSeq (mAsgG (tgT 2 (tgCons (tgN 3) (tgCons (tgN 4) tgNil))) (mVar 1)) (mSeq (mAsg 5 (mCall m_law_any_hour (mCons (mVar 0) mNil))) (mSeq (mAsg 6 (mOp gSub (mVar 5) (mVar 4))) (mSeq (mAsg 7 (mCall m_law_draw (mCons (mVar 0) (mCons (mCallB gLen (mCons (mVar 3) mNil)) mNil)))) (mSeq (mAsg 8 (mNew (mLst mNil))) (mSeq (mAsg 9 (mCallB gLen (mCons (mVar 2) mNil))) (mSeq (mAsg 10 (mOp gIx (mFz (mLst (mCons (mVar 9) (mCons (mK (.int 0)) (mCons (mCall m_law_draw (mCons (mVar 0) (mCons (mOp gAdd (mVar 9) (mK (.int 1))) mNil))) mNil))))) (mCall m_law_draw (mCons (mVar 0) (mCons (mK (.int 3)) mNil))))) (mSeq (mFor (iRange1 (mCons (mVar 9) mNil)) (tgN 11) (mSeq (mAsg 12 (mOp gIx (mVar 2) (mVar 11))) (mSeq (mApp (mVar 8) (mTup (mCons (mVar 5) (mCons (mOp gIx (mVar 3) (mVar 7)) mNil)))) (mSeq (mAsg 13 (mCallB gMax2 (mCons (mOp gAdd (mVar 5) (mK (.int 1))) (mCons (mOp gAdd (mVar 6) (mVar 4)) mNil)))) (mSeq (mAsg 14 (mCall m_law_draw (mCons (mVar 12) (mCons (mK (.int 9)) mNil)))) (mSeq (mAsg 15 (mNew (mLst (mCons (mVar 13) (mCons (mVar 13) (mCons (mOp gSub (mVar 13) (mK (.int 1))) (mCons (mOp gAdd (mVar 5) (mK (.int 1))) (mCons (mOp gAdd (mOp gAdd (mVar 5) (mK (.int 1))) (mCall m_law_draw (mCons (mVar 12) (mCons (mK (.int 7)) mNil)))) (mCons (mOp gAdd (mVar 13) (mCall m_law_draw (mCons (mVar 12) (mCons (mK (.int 5)) mNil)))) mNil))))))))) (mSeq (mAsg 15 (mNew (mCatC (mVar 15) (mLst (mCons (mOp gAdd (mOp gAdd (mVar 5) (mK (.int 1))) (mCall m_law_draw (mCons (mVar 12) (mCons (mOp gMul (mK (.int 2)) (mVar 4)) mNil)))) (mCons (mOp gAdd (mVar 13) (mCall m_law_draw (mCons (mVar 12) (mCons (mVar 4) mNil)))) mNil)))))) (mSeq (mApp (mVar 15) (mOp gAdd (mOp gAdd (mVar 5) (mK (.int 1))) (mCall m_law_draw (mCons (mVar 12) (mCons (mK (.int 1000000)) mNil))))) (mSeq (mAsg 16 (mOp gMul (mCall m_law_draw (mCons (mVar 12) (mCons (mK (.int 3)) mNil))) (mCallB gInt1 (mCons (mOp gGt (mCallB gLen (mCons (mVar 3) mNil)) (mK (.int 1))) mNil)))) (mSeq (mAsg 5 (mCallB gMax2 (mCons (mOp gAdd (mVar 5) (mK (.int 1))) (mCons (mOp gIx (mVar 15) (mVar 14)) mNil)))) (mIfS (mOp gGt (mVar 16) (mK (.int 0))) (mSeq (mAsg 7 (mOp gMod (mCallB gInt1 (mCons (mOp gAdd (mOp gAdd (mVar 7) (mK (.int 1))) (mCall m_law_draw (mCons (mVar 12) (mCons (mOp gSub (mCallB gLen (mCons (mVar 3) mNil)) (mK (.int 1))) mNil)))) mNil)) (mCallB gLen (mCons (mVar 3) mNil)))) (mSeq (mAsg 6 (mVar 13)) (mIfS (mOp gLt (mVar 11) (mVar 10)) (mAsg 5 (mCallB gMax2 (mCons (mVar 5) (mCons (mVar 13) mNil)))) mNop))) mNop))))))))))) (mRet (mCallB gTuple (mCons (mVar 8) mNil)))))))))))
def m_law_crowd : List D → Sto → Res D := mDef 2 8 (mSeq (mAsg 2 (mNew (mLst (mCons (mK (.int 0)) mNil)))) (mSeq (mFor (iRange2 (mCons (mK (.int 1)) (mCons (mCallB gLen (mCons (mVar 1) mNil)) mNil))) (tgN 3) (mApp (mVar 2) (mOp gAdd (mOp gIx (mVar 2) (mK (.int (-1)))) (mCallB gInt1 (mCons (mOp gNe (mOp gIx (mOp gIx (mVar 1) (mVar 3)) (mK (.int 1))) (mOp gIx (mOp gIx (mVar 1) (mOp gSub (mVar 3) (mK (.int 1)))) (mK (.int 1)))) mNil))))) (mSeq (mFor (iRange1 (mCons (mCallB gLen (mCons (mVar 1) mNil)) mNil)) (tgN 4) (mFor (iRange1 (mCons (mVar 4) mNil)) (tgN 5) (mSeq (mAsg 6 (mOp gSub (mOp gSub (mVar 4) (mK (.int 1))) (mVar 5))) (mSeq (mAsg 7 (mOp gSub (mOp gIx (mVar 2) (mVar 4)) (mOp gIx (mVar 2) (mVar 6)))) (mIfS (mOp gGt (mOp gMul (mOp gSub (mVar 7) (mK (.int 1))) (mOp gIx (mVar 0) (mK (.int 1)))) (mOp gSub (mOp gSub (mOp gIx (mOp gIx (mVar 1) (mVar 4)) (mK (.int 0))) (mOp gIx (mOp gIx (mVar 1) (mVar 6)) (mK (.int 0)))) (mK (.int 1)))) (mRet (mTup (mCons (mVar 6) (mCons (mVar 4) mNil)))) mNop))))) (mRet (mK .non)))))
def m_law_some_sights : List D → Sto → Res D := mDef 3 3 (mRet (mCall m_law_make_sights (mCons (mVar 0) (mCons (mVar 1) (mCons (mFz (mRepL (mLst (mCons (mVar 0) mNil)) (mCall m_law_draw (mCons (mVar 0) (mCons (mOp gAdd (mVar 2) (mK (.int 1))) mNil))))) mNil)))))
def m_law_k11_crowded_stretches : List D → Sto → Res D := mDef 1 9 (mSeq (mFor (iSeq (mFz (mCatL (mLst (mCons (mK (.int 1000000000000000000000000000000000000774210956833305518264097)) mNil)) (mSlL (mVar 0) mNoPart (mPart (mK (.int 3))))))) (tgN 1) (mSeq (mAsg 2 (mCall m_law_digits (mCons (mVar 1) mNil))) (mSeq (mAsg 3 (mNew (mLst mNil))) (mSeq (mFor (iRange1 (mCons (mK (.int 2)) mNil)) (tgN 4) (mSeq (mAsg 5 (mCall m_law_make_region (mCons (mVar 2) mNil))) (mSeq (mAsg 6 (mCall m_law_some_sights (mCons (mVar 2) (mCons (mVar 5) (mCons (mOp gIx (mFz (mLst (mCons (mK (.int 4)) (mCons (mK (.int 9)) (mCons (mK (.int 9)) (mCons (mK (.int 60)) (mCons (mK (.int 4)) (mCons (mK (.int 9)) (mCons (mK (.int 9)) (mCons (mK (.int 20)) mNil)))))))))) (mCall m_law_draw (mCons (mVar 2) (mCons (mK (.int 8)) mNil)))) mNil))))) (mApp (mVar 3) (mTup (mCons (mVar 5) (mCons (mVar 6) mNil))))))) (mFor (iSeq (mFz (mCatC (mVar 3) (mSlL (mVar 3) mNoPart (mPart (mK (.int 1))))))) (tgT 2 (tgCons (tgN 5) (tgCons (tgN 7) tgNil))) (mSeq (mAsg 8 (mCall m_law_crowd (mCons (mVar 5) (mCons (mVar 7) mNil)))) (mSeq (mIfS (mNot (mCall (m_law_same 30) (mCons (mCall m_can_hold (mCons (mVar 5) (mCons (mVar 7) mNil))) (mCons (mOp (gIsN false) (mVar 8) (mK .non)) mNil)))) (mRet (mK (.bl false))) mNop) (mSeq (mIfS (mNot (mCall (m_law_same 30) (mCons (mCall m_crowded (mCons (mVar 5) (mCons (mVar 7) mNil))) (mCons (mVar 8) mNil)))) (mRet (mK (.bl false))) mNop) (mSeq (mIfS (mNot (mCall (m_law_same 30) (mCons (mCallK m_crowded 0 2 [1, 0] mNil (mCons (mVar 7) (mCons (mVar 5) mNil))) (mCons (mVar 8) mNil)))) (mRet (mK (.bl false))) mNop) (mIfS (mNot (mCall (m_law_same 30) (mCons (mCallK m_can_hold 0 2 [1, 0] mNil (mCons (mVar 7) (mCons (mVar 5) mNil))) (mCons (mOp (gIsN false) (mVar 8) (mK .non)) mNil)))) (mRet (mK (.bl false))) mNop)))))))))) (mRet (mK (.bl true))))
def m_early_table : List D → Sto → Res D := mDef 2 2 (mSeq (mDrop (mCall m_need_zone (mCons (mVar 0) mNil))) (mSeq (mDrop (mCall m_need_looks (mCons (mVar 0) (mCons (mVar 1) mNil)))) (mRet (mCall m_early_of (mCons (mVar 0) (mCons (mVar 1) mNil))))))
def m_law_among : List D → Sto → Res D := mDef 2 2 (mRet (mAnd (mCall m_law_whole (mCons (mVar 0) mNil)) (mOp (gIn false) (mVar 0) (mVar 1))))
def m_law_is_chart : List D → Sto → Res D := mDef 2 7 (mSeq (mAsgG (tgT 2 (tgCons (tgN 2) (tgCons (tgN 3) tgNil))) (mVar 0)) (mSeq (mIfS (mOr (mNot (mIsi .tup (mVar 1))) (mOr (mOp gNe (mCallB gLen (mCons (mVar 1) mNil)) (mK (.int 2))) (mNot (mCall m_law_among (mCons (mOp gIx (mVar 1) (mK (.int 0))) (mCons (mVar 2) mNil)))))) (mRet (mK (.bl false))) mNop) (mSeq (mIfS (mNot (mIsi .tup (mOp gIx (mVar 1) (mK (.int 1))))) (mRet (mK (.bl false))) mNop) (mSeq (mAsg 4 (mOp gIx (mVar 1) (mK (.int 0)))) (mSeq (mAsg 5 (mNew (mLst mNil))) (mSeq (mFor (iSeq (mOp gIx (mVar 1) (mK (.int 1)))) (tgN 6) (mSeq (mIfS (mOr (mNot (mIsi .tup (mVar 6))) (mOr (mOp gNe (mCallB gLen (mCons (mVar 6) mNil)) (mK (.int 2))) (mNot (mCall m_law_whole (mCons (mOp gIx (mVar 6) (mK (.int 0))) mNil))))) (mRet (mK (.bl false))) mNop) (mSeq (mIfS (mOr (mNot (mCall m_law_among (mCons (mOp gIx (mVar 6) (mK (.int 1))) (mCons (mVar 2) mNil)))) (mOp gEq (mOp gIx (mVar 6) (mK (.int 1))) (mVar 4))) (mRet (mK (.bl false))) mNop) (mSeq (mIfS (mAnd (mOp gGt (mCallB gLen (mCons (mVar 5) mNil)) (mK (.int 0))) (mOp gLt (mOp gIx (mVar 6) (mK (.int 0))) (mOp gAdd (mOp gIx (mVar 5) (mK (.int (-1)))) (mVar 3)))) (mRet (mK (.bl false))) mNop) (mSeq (mAsg 4 (mOp gIx (mVar 6) (mK (.int 1)))) (mApp (mVar 5) (mOp gIx (mVar 6) (mK (.int 0))))))))) (mRet (mK (.bl true)))))))))
def m_law_early_chart : List D → Sto → Res D := mDef 2 5 (mSeq (mAsg 2 (mNew (mLst mNil))) (mSeq (mFor (iRange2 (mCons (mK (.int 1)) (mCons (mCallB gLen (mCons (mVar 1) mNil)) mNil))) (tgN 3) (mIfS (mOp gNe (mOp gIx (mOp gIx (mVar 1) (mVar 3)) (mK (.int 1))) (mOp gIx (mOp gIx (mVar 1) (mOp gSub (mVar 3) (mK (.int 1)))) (mK (.int 1)))) (mSeq (mAsg 4 (mOp gAdd (mOp gIx (mOp gIx (mVar 1) (mOp gSub (mVar 3) (mK (.int 1)))) (mK (.int 0))) (mK (.int 1)))) (mSeq (mIfS (mOp gGt (mCallB gLen (mCons (mVar 2) mNil)) (mK (.int 0))) (mAsg 4 (mCallB gMax2 (mCons (mVar 4) (mCons (mOp gAdd (mOp gIx (mOp gIx (mVar 2) (mK (.int (-1)))) (mK (.int 0))) (mOp gIx (mVar 0) (mK (.int 1)))) mNil)))) mNop) (mApp (mVar 2) (mTup (mCons (mVar 4) (mCons (mOp gIx (mOp gIx (mVar 1) (mVar 3)) (mK (.int 1))) mNil)))))) mNop)) (mSeq (mIfS (mOp gEq (mCallB gLen (mCons (mVar 1) mNil)) (mK (.int 0))) (mRet (mTup (mCons (mOp gIx (mOp gIx (mVar 0) (mK (.int 0))) (mK (.int 0))) (mCons (mTup mNil) mNil)))) mNop) (mRet (mTup (mCons (mOp gIx (mOp gIx (mVar 1) (mK (.int 0))) (mK (.int 1))) (mCons (mCallB gTuple (mCons (mVar 2) mNil)) mNil)))))))
def m_law_k12_early_tables : List D → Sto → Res D := mDef 1 11 (mSeq (mFor (iSeq (mFz (mCatL (mLst (mCons (mK (.int 1000000000000000000000000000000000000503392817744600295113878)) mNil)) (mSlL (mVar 0) mNoPart (mPart (mK (.int 3))))))) (tgN 1) (mSeq (mAsg 2 (mCall m_law_digits (mCons (mVar 1) mNil))) (mSeq (mAsg 3 (mNew (mLst mNil))) (mSeq (mFor (iRange1 (mCons (mK (.int 2)) mNil)) (tgN 4) (mSeq (mAsg 5 (mCall m_law_make_region (mCons (mVar 2) mNil))) (mSeq (mAsg 6 (mCall m_law_some_sights (mCons (mVar 2) (mCons (mVar 5) (mCons (mOp gIx (mFz (mLst (mCons (mK (.int 4)) (mCons (mK (.int 9)) (mCons (mK (.int 9)) (mCons (mK (.int 60)) (mCons (mK (.int 4)) (mCons (mK (.int 9)) (mCons (mK (.int 9)) (mCons (mK (.int 20)) mNil)))))))))) (mCall m_law_draw (mCons (mVar 2) (mCons (mK (.int 8)) mNil)))) mNil))))) (mApp (mVar 3) (mTup (mCons (mVar 5) (mCons (mVar 6) mNil))))))) (mFor (iSeq (mFz (mCatC (mVar 3) (mSlL (mVar 3) mNoPart (mPart (mK (.int 1))))))) (tgT 2 (tgCons (tgN 5) (tgCons (tgN 7) tgNil))) (mSeq (mAsg 8 (mCall m_early_table (mCons (mVar 5) (mCons (mVar 7) mNil)))) (mIfS (mOp (gIsN true) (mCall m_law_crowd (mCons (mVar 5) (mCons (mVar 7) mNil))) (mK .non)) (mIfS (mOr (mOp (gIsN true) (mVar 8) (mK .non)) (mOp (gIsN true) (mCallK m_early_table 0 2 [1, 0] mNil (mCons (mVar 7) (mCons (mVar 5) mNil))) (mK .non))) (mRet (mK (.bl false))) mNop) (mSeq (mIfS (mOr (mNot (mCall (m_law_same 30) (mCons (mVar 8) (mCons (mCall m_law_early_chart (mCons (mVar 5) (mCons (mVar 7) mNil))) mNil)))) (mNot (mCall m_law_is_chart (mCons (mVar 5) (mCons (mVar 8) mNil))))) (mRet (mK (.bl false))) mNop) (mSeq (mIfS (mNot (mCallB gAll (mCons (mFz (mLc (iSeq (mVar 7)) (tgT 2 (tgCons (tgN 9) (tgCons (tgN 10) tgNil))) mYes (mOp gEq (mCall m_law_shift_at (mCons (mVar 8) (mCons (mVar 9) mNil))) (mVar 10)) [9, 10])) mNil))) (mRet (mK (.bl false))) mNop) (mIfS (mNot (mCall (m_law_same 30) (mCons (mCallK m_early_table 0 2 [1, 0] mNil (mCons (mVar 7) (mCons (mVar 5) mNil))) (mCons (mVar 8) mNil)))) (mRet (mK (.bl false))) mNop)))))))))) (mRet (mK (.bl true))))
def m_offset_seen : List D → Sto → Res D := mDef 2 4 (mSeq (mFor (iSeq (mVar 0)) (tgT 2 (tgCons (tgN 2) (tgCons (tgN 3) tgNil))) (mIfS (mOp gEq (mVar 2) (mVar 1)) (mRet (mVar 3)) mNop)) (mRet (mK .non)))
def m_with_look : List D → Sto → Res D := mDef 3 5 (mSeq (mAsg 3 (mCallB gTuple (mCons (mFz (mLc (iSeq (mVar 0)) (tgN 4) (mOp gLt (mOp gIx (mVar 4) (mK (.int 0))) (mVar 1)) (mVar 4) [4])) mNil))) (mRet (mOp gAdd (mOp gAdd (mVar 3) (mTup (mCons (mTup (mCons (mVar 1) (mCons (mVar 2) mNil))) mNil))) (mSlT (mVar 0) (mPart (mCallB gLen (mCons (mVar 3) mNil))) mNoPart))))
def m_choices_at : List D → Sto → Res D := mDef 3 5 (mSeq (mAsg 3 (mCall m_offset_seen (mCons (mVar 1) (mCons (mVar 2) mNil)))) (mSeq (mIfS (mOp (gIsN true) (mVar 3) (mK .non)) (mRet (mIf (mCall m_looks_fit (mCons (mVar 0) (mCons (mVar 1) mNil))) (mNew (mLst (mCons (mVar 3) mNil))) (mNew (mLst mNil)))) mNop) (mRet (mNew (mLc (iSeq (mOp gIx (mVar 0) (mK (.int 0)))) (tgN 4) (mCall m_looks_fit (mCons (mVar 0) (mCons (mCall m_with_look (mCons (mVar 1) (mCons (mVar 2) (mCons (mVar 4) mNil)))) mNil))) (mVar 4) [4])))))
def m_offsets_left : List D → Sto → Res D := mDef 3 3 (mSeq (mDrop (mCall m_need_zone (mCons (mVar 0) mNil))) (mSeq (mDrop (mCall m_need_looks (mCons (mVar 0) (mCons (mVar 1) mNil)))) (mSeq (mDrop (mCall m_need_number (mCons (mVar 2) mNil))) (mRet (mCall m_choices_at (mCons (mVar 0) (mCons (mVar 1) (mCons (mVar 2) mNil))))))))
def m_law_beside : List D → Sto → Res D := mDef 3 6 (mSeq (mIfS (mOr (mOp gEq (mCallB gLen (mCons (mVar 2) mNil)) (mK (.int 0))) (mOp gEq (mCall m_law_draw (mCons (mVar 0) (mCons (mK (.int 8)) mNil))) (mK (.int 7)))) (mRet (mCall m_law_any_hour (mCons (mVar 0) mNil))) mNop) (mSeq (mAsg 3 (mOp gIx (mOp gIx (mVar 2) (mCall m_law_draw (mCons (mVar 0) (mCons (mCallB gLen (mCons (mVar 2) mNil)) mNil)))) (mK (.int 0)))) (mSeq (mAsg 4 (mOp gIx (mVar 1) (mK (.int 1)))) (mSeq (mAsg 5 (mOp gIx (mFz (mLst (mCons (mOp gSub (mCall m_law_draw (mCons (mVar 0) (mCons (mK (.int 21)) mNil))) (mK (.int 10))) (mCons (mOp gSub (mCall m_law_draw (mCons (mVar 0) (mCons (mOp gAdd (mOp gMul (mK (.int 2)) (mVar 4)) (mK (.int 1))) mNil))) (mVar 4)) mNil)))) (mCall m_law_draw (mCons (mVar 0) (mCons (mK (.int 2)) mNil))))) (mSeq (mAsg 3 (mOp gAdd (mVar 3) (mOp gIx (mFz (mLst (mCons (mK (.int 0)) (mCons (mK (.int 1)) (mCons (mK (.int (-1))) (mCons (mVar 4) (mCons (mUn gNeg (mVar 4)) (mCons (mOp gAdd (mVar 4) (mK (.int 1))) (mCons (mOp gSub (mUn gNeg (mVar 4)) (mK (.int 1))) (mCons (mVar 5) (mCons (mVar 5) mNil))))))))))) (mCall m_law_draw (mCons (mVar 0) (mCons (mK (.int 9)) mNil)))))) (mRet (mCallB gMax2 (mCons (mK (.int (-999999999999))) (mCons (mCallB gMin2 (mCons (mK (.int 999999999999)) (mCons (mVar 3) mNil))) mNil)))))))))
def m_law_cells_sights : List D → Sto → Res D := mDef 3 5 (mSeq (mAsg 2 (mFz (mCatV (mVar 2) (mLc (iRange1 (mCons (mK (.int 3)) mNil)) (tgN 3) mYes (mCall m_law_draw (mCons (mVar 0) (mCons (mK (.int 100000000000000000)) mNil))) [3])))) (mRet (mCall m_law_make_sights (mCons (mVar 0) (mCons (mVar 1) (mCons (mFz (mLc (iSeq (mFz (mSlL (mVar 2) mNoPart (mPart (mK (.int 60)))))) (tgN 4) mYes (mCall m_law_digits (mCons (mVar 4) mNil)) [4])) mNil))))))
def m_law_free : List D → Sto → Res D := mDef 2 2 (mSeq (mIfS (mOr (mOp (gIsB true) (mCall m_can_hold (mCons (mVar 0) (mCons (mVar 1) mNil))) (mK (.bl true))) (mOp (gIsN true) (mCall m_crowded (mCons (mVar 0) (mCons (mVar 1) mNil))) (mK .non))) (mRet (mK (.bl false))) mNop) (mRet (mOp (gIsN true) (mCall m_early_table (mCons (mVar 0) (mCons (mVar 1) mNil))) (mK .non))))
def m_law_k16_whole_least_stretches : List D → Sto → Res D := mDef 1 14 (mSeq (mAsg 1 (mCall m_law_digits (mCons (mOp gIx (mFz (mCatV (mVar 0) (mLst (mCons (mK (.int 1000000000000000000000000000000000000250066378914227501936883)) mNil)))) (mK (.int 0))) mNil))) (mSeq (mAsg 2 (mCall m_law_make_region (mCons (mVar 1) mNil))) (mSeq (mAsg 3 (mCall m_law_cells_sights (mCons (mVar 1) (mCons (mVar 2) (mCons (mFz (mSlL (mVar 0) (mPart (mK (.int 1))) mNoPart)) mNil))))) (mSeq (mAsg 4 (mCall m_law_draw (mCons (mVar 1) (mCons (mCallB gLen (mCons (mVar 3) mNil)) mNil)))) (mSeq (mAsg 5 (mCall m_law_draw (mCons (mVar 1) (mCons (mOp gAdd (mCallB gLen (mCons (mVar 3) mNil)) (mK (.int 1))) mNil)))) (mSeq (mAsg 6 (mOp gAdd (mSlT (mVar 3) mNoPart (mPart (mVar 4))) (mSlT (mVar 3) (mPart (mOp gAdd (mVar 4) (mK (.int 1)))) mNoPart))) (mSeq (mAsg 7 (mCall m_crowded (mCons (mVar 2) (mCons (mVar 3) mNil)))) (mSeq (mIfS (mOp (gIsN false) (mVar 7) (mK .non)) (mRet (mCallB gAll (mCons (mFz (mLc (iSeq (mFz (mLst (mCons (mVar 3) (mCons (mVar 6) (mCons (mSlT (mVar 3) mNoPart (mPart (mVar 5))) (mCons (mSlT (mVar 3) (mPart (mVar 5)) mNoPart) mNil))))))) (tgN 12) mYes (mCall m_law_free (mCons (mVar 2) (mCons (mVar 12) mNil))) [12])) mNil))) mNop) (mSeq (mIfS (mOr (mNot (mIsi .tup (mVar 7))) (mOr (mOp gNe (mCallB gLen (mCons (mVar 7) mNil)) (mK (.int 2))) (mOr (mNot (mCall m_law_whole (mCons (mOp gIx (mVar 7) (mK (.int 0))) mNil))) (mNot (mCall m_law_whole (mCons (mOp gIx (mVar 7) (mK (.int 1))) mNil)))))) (mRet (mK (.bl false))) mNop) (mSeq (mAsgG (tgT 2 (tgCons (tgN 8) (tgCons (tgN 9) tgNil))) (mVar 7)) (mSeq (mIfS (mOr (mOp gLt (mVar 8) (mK (.int 0))) (mOr (mOp gLe (mVar 9) (mVar 8)) (mOp gLe (mCallB gLen (mCons (mVar 3) mNil)) (mVar 9)))) (mRet (mK (.bl false))) mNop) (mSeq (mAsg 10 (mCallB gLen (mCons (mFz (mLc (iRange2 (mCons (mVar 8) (mCons (mVar 9) mNil))) (tgN 13) (mOp gNe (mOp gIx (mOp gIx (mVar 3) (mVar 13)) (mK (.int 1))) (mOp gIx (mOp gIx (mVar 3) (mOp gAdd (mVar 13) (mK (.int 1)))) (mK (.int 1)))) (mVar 13) [13])) mNil))) (mSeq (mIfS (mOp gLe (mOp gMul (mOp gSub (mVar 10) (mK (.int 1))) (mOp gIx (mVar 2) (mK (.int 1)))) (mOp gSub (mOp gSub (mOp gIx (mOp gIx (mVar 3) (mVar 9)) (mK (.int 0))) (mOp gIx (mOp gIx (mVar 3) (mVar 8)) (mK (.int 0)))) (mK (.int 1)))) (mRet (mK (.bl false))) mNop) (mSeq (mIfS (mNot (mCall (m_law_same 30) (mCons (mCall m_crowded (mCons (mVar 2) (mCons (mSlT (mVar 3) (mPart (mVar 8)) mNoPart) mNil))) (mCons (mTup (mCons (mK (.int 0)) (mCons (mOp gSub (mVar 9) (mVar 8)) mNil))) mNil)))) (mRet (mK (.bl false))) mNop) (mSeq (mIfS (mNot (mCall (m_law_same 30) (mCons (mCall m_crowded (mCons (mVar 2) (mCons (mSlT (mVar 3) mNoPart (mPart (mOp gAdd (mVar 9) (mK (.int 1))))) mNil))) (mCons (mTup (mCons (mVar 8) (mCons (mVar 9) mNil))) mNil)))) (mRet (mK (.bl false))) mNop) (mSeq (mIfS (mNot (mCall (m_law_same 30) (mCons (mCall m_crowded (mCons (mVar 2) (mCons (mSlT (mVar 3) (mPart (mVar 8)) (mPart (mOp gAdd (mVar 9) (mK (.int 1))))) mNil))) (mCons (mTup (mCons (mK (.int 0)) (mCons (mOp gSub (mVar 9) (mVar 8)) mNil))) mNil)))) (mRet (mK (.bl false))) mNop) (mSeq (mIfS (mOr (mOp (gIsB true) (mCall m_can_hold (mCons (mVar 2) (mCons (mSlT (mVar 3) mNoPart (mPart (mVar 9))) mNil))) (mK (.bl true))) (mOp (gIsB true) (mCall m_can_hold (mCons (mVar 2) (mCons (mSlT (mVar 3) (mPart (mOp gAdd (mVar 8) (mK (.int 1)))) (mPart (mOp gAdd (mVar 9) (mK (.int 1))))) mNil))) (mK (.bl true)))) (mRet (mK (.bl false))) mNop) (mSeq (mIfS (mOr (mOp (gIsB true) (mCall m_can_hold (mCons (mVar 2) (mCons (mVar 3) mNil))) (mK (.bl false))) (mOp (gIsN true) (mCall m_early_table (mCons (mVar 2) (mCons (mVar 3) mNil))) (mK .non))) (mRet (mK (.bl false))) mNop) (mSeq (mAsg 11 (mCall m_law_beside (mCons (mVar 1) (mCons (mVar 2) (mCons (mVar 3) mNil))))) (mSeq (mIfS (mNot (mCall (m_law_same 30) (mCons (mCall m_offsets_left (mCons (mVar 2) (mCons (mVar 3) (mCons (mVar 11) mNil)))) (mCons (mFz (mLst mNil)) mNil)))) (mRet (mK (.bl false))) mNop) (mRet (mOr (mChain gLe gLe (mVar 8) (mVar 4) (mVar 9)) (mOp (gIsB false) (mCall m_can_hold (mCons (mVar 2) (mCons (mVar 6) mNil))) (mK (.bl false)))))))))))))))))))))))))
end
end Dm
-- text DmSort
namespace Dm
open PySem L2 PySem.Spec PyProof.Rows
open PySem.W (Frag)
/-! ### sorted of ints, of pairs of ints -/
def insP (x : Int × Int) : List (Int × Int) → List (Int × Int)
  | [] => [x]
  | y :: r => if SrtO.lexB y x then y :: insP x r else x :: y :: r
def srtP : List (Int × Int) → List (Int × Int)
  | [] => []
  | x :: r => insP x (srtP r)
def insN (x : Int) : List Int → List Int
  | [] => [x]
  | y :: r => if y < x then y :: insN x r else x :: y :: r
def srtN : List Int → List Int
  | [] => []
  | x :: r => insN x (srtN r)
def LeP (p q : Int × Int) : Prop := SrtO.lexB q p = false
theorem leP_iff {p q : Int × Int} : LeP p q ↔ p.1 < q.1 ∨ (p.1 = q.1 ∧ p.2 ≤ q.2) := by
  unfold LeP
  rw [SrtO.lexB_no]; omega
theorem leP_anti {p q : Int × Int} (h : LeP p q) (h' : LeP q p) : p = q := by
  rw [leP_iff] at h h'
  exact Prod.ext (by omega) (by omega)
theorem insP_perm (x : Int × Int) : ∀ l, (insP x l).Perm (x :: l)
  | [] => .refl _
  | y :: r => by
    unfold insP; split
    · exact ((insP_perm x r).cons y).trans (.swap _ _ _)
    · exact .refl _
theorem srtP_perm : ∀ l, (srtP l).Perm l
  | [] => .refl _
  | x :: r => (insP_perm x _).trans ((srtP_perm r).cons x)
theorem insP_asc (x : Int × Int) : ∀ l : List (Int × Int), l.Pairwise LeP → (insP x l).Pairwise LeP
  | [], _ => by simp [insP]
  | y :: r, h => by
    obtain ⟨h1, h2⟩ := List.pairwise_cons.mp h
    unfold insP; split
    · next c =>
      refine List.pairwise_cons.mpr ⟨fun z hz => ?_, insP_asc x r h2⟩
      rcases List.mem_cons.mp ((insP_perm x r).mem_iff.mp hz) with rfl | hz
      · have := SrtO.lexB_iff.mp c
        rw [leP_iff]; omega
      · exact h1 z hz
    · next c =>
      have c : LeP x y := by simpa [LeP] using c
      refine List.pairwise_cons.mpr ⟨fun z hz => ?_, h⟩
      rcases List.mem_cons.mp hz with rfl | hz
      · exact c
      · have := h1 z hz
        rw [leP_iff] at c this ⊢; omega
theorem srtP_asc : ∀ l, (srtP l).Pairwise LeP
  | [] => .nil
  | x :: r => insP_asc x _ (srtP_asc r)
theorem eq_srtP {l m : List (Int × Int)} (hp : m.Perm l) (hs : m.Pairwise LeP) : m = srtP l :=
  List.Perm.eq_of_pairwise (fun _ _ _ _ a b => leP_anti a b) hs (srtP_asc l) (hp.trans (srtP_perm l).symm)
theorem insN_perm (x : Int) : ∀ l, (insN x l).Perm (x :: l)
  | [] => .refl _
  | y :: r => by
    unfold insN; split
    · exact ((insN_perm x r).cons y).trans (.swap _ _ _)
    · exact .refl _
theorem srtN_perm : ∀ l, (srtN l).Perm l
  | [] => .refl _
  | x :: r => (insN_perm x _).trans ((srtN_perm r).cons x)
theorem insN_asc (x : Int) : ∀ l : List Int, l.Pairwise (· ≤ ·) → (insN x l).Pairwise (· ≤ ·)
  | [], _ => by simp [insN]
  | y :: r, h => by
    obtain ⟨h1, h2⟩ := List.pairwise_cons.mp h
    unfold insN; split
    · next c =>
      refine List.pairwise_cons.mpr ⟨fun z hz => ?_, insN_asc x r h2⟩
      rcases List.mem_cons.mp ((insN_perm x r).mem_iff.mp hz) with rfl | hz
      · omega
      · exact h1 z hz
    · next c =>
      refine List.pairwise_cons.mpr ⟨fun z hz => ?_, h⟩
      rcases List.mem_cons.mp hz with rfl | hz
      · omega
      · have := h1 z hz; omega
theorem srtN_asc : ∀ l, (srtN l).Pairwise (· ≤ ·)
  | [] => .nil
  | x :: r => insN_asc x _ (srtN_asc r)
theorem eq_srtN {l m : List Int} (hp : m.Perm l) (hs : m.Pairwise (· ≤ ·)) : m = srtN l :=
  List.Perm.eq_of_pairwise (fun _ _ _ _ a b => Int.le_antisymm a b) hs (srtN_asc l) (hp.trans (srtN_perm l).symm)

theorem IsPair.inj {h : Heap} {v : Value} {x y x' y' : Int} (a : Srt.IsPair h v x y) (b : Srt.IsPair h v x' y') : x = x' ∧ y = y' := by
  obtain ⟨a1, o, t, u, n, rfl, e1, e2, e3⟩ := a
  obtain ⟨a2, o', t', u', n', e0, f1, f2, f3⟩ := b
  cases e0
  rw [e1] at f1; cases f1
  rw [e3] at f3
  cases f3
  exact ⟨rfl, rfl⟩
open Classical in
noncomputable def pairV (h : Heap) (v : Value) : Int × Int := if c : ∃ p : Int × Int, Srt.IsPair h v p.1 p.2 then c.choose else (0, 0)
theorem pairV_eq {h : Heap} {v : Value} {p : Int × Int} (c : Srt.IsPair h v p.1 p.2) : pairV h v = p := by
  have e : ∃ p : Int × Int, Srt.IsPair h v p.1 p.2 := ⟨p, c⟩
  unfold pairV
  rw [dif_pos e]
  obtain ⟨h1, h2⟩ := IsPair.inj e.choose_spec c
  exact Prod.ext h1 h2
theorem paired_mem {α β γ : Type} {R : α → β → Prop} {R' : α → γ → Prop} : ∀ {xs : List α} {ys : List β} {zs : List γ}, Paired R xs ys → Paired R' xs zs → ∀ z ∈ zs, ∃ x y, R x y ∧ R' x z ∧ x ∈ xs ∧ y ∈ ys
  | _, _, _, .nil, .nil, z, h => nomatch h
  | _, _, _, .cons a b, .cons c d, z, h => by
    rcases List.mem_cons.mp h with rfl | h
    · exact ⟨_, _, a, c, List.mem_cons_self, List.mem_cons_self⟩
    · obtain ⟨x, y, h1, h2, h3, h4⟩ := paired_mem b d z h
      exact ⟨x, y, h1, h2, List.mem_cons_of_mem _ h3, List.mem_cons_of_mem _ h4⟩
theorem vals_paired : ∀ {xs : List V} {us : List Value}, Vals xs us → Paired RelV xs us
  | _, _, .nil => .nil
  | _, _, .cons a b => .cons a (vals_paired b)
theorem map_of_paired {α β γ : Type} {R : α → β → Prop} {R' : α → γ → Prop} (f : γ → β) : ∀ {xs : List α} {ys : List β} {zs : List γ}, Paired R xs ys → Paired R' xs zs → (∀ x y z, R x y → R' x z → f z = y) → zs.map f = ys
  | _, _, _, .nil, .nil, _ => rfl
  | _, _, _, .cons a b, .cons c d, h => by rw [List.map_cons, h _ _ _ a c, map_of_paired f b d h]
theorem paired_maps {α β γ : Type} {R : α → β → Prop} {f : γ → α} {g : γ → β} : ∀ {zs : List γ}, (∀ z ∈ zs, R (f z) (g z)) → Paired R (zs.map f) (zs.map g)
  | [], _ => .nil
  | z :: zs, h => .cons (h z List.mem_cons_self) (paired_maps fun z hz => h z (List.mem_cons_of_mem _ hz))
def rSortedQ (K : Frag) : List V → Hp → VK → Prop := fun vs H Q => ∃ (a : Addr) (xs : List V) (ps : List (Int × Int)) (R : V → Int × Int → Prop), vs = [V.ref a] ∧ SqL K H a xs ∧ (∀ x p, R x p → ∃ t, x = V.ref t ∧ SqT K H t [.int p.1, .int p.2]) ∧ Paired R xs ps ∧
  ∀ ys p, Paired R ys (srtP ps) → H p = none → Q (.ref p) (upd H p (.lst ys))
section
variable {X : Cx}
theorem cr_sortedQ : CallR X (.builtin "sorted") (rSortedQ X.K) := by
  intro pins s σ H vs us Q I r h
  obtain ⟨a, xs, ps, R, rfl, hs, hR, pr, q⟩ := h
  obtain ⟨its, rv, hl, hz⟩ := I.list hs
  obtain ⟨u, rfl, ru⟩ := vals1 r
  obtain rfl : u = Value.ref a := ru
  have pv := vals_paired rv
  have isp : ∀ x p u, R x p → RelV x u → Srt.IsPair s.heap u p.1 p.2 ∧ x = backV u := fun x p u h1 h2 => by
    obtain ⟨t, rfl, ht⟩ := hR x p h1
    cases h2
    obtain ⟨its2, rv2, ⟨o, ho, hc, n, hd⟩, _⟩ := I.tuple ht
    obtain ⟨u1, u2, e2, ri, rj⟩ := vals2 rv2
    obtain ⟨t1, rfl⟩ := ri
    obtain ⟨t2, rfl⟩ := rj
    subst e2
    exact ⟨⟨t, o, t1, t2, n, rfl, ho, hc, hd⟩, rfl⟩
  have e1 : its.map (pairV s.heap) = ps := map_of_paired _ pr pv fun x p u h1 h2 => pairV_eq (isp x p u h1 h2).1
  have mem : ∀ u ∈ its, R (backV u) (pairV s.heap u) ∧ Srt.IsPair s.heap u (pairV s.heap u).1 (pairV s.heap u).2 := fun u hu => by
    obtain ⟨x, p, h1, h2, h3, h4⟩ := paired_mem pr pv u hu
    obtain ⟨h5, h6⟩ := isp x p u h1 h2
    rw [pairV_eq h5]
    exact ⟨h6 ▸ h1, h5⟩
  refine SrtO.sorted_pairsO (k := pairV s.heap) hl.isList (by rw [← rv.length]; exact hz) (fun v hv => (mem v hv).2) fun h' d out h1 h2 kp hd hn => ?_
  have hout : ∀ u ∈ out, u ∈ its := fun u hu => h2.perm.mem_iff.mp hu
  have h3 : ∀ u ∈ out, ∃ a, u = Value.ref a := fun u hu => by
    obtain ⟨a, _, _, _, _, e, _⟩ := (mem u (hout u hu)).2
    exact ⟨a, e⟩
  have e2 : out.map (pairV s.heap) = srtP ps := by
    refine eq_srtP ?_ ?_
    · rw [← e1]; exact h2.perm.map _
    · exact List.pairwise_map.mpr h1
  obtain ⟨n, hn⟩ := hn
  refine ⟨.ref d, upd H d (.lst (out.map backV)), I.laid (t' := s.toks) kp hd ⟨?_, out, n, vals_back h3, hn⟩, rfl, q _ d ?_ (I.hok.fresh hd)⟩
  · rw [List.length_map, h2.perm.length_eq, ← rv.length]
    exact hz
  · rw [← e2]
    exact paired_maps fun u hu => (mem u (hout u hu)).1
def intsOf : List D → Option (List Int)
  | [] => some []
  | .int i :: ds => (intsOf ds).map (i :: ·)
  | _ :: _ => none
def pairsOf : List D → Option (List (Int × Int))
  | [] => some []
  | .tup [.int i, .int j] :: ds => (pairsOf ds).map ((i, j) :: ·)
  | _ :: _ => none
def prD (p : Int × Int) : D := .tup [.int p.1, .int p.2]
theorem intsOf_eq : ∀ {ds : List D} {ns : List Int}, intsOf ds = some ns → ds = ns.map .int
  | [], ns, e => by cases e; rfl
  | d :: ds, ns, e => by
    cases d with
    | int i =>
      have e : (intsOf ds).map (i :: ·) = some ns := e
      cases q : intsOf ds with
      | none => rw [q] at e; exact nomatch e
      | some m =>
        rw [q] at e; cases e
        rw [intsOf_eq q] <;> rfl
    | _ => exact nomatch e
theorem pairsOf_eq : ∀ {ds : List D} {ps : List (Int × Int)}, pairsOf ds = some ps → ds = ps.map prD
  | [], ps, e => by cases e; rfl
  | d :: ds, ps, e => by
    unfold pairsOf at e
    split at e
    · rename_i h; cases h
    · rename_i i j ds' h
      cases h
      cases q : pairsOf ds with
      | none => rw [q] at e; exact nomatch e
      | some m =>
        rw [q] at e; cases e
        rw [pairsOf_eq q] <;> rfl
    · cases e
@[simp] theorem intsOf_map {ns : List Int} : intsOf (ns.map .int) = some ns := by
  induction ns with
  | nil => rfl
  | cons n ns ih => rw [List.map_cons]; show (intsOf _).map _ = _; rw [ih] <;> rfl
@[simp] theorem pairsOf_map {ps : List (Int × Int)} : pairsOf (ps.map prD) = some ps := by
  induction ps with
  | nil => rfl
  | cons n ns ih => rw [List.map_cons]; show (pairsOf _).map _ = _; rw [ih] <;> rfl
def sortD (ds : List D) : Option (List D) := match intsOf ds with
  | some ns => some ((srtN ns).map .int)
  | none => (pairsOf ds).map fun ps => (srtP ps).map prD
def gSort : Sto → List D → Option (List D) := fun S ds => match ds with
  | [d] => (lstOf S d).bind sortD
  | _ => none
theorem rds_paired {F : Fx} {μ : List Addr} {H : Hp} {ps : List (Int × Int)} : ∀ {vs : List V}, RDs F μ H vs (ps.map prD) → Paired (fun v p => RD F μ H v (prD p)) vs ps := by
  induction ps with
  | nil => intro vs r; cases r; exact .nil
  | cons p ps ih =>
    intro vs r
    cases r with
    | cons a b => exact .cons a (ih b)
theorem paired_rds {F : Fx} {μ : List Addr} {H : Hp} {ps : List (Int × Int)} : ∀ {vs : List V}, Paired (fun v p => RD F μ H v (prD p)) vs ps → RDs F μ H vs (ps.map prD) := by
  induction ps with
  | nil => intro vs r; cases r; exact .nil
  | cons p ps ih =>
    intro vs r
    cases r with
    | cons a b => exact .cons a (ih b)
theorem rdsInts {F : Fx} {μ : List Addr} {H : Hp} {ns : List Int} : ∀ {vs : List V}, RDs F μ H vs (ns.map .int) → vs = ns.map V.int := by
  induction ns with
  | nil => intro vs r; cases r; rfl
  | cons p ps ih =>
    intro vs r
    cases r with
    | cons a b =>
      cases a
      rw [ih b] <;> rfl
theorem intsRds {F : Fx} {μ : List Addr} {H : Hp} {ns : List Int} : RDs F μ H (ns.map V.int) (ns.map .int) := by
  induction ns with
  | nil => exact .nil
  | cons p ps ih => exact .cons (.int _) ih
theorem CallR.or {f : Value} {r r' : List V → Hp → VK → Prop} (h : CallR X f r) (h' : CallR X f r') : CallR X f (fun vs H Q => r vs H Q ∨ r' vs H Q) := by
  intro pins s σ H vs us Q I rv z
  rcases z with z | z
  · exact h pins s σ H vs us Q I rv z
  · exact h' pins s σ H vs us Q I rv z
theorem cr_sortA : CallR X (.builtin "sorted") (fun vs H Q => rSortedI X.K vs H Q ∨ rSortedQ X.K vs H Q) := CallR.or cr_sortedI cr_sortedQ
theorem c_sort : CallDL X (fun vs H Q => rSortedI X.K vs H Q ∨ rSortedQ X.K vs H Q) gSort := by
  intro ξ μ H S ds vs z Q s r e k
  unfold gSort at e
  cases r with
  | nil => exact nomatch e
  | @cons v vs d ds r rr =>
    cases rr with
    | cons _ _ => exact nomatch e
    | nil =>
      simp only at e
      cases q : lstOf S d with
      | none => rw [q] at e; exact nomatch e
      | some es =>
        rw [q] at e
        have e : sortD es = some z := e
        obtain ⟨a, xs, rfl, h1, h2⟩ := RD.lstS s r q
        unfold sortD at e
        cases c : intsOf es with
        | some ns =>
          rw [c] at e; cases e
          have ee := intsOf_eq c
          subst ee
          have ev := rdsInts h2
          subst ev
          refine .inl ⟨a, ns, rfl, h1, fun ns' l hp hs hl => ?_⟩
          rw [eq_srtN hp hs]
          exact k l _ μ _ (.fresh hl) hl (s.holds hl) intsRds upd_same
        | none =>
          rw [c] at e
          have e : (pairsOf es).map _ = some z := e
          cases c2 : pairsOf es with
          | none => rw [c2] at e; exact nomatch e
          | some ps =>
            rw [c2] at e; cases e
            have ee := pairsOf_eq c2
            subst ee
            refine .inr ⟨a, xs, ps, fun v p => RD (fx X ξ) μ H v (prD p), rfl, h1, fun x p hx => ?_, rds_paired h2, fun ys l hy hl => ?_⟩
            · cases hx with
              | tup f rr =>
                have : _ = [V.int p.1, V.int p.2] := rdsInts (ns := [p.1, p.2]) rr
                subst this
                exact ⟨_, rfl, f.sq⟩
            · exact k l _ μ _ (.fresh hl) hl (s.holds hl) ((paired_rds hy).mv (.holds hl)) upd_same
end
@[simp] theorem gSort_ints {S : Sto} {d : D} {ns : List Int} (h : lstOf S d = some (ns.map .int)) : gSort S [d] = some ((srtN ns).map .int) := by
  show (lstOf S d).bind sortD = _
  rw [h]
  show sortD _ = _
  unfold sortD
  rw [intsOf_map]
theorem gSort_pairs {S : Sto} {d : D} {ps : List (Int × Int)} (h : lstOf S d = some (ps.map prD)) : gSort S [d] = some ((srtP ps).map prD) := by
  show (lstOf S d).bind sortD = _
  rw [h]
  show sortD _ = _
  unfold sortD
  cases ps with
  | nil => rfl
  | cons p ps =>
    have : intsOf ((p :: ps).map prD) = none := rfl
    rw [this]
    simp only [pairsOf_map]
    rfl
end Dm
-- text DmWp
namespace Dm
open PySem L2
/-! ### what a word does -/
def Res.Does {α : Type} (r : Res α) (Q : α → Sto → Prop) : Prop := match r with
  | .ok a S => Q a S
  | _ => False
def Out.Does (o : Out) (N : Rho → Sto → Prop) (R : D → Sto → Prop) (B : Rho → Sto → Prop := fun _ _ => False) (C : Rho → Sto → Prop := fun _ _ => False) : Prop := match o with
  | .nx ρ S => N ρ S
  | .rt d S => R d S
  | .bk ρ S => B ρ S
  | .ct ρ S => C ρ S
  | _ => False
section
variable {α β : Type} {a : α} {S : Sto} {ρ : Rho} {Q : α → Sto → Prop} {N B C : Rho → Sto → Prop} {R : D → Sto → Prop}
@[simp] theorem does_ok : (Res.ok a S).Does Q = Q a S := rfl
@[simp] theorem does_bind {r : Res β} {f : β → Sto → Res α} : (r.bind f).Does Q = r.Does fun b S => (f b S).Does Q := by cases r <;> rfl
@[simp] theorem bind_ok {f : α → Sto → Res β} : (Res.ok a S).bind f = f a S := rfl
@[simp] theorem ofRes_ok {k : α → Sto → Out} : ofRes (.ok a S) ρ k = k a S := rfl
@[simp] theorem does_ofRes {r : Res α} {k : α → Sto → Out} : (ofRes r ρ k).Does N R B C = r.Does fun a S => (k a S).Does N R B C := by cases r <;> rfl
@[simp] theorem does_nx : (Out.nx ρ S).Does N R B C = N ρ S := rfl
@[simp] theorem does_rt {d : D} : (Out.rt d S).Does N R B C = R d S := rfl
@[simp] theorem does_bk : (Out.bk ρ S).Does N R B C = B ρ S := rfl
@[simp] theorem does_ct : (Out.ct ρ S).Does N R B C = C ρ S := rfl
theorem Res.Does.mono {r : Res α} {Q Q' : α → Sto → Prop} (h : r.Does Q) (k : ∀ a S, Q a S → Q' a S) : r.Does Q' := by
  cases r with
  | ok a S => exact k a S h
  | _ => exact h
theorem Res.Does.eq {r : Res α} {Q : α → Sto → Prop} (h : r.Does Q) : ∃ a S, r = .ok a S ∧ Q a S := by
  cases r with
  | ok a S => exact ⟨a, S, rfl, h⟩
  | _ => exact h.elim
theorem Out.Does.mono {o : Out} {N' B' C' : Rho → Sto → Prop} {R' : D → Sto → Prop} (h : o.Does N R B C) (hN : ∀ ρ S, N ρ S → N' ρ S) (hR : ∀ d S, R d S → R' d S) (hB : ∀ ρ S, B ρ S → B' ρ S) (hC : ∀ ρ S, C ρ S → C' ρ S) : o.Does N' R' B' C' := by
  cases o with
  | nx ρ S => exact hN _ _ h
  | rt d S => exact hR _ _ h
  | bk ρ S => exact hB _ _ h
  | ct ρ S => exact hC _ _ h
  | _ => exact h
end
section
variable {S : Sto} {ρ : Rho} {Q : D → Sto → Prop} {N B C : Rho → Sto → Prop} {R : D → Sto → Prop}
@[simp] theorem does_seq {a b : MS} : (mSeq a b ρ S).Does N R B C = (a ρ S).Does (fun ρ S => (b ρ S).Does N R B C) R B C := by
  unfold mSeq
  cases a ρ S <;> rfl
@[simp] theorem does_asg {i : Nat} {m : ME} : (mAsg i m ρ S).Does N R B C = (m ρ S).Does fun d S => N (ρ.set i (some d)) S := by
  unfold mAsg
  rw [does_ofRes] <;> rfl
@[simp] theorem does_ret {m : ME} : (mRet m ρ S).Does N R B C = (m ρ S).Does R := by
  unfold mRet
  rw [does_ofRes] <;> rfl
@[simp] theorem does_retN : (mRetN ρ S).Does N R B C = R .non S := rfl
@[simp] theorem does_drop {m : ME} : (mDrop m ρ S).Does N R B C = (m ρ S).Does fun _ S => N ρ S := by
  unfold mDrop
  rw [does_ofRes] <;> rfl
@[simp] theorem does_nop : (mNop ρ S).Does N R B C = N ρ S := rfl
@[simp] theorem does_brk : (mBrk ρ S).Does N R B C = B ρ S := rfl
@[simp] theorem does_cont : (mCont ρ S).Does N R B C = C ρ S := rfl
/-- an if by what its test says -/
def BlQ (k : Bool → Sto → Prop) : D → Sto → Prop := fun d S => match d with
  | .bl b => k b S
  | _ => False
@[simp] theorem blQ_bl {k : Bool → Sto → Prop} {b : Bool} : BlQ k (.bl b) S = k b S := rfl
@[simp] theorem does_ifS {c : ME} {a b : MS} : (mIfS c a b ρ S).Does N R B C = (c ρ S).Does (BlQ fun k S => if k = true then (a ρ S).Does N R B C else (b ρ S).Does N R B C) := by
  unfold mIfS
  rw [does_ofRes]
  congr 1
  funext d S
  cases d with
  | bl k => cases k <;> rfl
  | _ => rfl
@[simp] theorem does_var {i : Nat} : (mVar i ρ S).Does Q = match ρ[i]? with
    | some (some d) => Q d S
    | _ => False := by
  unfold mVar
  cases ρ[i]? with
  | none => rfl
  | some o => cases o <;> rfl
@[simp] theorem does_k {d : D} : (mK d ρ S).Does Q = Q d S := rfl
@[simp] theorem var_eq {i : Nat} : mVar i ρ S = match ρ[i]? with
    | some (some d) => .ok d S
    | _ => .bad := rfl
@[simp] theorem k_eq {d : D} : mK d ρ S = .ok d S := rfl
def OptQ (o : Option D) (k : D → Prop) : Prop := match o with
  | some d => k d
  | none => False
@[simp] theorem optQ_some {d : D} {k : D → Prop} : OptQ (some d) k = k d := rfl
@[simp] theorem does_op {g : Sto → D → D → Option D} {a b : ME} : (mOp g a b ρ S).Does Q = (a ρ S).Does fun x S1 => (b ρ S1).Does fun y S2 => OptQ (g S2 x y) fun z => Q z S2 := by
  unfold mOp
  rw [does_bind]
  congr 1
  funext x S1
  rw [does_bind]
  congr 1
  funext y S2
  cases g S2 x y <;> rfl
@[simp] theorem does_un {g : Sto → D → Option D} {a : ME} : (mUn g a ρ S).Does Q = (a ρ S).Does fun x S1 => OptQ (g S1 x) fun z => Q z S1 := by
  unfold mUn
  rw [does_bind]
  congr 1
  funext x S1
  cases g S1 x <;> rfl
@[simp] theorem does_and {a b : ME} : (mAnd a b ρ S).Does Q = (a ρ S).Does (BlQ fun k S1 => if k = true then (b ρ S1).Does Q else Q (.bl false) S1) := by
  unfold mAnd
  rw [does_bind]
  congr 1
  funext d S
  cases d with
  | bl k => cases k <;> rfl
  | _ => rfl
@[simp] theorem does_or {a b : ME} : (mOr a b ρ S).Does Q = (a ρ S).Does (BlQ fun k S1 => if k = true then Q (.bl true) S1 else (b ρ S1).Does Q) := by
  unfold mOr
  rw [does_bind]
  congr 1
  funext d S
  cases d with
  | bl k => cases k <;> rfl
  | _ => rfl
@[simp] theorem does_not {a : ME} : (mNot a ρ S).Does Q = (a ρ S).Does (BlQ fun k S1 => Q (.bl (!k)) S1) := by
  unfold mNot
  rw [does_bind]
  congr 1
  funext d S
  cases d <;> rfl
@[simp] theorem does_if {c a b : ME} : (mIf c a b ρ S).Does Q = (c ρ S).Does (BlQ fun k S1 => if k = true then (a ρ S1).Does Q else (b ρ S1).Does Q) := by
  unfold mIf
  rw [does_bind]
  congr 1
  funext d S
  cases d with
  | bl k => cases k <;> rfl
  | _ => rfl
@[simp] theorem does_nil {Q : List D → Sto → Prop} : (mNil ρ S).Does Q = Q [] S := rfl
@[simp] theorem does_cons {a : ME} {r : MA} {Q : List D → Sto → Prop} : (mCons a r ρ S).Does Q = (a ρ S).Does fun x S1 => (r ρ S1).Does fun xs S2 => Q (x :: xs) S2 := by
  unfold mCons
  rw [does_bind]
  congr 1
  funext x S1
  rw [does_bind] <;> rfl
@[simp] theorem does_tup {a : MA} : (mTup a ρ S).Does Q = (a ρ S).Does fun xs S1 => xs.length ≤ 16777216 ∧ Q (.tup xs) S1 := by
  unfold mTup
  rw [does_bind]
  congr 1
  funext xs S1
  by_cases h : xs.length ≤ 16777216
  · rw [if_pos h]; simp [h]
  · rw [if_neg h]; simp [h, Res.Does]
@[simp] theorem does_lst {a : MA} {Q : List D → Sto → Prop} : (mLst a ρ S).Does Q = (a ρ S).Does fun xs S1 => xs.length ≤ 16777216 ∧ Q xs S1 := by
  unfold mLst
  rw [does_bind]
  congr 1
  funext xs S1
  by_cases h : xs.length ≤ 16777216
  · rw [if_pos h]; simp [h]
  · rw [if_neg h]; simp [h, Res.Does]
@[simp] theorem does_fz {a : MA} : (mFz a ρ S).Does Q = (a ρ S).Does fun xs S1 => Q (.lst xs) S1 := by
  unfold mFz
  rw [does_bind] <;> rfl
@[simp] theorem does_new {a : MA} : (mNew a ρ S).Does Q = (a ρ S).Does fun xs S1 => Q (.cell S1.length) (S1 ++ [.lst xs]) := by
  unfold mNew
  rw [does_bind] <;> rfl
@[simp] theorem does_call {f : List D → Sto → Res D} {a : MA} : (mCall f a ρ S).Does Q = (a ρ S).Does fun xs S1 => (f xs S1).Does Q := by
  unfold mCall
  rw [does_bind] <;> rfl
@[simp] theorem does_callB {g : Sto → List D → Option D} {a : MA} : (mCallB g a ρ S).Does Q = (a ρ S).Does fun xs S1 => OptQ (g S1 xs) fun z => Q z S1 := by
  unfold mCallB
  rw [does_bind]
  congr 1
  funext x S1
  cases g S1 x <;> rfl
@[simp] theorem does_callK {f : List D → Sto → Res D} {n q : Nat} {p : List Nat} {a k : MA} : (mCallK f n q p a k ρ S).Does Q = (a ρ S).Does fun xs S1 => (k ρ S1).Does fun zs S2 => (xs.length = n ∧ zs.length = q) ∧ (f (p.filterMap ((xs ++ zs)[·]?)) S2).Does Q := by
  unfold mCallK
  rw [does_bind]
  congr 1
  funext xs S1
  rw [does_bind]
  congr 1
  funext zs S2
  by_cases h : xs.length = n ∧ zs.length = q
  · rw [if_pos h]; simp [h]
  · rw [if_neg h]; simp [h, Res.Does]
@[simp] theorem does_chain {g g' : Sto → D → D → Option D} {a b c : ME} : (mChain g g' a b c ρ S).Does Q = (a ρ S).Does fun x S1 => (b ρ S1).Does fun y S2 => OptQ (g S2 x y) fun z => BlQ (fun k S2 => if k = true then (c ρ S2).Does fun w S3 => OptQ (g' S3 y w) fun z => Q z S3 else Q (.bl false) S2) z S2 := by
  unfold mChain
  rw [does_bind]
  congr 1
  funext x S1
  rw [does_bind]
  congr 1
  funext y S2
  cases g S2 x y with
  | none => rfl
  | some z =>
    cases z with
    | bl k =>
      cases k with
      | false => rfl
      | true =>
        show ((c ρ S2).bind _).Does Q = _
        rw [does_bind]
        show _ = (c ρ S2).Does _
        congr 1
        funext w S3
        cases g' S3 y w <;> rfl
    | _ => rfl
@[simp] theorem does_isi {T : Tn} {m : ME} : (mIsi T m ρ S).Does Q = (m ρ S).Does fun d S1 => OptQ ((tyOf S1 d).map fun t => .bl (isTn t T)) fun z => Q z S1 := by
  unfold mIsi
  rw [does_un]
@[simp] theorem does_isiT {T : List Tn} {m : ME} : (mIsiT T m ρ S).Does Q = (m ρ S).Does fun d S1 => OptQ ((tyOf S1 d).map fun t => .bl (T.any (isTn t ·))) fun z => Q z S1 := by
  unfold mIsiT
  rw [does_un]
@[simp] theorem does_asgG {f : D → Rho → Option Rho} {m : ME} : (mAsgG f m ρ S).Does N R B C = (m ρ S).Does fun d S1 => match f d ρ with
    | some ρ1 => N ρ1 S1
    | none => False := by
  unfold mAsgG
  rw [does_ofRes]
  congr 1
  funext d S1
  cases f d ρ <;> rfl
/-- a def -/
theorem does_def {np nN : Nat} {b : MS} {ds : List D} (h : ds.length = np) (hb : (b (ds.map some ++ List.replicate (nN - np) none) S).Does (fun _ S' => Q .non S') Q) : (mDef np nN b ds S).Does Q := by
  unfold mDef
  rw [if_pos h]
  cases e : b (ds.map some ++ List.replicate (nN - np) none) S <;> rw [e] at hb <;> exact hb
@[simp] theorem does_for {mi : MA} {f : D → Rho → Option Rho} {mb : MS} : (mFor mi f mb ρ S).Does N R B C = (mi ρ S).Does fun ds S1 => (forL f mb ds ρ S1).Does N R B C := by
  unfold mFor
  rw [does_ofRes]
@[simp] theorem does_forL_nil {f : D → Rho → Option Rho} {mb : MS} : (forL f mb [] ρ S).Does N R B C = N ρ S := rfl
@[simp] theorem does_forL_cons {f : D → Rho → Option Rho} {mb : MS} {d : D} {r : List D} : (forL f mb (d :: r) ρ S).Does N R B C = match f d ρ with
    | none => False
    | some ρ1 => (mb ρ1 S).Does (fun ρ S => (forL f mb r ρ S).Does N R B C) R N (fun ρ S => (forL f mb r ρ S).Does N R B C) := by
  rw [forL]
  cases f d ρ with
  | none => rfl
  | some ρ1 =>
    simp only
    cases mb ρ1 S <;> rfl
/-- a loop by what holds ahead of each turn -/
theorem forL_does {f : D → Rho → Option Rho} {mb : MS} (I : List D → Rho → Sto → Prop) (step : ∀ d r ρ S, I (d :: r) ρ S → ∃ ρ1, f d ρ = some ρ1 ∧ (mb ρ1 S).Does (I r) R N (I r)) (stop : ∀ ρ S, I [] ρ S → N ρ S) :
    ∀ (ds : List D) (ρ : Rho) (S : Sto), I ds ρ S → (forL f mb ds ρ S).Does N R B C
  | [], ρ, S, h => stop ρ S h
  | d :: r, ρ, S, h => by
    obtain ⟨ρ1, e, k⟩ := step d r ρ S h
    unfold forL
    rw [e]
    simp only
    cases q : mb ρ1 S with
    | nx ρ2 S2 => rw [q] at k; exact forL_does I step stop r ρ2 S2 k
    | ct ρ2 S2 => rw [q] at k; exact forL_does I step stop r ρ2 S2 k
    | bk ρ2 S2 => rw [q] at k; exact k
    | rt d S2 => rw [q] at k; exact k
    | exc c fs ρ2 S2 => rw [q] at k; exact k
    | bad => rw [q] at k; exact k
theorem forL_cut {f : D → Rho → Option Rho} {mb : MS} (I : List D → Rho → Sto → Prop) (ds : List D) (start : I ds ρ S) (step : ∀ d r ρ S, I (d :: r) ρ S → ∃ ρ1, f d ρ = some ρ1 ∧ ∀ M : Rho → Sto → Prop, (∀ ρ S, I r ρ S → M ρ S) → (mb ρ1 S).Does M R N M) (stop : ∀ ρ S, I [] ρ S → N ρ S) :
    (forL f mb ds ρ S).Does N R B C :=
  forL_does I (fun d r ρ S h => let ⟨ρ1, e, k⟩ := step d r ρ S h; ⟨ρ1, e, k _ fun _ _ h => h⟩) stop ds ρ S start
/-- .. over a cell that stays as it is -/
theorem forC_does {n : Nat} {ds : List D} {f : D → Rho → Option Rho} {mb : MS} (I : List D → Rho → Sto → Prop) (cell : ∀ r ρ S, I r ρ S → S[n]? = some (.lst ds))
    (step : ∀ d r ρ S, I (d :: r) ρ S → ∃ ρ1, f d ρ = some ρ1 ∧ (mb ρ1 S).Does (I r) R N (I r)) (stop : ∀ ρ S, I [] ρ S → N ρ S) :
    ∀ (r pre : List D) (ρ : Rho) (S : Sto), ds = pre ++ r → I r ρ S → (forC n f mb (r.length + 1) pre.length ρ S).Does N R B C
  | [], pre, ρ, S, e, h => by
    unfold forC
    rw [cell _ _ _ h]
    have e1 : ds[pre.length]? = none := by rw [e, List.append_nil]; exact List.getElem?_eq_none (Nat.le_refl _)
    simp only [e1]
    rw [if_pos (by rw [e, List.append_nil])]
    exact stop ρ S h
  | d :: r, pre, ρ, S, e, h => by
    unfold forC
    rw [cell _ _ _ h]
    have e1 : ds[pre.length]? = some d := by rw [e, List.getElem?_append_right (Nat.le_refl _), Nat.sub_self] <;> rfl
    simp only [e1]
    obtain ⟨ρ1, e2, k⟩ := step d r ρ S h
    rw [e2]
    simp only
    have go : ∀ ρ2 S2, I r ρ2 S2 → (forC n f mb (d :: r).length (pre.length + 1) ρ2 S2).Does N R B C := fun ρ2 S2 h2 => by
      have q := forC_does I cell step stop r (pre ++ [d]) ρ2 S2 (by rw [e, List.append_assoc] <;> rfl) h2
      rw [List.length_append, List.length_singleton] at q
      exact q
    cases q : mb ρ1 S with
    | nx ρ2 S2 => rw [q] at k; exact go ρ2 S2 k
    | ct ρ2 S2 => rw [q] at k; exact go ρ2 S2 k
    | bk ρ2 S2 => rw [q] at k; exact k
    | rt d S2 => rw [q] at k; exact k
    | exc c fs ρ2 S2 => rw [q] at k; exact k
    | bad => rw [q] at k; exact k
theorem does_forC {m : ME} {f : D → Rho → Option Rho} {mb : MS} {n : Nat} {ds : List D} {S1 : Sto} (e : m ρ S = .ok (.cell n) S1) (e1 : S1[n]? = some (.lst ds)) (I : List D → Rho → Sto → Prop) (cell : ∀ r ρ S, I r ρ S → S[n]? = some (.lst ds))
    (step : ∀ d r ρ S, I (d :: r) ρ S → ∃ ρ1, f d ρ = some ρ1 ∧ (mb ρ1 S).Does (I r) R N (I r)) (stop : ∀ ρ S, I [] ρ S → N ρ S) (h : I ds ρ S1) : (mForC m f mb ρ S).Does N R B C := by
  unfold mForC
  rw [does_ofRes, e, does_ok]
  simp only [e1]
  exact forC_does I cell step stop ds [] ρ S1 rfl h
theorem forC_cut {m : ME} {f : D → Rho → Option Rho} {mb : MS} {n : Nat} {ds : List D} {S1 : Sto} (e : m ρ S = .ok (.cell n) S1) (e1 : S1[n]? = some (.lst ds)) (I : List D → Rho → Sto → Prop) (h : I ds ρ S1) (cell : ∀ r ρ S, I r ρ S → S[n]? = some (.lst ds))
    (step : ∀ d r ρ S, I (d :: r) ρ S → ∃ ρ1, f d ρ = some ρ1 ∧ ∀ M : Rho → Sto → Prop, (∀ ρ S, I r ρ S → M ρ S) → (mb ρ1 S).Does M R N M) (stop : ∀ ρ S, I [] ρ S → N ρ S) : (mForC m f mb ρ S).Does N R B C :=
  does_forC e e1 I cell (fun d r ρ S h => let ⟨ρ1, e, k⟩ := step d r ρ S h; ⟨ρ1, e, k _ fun _ _ h => h⟩) stop h
@[simp] theorem does_iSeq {m : ME} {Q : List D → Sto → Prop} : (iSeq m ρ S).Does Q = (m ρ S).Does fun d S1 => match d with
    | .tup ds => Q ds S1
    | .lst ds => Q ds S1
    | _ => False := by
  unfold iSeq
  rw [does_bind]
  congr 1
  funext d S1
  cases d <;> rfl
@[simp] theorem does_iEnumS {m : ME} {Q : List D → Sto → Prop} : (iEnumS m ρ S).Does Q = (m ρ S).Does fun d S1 => match d with
    | .tup ds => Q (enumD ds) S1
    | .lst ds => Q (enumD ds) S1
    | _ => False := by
  unfold iEnumS
  rw [does_bind]
  congr 1
  funext d S1
  cases d <;> rfl
@[simp] theorem does_iRange1 {a : MA} {Q : List D → Sto → Prop} : (iRange1 a ρ S).Does Q = (a ρ S).Does fun ds S1 => match ds with
    | [.int j] => (j ≤ 16777216 ∧ -4611686018427387904 ≤ j) ∧ Q (rngD 0 j.toNat) S1
    | _ => False := by
  unfold iRange1
  rw [does_bind]
  congr 1
  funext ds S1
  split
  · rename_i j
    by_cases h : j ≤ 16777216 ∧ -4611686018427387904 ≤ j
    · rw [if_pos h]; simp [h]
    · rw [if_neg h]; simp [h, Res.Does]
  · rename_i h
    first
    | rfl
    | (split <;> first
      | rfl
      | (rename_i j; exact absurd rfl (h j)))
@[simp] theorem does_iRange2 {a : MA} {Q : List D → Sto → Prop} : (iRange2 a ρ S).Does Q = (a ρ S).Does fun ds S1 => match ds with
    | [.int i, .int j] => (-1000000000000 ≤ i ∧ i ≤ 1000000000000 ∧ -1000000000000 ≤ j ∧ j ≤ 1000000000000 ∧ j - i ≤ 16777216) ∧ Q (rngD i (j - i).toNat) S1
    | _ => False := by
  unfold iRange2
  rw [does_bind]
  congr 1
  funext ds S1
  split
  · rename_i i j
    by_cases h : -1000000000000 ≤ i ∧ i ≤ 1000000000000 ∧ -1000000000000 ≤ j ∧ j ≤ 1000000000000 ∧ j - i ≤ 16777216
    · rw [if_pos h]; simp [h]
    · rw [if_neg h]; simp [h, Res.Does]
  · rename_i h
    first
    | rfl
    | (split <;> first
      | rfl
      | (rename_i i j; exact absurd rfl (h i j)))
/-- what a comprehension gives -/
def LcQ (f : D → Rho → Option Rho) (mt me : ME) (ρ : Rho) (ds : List D) (S : Sto) (Q : List D → Sto → Prop) : Prop := ∃ ys S2, lcL f mt me ρ ds S = some (ys, S2) ∧ Q ys S2
@[simp] theorem lcQ_nil {f : D → Rho → Option Rho} {mt me : ME} {Q : List D → Sto → Prop} : LcQ f mt me ρ [] S Q = Q [] S := by
  refine propext ⟨?_, fun q => ⟨[], S, rfl, q⟩⟩
  rintro ⟨ys, S2, e, q⟩
  cases e
  exact q
@[simp] theorem lcQ_cons {f : D → Rho → Option Rho} {mt me : ME} {d : D} {r : List D} {Q : List D → Sto → Prop} : LcQ f mt me ρ (d :: r) S Q = match f d ρ with
    | none => False
    | some ρ1 => (mt ρ1 S).Does (BlQ fun k S1 => if k = true then (me ρ1 S1).Does fun y S2 => LcQ f mt me ρ r S2 fun ys S3 => Q (y :: ys) S3 else LcQ f mt me ρ r S1 Q) := by
  unfold LcQ
  rw [lcL]
  cases f d ρ with
  | none => simp
  | some ρ1 =>
    simp only
    cases mt ρ1 S with
    | ok v S1 =>
      cases v with
      | bl b =>
        cases b with
        | true =>
          simp only [does_ok, blQ_bl, if_true]
          cases me ρ1 S1 with
          | ok y S2 =>
            simp only [does_ok]
            cases lcL f mt me ρ r S2 with
            | none => simp
            | some z =>
              obtain ⟨ys, S3⟩ := z
              refine propext ⟨?_, ?_⟩
              · rintro ⟨ys', S', e, q⟩
                cases e
                exact ⟨_, _, rfl, q⟩
              · rintro ⟨ys', S', e, q⟩
                cases e
                exact ⟨_, _, rfl, q⟩
          | _ => simp [Res.Does]
        | false => simp [does_ok, blQ_bl]
      | _ => simp [does_ok, BlQ]
    | _ => simp [Res.Does]
@[simp] theorem does_yes {Q : D → Sto → Prop} : (mYes ρ S).Does Q = Q (.bl true) S := rfl
@[simp] theorem does_lc {mi : MA} {f : D → Rho → Option Rho} {mt me : ME} {vs : List Nat} {Q : List D → Sto → Prop} : (mLc mi f mt me vs ρ S).Does Q = (mi ρ S).Does fun ds S1 => LcQ f mt me (wipeD ρ vs) ds S1 Q := by
  unfold mLc
  rw [does_bind]
  congr 1
  funext ds S1
  unfold LcQ
  cases e : lcL f mt me (wipeD ρ vs) ds S1 with
  | none => simp [Res.Does]
  | some r =>
    obtain ⟨ys, S2⟩ := r
    refine propext ⟨fun q => ⟨ys, S2, rfl, q⟩, ?_⟩
    rintro ⟨ys', S2', e', q⟩
    cases e'
    exact q
/-- a comprehension without a test whose element changes no cell -/
theorem lcQ_map {f : D → Rho → Option Rho} {me : ME} {ds : List D} {Q : List D → Sto → Prop} (g : D → D) (h : ∀ d, d ∈ ds → ∃ ρ1, f d ρ = some ρ1 ∧ ∀ Q : D → Sto → Prop, Q (g d) S → (me ρ1 S).Does Q) (q : Q (ds.map g) S) : LcQ f mYes me ρ ds S Q := by
  induction ds generalizing Q with
  | nil => rw [lcQ_nil]; exact q
  | cons d r ih =>
    obtain ⟨ρ1, e, k⟩ := h d List.mem_cons_self
    rw [lcQ_cons, e]
    simp only [does_yes, blQ_bl, if_true]
    exact k _ (ih (fun d hd => h d (List.mem_cons_of_mem _ hd)) q)
@[simp] theorem does_slT {a : ME} {lo hi : MO} : (mSlT a lo hi ρ S).Does Q = (a ρ S).Does fun x S1 => (lo ρ S1).Does fun l S2 => (hi ρ S2).Does fun h S3 => match x with
    | .tup ds => Q (.tup (cutD ds l h)) S3
    | _ => False := by
  unfold mSlT
  rw [does_bind]; congr 1; funext x S1
  rw [does_bind]; congr 1; funext l S2
  rw [does_bind]; congr 1; funext h S3
  cases x <;> rfl
@[simp] theorem does_slL {a : ME} {lo hi : MO} {Q : List D → Sto → Prop} : (mSlL a lo hi ρ S).Does Q = (a ρ S).Does fun x S1 => (lo ρ S1).Does fun l S2 => (hi ρ S2).Does fun h S3 => match lstOf S3 x with
    | some ds => Q (cutD ds l h) S3
    | none => False := by
  unfold mSlL
  rw [does_bind]; congr 1; funext x S1
  rw [does_bind]; congr 1; funext l S2
  rw [does_bind]; congr 1; funext h S3
  cases lstOf S3 x <;> rfl
@[simp] theorem does_part {m : ME} {Q : Option Int → Sto → Prop} : (mPart m ρ S).Does Q = (m ρ S).Does fun x S1 => match x with
    | .int i => Q (some i) S1
    | _ => False := by
  unfold mPart
  rw [does_bind]; congr 1; funext x S1
  cases x <;> rfl
@[simp] theorem does_noPart {Q : Option Int → Sto → Prop} : (mNoPart ρ S).Does Q = Q none S := rfl
@[simp] theorem does_back {m : ME} : (mBack m ρ S).Does Q = (m ρ S).Does fun x S1 => match x with
    | .tup ds => Q (.tup ds.reverse) S1
    | _ => False := by
  unfold mBack
  rw [does_bind]; congr 1; funext x S1
  cases x <;> rfl
@[simp] theorem does_catL {a b : MA} {Q : List D → Sto → Prop} : (mCatL a b ρ S).Does Q = (a ρ S).Does fun xs S1 => (b ρ S1).Does fun ys S2 => xs.length + ys.length ≤ 16777216 ∧ Q (xs ++ ys) S2 := by
  unfold mCatL
  rw [does_bind]; congr 1; funext xs S1
  rw [does_bind]; congr 1; funext ys S2
  by_cases h : xs.length + ys.length ≤ 16777216
  · rw [if_pos h]; simp [h]
  · rw [if_neg h]; simp [h, Res.Does]
@[simp] theorem does_app {o m : ME} : (mApp o m ρ S).Does N R B C = (o ρ S).Does fun x S1 => match x with
    | .cell n => ∃ ds0, S1[n]? = some (.lst ds0) ∧ (m ρ S1).Does fun d S2 => ∃ ds, S2[n]? = some (.lst ds) ∧ ds.length < 16777216 ∧ N ρ (S2.set n (.lst (ds ++ [d])))
    | _ => False := by
  unfold mApp
  rw [does_ofRes]; congr 1; funext x S1
  cases x with
  | cell n =>
    simp only
    cases e : S1[n]? with
    | none => simp [Out.Does]
    | some c =>
      cases c with
      | lst ds0 =>
        simp only [does_ofRes]
        refine propext ⟨fun q => ⟨ds0, rfl, q.mono fun d S2 z => ?_⟩, ?_⟩
        · revert z
          cases e2 : S2[n]? with
          | none => exact fun z => z.elim
          | some c2 =>
            cases c2 with
            | lst ds =>
              intro z
              by_cases l : ds.length < 16777216
              · simp only [if_pos l] at z
                exact ⟨ds, rfl, l, z⟩
              · simp only [if_neg l] at z
                exact z.elim
            | _ => exact fun z => z.elim
        · rintro ⟨ds', e', q⟩
          refine q.mono fun d S2 z => ?_
          obtain ⟨ds, e2, l, z⟩ := z
          simp only [e2, if_pos l]
          exact z
      | _ => simp [Out.Does]
  | _ => rfl
@[simp] theorem does_setIx {m o i : ME} : (mSetIx m o i ρ S).Does N R B C = (m ρ S).Does fun d S1 => (o ρ S1).Does fun x S2 => (i ρ S2).Does fun y S3 => match x, y with
    | .cell n, .int j => ∃ ds k, S3[n]? = some (.lst ds) ∧ ixN ds.length j = some k ∧ N ρ (S3.set n (.lst (ds.set k d)))
    | _, _ => False := by
  unfold mSetIx
  rw [does_ofRes]; congr 1; funext d S1
  rw [does_ofRes]; congr 1; funext x S2
  rw [does_ofRes]; congr 1; funext y S3
  cases x with
  | cell n =>
    cases y with
    | int j =>
      simp only
      cases e : S3[n]? with
      | none => simp [Out.Does]
      | some c =>
        cases c with
        | lst ds =>
          simp only
          cases e2 : ixN ds.length j with
          | none => simp [Out.Does, e2]
          | some k => simp [e2]
        | _ => simp [Out.Does]
    | _ => rfl
  | _ => rfl
@[simp] theorem does_aug {i : Nat} {f : Int → Int → Int} {m : ME} : (mAug i f m ρ S).Does N R B C = match ρ[i]? with
    | some (some (.int a)) => (m ρ S).Does fun d S1 => match d with
      | .int b => N (ρ.set i (some (.int (f a b)))) S1
      | _ => False
    | _ => False := by
  unfold mAug
  cases ρ[i]? with
  | none => rfl
  | some o =>
    cases o with
    | none => rfl
    | some d =>
      cases d with
      | int a =>
        simp only
        rw [does_ofRes]; congr 1; funext d S1
        cases d <;> rfl
      | _ => rfl
@[simp] theorem does_repL {a : MA} {b : ME} {Q : List D → Sto → Prop} : (mRepL a b ρ S).Does Q = (a ρ S).Does fun xs S1 => (b ρ S1).Does fun y S2 => match y with
    | .int k => (k < 1000000 ∧ xs.length * k.toNat ≤ 16777216 ∧ -1000000 < k) ∧ Q (List.replicate k.toNat xs).flatten S2
    | _ => False := by
  unfold mRepL
  rw [does_bind]; congr 1; funext xs S1
  rw [does_bind]; congr 1; funext y S2
  cases y with
  | int k =>
    simp only
    by_cases h : k < 1000000 ∧ xs.length * k.toNat ≤ 16777216 ∧ -1000000 < k
    · rw [if_pos h]; simp [h]
    · rw [if_neg h]; simp [h, Res.Does]
  | _ => rfl
@[simp] theorem does_catC {a : ME} {b : MA} {Q : List D → Sto → Prop} : (mCatC a b ρ S).Does Q = (a ρ S).Does fun x S1 => (b ρ S1).Does fun ys S2 => match x with
    | .cell n => ∃ xs, S2[n]? = some (.lst xs) ∧ xs.length + ys.length ≤ 16777216 ∧ Q (xs ++ ys) S2
    | _ => False := by
  unfold mCatC
  rw [does_bind]; congr 1; funext x S1
  rw [does_bind]; congr 1; funext ys S2
  cases x with
  | cell n =>
    simp only
    cases e : S2[n]? with
    | none => simp [Res.Does]
    | some c =>
      cases c with
      | lst xs =>
        simp only
        by_cases h : xs.length + ys.length ≤ 16777216
        · rw [if_pos h]; simp [h]
        · rw [if_neg h]; simp [h, Res.Does]
      | _ => simp [Res.Does]
  | _ => rfl
@[simp] theorem does_catV {a : ME} {b : MA} {Q : List D → Sto → Prop} : (mCatV a b ρ S).Does Q = (a ρ S).Does fun x S1 => (b ρ S1).Does fun ys S2 => match lstOf S2 x with
    | some xs => xs.length + ys.length ≤ 16777216 ∧ Q (xs ++ ys) S2
    | none => False := by
  unfold mCatV
  rw [does_bind]; congr 1; funext x S1
  rw [does_bind]; congr 1; funext ys S2
  cases e : lstOf S2 x with
  | none => simp [Res.Does]
  | some xs =>
    simp only
    by_cases h : xs.length + ys.length ≤ 16777216
    · rw [if_pos h]; simp [h]
    · rw [if_neg h]; simp [h, Res.Does]
end
end Dm
-- text DmAny
namespace Dm
open PySem L2 PySem.Spec PyProof.Rows
open PySem.W (Frag)
/-! ### over what stands in a tuple, a list, a cell, as it stands at each turn -/
def ItA (F : Fx) (μ : List Addr) (H : Hp) (J : It) (p : D × Nat) : Prop := p.2 ≤ 16777216 ∧
  ∀ (F' : Fx) (μ' : List Addr) (H' : Hp) (S' : Sto) (i : Nat), Ext F F' H → Up μ H μ' H' → RS F' μ' H' S' → ∀ ds, seqOf S' p.1 = some ds →
    (∀ x, ds[i]? = some x → J.go i H' ∧ ∀ v H'', J.yld i H' v H'' → H'' = H' ∧ RD F' μ' H' v x) ∧ (i = ds.length → J.stop i H')
/-- the word: the thing and its length at the beginning -/
abbrev MP := Rho → Sto → Res (D × Nat)
def iAny (m : ME) : MP := fun ρ S => (m ρ S).bind fun d S1 => match seqOf S1 d with
  | some ds => .ok (d, ds.length) S1
  | none => .bad
structure DIA (X : Cx) (W : WX) (tg iter : Expr) (m : MP) : Prop where
  ex : ∃ wi, PI X tg iter wi ∧ ∀ ξ μ σ H ρ S R, RG (fx X ξ) μ H σ ρ → RS (fx X ξ) μ H S → WR (fx X ξ) (fun μ H (J : It) (p : D × Nat) => ItA (fx X ξ) μ H J p) (m ρ S) R (fun cls dd H' => W cls dd σ H') μ H → wi σ H R
section
variable {X : Cx} {W : WX} {tg e a b c : Expr} {es : List Expr} {st : Stmt} {sts ts : List Stmt} {ma mb mc m : ME} {mr : MA} {m1 m2 : MS} {pos p p1 p2 p3 : Pos}
theorem itA_tup {F : Fx} {μ : List Addr} {H : Hp} {a : Addr} {xs : List V} {ds : List D} (f : FzT F μ H a xs) (r : RDs F μ H xs ds) (z : Sized F.K H) : ItA F μ H (Itt F.K a) (.tup ds, ds.length) := by
  obtain ⟨h1, h2⟩ := itt_ok f r z
  refine ⟨h1, fun F' μ' H' S' i e u s es h => ?_⟩
  cases h
  refine ⟨fun x hx => ?_, fun hi => (h2 F' μ' H' S' i e u s (by omega)).2 hi⟩
  have hl := (List.getElem?_eq_some_iff.mp hx).1
  obtain ⟨k1, k2⟩ := (h2 F' μ' H' S' i e u s (by omega)).1 x hx
  refine ⟨k1, fun v H'' y => ?_⟩
  obtain ⟨e1, _⟩ := id y
  obtain ⟨_, _, k3⟩ := k2 v H'' y
  subst e1
  exact ⟨rfl, k3⟩
theorem itA_lst {F : Fx} {μ : List Addr} {H : Hp} {v : V} {d : D} {ds : List D} {S : Sto} {a : Addr} (ev : v = .ref a) (s : RS F μ H S) (r : RD F μ H v d) (e : lstOf S d = some ds) (z : Sized F.K H) : ItA F μ H (Itl F.K a) (d, ds.length) := by
  obtain ⟨a', xs, e1, h1, h2⟩ := RD.lstS s r e
  rw [ev] at e1; cases e1
  refine ⟨by rw [← h2.length]; exact z _ _ (.inl h1), fun F' μ' H' S' i ex u s' es h => ?_⟩
  have r' : RD F' μ' H' v d := r.mv (.ext ex u)
  have eL : lstOf S' d = some es := by
    cases d with
    | tup _ => exact nomatch e
    | lst _ => exact h
    | cell n => exact h
    | _ => exact nomatch e
  obtain ⟨a2, ys, e2, h3, h4⟩ := RD.lstS s' r' eL
  rw [ev] at e2; cases e2
  rw [ex.k] at h3
  refine ⟨fun x hx => ?_, fun hi => ⟨ys, h3, by rw [h4.length, hi]; exact Nat.le_refl _⟩⟩
  obtain ⟨w, h5, h6⟩ := h4.get hx
  refine ⟨⟨ys, w, h3, h5⟩, fun v' H'' y => ?_⟩
  obtain ⟨e3, y⟩ := y
  have q := y ys h3
  rw [h5] at q; cases q
  exact ⟨e3, h6⟩
theorem dia_any (h : DE X W e m) : DIA X W tg e (iAny m) := by
  obtain ⟨te, pe, k⟩ := h
  refine ⟨_, piOr (piSized (pi_tup pe)) (piSized (pi_list pe)), fun ξ μ σ H ρ S R g s h => ?_⟩
  cases e1 : m ρ S with
  | bad => unfold iAny at h; rw [e1] at h; exact h.elim
  | exc c fs S1 =>
    unfold iAny at h; rw [e1] at h
    refine .inl (k ξ μ σ H ρ S _ g s ?_)
    rw [e1]; exact h
  | ok d S1 =>
    unfold iAny at h
    rw [e1] at h
    have h : WR (fx X ξ) (fun μ H (J : It) (p : D × Nat) => ItA (fx X ξ) μ H J p) (match seqOf S1 d with | some ds => .ok (d, ds.length) S1 | none => .bad) R (fun cls dd H' => W cls dd σ H') μ H := h
    by_cases c : ∃ ds, d = .tup ds
    · obtain ⟨ds, rfl⟩ := c
      refine .inl (k ξ μ σ H ρ S _ g s ?_)
      rw [e1]
      intro v μ1 H1 u1 s1 r1
      cases r1 with
      | @tup a xs _ f r => exact ⟨a, rfl, ⟨xs, f.sq⟩, fun z => h _ μ1 H1 u1 s1 (itA_tup f r z)⟩
    · cases q : seqOf S1 d with
      | none => rw [q] at h; exact h.elim
      | some ds =>
        rw [q] at h
        refine .inr (k ξ μ σ H ρ S _ g s ?_)
        rw [e1]
        have eL : lstOf S1 d = some ds := by
          cases d with
          | tup es => exact absurd ⟨es, rfl⟩ c
          | lst _ => exact q
          | cell n => exact q
          | _ => exact nomatch q
        intro v μ1 H1 u1 s1 r1
        obtain ⟨a, xs, rfl, h3, h4⟩ := RD.lstS s1 r1 eL
        exact ⟨a, rfl, ⟨xs, h3⟩, fun z => h _ μ1 H1 u1 s1 (itA_lst rfl s1 r1 eL z)⟩
def forA (d : D) (f : D → Rho → Option Rho) (mb : MS) : Nat → Nat → Rho → Sto → Out
  | 0, _, _, _ => .bad
  | k + 1, i, ρ, S => match seqOf S d with
    | some ds => match ds[i]? with
      | none => if i = ds.length then .nx ρ S else .bad
      | some x => match f x ρ with
        | none => .bad
        | some ρ1 => match mb ρ1 S with
          | .nx ρ2 S2 => forA d f mb k (i + 1) ρ2 S2
          | .ct ρ2 S2 => forA d f mb k (i + 1) ρ2 S2
          | .bk ρ2 S2 => .nx ρ2 S2
          | .rt d S2 => .rt d S2
          | .exc c fs ρ2 S2 => .exc c fs ρ2 S2
          | .bad => .bad
    | none => .bad
def mForA (m : ME) (f : D → Rho → Option Rho) (mb : MS) : MS := fun ρ S => ofRes (iAny m ρ S) ρ fun p S1 => forA p.1 f mb (p.2 + 1) 0 ρ S1
theorem ds_forA {f : D → Rho → Option Rho} {is : List Nat} {mb : MS} (hp : PassesOwn (model X.prog X.w) X.A X.env X.xe) (hc : X.calm = true) (hi : DE X W e m) (hg : DG X tg f is) (hb : DSs X W sts mb)
    (hs : ∀ x, foldedSetIterable e X.env x = pure x := by intro _; rfl) : DS X W (.For tg e sts [] pos) (mForA m f mb) := by
  obtain ⟨wi, pi, ki⟩ := dia_any (tg := tg) hi
  obtain ⟨tg', pg, kg⟩ := hg
  obtain ⟨tb, pb, kb⟩ := hb
  refine ⟨_, ps_for hp hc pi pg pb hs, fun ξ μ σ H ρ S D g s h => ki ξ μ σ H ρ S _ g s (WS'.bind g h fun p S1 J μ1 H1 u1 s1 r1 h1 => ?_)⟩
  obtain ⟨d, n0⟩ := p
  refine ⟨fun i k σ' H' => ∃ μ' ρ' S', Up μ1 H1 μ' H' ∧ RS (fx X ξ) μ' H' S' ∧ RG (fx X ξ) μ' H' σ' ρ' ∧ WS' (fx X ξ) (forA d f mb k i ρ' S') D W μ' H',
    ⟨_, μ1, ρ, S1, .refl, s1, g.up u1, h1⟩, ?_⟩
  rintro i k σ' H' ⟨μ', ρ', S', u', s', g', w⟩
  cases k with
  | zero => exact w.elim
  | succ k =>
    unfold forA at w
    cases q' : seqOf S' d with
    | none => rw [q'] at w; exact w.elim
    | some es =>
      rw [q'] at w
      simp only at w
      obtain ⟨t1, t2⟩ := r1.2 (fx X ξ) μ' H' S' i .refl u' s' es q'
      cases q2 : es[i]? with
      | none =>
        rw [q2] at w
        simp only at w
        by_cases hi : i = es.length
        · rw [if_pos hi] at w
          exact .inl ⟨t2 hi, w σ' μ' H' .refl s' g'⟩
        · rw [if_neg hi] at w; exact w.elim
      | some x =>
        rw [q2] at w
        simp only at w
        obtain ⟨go, yl⟩ := t1 x q2
        cases ef : f x ρ' with
        | none => rw [ef] at w; exact w.elim
        | some ρ1 =>
          rw [ef] at w
          simp only at w
          refine .inr ⟨go, fun σ2 H2 => ∃ μ' ρ' S', Up μ1 H1 μ' H2 ∧ RS (fx X ξ) μ' H2 S' ∧ RG (fx X ξ) μ' H2 σ2 ρ' ∧ WS' (fx X ξ) (forA d f mb k (i + 1) ρ' S') D W μ' H2,
            fun σ2 H2 z => ⟨k, Nat.lt_succ_self k, z⟩, fun v H2 y => ?_⟩
          obtain ⟨y1, y2⟩ := yl v H2 y
          subst y1
          refine kg ξ μ' σ' _ ρ' v x ρ1 _ g' y2 ef fun σ2 g2 _ => ?_
          refine kb ξ μ' σ2 _ ρ1 S' _ g2 s' ?_
          cases eb : mb ρ1 S' with
          | nx ρ2 S2 =>
            rw [eb] at w
            exact fun σ3 μ3 H3 u3 s3 g3 => ⟨μ3, ρ2, S2, u'.trans u3, s3, g3, w.shift u3⟩
          | ct ρ2 S2 =>
            rw [eb] at w
            exact fun σ3 μ3 H3 u3 s3 g3 => ⟨μ3, ρ2, S2, u'.trans u3, s3, g3, w.shift u3⟩
          | bk ρ2 S2 => rw [eb] at w; exact w
          | rt d S2 => rw [eb] at w; exact w
          | exc c fs ρ2 S2 => rw [eb] at w; exact w
          | bad => rw [eb] at w; exact w
/-! ### comprehensions -/
def lcA (d : D) (f : D → Rho → Option Rho) (mt me : ME) (ρ : Rho) : Nat → Nat → Sto → Option (List D × Sto)
  | 0, _, _ => none
  | k + 1, i, S => match seqOf S d with
    | none => none
    | some ds => match ds[i]? with
      | none => if i = ds.length then some ([], S) else none
      | some x => match f x ρ with
        | none => none
        | some ρ1 => match mt ρ1 S with
          | .ok (.bl true) S1 => match me ρ1 S1 with
            | .ok y S2 => match lcA d f mt me ρ k (i + 1) S2 with
              | some (ys, S3) => some (y :: ys, S3)
              | none => none
            | _ => none
          | .ok (.bl false) S1 => lcA d f mt me ρ k (i + 1) S1
          | _ => none
def mLcA (m : ME) (f : D → Rho → Option Rho) (mt me : ME) (vs : List Nat) : MA := fun ρ S => (iAny m ρ S).bind fun p S1 => match lcA p.1 f mt me (wipeD ρ vs) (p.2 + 1) 0 S1 with
  | some (ys, S2) => .ok ys S2
  | none => .bad
theorem lcA_pos {d : D} {f : D → Rho → Option Rho} {mt me : ME} {ρ : Rho} {k i : Nat} {S : Sto} {r : List D × Sto} (h : lcA d f mt me ρ k i S = some r) : 0 < k := by
  cases k with
  | zero => exact nomatch h
  | succ k => exact Nat.succ_pos k
/-- the reading of a comprehension -/
theorem lcA_read {wi : TI} {tg' : TG} {tt : TT} {te : TE} {f : D → Rho → Option Rho} {is vs : List Nat} {ξ μ : List Addr} {σ : L2.St} {H : Hp} {ρ : Rho} {S : Sto} {Q : VK} {Wx : Value → Option Addr → Hp → Prop} {m mt me : ME}
    (ki : ∀ R, WR (fx X ξ) (fun μ H (J : It) (p : D × Nat) => ItA (fx X ξ) μ H J p) (iAny m ρ S) R Wx μ H → wi σ H R)
    (kg : ∀ ξ μ σ H ρ v d ρ' (Q : L2.St → Hp → Prop), RG (fx X ξ) μ H σ ρ → RD (fx X ξ) μ H v d → f d ρ = some ρ' → (∀ σ', RG (fx X ξ) μ H σ' ρ' → (∀ js : List Nat, (∀ i ∈ is, i ∈ js) → wipe σ' js = wipe σ js) → Q σ' H) → tg' v σ H Q)
    (kt : ∀ ξ μ σ H ρ S Q, RG (fx X ξ) μ H σ ρ → RS (fx X ξ) μ H S → WT' (fx X ξ) (mt ρ S) Q (fun cls dd H' => W0 cls dd σ H') μ H → tt σ H Q)
    (ke : ∀ ξ μ σ H ρ S Q, RG (fx X ξ) μ H σ ρ → RS (fx X ξ) μ H S → WE' (fx X ξ) (me ρ S) Q (fun cls dd H' => W0 cls dd σ H') μ H → te σ H Q)
    (hv : ∀ i ∈ is, i ∈ vs) (g : RG (fx X ξ) μ H σ ρ) (s : RS (fx X ξ) μ H S) (h : WL' (fx X ξ) (mLcA m f mt me vs ρ S) Q Wx μ H) : tLc wi tg' tt te vs σ H Q := by
  refine ki _ (WL'.bind h fun p S1 J μ1 H1 u1 s1 r1 h1 => ?_)
  obtain ⟨d, n0⟩ := p
  intro D hD
  obtain ⟨hz, r1⟩ := r1
  have hz : n0 ≤ 16777216 := hz
  have n1 : D ∉ μ1 := s1.out hD
  have x1 : D ∉ ξ := s1.outX hD
  have ext : Ext (fx X ξ) ((fx X ξ).hold D) H1 := ⟨rfl, rfl, fun a ha => (List.mem_cons.mp ha).elim (fun z => .inr (by rw [z]; exact hD)) .inl⟩
  have main : WL' (fx X ξ) (match lcA d f mt me (wipeD ρ vs) (n0 + 1) 0 S1 with
    | some (ys, S2) => Res.ok ys S2
    | none => .bad) Q Wx μ1 H1 := h1
  refine ⟨fun i k H' => ∃ μ' S' acc dacc, Up μ1 H1 μ' H' ∧ RS ((fx X ξ).hold D) μ' H' S' ∧ H' D = some (.lst acc) ∧ RDs ((fx X ξ).hold D) μ' H' acc dacc ∧ acc.length ≤ i ∧ i + k = n0 + 1 ∧
      ∃ ys S2, lcA d f mt me (wipeD ρ vs) k i S' = some (ys, S2) ∧ ∀ μ2 H2 xs, Up μ1 H1 μ2 H2 → RS ((fx X ξ).hold D) μ2 H2 S2 → RDs ((fx X ξ).hold D) μ2 H2 xs (dacc ++ ys) → H2 D = some (.lst xs) → Q (.ref D) H2,
    ⟨_, μ1, S1, [], [], .fresh hD, s1.holds hD, upd_same, .nil, Nat.le_refl _, Nat.zero_add _, ?_⟩, ?_⟩
  · cases q : lcA d f mt me (wipeD ρ vs) (n0 + 1) 0 S1 with
    | none => rw [q] at main; exact main.elim
    | some r =>
      obtain ⟨ys, S2⟩ := r
      rw [q] at main
      exact ⟨ys, S2, rfl, fun μ2 H2 xs u2 s2 r2 e2 => main D xs μ2 H2 u2 hD s2 r2 e2⟩
  rintro i k H' ⟨μ', S', acc, dacc, u', s', hacc, racc, hla, hi, ys, S2, eL, fin⟩
  cases k with
  | zero => exact nomatch eL
  | succ k =>
    unfold lcA at eL
    cases q' : seqOf S' d with
    | none => rw [q'] at eL; exact nomatch eL
    | some es =>
      rw [q'] at eL
      simp only at eL
      obtain ⟨t1, t2⟩ := r1 ((fx X ξ).hold D) μ' H' S' i ext u' s' es q'
      cases q2 : es[i]? with
      | none =>
        rw [q2] at eL
        simp only at eL
        by_cases e : i = es.length
        · rw [if_pos e] at eL
          cases eL
          exact .inl ⟨t2 e, fin μ' H' acc u' s' (by rw [List.append_nil]; exact racc) hacc⟩
        · rw [if_neg e] at eL; exact nomatch eL
      | some x0 =>
        rw [q2] at eL
        simp only at eL
        obtain ⟨go, yl⟩ := t1 x0 q2
        cases ef : f x0 (wipeD ρ vs) with
        | none => rw [ef] at eL; exact nomatch eL
        | some ρ1 =>
          rw [ef] at eL
          simp only at eL
          refine .inr ⟨go, fun H2 => ∃ μ' S' acc dacc, Up μ1 H1 μ' H2 ∧ RS ((fx X ξ).hold D) μ' H2 S' ∧ H2 D = some (.lst acc) ∧ RDs ((fx X ξ).hold D) μ' H2 acc dacc ∧ acc.length ≤ i + 1 ∧ (i + 1) + k = n0 + 1 ∧
              ∃ ys S2, lcA d f mt me (wipeD ρ vs) k (i + 1) S' = some (ys, S2) ∧ ∀ μ2 H2 xs, Up μ1 H1 μ2 H2 → RS ((fx X ξ).hold D) μ2 H2 S2 → RDs ((fx X ξ).hold D) μ2 H2 xs (dacc ++ ys) → H2 D = some (.lst xs) → Q (.ref D) H2,
            fun H2 z => ⟨k, Nat.lt_succ_self k, z⟩, fun x H2 y => ?_⟩
          obtain ⟨eH, r2⟩ := yl x H2 y
          subst eH
          have g2 : RG (fx X (D :: ξ)) μ' H2 (wipe σ vs) (wipeD ρ vs) := (((g.up u1).mv (.ext ext u'))).wipe vs
          refine kg (D :: ξ) μ' (wipe σ vs) H2 (wipeD ρ vs) x _ ρ1 _ g2 r2 ef fun σ3 g3 w3 => ?_
          have nD : D ∉ μ' := (s'.xi D List.mem_cons_self).1
          have ww : wipe (wipe σ vs) vs = wipe σ vs := by
            refine List.ext_getElem? fun k => ?_
            rw [wipe_get, wipe_get, wipe_length]
            by_cases q : k ∈ vs ∧ k < σ.length
            · rw [if_pos q, if_pos q]
            · rw [if_neg q, if_neg q]
          refine ⟨by rw [w3 vs hv, ww], ?_⟩
          refine kt (D :: ξ) μ' σ3 H2 ρ1 S' _ g3 s' ?_
          cases et : mt ρ1 S' with
          | bad => rw [et] at eL; exact nomatch eL
          | exc c fs S3 => rw [et] at eL; exact nomatch eL
          | ok dd S3 =>
            rw [et] at eL
            cases dd with
            | bl b =>
              intro μ3 H3 u3 s3
              have eD3 : H3 D = some (.lst acc) := u3.keep _ _ hacc nD
              cases b with
              | false =>
                exact ⟨μ3, S3, acc, dacc, u'.trans u3, s3, eD3, racc.up u3, Nat.le_succ_of_le hla, by omega, ys, S2, eL, fin⟩
              | true =>
                simp only at eL
                refine ke (D :: ξ) μ3 σ3 H3 ρ1 S3 _ (g3.up u3) s3 ?_
                cases ee : me ρ1 S3 with
                | bad => rw [ee] at eL; exact nomatch eL
                | exc c fs S4 => rw [ee] at eL; exact nomatch eL
                | ok y S4 =>
                  rw [ee] at eL
                  intro v μ4 H4 u4 s4 r4
                  simp only at eL
                  cases er : lcA d f mt me (wipeD ρ vs) k (i + 1) S4 with
                  | none => rw [er] at eL; exact nomatch eL
                  | some q =>
                    obtain ⟨zs, S5⟩ := q
                    have kp := lcA_pos er
                    rw [er] at eL
                    cases eL
                    have nD3 : D ∉ μ3 := (s3.xi D List.mem_cons_self).1
                    have eD4 : H4 D = some (.lst acc) := u4.keep _ _ eD3 nD3
                    refine ⟨acc, eD4, by rw [sizeLine_eq]; omega, μ4, S4, acc ++ [v], dacc ++ [y], ?_, RS.wr (F := fx X ξ) (p := D) s4, upd_same, RDs.mv (Mv.wr (F := fx X ξ) (p := D)) _ (RDs.append (F := (fx X ξ).hold D) ((racc.up u3).up u4) (.cons r4 .nil)), by rw [List.length_append, List.length_singleton]; omega, by omega, zs, S2, er, fun μ5 H5 xs u5 s5 r5 e5 => fin μ5 H5 xs u5 s5 (by rw [List.append_assoc] at r5; exact r5) e5⟩
                    have U := u'.trans (u3.trans u4)
                    exact ⟨U.pre, U.new, fun a o ha na => by
                      rw [upd_ne (ne_of_none ha hD)]
                      exact U.keep a o ha na⟩
            | _ => exact nomatch eL
theorem dl_lcA {elt : Expr} {ifs : List Expr} {scope : Scope} {own : List (Str × Nat)} {f : D → Rho → Option Rho} {is : List Nat} {mt me : ME} (hc : X.calm = true) (hN : X.N.Nodup) (hi : DE X W e m) (ok : BlkOk X.N X.env.scope scope own)
    (hg : ∀ (s : Shared) (H : Hp) (C : Addr) (cl : List (Str × Addr)) (fp : List Addr), DG (X.blk s H scope (compEnvC scope cl C X.env) fp) tg f is)
    (ht : ∀ (s : Shared) (H : Hp) (C : Addr) (cl : List (Str × Addr)) (fp : List Addr), DTs (X.blk s H scope (compEnvC scope cl C X.env) fp) W0 ifs mt)
    (he : ∀ (s : Shared) (H : Hp) (C : Addr) (cl : List (Str × Addr)) (fp : List Addr), DE (X.blk s H scope (compEnvC scope cl C X.env) fp) W0 elt me)
    (hv : ∀ i ∈ is, i ∈ own.map (·.2) := by decide) (hs : ∀ x, foldedSetIterable e X.env x = pure x := by intro _; rfl) : DL X W (.ListComp elt [⟨tg, e, ifs, 0⟩] scope pos) (mLcA m f mt me (own.map (·.2))) := by
  obtain ⟨wi, pi, ki⟩ := dia_any (tg := tg) hi
  obtain ⟨tg', pg, kg⟩ := dg_all (Xf := blkOf X scope) (K := X.K) (mg := X.mg) (fun _ => rfl) (fun _ => rfl) fun i => hg i.1 i.2.1 i.2.2.1 i.2.2.2.1 i.2.2.2.2
  obtain ⟨tt, pt, kt⟩ := dts_all (Xf := blkOf X scope) (K := X.K) (mg := X.mg) (fun _ => rfl) (fun _ => rfl) fun i => ht i.1 i.2.1 i.2.2.1 i.2.2.2.1 i.2.2.2.2
  obtain ⟨te, pe, ke⟩ := de_all (Xf := blkOf X scope) (K := X.K) (mg := X.mg) (fun _ => rfl) (fun _ => rfl) fun i => he i.1 i.2.1 i.2.2.1 i.2.2.2.1 i.2.2.2.2
  refine ⟨_, pe_lc hc hN pi ok (fun s H C cl fp => pg (s, H, C, cl, fp)) (fun s H C cl fp => pt (s, H, C, cl, fp)) (fun s H C cl fp => pe (s, H, C, cl, fp)) hs, fun ξ μ σ H ρ S Q g s h => ?_⟩
  exact lcA_read (fun R => ki ξ μ σ H ρ S R g s) kg kt ke hv g s h
theorem ds_setLcA (i : Nat) {y : Str} {py spos : Pos} {elt : Expr} {ifs : List Expr} {scope : Scope} {own : List (Str × Nat)} {f : D → Rho → Option Rho} {is : List Nat} {mt me : ME} {mw : MA → ME} (hw : ∀ {te : TE} {mr : MA}, RdL X W te mr → RdE X W te (mw mr)) (hc : X.calm = true) (hN : X.N.Nodup) (hi : DE X W e m) (ok : BlkOk X.N X.env.scope scope own)
    (hg : ∀ (s : Shared) (H : Hp) (C : Addr) (cl : List (Str × Addr)) (fp : List Addr), DG (X.blk s H scope (compEnvC scope cl C X.env) fp) tg f is)
    (ht : ∀ (s : Shared) (H : Hp) (C : Addr) (cl : List (Str × Addr)) (fp : List Addr), DTs (X.blk s H scope (compEnvC scope cl C X.env) fp) W0 ifs mt)
    (he : ∀ (s : Shared) (H : Hp) (C : Addr) (cl : List (Str × Addr)) (fp : List Addr), DE (X.blk s H scope (compEnvC scope cl C X.env) fp) W0 elt me)
    (hv : ∀ i ∈ is, i ∈ own.map (·.2) := by decide) (hy : X.N[i]? = some y := by rfl) (hyl : X.env.scope.names.lookup y = some .local := by rfl)
    (hsw : swapsWith (.ListComp elt [⟨tg, e, ifs, 0⟩] scope pos) (some (.Name y py)) spos.line X.env = pure true := by rfl) (hs : ∀ x, foldedSetIterable e X.env x = pure x := by intro _; rfl) :
    DS X W (.Assign [.Name y py] (.ListComp elt [⟨tg, e, ifs, 0⟩] scope pos) spos) (mAsg i (mw (mLcA m f mt me (own.map (·.2))))) := by
  obtain ⟨wi, pi, ki⟩ := dia_any (tg := tg) hi
  obtain ⟨tg', pg, kg⟩ := dg_all (Xf := blkOf X scope) (K := X.K) (mg := X.mg) (fun _ => rfl) (fun _ => rfl) fun i => hg i.1 i.2.1 i.2.2.1 i.2.2.2.1 i.2.2.2.2
  obtain ⟨tt, pt, kt⟩ := dts_all (Xf := blkOf X scope) (K := X.K) (mg := X.mg) (fun _ => rfl) (fun _ => rfl) fun i => ht i.1 i.2.1 i.2.2.1 i.2.2.2.1 i.2.2.2.2
  obtain ⟨te, pe, ke⟩ := de_all (Xf := blkOf X scope) (K := X.K) (mg := X.mg) (fun _ => rfl) (fun _ => rfl) fun i => he i.1 i.2.1 i.2.2.1 i.2.2.2.1 i.2.2.2.2
  have rd : RdL X W (tLc wi tg' tt te (own.map (·.2))) (mLcA m f mt me (own.map (·.2))) := fun ξ μ σ H ρ S Q g s h => lcA_read (fun R => ki ξ μ σ H ρ S R g s) kg kt ke hv g s h
  refine ⟨_, ps_setLc (i := i) hc hN hy hyl hsw pi ok (fun s H C cl fp => pg (s, H, C, cl, fp)) (fun s H C cl fp => pt (s, H, C, cl, fp)) (fun s H C cl fp => pe (s, H, C, cl, fp)) hs, fun ξ μ σ H ρ S D g s h => ?_⟩
  exact hw rd ξ μ σ H ρ S _ g s (WS'.bind g h fun x S1 v μ1 H1 u1 s1 r1 h1 => h1 _ μ1 H1 .refl s1 ((g.up u1).set i r1))
end
/-! ### what they do -/
section
variable {S : Sto} {ρ : Rho} {N B C : Rho → Sto → Prop} {R : D → Sto → Prop} {f : D → Rho → Option Rho} {mt me : ME} {mb : MS}
theorem seqOf_fix {d : D} {ds : List D} (h : d = .tup ds ∨ d = .lst ds) (S : Sto) : seqOf S d = some ds := by
  rcases h with rfl | rfl <;> rfl
theorem forA_fix {d : D} {ds : List D} (h : d = .tup ds ∨ d = .lst ds) : ∀ (r pre : List D) (ρ : Rho) (S : Sto), ds = pre ++ r → forA d f mb (r.length + 1) pre.length ρ S = forL f mb r ρ S
  | [], pre, ρ, S, e => by
    unfold forA
    rw [seqOf_fix h]
    have e1 : ds[pre.length]? = none := by rw [e, List.append_nil]; exact List.getElem?_eq_none (Nat.le_refl _)
    simp only [e1]
    rw [if_pos (by rw [e, List.append_nil])] <;> rfl
  | x :: r, pre, ρ, S, e => by
    unfold forA
    rw [seqOf_fix h]
    have e1 : ds[pre.length]? = some x := by rw [e, List.getElem?_append_right (Nat.le_refl _), Nat.sub_self] <;> rfl
    simp only [e1]
    rw [forL]
    cases f x ρ with
    | none => rfl
    | some ρ1 =>
      simp only
      have q : ∀ ρ2 S2, forA d f mb (x :: r).length (pre.length + 1) ρ2 S2 = forL f mb r ρ2 S2 := fun ρ2 S2 => by
        have q := forA_fix h r (pre ++ [x]) ρ2 S2 (by rw [e, List.append_assoc] <;> rfl)
        rw [List.length_append, List.length_singleton] at q
        exact q
      cases mb ρ1 S <;> first | rfl | exact q _ _
theorem mForA_fix {m : ME} {S1 : Sto} {d : D} {ds : List D} (e : m ρ S = .ok d S1) (h : d = .tup ds ∨ d = .lst ds) : mForA m f mb ρ S = forL f mb ds ρ S1 := by
  unfold mForA iAny
  rw [e]
  show ofRes (match seqOf S1 d with | some ds => .ok (d, ds.length) S1 | none => .bad) ρ _ = _
  rw [seqOf_fix h]
  exact forA_fix h ds [] ρ S1 rfl
theorem forA_cut {m : ME} {n : Nat} {ds : List D} {S1 : Sto} (e : m ρ S = .ok (.cell n) S1) (e1 : S1[n]? = some (.lst ds)) (I : List D → Rho → Sto → Prop) (h : I ds ρ S1) (cell : ∀ r ρ S, I r ρ S → S[n]? = some (.lst ds))
    (step : ∀ d r ρ S, I (d :: r) ρ S → ∃ ρ1, f d ρ = some ρ1 ∧ ∀ M : Rho → Sto → Prop, (∀ ρ S, I r ρ S → M ρ S) → (mb ρ1 S).Does M R N M) (stop : ∀ ρ S, I [] ρ S → N ρ S) : (mForA m f mb ρ S).Does N R B C := by
  have q : ∀ k i ρ S, forA (.cell n) f mb k i ρ S = forC n f mb k i ρ S := by
    intro k
    induction k with
    | zero => intros; rfl
    | succ k ih =>
      intro i ρ S
      unfold forA forC
      have e9 : seqOf S (.cell n) = match S[n]? with
        | some (.lst ds) => some ds
        | _ => none := rfl
      rw [e9]
      cases S[n]? with
      | none => rfl
      | some c =>
        cases c with
        | lst es =>
          simp only
          cases es[i]? with
          | none => rfl
          | some x =>
            simp only
            cases f x ρ with
            | none => rfl
            | some ρ1 =>
              simp only
              cases mb ρ1 S <;> first | rfl | exact ih _ _ _
        | _ => rfl
  have e2 : mForA m f mb ρ S = mForC m f mb ρ S := by
    unfold mForA mForC iAny
    rw [e]
    have : seqOf S1 (.cell n) = some ds := by
      show (match S1[n]? with | some (Cell.lst ds) => some ds | _ => none) = _
      rw [e1]
    show ofRes (match seqOf S1 (D.cell n) with | some ds => Res.ok (D.cell n, ds.length) S1 | none => .bad) ρ (fun p S1 => forA p.1 f mb (p.2 + 1) 0 ρ S1) = (match S1[n]? with | some (Cell.lst ds) => forC n f mb (ds.length + 1) 0 ρ S1 | _ => .bad)
    rw [this, e1]
    exact q _ _ _ _
  rw [e2]
  exact forC_cut e e1 I h cell step stop
def forAS (d : D) (f : D → Rho → Option Rho) (mb : MS) (ρ : Rho) (S : Sto) : Out := match seqOf S d with
  | some ds => forA d f mb (ds.length + 1) 0 ρ S
  | none => .bad
@[simp] theorem does_forA {m : ME} : (mForA m f mb ρ S).Does N R B C = (m ρ S).Does fun d S1 => (forAS d f mb ρ S1).Does N R B C := by
  unfold mForA
  rw [does_ofRes]
  unfold iAny
  rw [does_bind]
  congr 1
  funext d S1
  unfold forAS
  cases seqOf S1 d <;> rfl
@[simp] theorem forAS_tup {ds : List D} : forAS (.tup ds) f mb ρ S = forL f mb ds ρ S := forA_fix (.inl rfl) ds [] ρ S rfl
@[simp] theorem forAS_lst {ds : List D} : forAS (.lst ds) f mb ρ S = forL f mb ds ρ S := forA_fix (.inr rfl) ds [] ρ S rfl
theorem forAS_cut {n : Nat} {ds : List D} (e1 : S[n]? = some (.lst ds)) (I : List D → Rho → Sto → Prop) (h : I ds ρ S) (cell : ∀ r ρ S, I r ρ S → S[n]? = some (.lst ds))
    (step : ∀ d r ρ S, I (d :: r) ρ S → ∃ ρ1, f d ρ = some ρ1 ∧ ∀ M : Rho → Sto → Prop, (∀ ρ S, I r ρ S → M ρ S) → (mb ρ1 S).Does M R N M) (stop : ∀ ρ S, I [] ρ S → N ρ S) : (forAS (.cell n) f mb ρ S).Does N R B C := by
  have q := forA_cut (R := R) (N := N) (B := B) (C := C) (m := mK (.cell n)) (f := f) (mb := mb) rfl e1 I h cell step stop
  rw [does_forA] at q
  exact q
/-- a comprehension over a cell that stays: an invariant of the stores; the items kept -/
def LcAQ (d : D) (f : D → Rho → Option Rho) (mt me : ME) (ρ : Rho) (n : Nat) (S : Sto) (Q : List D → Sto → Prop) : Prop := ∃ ys S', lcA d f mt me ρ (n + 1) 0 S = some (ys, S') ∧ Q ys S'
@[simp] theorem does_lcA {m : ME} {vs : List Nat} {Q : List D → Sto → Prop} : (mLcA m f mt me vs ρ S).Does Q = (m ρ S).Does fun d S1 => match seqOf S1 d with
    | some ds => LcAQ d f mt me (wipeD ρ vs) ds.length S1 Q
    | none => False := by
  unfold mLcA iAny
  rw [does_bind, does_bind]
  congr 1
  funext d S1
  cases seqOf S1 d with
  | none => rfl
  | some ds =>
    simp only [does_ok]
    unfold LcAQ
    cases e : lcA d f mt me (wipeD ρ vs) (ds.length + 1) 0 S1 with
    | none => simp [Res.Does]
    | some r =>
      obtain ⟨ys, S2⟩ := r
      refine propext ⟨fun q => ⟨ys, S2, rfl, q⟩, ?_⟩
      rintro ⟨ys', S2', e', q⟩
      cases e'
      exact q
theorem lcAQ_inv {d : D} {Q : List D → Sto → Prop} (I : Sto → Prop) {α : Type} {i : α → D} (t : α → Bool) (g : α → D) {as0 : List α} (hI : ∀ S, I S → seqOf S d = some (as0.map i))
    (h : ∀ a, a ∈ as0 → ∀ S1, I S1 → ∃ ρ1, f (i a) ρ = some ρ1 ∧ (mt ρ1 S1).Does (fun d S2 => d = .bl (t a) ∧ I S2) ∧ ∀ S2, I S2 → t a = true → (me ρ1 S2).Does (fun d S3 => d = g a ∧ I S3)) :
    ∀ {as pre : List α} {S : Sto}, as0 = pre ++ as → I S → (∀ S', I S' → Q ((as.filter t).map g) S') → ∃ ys S', lcA d f mt me ρ (as.length + 1) pre.length S = some (ys, S') ∧ Q ys S'
  | [], pre, S, e, hS, q => by
    refine ⟨[], S, ?_, q S hS⟩
    unfold lcA
    rw [hI S hS]
    have e1 : (as0.map i)[pre.length]? = none := by rw [e, List.append_nil]; exact List.getElem?_eq_none (by rw [List.length_map]; exact Nat.le_refl _)
    simp only [e1]
    rw [if_pos (by rw [e, List.append_nil, List.length_map])]
  | a :: as, pre, S, e, hS, q => by
    have ha : a ∈ as0 := by rw [e]; exact List.mem_append.mpr (.inr List.mem_cons_self)
    obtain ⟨ρ1, ef, k1, k2⟩ := h a ha S hS
    have e1 : (as0.map i)[pre.length]? = some (i a) := by rw [List.getElem?_map, e, List.getElem?_append_right (Nat.le_refl _), Nat.sub_self] <;> rfl
    have en : as0 = (pre ++ [a]) ++ as := by rw [e, List.append_assoc] <;> rfl
    have lp : (pre ++ [a]).length = pre.length + 1 := by rw [List.length_append, List.length_singleton]
    unfold lcA
    rw [hI S hS]
    simp only [e1, ef]
    obtain ⟨d1, S1, e2, rfl, hS1⟩ := k1.eq
    rw [e2]
    cases c : t a with
    | false =>
      simp only
      obtain ⟨ys, S', z1, z2⟩ := lcAQ_inv (as := as) (pre := pre ++ [a]) I t g hI h en hS1 (fun S' h' => by
        have := q S' h'
        rw [List.filter_cons, if_neg (by rw [c]; decide)] at this
        exact this)
      rw [lp] at z1
      exact ⟨ys, S', z1, z2⟩
    | true =>
      simp only
      obtain ⟨d2, S2, e3, rfl, hS2⟩ := (k2 S1 hS1 c).eq
      rw [e3]
      simp only
      obtain ⟨ys, S', z1, z2⟩ := lcAQ_inv (as := as) (pre := pre ++ [a]) (Q := fun ys S' => Q (g a :: ys) S') I t g hI h en hS2 (fun S' h' => by
        have := q S' h'
        rw [List.filter_cons, if_pos c] at this
        exact this)
      rw [lp] at z1
      have z1 : lcA d f mt me ρ (a :: as).length (pre.length + 1) S2 = some (ys, S') := z1
      rw [z1]
      exact ⟨_, _, rfl, z2⟩
theorem lcAQ_ext {d : D} {Q : List D → Sto → Prop} (I : Sto → Prop) {α : Type} {i : α → D} (t : α → Bool) (g : α → D) {as : List α} {n : Nat} (hn : n = as.length) (hI : ∀ S, I S → seqOf S d = some (as.map i)) (hS : I S)
    (h : ∀ a, a ∈ as → ∀ S1, I S1 → ∃ ρ1, f (i a) ρ = some ρ1 ∧ (mt ρ1 S1).Does (fun d S2 => d = .bl (t a) ∧ I S2) ∧ ∀ S2, I S2 → t a = true → (me ρ1 S2).Does (fun d S3 => d = g a ∧ I S3))
    (q : ∀ S', I S' → Q ((as.filter t).map g) S') : LcAQ d f mt me ρ n S Q := by
  subst hn
  exact lcAQ_inv (pre := []) I t g hI h rfl hS q
theorem lcA_fix {d : D} {ds : List D} (h : d = .tup ds ∨ d = .lst ds) : ∀ (r pre : List D) (S : Sto), ds = pre ++ r → lcA d f mt me ρ (r.length + 1) pre.length S = lcL f mt me ρ r S
  | [], pre, S, e => by
    unfold lcA
    rw [seqOf_fix h]
    have e1 : ds[pre.length]? = none := by rw [e, List.append_nil]; exact List.getElem?_eq_none (Nat.le_refl _)
    simp only [e1]
    rw [if_pos (by rw [e, List.append_nil])] <;> rfl
  | x :: r, pre, S, e => by
    unfold lcA
    rw [seqOf_fix h]
    have e1 : ds[pre.length]? = some x := by rw [e, List.getElem?_append_right (Nat.le_refl _), Nat.sub_self] <;> rfl
    simp only [e1]
    rw [lcL]
    have q : ∀ S2, lcA d f mt me ρ (x :: r).length (pre.length + 1) S2 = lcL f mt me ρ r S2 := fun S2 => by
      have q := lcA_fix h r (pre ++ [x]) S2 (by rw [e, List.append_assoc] <;> rfl)
      rw [List.length_append, List.length_singleton] at q
      exact q
    cases f x ρ with
    | none => rfl
    | some ρ1 =>
      simp only
      cases mt ρ1 S with
      | ok d1 S1 =>
        cases d1 with
        | bl b =>
          cases b with
          | true =>
            simp only
            cases me ρ1 S1 with
            | ok y S2 =>
              simp only
              rw [q] <;> (cases lcL f mt me ρ r S2 <;> rfl)
            | _ => rfl
          | false => exact q S1
        | _ => rfl
      | _ => rfl
theorem lcAQ_fix {d : D} {ds : List D} {Q : List D → Sto → Prop} {n : Nat} (h : d = .tup ds ∨ d = .lst ds) (hn : n = ds.length) : LcAQ d f mt me ρ n S Q = LcQ f mt me ρ ds S Q := by
  subst hn
  unfold LcAQ LcQ
  have := lcA_fix (f := f) (mt := mt) (me := me) (ρ := ρ) h ds [] S rfl
  rw [show (([] : List D).length) = 0 from rfl] at this
  rw [this]
@[simp] theorem lcAQ_tup {ds : List D} {Q : List D → Sto → Prop} : LcAQ (.tup ds) f mt me ρ ds.length S Q = LcQ f mt me ρ ds S Q := lcAQ_fix (.inl rfl) rfl
@[simp] theorem lcAQ_lst {ds : List D} {Q : List D → Sto → Prop} : LcAQ (.lst ds) f mt me ρ ds.length S Q = LcQ f mt me ρ ds S Q := lcAQ_fix (.inr rfl) rfl
end
@[simp] theorem lcAQ_fixT {ds : List D} {f : D → Rho → Option Rho} {mt me : ME} {ρ : Rho} {n : Nat} {S : Sto} {Q : List D → Sto → Prop} {α : Type} {g : α → D} {as : List α} : LcAQ (.tup (as.map g)) f mt me ρ as.length S Q = LcQ f mt me ρ (as.map g) S Q := lcAQ_fix (.inl rfl) (by rw [List.length_map])
@[simp] theorem lcAQ_fixL {ds : List D} {f : D → Rho → Option Rho} {mt me : ME} {ρ : Rho} {n : Nat} {S : Sto} {Q : List D → Sto → Prop} {α : Type} {g : α → D} {as : List α} : LcAQ (.lst (as.map g)) f mt me ρ as.length S Q = LcQ f mt me ρ (as.map g) S Q := lcAQ_fix (.inr rfl) (by rw [List.length_map])
theorem seqOf_cell {S : Sto} {n : Nat} {ds : List D} (h : S[n]? = some (.lst ds)) : seqOf S (.cell n) = some ds := by
  show (match S[n]? with | some (Cell.lst ds) => some ds | _ => none) = _
  rw [h]
end Dm
-- text Hw2
namespace Dm
open PySem L2
noncomputable section
def m_law_with : List D → Sto → Res D := mDef 3 3 (mRet (mCallB gTuple (mCons (mFz (mCallBL gSort (mCons (mFz (mCatL (mCallBL gList (mCons (mVar 0) mNil)) (mLst (mCons (mTup (mCons (mVar 1) (mCons (mVar 2) mNil))) mNil)))) mNil))) mNil)))
def m_law_left_at : List D → Sto → Res D := mDef 3 6 (mSeq (mAsg 3 (mFz (mLc (iSeq (mVar 1)) (tgT 2 (tgCons (tgN 4) (tgCons (tgN 5) tgNil))) (mOp gEq (mVar 4) (mVar 2)) (mVar 5) [4, 5]))) (mSeq (mIfS (mOp gGt (mCallB gLen (mCons (mVar 3) mNil)) (mK (.int 0))) (mRet (mFz (mLc (iSeq (mVar 3)) (tgN 5) (mOp (gIsN false) (mCall m_law_crowd (mCons (mVar 0) (mCons (mVar 1) mNil))) (mK .non)) (mVar 5) [5]))) mNop) (mRet (mFz (mLc (iSeq (mOp gIx (mVar 0) (mK (.int 0)))) (tgN 5) (mOp (gIsN false) (mCall m_law_crowd (mCons (mVar 0) (mCons (mCall m_law_with (mCons (mVar 1) (mCons (mVar 2) (mCons (mVar 5) mNil)))) mNil))) (mK .non)) (mVar 5) [5])))))
def m_law_k14_offsets_left : List D → Sto → Res D := mDef 1 11 (mSeq (mFor (iSeq (mFz (mCatL (mLst (mCons (mK (.int 1000000000000000000000000000000000000661923400875512284497310)) mNil)) (mSlL (mVar 0) mNoPart (mPart (mK (.int 2))))))) (tgN 1) (mSeq (mAsg 2 (mCall m_law_digits (mCons (mVar 1) mNil))) (mSeq (mAsg 3 (mNew (mLst mNil))) (mSeq (mFor (iRange1 (mCons (mK (.int 2)) mNil)) (tgN 4) (mSeq (mAsg 5 (mCall m_law_make_region (mCons (mVar 2) mNil))) (mSeq (mAsg 6 (mCall m_law_some_sights (mCons (mVar 2) (mCons (mVar 5) (mCons (mOp gIx (mFz (mLst (mCons (mK (.int 4)) (mCons (mK (.int 9)) (mCons (mK (.int 9)) (mCons (mK (.int 60)) (mCons (mK (.int 9)) (mCons (mK (.int 4)) (mCons (mK (.int 9)) (mCons (mK (.int 20)) mNil)))))))))) (mCall m_law_draw (mCons (mVar 2) (mCons (mK (.int 8)) mNil)))) mNil))))) (mApp (mVar 3) (mTup (mCons (mVar 5) (mCons (mVar 6) mNil))))))) (mFor (iRange1 (mCons (mK (.int 4)) mNil)) (tgN 4) (mForC (mVar 3) (tgT 2 (tgCons (tgN 5) (tgCons (tgN 7) tgNil))) (mSeq (mAsg 8 (mCall m_law_beside (mCons (mVar 2) (mCons (mVar 5) (mCons (mVar 7) mNil))))) (mSeq (mAsg 9 (mCall m_law_left_at (mCons (mVar 5) (mCons (mVar 7) (mCons (mVar 8) mNil))))) (mSeq (mAsg 10 (mCall m_offsets_left (mCons (mVar 5) (mCons (mVar 7) (mCons (mVar 8) mNil))))) (mSeq (mIfS (mNot (mCall (m_law_same 30) (mCons (mVar 10) (mCons (mVar 9) mNil)))) (mRet (mK (.bl false))) mNop) (mSeq (mApp (mVar 10) (mK (.int 0))) (mIfS (mNot (mCall (m_law_same 30) (mCons (mCallK m_offsets_left 0 3 [2, 1, 0] mNil (mCons (mVar 8) (mCons (mVar 7) (mCons (mVar 5) mNil)))) (mCons (mVar 9) mNil)))) (mRet (mK (.bl false))) mNop)))))))))))) (mRet (mK (.bl true))))
def m_law_most_apart : List D → Sto → Res D := mDef 1 5 (mSeq (mAsg 1 (mK (.int 1000001))) (mSeq (mFor (iRange1 (mCons (mCallB gLen (mCons (mVar 0) mNil)) mNil)) (tgN 2) (mSeq (mAsg 3 (mK (.int 0))) (mFor (iRange2 (mCons (mOp gAdd (mVar 2) (mK (.int 1))) (mCons (mCallB gLen (mCons (mVar 0) mNil)) mNil))) (tgN 4) (mSeq (mAsg 3 (mOp gAdd (mVar 3) (mCallB gInt1 (mCons (mOp gNe (mOp gIx (mOp gIx (mVar 0) (mVar 4)) (mK (.int 1))) (mOp gIx (mOp gIx (mVar 0) (mOp gSub (mVar 4) (mK (.int 1)))) (mK (.int 1)))) mNil)))) (mIfS (mOp gGt (mVar 3) (mK (.int 1))) (mAsg 1 (mCallB gMin2 (mCons (mVar 1) (mCons (mOp gFdiv (mOp gSub (mOp gSub (mOp gIx (mOp gIx (mVar 0) (mVar 4)) (mK (.int 0))) (mOp gIx (mOp gIx (mVar 0) (mVar 2)) (mK (.int 0)))) (mK (.int 1))) (mOp gSub (mVar 3) (mK (.int 1)))) mNil)))) mNop))))) (mRet (mVar 1))))
def m_law_wider : List D → Sto → Res D := mDef 2 6 (mSeq (mAsg 2 (mFz (mCallBL gList (mCons (mOp gIx (mVar 1) (mK (.int 0))) mNil)))) (mSeq (mFor (iRange1 (mCons (mK (.int 6)) mNil)) (tgN 3) (mSeq (mAsg 4 (mOp gAdd (mOp gSub (mOp gSub (mOp gIx (mVar 1) (mK (.int 1))) (mK (.int 1))) (mOp gIx (mVar 2) (mK (.int (-1))))) (mOp gIx (mVar 2) (mK (.int 0))))) (mSeq (mAsg 5 (mOp gSub (mOp gAdd (mCall m_law_draw (mCons (mVar 0) (mCons (mOp gAdd (mOp gSub (mOp gAdd (mOp gMul (mCallB gMin2 (mCons (mVar 4) (mCons (mK (.int 1800)) mNil))) (mK (.int 2))) (mOp gIx (mVar 2) (mK (.int (-1))))) (mOp gIx (mVar 2) (mK (.int 0)))) (mK (.int 1))) mNil))) (mOp gIx (mVar 2) (mK (.int 0)))) (mCallB gMin2 (mCons (mVar 4) (mCons (mK (.int 1800)) mNil))))) (mIfS (mAnd (mOp gLt (mCallB gLen (mCons (mVar 2) mNil)) (mK (.int 3))) (mAnd (mOp gLe (mK (.int (-900))) (mVar 5)) (mAnd (mOp gLe (mVar 5) (mK (.int 900))) (mOp (gIn true) (mVar 5) (mVar 2))))) (mAsg 2 (mFz (mCallBL gSort (mCons (mFz (mCatV (mVar 2) (mLst (mCons (mVar 5) mNil)))) mNil)))) mNop)))) (mRet (mTup (mCons (mCallB gTuple (mCons (mVar 2) mNil)) (mCons (mOp gIx (mVar 1) (mK (.int 1))) mNil))))))
end
end Dm
-- text DmSimp
namespace Dm
open PySem L2
section
variable {S : Sto} {k : D → Prop} {i j : Int} {ds es : List D} {n : Nat} {a b : Bool} {x y : Str}
@[simp] theorem optQ_none : OptQ none k = False := rfl
@[simp] theorem optQ_ite {c : Prop} [Decidable c] {d : D} : OptQ (if c then some d else none) k = (c ∧ k d) := by
  by_cases h : c
  · rw [if_pos h]; simp [h]
  · rw [if_neg h]; simp [h]
@[simp] theorem optQ_map {α : Type} {o : Option α} {f : α → D} : OptQ (o.map f) k = (match o with
    | some z => k (f z)
    | none => False) := by cases o <;> rfl
@[simp] theorem gI_int {f : Int → Int → D} : gI f S (.int i) (.int j) = some (f i j) := rfl
@[simp] theorem gIC_int {C : Int → Int → Prop} [∀ i j, Decidable (C i j)] {f : Int → Int → D} : gIC C f S (.int i) (.int j) = if C i j then some (f i j) else none := rfl
@[simp] theorem gAdd_int : gAdd S (.int i) (.int j) = some (.int (i + j)) := rfl
@[simp] theorem gAdd_tup : gAdd S (.tup ds) (.tup es) = if ds.length + es.length ≤ 16777216 then some (.tup (ds ++ es)) else none := rfl
@[simp] theorem gNeg_int : gNeg S (.int i) = some (.int (-i)) := rfl
@[simp] theorem gLen_tup : gLen S [.tup ds] = some (.int ds.length) := rfl
@[simp] theorem gLen_lst : gLen S [.lst ds] = some (.int ds.length) := rfl
theorem lstOf_cell (h : S[n]? = some (.lst ds)) : lstOf S (.cell n) = some ds := by simp only [lstOf, h]
theorem gLen_cell (h : S[n]? = some (.lst ds)) : gLen S [.cell n] = some (.int ds.length) := by
  show (lstOf S (.cell n)).map _ = _
  rw [lstOf_cell h] <;> rfl
@[simp] theorem gInt1_int : gInt1 S [.int i] = some (.int i) := rfl
@[simp] theorem gInt1_bl : gInt1 S [.bl b] = some (.int (if b then 1 else 0)) := rfl
@[simp] theorem gII_int {f : Int → Int → Int} : gII f S [.int i, .int j] = some (.int (f i j)) := rfl
@[simp] theorem gAbs_int : gAbs S [.int i] = some (.int (if i < 0 then -i else i)) := rfl
@[simp] theorem gTuple_tup : gTuple S [.tup ds] = some (.tup ds) := rfl
@[simp] theorem gTuple_lst : gTuple S [.lst ds] = some (.tup ds) := rfl
theorem gTuple_cell (h : S[n]? = some (.lst ds)) : gTuple S [.cell n] = some (.tup ds) := by
  show (lstOf S (.cell n)).map _ = _
  rw [lstOf_cell h] <;> rfl
@[simp] theorem gIx_tup : gIx S (.tup ds) (.int i) = atI ds i := rfl
@[simp] theorem gIx_lst : gIx S (.lst ds) (.int i) = atI ds i := rfl
theorem gIx_cell (h : S[n]? = some (.lst ds)) : gIx S (.cell n) (.int i) = atI ds i := by
  show (lstOf S (.cell n)).bind _ = _
  rw [lstOf_cell h] <;> rfl
@[simp] theorem gEq_int : gEq S (.int i) (.int j) = some (.bl (i == j)) := rfl
@[simp] theorem gNe_int : gNe S (.int i) (.int j) = some (.bl (!(i == j))) := rfl
@[simp] theorem gEq_str : gEq S (.str x) (.str y) = some (.bl (x == y)) := rfl
@[simp] theorem gNe_str : gNe S (.str x) (.str y) = some (.bl (!(x == y))) := rfl
theorem shaped_bool (b : Bool) : SeqAt.shaped (.bool b) = true := by cases b <;> decide
theorem shaped_int (i : Int) : SeqAt.shaped (.int i) = true := by simp [SeqAt.shaped, PyData.canLay0, PyData.depth]
theorem shaped_none : SeqAt.shaped .none = true := by decide
@[simp] theorem gEq_bl : gEq S (.bl a) (.bl b) = some (.bl (a == b)) := by
  show (if SeqAt.shaped (.bool a) = true ∧ SeqAt.shaped (.bool b) = true then some (PyData.eqv (.bool a) (.bool b)) else none).map D.bl = _
  rw [if_pos ⟨shaped_bool a, shaped_bool b⟩]
  simp [PyData.eqv]
@[simp] theorem gNe_bl : gNe S (.bl a) (.bl b) = some (.bl (!(a == b))) := by
  show (if SeqAt.shaped (.bool a) = true ∧ SeqAt.shaped (.bool b) = true then some (PyData.eqv (.bool a) (.bool b)) else none).map (fun b => D.bl (!b)) = _
  rw [if_pos ⟨shaped_bool a, shaped_bool b⟩]
  simp [PyData.eqv]
@[simp] theorem gIsN_non {neg : Bool} {d : D} : gIsN neg S d .non = some (.bl (if neg then !isNon d else isNon d)) := rfl
@[simp] theorem isNon_non : isNon .non = true := rfl
@[simp] theorem isNon_bl : isNon (.bl b) = false := rfl
@[simp] theorem isNon_int : isNon (.int i) = false := rfl
@[simp] theorem isNon_str : isNon (.str x) = false := rfl
@[simp] theorem isNon_tup : isNon (.tup ds) = false := rfl
@[simp] theorem isNon_lst : isNon (.lst ds) = false := rfl
@[simp] theorem isNon_cell : isNon (.cell n) = false := rfl
@[simp] theorem tyOf_non : tyOf S .non = some .non := rfl
@[simp] theorem tyOf_bl : tyOf S (.bl b) = some .bl := rfl
@[simp] theorem tyOf_int : tyOf S (.int i) = some .int := rfl
@[simp] theorem tyOf_str : tyOf S (.str x) = some .str := rfl
@[simp] theorem tyOf_tup : tyOf S (.tup ds) = some .tup := rfl
@[simp] theorem tyOf_lst : tyOf S (.lst ds) = some .lst := rfl
theorem tyOf_cell (h : S[n]? = some (.lst ds)) : tyOf S (.cell n) = some .lst := by simp only [tyOf, h]
@[simp] theorem seqOf_tup : seqOf S (.tup ds) = some ds := rfl
@[simp] theorem seqOf_lst : seqOf S (.lst ds) = some ds := rfl
@[simp] theorem lstOf_lst : lstOf S (.lst ds) = some ds := rfl
@[simp] theorem flatD_int : flatD (.int i) = true := rfl
@[simp] theorem eqF_int : eqF (.int i) (.int j) = (i == j) := rfl
@[simp] theorem tgN_eq {ρ : Rho} {d : D} {i : Nat} : tgN i d ρ = some (ρ.set i (some d)) := rfl
@[simp] theorem tgT_eq {ρ : Rho} {m : Nat} {f : List D → Rho → Option Rho} : tgT m f (.tup ds) ρ = if ds.length = m then f ds ρ else none := rfl
@[simp] theorem tgCons_eq {ρ : Rho} {d : D} {f : D → Rho → Option Rho} {g : List D → Rho → Option Rho} : tgCons f g (d :: ds) ρ = (f d ρ).bind fun ρ1 => g ds ρ1 := rfl
@[simp] theorem tgNil_eq {ρ : Rho} : tgNil [] ρ = some ρ := rfl
@[simp] theorem atI_zero {α : Type} {x : α} {xs : List α} : atI (x :: xs) 0 = some x := by simp [atI, ixN]
@[simp] theorem atI_one {α : Type} {x y : α} {xs : List α} : atI (x :: y :: xs) 1 = some y := by
  have h : (1 : Int) < ((xs.length + 1 + 1 : Nat) : Int) := by omega
  simp only [atI, ixN, List.length_cons, if_pos (show (0 : Int) ≤ 1 by decide), if_pos h] <;> rfl
@[simp] theorem atI_two {α : Type} {x y z : α} {xs : List α} : atI (x :: y :: z :: xs) 2 = some z := by
  have h : (2 : Int) < ((xs.length + 1 + 1 + 1 : Nat) : Int) := by omega
  simp only [atI, ixN, List.length_cons, if_pos (show (0 : Int) ≤ 2 by decide), if_pos h] <;> rfl
theorem atI_of {α : Type} {xs : List α} {i : Int} (h0 : 0 ≤ i) (h : i < xs.length) : atI xs i = xs[i.toNat]? := by
  simp [atI, ixN, h0, h]
theorem cdivw {i j : Int} (h0 : 0 < j) (h : j < 18446744073709551616) : CDivW i j := by
  refine ⟨h0, ?_⟩
  have h1 : j.natAbs < 2 ^ 64 := by omega
  have h2 : j.natAbs.log2 < 64 := (Nat.log2_lt (by omega)).mpr h1
  omega
theorem log2_le {a : Nat} {n : Nat} (h : a < 2 ^ n) : a.log2 ≤ n := by
  by_cases h0 : a = 0
  · subst h0
    rw [Nat.log2_zero]; exact Nat.zero_le _
  · exact Nat.le_of_lt ((Nat.log2_lt h0).mpr h)
theorem cmulw {i j : Int} (n m : Nat) (h : i.natAbs < 2 ^ n) (h' : j.natAbs < 2 ^ m) (hs : n + m < 1000000) : CMulW i j := by
  have h1 := log2_le h
  have h2 := log2_le h'
  show i.natAbs.log2 + j.natAbs.log2 < 1000000
  omega
theorem cmulw64 {i j : Int} (h : -18446744073709551616 < i ∧ i < 18446744073709551616) (h' : -18446744073709551616 < j ∧ j < 18446744073709551616) : CMulW i j := cmulw 64 64 (by omega) (by omega) (by decide)
end
end Dm
-- text DmDict
namespace Dm
open PySem L2 PySem.Spec PyProof.Rows
open PySem.W (Frag)
/-! ### dicts whose keys are ints and texts -/
def keyD : D → Option Key
  | .int i => some (.inl i)
  | .str x => some (.inr x)
  | _ => none
def valD (kvs : List (Key × D)) (k : Key) : Option D := (kvs.find? fun kv => decide (kv.1 = k)).map (·.2)
def putD (kvs : List (Key × D)) (k : Key) (v : D) : List (Key × D) :=
  if (kvs.any fun kv => decide (kv.1 = k)) = true then kvs.map (fun kv => if kv.1 = k then (kv.1, v) else kv) else kvs ++ [(k, v)]
def mergeD (kvs more : List (Key × D)) : List (Key × D) := more.foldl (fun acc kv => putD acc kv.1 kv.2) kvs
def dicOf (S : Sto) : D → Option (List (Key × D))
  | .cell n => match S[n]? with
    | some (.dic kvs) => some kvs
    | _ => none
  | _ => none
section
variable {F : Fx} {μ : List Addr} {H : Hp} {S : Sto}
theorem keyD_of {v : V} {d : D} {k : Key} (r : RD F μ H v d) (e : keyD d = some k) : v = kV k := by
  cases r with
  | int i => cases e; rfl
  | str x => cases e; rfl
  | _ => exact nomatch e
theorem valV_of {k : Key} : ∀ {vk : List (Key × V)} {kvs : List (Key × D)} {d : D}, KvR F μ H vk kvs → valD kvs k = some d → ∃ v, valV vk k = some v ∧ RD F μ H v d
  | _, _, d, .nil, e => by cases e
  | p :: vk, q :: kvs, d, .cons h r, e => by
    obtain ⟨h1, h2⟩ := h
    by_cases c : q.1 = k
    · have e1 : valD (q :: kvs) k = some q.2 := by simp [valD, List.find?_cons, c]
      have e2 : valV (p :: vk) k = some p.2 := valV_pos (by rw [h1]; exact c)
      rw [e1] at e; cases e
      exact ⟨_, e2, h2⟩
    · have e1 : valD (q :: kvs) k = valD kvs k := by simp [valD, List.find?_cons, c]
      have e2 : valV (p :: vk) k = valV vk k := by
        have : ¬ p.1 = k := by rw [h1]; exact c
        simp [valV, List.find?_cons, this]
      rw [e1] at e
      rw [e2]
      exact valV_of r e
theorem valV_none {k : Key} : ∀ {vk : List (Key × V)} {kvs : List (Key × D)}, KvR F μ H vk kvs → (valV vk k).isSome = (valD kvs k).isSome
  | _, _, .nil => rfl
  | p :: vk, q :: kvs, .cons h r => by
    obtain ⟨h1, h2⟩ := h
    by_cases c : q.1 = k
    · have e1 : valD (q :: kvs) k = some q.2 := by simp [valD, List.find?_cons, c]
      have e2 : valV (p :: vk) k = some p.2 := valV_pos (by rw [h1]; exact c)
      rw [e1, e2] <;> rfl
    · have e1 : valD (q :: kvs) k = valD kvs k := by simp [valD, List.find?_cons, c]
      have e2 : valV (p :: vk) k = valV vk k := by
        have : ¬ p.1 = k := by rw [h1]; exact c
        simp [valV, List.find?_cons, this]
      rw [e1, e2]
      exact valV_none r
theorem any_of {k : Key} : ∀ {vk : List (Key × V)} {kvs : List (Key × D)}, KvR F μ H vk kvs → (vk.any fun kv => decide (kv.1 = k)) = (kvs.any fun kv => decide (kv.1 = k))
  | _, _, .nil => rfl
  | p :: vk, q :: kvs, .cons h r => by rw [List.any_cons, List.any_cons, h.1, any_of r]
theorem kvr_map {k : Key} {v : V} {d : D} (hd : RD F μ H v d) : ∀ {vk : List (Key × V)} {kvs : List (Key × D)}, KvR F μ H vk kvs → KvR F μ H (vk.map fun kv => if kv.1 = k then (kv.1, v) else kv) (kvs.map fun kv => if kv.1 = k then (kv.1, d) else kv)
  | _, _, .nil => .nil
  | p :: vk, q :: kvs, .cons h r => by
    refine .cons ?_ (kvr_map hd r)
    obtain ⟨h1, h2⟩ := h
    by_cases c : q.1 = k
    · have c' : p.1 = k := by rw [h1]; exact c
      simp only [if_pos c, if_pos c']
      exact ⟨h1, hd⟩
    · have c' : ¬ p.1 = k := by rw [h1]; exact c
      simp only [if_neg c, if_neg c']
      exact ⟨h1, h2⟩
theorem kvr_snoc {p : Key × V} {q : Key × D} (h : p.1 = q.1 ∧ RD F μ H p.2 q.2) : ∀ {vk : List (Key × V)} {kvs : List (Key × D)}, KvR F μ H vk kvs → KvR F μ H (vk ++ [p]) (kvs ++ [q])
  | _, _, .nil => .cons h .nil
  | _, _, .cons a r => .cons a (kvr_snoc h r)
theorem kvr_put {k : Key} {v : V} {d : D} (hd : RD F μ H v d) {vk : List (Key × V)} {kvs : List (Key × D)} (r : KvR F μ H vk kvs) : KvR F μ H (putK vk k v) (putD kvs k d) := by
  unfold putK putD
  rw [any_of r]
  split
  · exact kvr_map hd r
  · exact kvr_snoc ⟨rfl, hd⟩ r
theorem kvr_len : ∀ {vk : List (Key × V)} {kvs : List (Key × D)}, KvR F μ H vk kvs → vk.length = kvs.length
  | _, _, .nil => rfl
  | _, _, .cons _ r => by rw [List.length_cons, List.length_cons, kvr_len r]
theorem kvr_merge : ∀ {vm : List (Key × V)} {more : List (Key × D)} {vk : List (Key × V)} {kvs : List (Key × D)}, KvR F μ H vm more → KvR F μ H vk kvs → KvR F μ H (mergeK vk vm) (mergeD kvs more)
  | _, _, _, _, .nil, r => r
  | p :: vm, q :: more, vk, kvs, .cons h t, r => by
    obtain ⟨h1, h2⟩ := h
    unfold mergeK mergeD
    rw [List.foldl_cons, List.foldl_cons, h1]
    exact kvr_merge t (kvr_put h2 r)
theorem kvr_mv {F' : Fx} {μ' : List Addr} {H' : Hp} (m : Mv F μ H F' μ' H') {vk : List (Key × V)} {kvs : List (Key × D)} (r : KvR F μ H vk kvs) : KvR F' μ' H' vk kvs := Paired.mapP r fun _ _ z => ⟨z.1, z.2.mv m⟩
theorem dic_at {v : V} {d : D} {kvs : List (Key × D)} (s : RS F μ H S) (r : RD F μ H v d) (e : dicOf S d = some kvs) : ∃ n a vk, d = .cell n ∧ v = .ref a ∧ μ[n]? = some a ∧ S[n]? = some (.dic kvs) ∧ H a = some (.dK vk) ∧ KvR F μ H vk kvs := by
  cases r with
  | @cell a n ea =>
    have e : (match S[n]? with | some (Cell.dic kvs) => some kvs | _ => none) = some kvs := e
    cases q : S[n]? with
    | none => rw [q] at e; exact nomatch e
    | some c =>
      rw [q] at e
      cases c with
      | dic kvs' =>
        cases e
        obtain ⟨vk, h1, h2⟩ := s.at_ n a _ ea q
        exact ⟨n, a, vk, rfl, rfl, ea, q, h1, h2⟩
      | _ => exact nomatch e
  | _ => exact nomatch e
/-- a reserved thing as a cell -/
theorem RS.asCellG {p : Addr} {c : Cell} (r : RS (F.hold p) μ H S) (hx : p ∉ F.ξ) (hc : CellOk F (μ ++ [p]) H p c) : RS F (μ ++ [p]) H (S ++ [c]) := by
  have np := (r.xi p List.mem_cons_self).1
  refine ⟨by rw [List.length_append, List.length_append, r.len] <;> rfl, ?_, fun n a c' e1 e2 => ?_, fun a ha => ⟨fun z => ?_, (r.xi a (List.mem_cons_of_mem _ ha)).2⟩⟩
  · refine List.nodup_append.mpr ⟨r.nd, by simp, fun a ha b hb => ?_⟩
    rw [List.mem_singleton.mp hb]
    rintro rfl
    exact np ha
  · by_cases hn : n < μ.length
    · rw [List.getElem?_append_left hn] at e1
      rw [List.getElem?_append_left (by rw [← r.len]; exact hn)] at e2
      exact (r.at_ n a c' e1 e2).mv .asCell rfl
    · have hn' : n = μ.length := by
        have q := (List.getElem?_eq_some_iff.mp e1).1
        rw [List.length_append, List.length_singleton] at q
        omega
      subst hn'
      rw [List.getElem?_append_right (Nat.le_refl _), Nat.sub_self] at e1
      rw [List.getElem?_append_right (by rw [r.len]; exact Nat.le_refl _), r.len, Nat.sub_self] at e2
      cases e1; cases e2
      exact hc
  · rcases List.mem_append.mp z with z | z
    · exact (r.xi a (List.mem_cons_of_mem _ ha)).1 z
    · rw [List.mem_singleton.mp z] at ha
      exact hx ha
end
section
variable {X : Cx} {W : WX} {tg e a b c o i : Expr} {es : List Expr} {mo mi ma mb mc m : ME} {mr : MA} {pos p p1 p2 p3 : Pos}
/-- d[k] -/
def gDIx : Sto → D → D → Option D := fun S x y => (dicOf S x).bind fun kvs => (keyD y).bind fun k => valD kvs k
theorem d_dix (hu : X.A.units + 64 < cLine) (ho : DE X W o mo) (hi : DE X W i mi) (hs : NoSl i := by exact fun _ _ => rfl) : DE X W (.Subscript o i pos) (mOp gDIx mo mi) := by
  obtain ⟨to, po, ko⟩ := ho
  obtain ⟨ti, pi, ki⟩ := hi
  refine ⟨_, pe_dget (by omega) po pi hs, fun ξ μ σ H ρ S Q g s h => ko ξ μ σ H ρ S _ g s (WR.bind h fun x S1 v μ1 H1 u1 s1 r1 h1 => ?_)⟩
  refine ki ξ μ1 σ H1 ρ S1 _ (g.up u1) s1 (WR.bind h1 fun y S2 w μ2 H2 u2 s2 r2 h2 => ?_)
  unfold gDIx at h2
  cases q1 : dicOf S2 x with
  | none => rw [q1] at h2; exact h2.elim
  | some kvs =>
    rw [q1] at h2
    cases q2 : keyD y with
    | none => rw [q2] at h2; exact h2.elim
    | some k =>
      rw [q2] at h2
      simp only [Option.bind_some] at h2
      cases q3 : valD kvs k with
      | none => rw [q3] at h2; exact h2.elim
      | some d =>
        rw [q3] at h2
        obtain ⟨n, a, vk, rfl, rfl, ea, es, e3, e4⟩ := dic_at s2 (r1.up u2) q1
        obtain ⟨z, e5, e6⟩ := valV_of e4 q3
        have ek := keyD_of r2 q2
        subst ek
        exact ⟨a, z, rfl, by rw [← e5]; exact DGet.k e3, h2 z μ2 H2 .refl s2 e6⟩
/-- {} -/
def mDNew : ME := fun _ S => .ok (.cell S.length) (S ++ [.dic []])
theorem d_dnew : DE X W (.Dict [] [] pos) mDNew := by
  refine ⟨_, pe_dnewK, fun ξ μ σ H ρ S Q g s h => fun p hp => ?_⟩
  have s1 := s.holds (p := p) (o := .dK []) hp
  have s2 := RS.asCellG (c := .dic []) s1 (s.outX hp) ⟨[], upd_same, .nil⟩
  exact h (.ref p) (μ ++ [p]) _ (.alloc hp) s2 (.cell (by rw [List.getElem?_append_right (by rw [s.len]; exact Nat.le_refl _), s.len, Nat.sub_self] <;> rfl))
/-- {k: v, ..} -/
abbrev MPs := Rho → Sto → Res (List (D × D))
def mPNil : MPs := fun _ S => .ok [] S
def mPCons (k v : ME) (r : MPs) : MPs := fun ρ S => (k ρ S).bind fun x S1 => (v ρ S1).bind fun y S2 => (r ρ S2).bind fun xs S3 => .ok ((x, y) :: xs) S3
def PrR (F : Fx) (μ : List Addr) (H : Hp) : List (V × V) → List (D × D) → Prop := Paired fun p q => RD F μ H p.1 q.1 ∧ RD F μ H p.2 q.2
structure DPs (X : Cx) (W : WX) (pos : Pos) (keys : List (Option Expr)) (values : List Expr) (m : MPs) : Prop where
  ex : ∃ trs, PPs X pos keys values trs ∧ ∀ ξ μ σ H ρ S Q, RG (fx X ξ) μ H σ ρ → RS (fx X ξ) μ H S → WR (fx X ξ) (PrR (fx X ξ)) (m ρ S) Q (fun cls dd H' => W cls dd σ H') μ H → tPairs trs σ H Q
theorem dps_nil : DPs X W pos [] [] mPNil := ⟨_, pps_nil, fun ξ μ σ H ρ S Q g s h => h [] μ H .refl s .nil⟩
theorem dps_cons {ks : List (Option Expr)} {vs : List Expr} {mr : MPs} (hk : DE X W a ma) (hv : DE X W b mb) (hr : DPs X W pos ks vs mr) : DPs X W pos (some a :: ks) (b :: vs) (mPCons ma mb mr) := by
  obtain ⟨ta, pa, ka⟩ := hk
  obtain ⟨tb, pb, kb⟩ := hv
  obtain ⟨tr, pr, kr⟩ := hr
  refine ⟨_, pps_cons pa pb pr, fun ξ μ σ H ρ S Q g s h => ka ξ μ σ H ρ S _ g s (WR.bind h fun x S1 v μ1 H1 u1 s1 r1 h1 => ?_)⟩
  refine kb ξ μ1 σ H1 ρ S1 _ (g.up u1) s1 (WR.bind h1 fun y S2 w μ2 H2 u2 s2 r2 h2 => ?_)
  refine kr ξ μ2 σ H2 ρ S2 _ (g.up (u1.trans u2)) s2 (WR.bind h2 fun ds S3 vs μ3 H3 u3 s3 r3 h3 => ?_)
  exact h3 _ μ3 H3 .refl s3 (.cons ⟨r1.up (u2.trans u3), r2.up u3⟩ r3)
def keysD : List (D × D) → Option (List (Key × D))
  | [] => some []
  | (k, v) :: r => (keyD k).bind fun k => (keysD r).map ((k, v) :: ·)
theorem keysD_of {F : Fx} {μ : List Addr} {H : Hp} : ∀ {ps : List (V × V)} {ds : List (D × D)} {kvs : List (Key × D)}, PrR F μ H ps ds → keysD ds = some kvs → ∃ vk : List (Key × V), ps = vk.map (fun kv => (kV kv.1, kv.2)) ∧ KvR F μ H vk kvs ∧ vk.length = kvs.length
  | _, _, kvs, .nil, e => by cases e; exact ⟨[], rfl, .nil, rfl⟩
  | p :: ps, (k, d) :: ds, kvs, .cons h r, e => by
    obtain ⟨h1, h2⟩ := h
    have e : (keyD k).bind (fun k => (keysD ds).map ((k, d) :: ·)) = some kvs := e
    cases q1 : keyD k with
    | none => rw [q1] at e; exact nomatch e
    | some k' =>
      cases q2 : keysD ds with
      | none => rw [q1, q2] at e; exact nomatch e
      | some more =>
        rw [q1, q2] at e; cases e
        obtain ⟨vk, e1, e2, e3⟩ := keysD_of r q2
        refine ⟨(k', p.2) :: vk, ?_, .cons ⟨rfl, h2⟩ e2, by rw [List.length_cons, List.length_cons, e3]⟩
        rw [List.map_cons, e1, ← keyD_of h1 q1]
def mDisp (m : MPs) : ME := fun ρ S => (m ρ S).bind fun ds S1 => match keysD ds with
  | some kvs => if kvs.length ≤ 15 then .ok (.cell S1.length) (S1 ++ [.dic (mergeD [] kvs)]) else .bad
  | none => .bad
theorem d_disp {keys : List (Option Expr)} {values : List Expr} {m : MPs} (h : DPs X W pos keys values m) (hall : keys.all (·.isSome) = true := by rfl) (hl : keys.length = values.length := by rfl) (h0 : keys ≠ [] := by exact List.cons_ne_nil _ _) (h15 : keys.length ≤ 15 := by decide) : DE X W (.Dict keys values pos) (mDisp m) := by
  obtain ⟨trs, ps, kp⟩ := h
  refine ⟨_, pe_disp ps hall hl h0 h15, fun ξ μ σ H ρ S Q g s h => fun p hp => ?_⟩
  have m0 : Mv (fx X ξ) μ H ((fx X ξ).hold p) μ (upd H p (.dK [])) := .holds hp
  have s1 : RS ((fx X ξ).hold p) μ (upd H p (.dK [])) S := s.holds hp
  have n0 : p ∉ μ := s.out hp
  refine kp (p :: ξ) μ σ (upd H p (.dK [])) ρ S _ (g.mv m0) s1 ?_
  unfold mDisp at h
  cases e : m ρ S with
  | bad => rw [e] at h; exact h.elim
  | exc cc fs S1 =>
    rw [e] at h
    have h : ∀ cls dd μ' H', Up μ H μ' H' → RS (fx X ξ) μ' H' S1 → XR (fx X ξ) μ' H' cls dd cc fs → W cls dd σ H' := h
    intro cls dd μ' H' u s' x
    have u' : Up μ H μ' H' := ⟨u.pre, fun a h1 h2 => by
      have := u.new a h1 h2
      by_cases c : a = p
      · rw [c]; exact hp
      · rw [upd_ne c] at this; exact this, fun a o' h1 h2 => u.keep a o' (by rw [upd_ne (ne_of_none h1 hp)]; exact h1) h2⟩
    exact h cls dd μ' H' u' (RS.free (F := fx X ξ) (p := p) s') ⟨x.1, x.2.imp id fun ⟨d, vfs, z1, z2, z3, z4⟩ => ⟨d, vfs, z1, z2, z3, Paired.mapP z4 fun _ _ z => ⟨z.1, RD.free (F := fx X ξ) (p := p) _ z.2⟩⟩⟩
  | ok ds S1 =>
    rw [e] at h
    intro vps μ2 H2 u2 s2 r2
    have e2 : H2 p = some (.dK []) := u2.keep _ _ upd_same n0
    have np2 : p ∉ μ2 := (s2.xi p List.mem_cons_self).1
    have h : WE' (fx X ξ) (match keysD ds with | some kvs => if kvs.length ≤ 15 then .ok (.cell S1.length) (S1 ++ [.dic (mergeD [] kvs)]) else .bad | none => .bad) Q (fun cls dd H' => W cls dd σ H') μ H := h
    cases q : keysD ds with
    | none => rw [q] at h; exact h.elim
    | some kvs =>
      rw [q] at h
      simp only at h
      by_cases c : kvs.length ≤ 15
      · rw [if_pos c] at h
        obtain ⟨vk, e3, e4, e5⟩ := keysD_of r2 q
        refine ⟨e2, vk, e3, by omega, ?_⟩
        have s3 : RS ((fx X ξ).hold p) μ2 (upd H2 p (.dK (mergeK [] vk))) S1 := RS.wr (F := fx X ξ) (p := p) s2
        have e6 : KvR ((fx X ξ).hold p) μ2 (upd H2 p (.dK (mergeK [] vk))) (mergeK [] vk) (mergeD [] kvs) := kvr_mv (Mv.wr (F := fx X ξ) (p := p)) (kvr_merge e4 .nil)
        have s4 := RS.asCellG (F := fx X ξ) (c := .dic (mergeD [] kvs)) s3 (s.outX hp) ⟨_, upd_same, kvr_mv (Mv.asCell (F := fx X ξ) (p := p)) e6⟩
        refine h (.ref p) (μ2 ++ [p]) _ ?_ s4 (.cell (by rw [List.getElem?_append_right (by rw [s2.len]; exact Nat.le_refl _), s2.len, Nat.sub_self] <;> rfl))
        obtain ⟨ν, en⟩ := u2.pre
        refine ⟨⟨ν ++ [p], by rw [en, List.append_assoc]⟩, fun a ha hn => ?_, fun a o ha hn => ?_⟩
        · rcases List.mem_append.mp ha with z | z
          · have := u2.new a z hn
            by_cases c : a = p
            · rw [c]; exact hp
            · rw [upd_ne c] at this; exact this
          · rw [List.mem_singleton.mp z]; exact hp
        · rw [upd_ne (ne_of_none ha hp)]
          exact u2.keep a o (by rw [upd_ne (ne_of_none ha hp)]; exact ha) hn
      · rw [if_neg c] at h; exact h.elim
/-- d[k] = v -/
def mSetDx (m o i : ME) : MS := fun ρ S => ofRes (m ρ S) ρ fun d S1 => ofRes (o ρ S1) ρ fun x S2 => ofRes (i ρ S2) ρ fun y S3 => match x with
  | .cell n => match S3[n]?, keyD y with
    | some (.dic kvs), some k => if kvs.length < 16777216 then .nx ρ (S3.set n (.dic (putD kvs k d))) else .bad
    | _, _ => .bad
  | _ => .bad
theorem Up.cellW {μ : List Addr} {H : Hp} {a : Addr} {o : HO} (h : a ∈ μ) : Up μ H μ (upd H a o) := ⟨⟨[], (List.append_nil _).symm⟩, fun _ h n => absurd h n, fun b u e n => by
  have hb : b ≠ a := fun z => n (by rw [z]; exact h)
  rw [upd_ne hb]; exact e⟩
theorem ds_setDx (hu : X.A.units + 64 < cLine) (he : DE X W e m) (ho : DE X W o mo) (hi : DE X W i mi) (hs : swapsWith e (some (.Subscript o i p)) pos.line X.env = pure false := by rfl) : DS X W (.Assign [.Subscript o i p] e pos) (mSetDx m mo mi) := by
  obtain ⟨te, pe, ke⟩ := he
  obtain ⟨to, po, ko⟩ := ho
  obtain ⟨ti, pi, ki⟩ := hi
  refine ⟨_, ps_dput (by omega) po pi pe hs, fun ξ μ σ H ρ S D g s h => ke ξ μ σ H ρ S _ g s (WS'.bind g h fun d S1 v μ1 H1 u1 s1 r1 h1 => ?_)⟩
  refine ko ξ μ1 σ H1 ρ S1 _ (g.up u1) s1 (WS'.bind (g.up u1) h1 fun x S2 v2 μ2 H2 u2 s2 r2 h2 => ?_)
  refine ki ξ μ2 σ H2 ρ S2 _ (g.up (u1.trans u2)) s2 (WS'.bind (g.up (u1.trans u2)) h2 fun y S3 v3 μ3 H3 u3 s3 r3 h3 => ?_)
  have rd := r1.up (u2.trans u3)
  have rx := r2.up u3
  cases rx with
  | @cell a n ea =>
    simp only at h3
    cases q : S3[n]? with
    | none => rw [q] at h3; exact h3.elim
    | some c =>
      rw [q] at h3
      cases c with
      | dic kvs =>
        cases q2 : keyD y with
        | none => rw [q2] at h3; exact h3.elim
        | some k =>
          rw [q2] at h3
          simp only at h3
          by_cases c : kvs.length < 16777216
          · rw [if_pos c] at h3
            obtain ⟨vk, e1, e2⟩ := s3.at_ n a _ ea q
            have ek := keyD_of r3 q2
            subst ek
            have ha : a ∈ μ3 := List.mem_of_getElem? ea
            refine ⟨a, _, rfl, DPut.k e1 (by rw [kvr_len e2, sizeLine_eq]; exact c), ?_⟩
            have u4 : Up μ3 H3 μ3 (upd H3 a (.dK (putK vk k v))) := .cellW ha
            refine h3 σ μ3 _ u4 (s3.write ea ⟨_, upd_same, (kvr_put rd e2).up u4⟩) (g.up (u1.trans (u2.trans (u3.trans u4))))
          · rw [if_neg c] at h3; exact h3.elim
      | _ => exact h3.elim
  | _ => exact h3.elim
/-- k in d, k not in d -/
def gDIn (neg : Bool) : Sto → D → D → Option D := fun S y x => (dicOf S x).bind fun kvs => (keyD y).map fun k => .bl (if neg then !(valD kvs k).isSome else (valD kvs k).isSome)
end
/-! ### dict comprehensions -/
def dcA (d : D) (f : D → Rho → Option Rho) (mt mk mv : ME) (ρ : Rho) : Nat → Nat → List (Key × D) → Sto → Option (List (Key × D) × Sto)
  | 0, _, _, _ => none
  | n + 1, i, acc, S => match seqOf S d with
    | none => none
    | some ds => match ds[i]? with
      | none => if i = ds.length then some (acc, S) else none
      | some x => match f x ρ with
        | none => none
        | some ρ1 => match mt ρ1 S with
          | .ok (.bl true) S1 => match mk ρ1 S1 with
            | .ok y S2 => match mv ρ1 S2 with
              | .ok z S3 => match keyD y with
                | some k => dcA d f mt mk mv ρ n (i + 1) (putD acc k z) S3
                | none => none
              | _ => none
            | _ => none
          | .ok (.bl false) S1 => dcA d f mt mk mv ρ n (i + 1) acc S1
          | _ => none
def mDcA (m : ME) (f : D → Rho → Option Rho) (mt mk mv : ME) (vs : List Nat) : ME := fun ρ S => (iAny m ρ S).bind fun p S1 => match dcA p.1 f mt mk mv (wipeD ρ vs) (p.2 + 1) 0 [] S1 with
  | some (kvs, S2) => .ok (.cell S2.length) (S2 ++ [.dic kvs])
  | none => .bad
theorem dcA_pos {d : D} {f : D → Rho → Option Rho} {mt mk mv : ME} {ρ : Rho} {k i : Nat} {acc : List (Key × D)} {S : Sto} {r : List (Key × D) × Sto} (h : dcA d f mt mk mv ρ k i acc S = some r) : 0 < k := by
  cases k with
  | zero => exact nomatch h
  | succ k => exact Nat.succ_pos k
theorem putD_len {kvs : List (Key × D)} {k : Key} {v : D} : (putD kvs k v).length ≤ kvs.length + 1 := by
  unfold putD
  split
  · rw [List.length_map]; omega
  · rw [List.length_append]; exact Nat.le_refl _
section
variable {X : Cx} {W : WX} {tg e a b c : Expr} {m mt mk mv : ME} {pos p : Pos}
theorem dcA_read {wi : TI} {tg' : TG} {tt : TT} {tk te : TE} {f : D → Rho → Option Rho} {is vs : List Nat} {ξ μ : List Addr} {σ : L2.St} {H : Hp} {ρ : Rho} {S : Sto} {Q : VK} {Wx : Value → Option Addr → Hp → Prop}
    (ki : ∀ R, WR (fx X ξ) (fun μ H (J : It) (p : D × Nat) => ItA (fx X ξ) μ H J p) (iAny m ρ S) R Wx μ H → wi σ H R)
    (kg : ∀ ξ μ σ H ρ v d ρ' (Q : L2.St → Hp → Prop), RG (fx X ξ) μ H σ ρ → RD (fx X ξ) μ H v d → f d ρ = some ρ' → (∀ σ', RG (fx X ξ) μ H σ' ρ' → (∀ js : List Nat, (∀ i ∈ is, i ∈ js) → wipe σ' js = wipe σ js) → Q σ' H) → tg' v σ H Q)
    (kt : ∀ ξ μ σ H ρ S Q, RG (fx X ξ) μ H σ ρ → RS (fx X ξ) μ H S → WT' (fx X ξ) (mt ρ S) Q (fun cls dd H' => W0 cls dd σ H') μ H → tt σ H Q)
    (kk : ∀ ξ μ σ H ρ S Q, RG (fx X ξ) μ H σ ρ → RS (fx X ξ) μ H S → WE' (fx X ξ) (mk ρ S) Q (fun cls dd H' => W0 cls dd σ H') μ H → tk σ H Q)
    (ke : ∀ ξ μ σ H ρ S Q, RG (fx X ξ) μ H σ ρ → RS (fx X ξ) μ H S → WE' (fx X ξ) (mv ρ S) Q (fun cls dd H' => W0 cls dd σ H') μ H → te σ H Q)
    (hv : ∀ i ∈ is, i ∈ vs) (g : RG (fx X ξ) μ H σ ρ) (s : RS (fx X ξ) μ H S) (h : WE' (fx X ξ) (mDcA m f mt mk mv vs ρ S) Q Wx μ H) : tDc wi tg' tt tk te vs σ H Q := by
  refine ki _ (WR.bind h fun p S1 J μ1 H1 u1 s1 r1 h1 => ?_)
  obtain ⟨d, n0⟩ := p
  intro D hD
  obtain ⟨hz, r1⟩ := r1
  have hz : n0 ≤ 16777216 := hz
  have ext : Ext (fx X ξ) ((fx X ξ).hold D) H1 := ⟨rfl, rfl, fun a ha => (List.mem_cons.mp ha).elim (fun z => .inr (by rw [z]; exact hD)) .inl⟩
  have main : WE' (fx X ξ) (match dcA d f mt mk mv (wipeD ρ vs) (n0 + 1) 0 [] S1 with
    | some (kvs, S2) => Res.ok (.cell S2.length) (S2 ++ [.dic kvs])
    | none => .bad) Q Wx μ1 H1 := h1
  refine ⟨fun i k H' => ∃ μ' S' vk acc, Up μ1 H1 μ' H' ∧ RS ((fx X ξ).hold D) μ' H' S' ∧ H' D = some (.dK vk) ∧ KvR ((fx X ξ).hold D) μ' H' vk acc ∧ acc.length ≤ i ∧ i + k = n0 + 1 ∧
      ∃ kvs S2, dcA d f mt mk mv (wipeD ρ vs) k i acc S' = some (kvs, S2) ∧ ∀ μ2 H2 vk2, Up μ1 H1 μ2 H2 → RS ((fx X ξ).hold D) μ2 H2 S2 → KvR ((fx X ξ).hold D) μ2 H2 vk2 kvs → H2 D = some (.dK vk2) → Q (.ref D) H2,
    ⟨_, μ1, S1, [], [], .fresh hD, s1.holds hD, upd_same, .nil, Nat.le_refl _, Nat.zero_add _, ?_⟩, ?_⟩
  · cases q : dcA d f mt mk mv (wipeD ρ vs) (n0 + 1) 0 [] S1 with
    | none => rw [q] at main; exact main.elim
    | some r =>
      obtain ⟨kvs, S2⟩ := r
      rw [q] at main
      refine ⟨kvs, S2, rfl, fun μ2 H2 vk2 u2 s2 r2 e2 => ?_⟩
      have s3 := RS.asCellG (F := fx X ξ) (c := .dic kvs) s2 (s1.outX hD) ⟨vk2, e2, kvr_mv (Mv.asCell (F := fx X ξ) (p := D)) r2⟩
      refine main (.ref D) (μ2 ++ [D]) H2 ?_ s3 (.cell (by rw [List.getElem?_append_right (by rw [s2.len]; exact Nat.le_refl _), s2.len, Nat.sub_self] <;> rfl))
      obtain ⟨ν, en⟩ := u2.pre
      refine ⟨⟨ν ++ [D], by rw [en, List.append_assoc]⟩, fun a ha hn => ?_, fun a o ha hn => u2.keep a o ha hn⟩
      rcases List.mem_append.mp ha with z | z
      · exact u2.new a z hn
      · rw [List.mem_singleton.mp z]; exact hD
  rintro i k H' ⟨μ', S', vk, acc, u', s', hacc, racc, hla, hi, kvs, S2, eL, fin⟩
  cases k with
  | zero => exact nomatch eL
  | succ k =>
    unfold dcA at eL
    cases q' : seqOf S' d with
    | none => rw [q'] at eL; exact nomatch eL
    | some es =>
      rw [q'] at eL
      simp only at eL
      obtain ⟨t1, t2⟩ := r1 ((fx X ξ).hold D) μ' H' S' i ext u' s' es q'
      cases q2 : es[i]? with
      | none =>
        rw [q2] at eL
        simp only at eL
        by_cases e : i = es.length
        · rw [if_pos e] at eL
          cases eL
          exact .inl ⟨t2 e, fin μ' H' vk u' s' racc hacc⟩
        · rw [if_neg e] at eL; exact nomatch eL
      | some x0 =>
        rw [q2] at eL
        simp only at eL
        obtain ⟨go, yl⟩ := t1 x0 q2
        cases ef : f x0 (wipeD ρ vs) with
        | none => rw [ef] at eL; exact nomatch eL
        | some ρ1 =>
          rw [ef] at eL
          simp only at eL
          refine .inr ⟨go, fun H2 => ∃ μ' S' vk acc, Up μ1 H1 μ' H2 ∧ RS ((fx X ξ).hold D) μ' H2 S' ∧ H2 D = some (.dK vk) ∧ KvR ((fx X ξ).hold D) μ' H2 vk acc ∧ acc.length ≤ i + 1 ∧ (i + 1) + k = n0 + 1 ∧
              ∃ kvs S2, dcA d f mt mk mv (wipeD ρ vs) k (i + 1) acc S' = some (kvs, S2) ∧ ∀ μ2 H2 vk2, Up μ1 H1 μ2 H2 → RS ((fx X ξ).hold D) μ2 H2 S2 → KvR ((fx X ξ).hold D) μ2 H2 vk2 kvs → H2 D = some (.dK vk2) → Q (.ref D) H2,
            fun H2 z => ⟨k, Nat.lt_succ_self k, z⟩, fun x H2 y => ?_⟩
          obtain ⟨eH, r2⟩ := yl x H2 y
          subst eH
          have g2 : RG (fx X (D :: ξ)) μ' H2 (wipe σ vs) (wipeD ρ vs) := (((g.up u1).mv (.ext ext u'))).wipe vs
          refine kg (D :: ξ) μ' (wipe σ vs) H2 (wipeD ρ vs) x _ ρ1 _ g2 r2 ef fun σ3 g3 w3 => ?_
          have nD : D ∉ μ' := (s'.xi D List.mem_cons_self).1
          have ww : wipe (wipe σ vs) vs = wipe σ vs := by
            refine List.ext_getElem? fun k => ?_
            rw [wipe_get, wipe_get, wipe_length]
            by_cases q : k ∈ vs ∧ k < σ.length
            · rw [if_pos q, if_pos q]
            · rw [if_neg q, if_neg q]
          refine ⟨by rw [w3 vs hv, ww], ?_⟩
          refine kt (D :: ξ) μ' σ3 H2 ρ1 S' _ g3 s' ?_
          cases et : mt ρ1 S' with
          | bad => rw [et] at eL; exact nomatch eL
          | exc c fs S3 => rw [et] at eL; exact nomatch eL
          | ok dd S3 =>
            rw [et] at eL
            cases dd with
            | bl b =>
              intro μ3 H3 u3 s3
              have eD3 : H3 D = some (.dK vk) := u3.keep _ _ hacc nD
              cases b with
              | false =>
                exact ⟨μ3, S3, vk, acc, u'.trans u3, s3, eD3, racc.up u3, Nat.le_succ_of_le hla, by omega, kvs, S2, eL, fin⟩
              | true =>
                simp only at eL
                refine kk (D :: ξ) μ3 σ3 H3 ρ1 S3 _ (g3.up u3) s3 ?_
                cases ek : mk ρ1 S3 with
                | bad => rw [ek] at eL; exact nomatch eL
                | exc c fs S4 => rw [ek] at eL; exact nomatch eL
                | ok y S4 =>
                  rw [ek] at eL
                  intro v μ4 H4 u4 s4 r4
                  simp only at eL
                  refine ke (D :: ξ) μ4 σ3 H4 ρ1 S4 _ (g3.up (u3.trans u4)) s4 ?_
                  cases ev : mv ρ1 S4 with
                  | bad => rw [ev] at eL; exact nomatch eL
                  | exc c fs S5 => rw [ev] at eL; exact nomatch eL
                  | ok z S5 =>
                    rw [ev] at eL
                    intro w μ5 H5 u5 s5 r5
                    simp only at eL
                    cases eky : keyD y with
                    | none => rw [eky] at eL; exact nomatch eL
                    | some ky =>
                      rw [eky] at eL
                      simp only at eL
                      have kp := dcA_pos eL
                      have nD3 : D ∉ μ3 := (s3.xi D List.mem_cons_self).1
                      have nD4 : D ∉ μ4 := (s4.xi D List.mem_cons_self).1
                      have eD5 : H5 D = some (.dK vk) := u5.keep _ _ (u4.keep _ _ eD3 nD3) nD4
                      have rv : KvR ((fx X ξ).hold D) μ5 H5 vk acc := ((racc.up u3).up u4).up u5
                      have ez := keyD_of (r4.up u5) eky
                      subst ez
                      refine ⟨vk, ky, rfl, eD5, by rw [kvr_len rv, sizeLine_eq]; omega, μ5, S5, _, putD acc ky z, ?_, RS.wr (F := fx X ξ) (p := D) s5, upd_same, kvr_mv (Mv.wr (F := fx X ξ) (p := D)) (kvr_put r5 rv), Nat.le_trans putD_len (by omega), by omega, kvs, S2, eL, fin⟩
                      have U := u'.trans (u3.trans (u4.trans u5))
                      exact ⟨U.pre, U.new, fun a o ha na => by
                        rw [upd_ne (ne_of_none ha hD)]
                        exact U.keep a o ha na⟩
            | _ => exact nomatch eL
theorem d_dcA {kx vx : Expr} {ifs : List Expr} {scope : Scope} {own : List (Str × Nat)} {f : D → Rho → Option Rho} {is : List Nat} (hc : X.calm = true) (hN : X.N.Nodup) (hi : DE X W e m) (ok : BlkOk X.N X.env.scope scope own)
    (hg : ∀ (s : Shared) (H : Hp) (C : Addr) (cl : List (Str × Addr)) (fp : List Addr), DG (X.blk s H scope (compEnvC scope cl C X.env) fp) tg f is)
    (ht : ∀ (s : Shared) (H : Hp) (C : Addr) (cl : List (Str × Addr)) (fp : List Addr), DTs (X.blk s H scope (compEnvC scope cl C X.env) fp) W0 ifs mt)
    (hk : ∀ (s : Shared) (H : Hp) (C : Addr) (cl : List (Str × Addr)) (fp : List Addr), DE (X.blk s H scope (compEnvC scope cl C X.env) fp) W0 kx mk)
    (he : ∀ (s : Shared) (H : Hp) (C : Addr) (cl : List (Str × Addr)) (fp : List Addr), DE (X.blk s H scope (compEnvC scope cl C X.env) fp) W0 vx mv)
    (hv : ∀ i ∈ is, i ∈ own.map (·.2) := by decide) (hs : ∀ x, foldedSetIterable e X.env x = pure x := by intro _; rfl) : DE X W (.DictComp kx vx [⟨tg, e, ifs, 0⟩] scope pos) (mDcA m f mt mk mv (own.map (·.2))) := by
  obtain ⟨wi, pi, ki⟩ := dia_any (tg := tg) hi
  obtain ⟨tg', pg, kg⟩ := dg_all (Xf := blkOf X scope) (K := X.K) (mg := X.mg) (fun _ => rfl) (fun _ => rfl) fun i => hg i.1 i.2.1 i.2.2.1 i.2.2.2.1 i.2.2.2.2
  obtain ⟨tt, pt, kt⟩ := dts_all (Xf := blkOf X scope) (K := X.K) (mg := X.mg) (fun _ => rfl) (fun _ => rfl) fun i => ht i.1 i.2.1 i.2.2.1 i.2.2.2.1 i.2.2.2.2
  obtain ⟨tk, pk, kk⟩ := de_all (Xf := blkOf X scope) (K := X.K) (mg := X.mg) (fun _ => rfl) (fun _ => rfl) fun i => hk i.1 i.2.1 i.2.2.1 i.2.2.2.1 i.2.2.2.2
  obtain ⟨te, pe, ke⟩ := de_all (Xf := blkOf X scope) (K := X.K) (mg := X.mg) (fun _ => rfl) (fun _ => rfl) fun i => he i.1 i.2.1 i.2.2.1 i.2.2.2.1 i.2.2.2.2
  refine ⟨_, pe_dc hc hN pi ok (fun s H C cl fp => pg (s, H, C, cl, fp)) (fun s H C cl fp => pt (s, H, C, cl, fp)) (fun s H C cl fp => pk (s, H, C, cl, fp)) (fun s H C cl fp => pe (s, H, C, cl, fp)) hs, fun ξ μ σ H ρ S Q g s h => ?_⟩
  exact dcA_read (fun R => ki ξ μ σ H ρ S R g s) kg kt kk ke hv g s h
end
/-! ### what they do -/
section
variable {S : Sto} {ρ : Rho} {Q : D → Sto → Prop} {N B C : Rho → Sto → Prop} {R : D → Sto → Prop}
@[simp] theorem keyD_int {i : Int} : keyD (.int i) = some (.inl i) := rfl
@[simp] theorem keyD_str {x : Str} : keyD (.str x) = some (.inr x) := rfl
@[simp] theorem does_dnew : (mDNew ρ S).Does Q = Q (.cell S.length) (S ++ [.dic []]) := rfl
@[simp] theorem does_pnil {Q : List (D × D) → Sto → Prop} : (mPNil ρ S).Does Q = Q [] S := rfl
@[simp] theorem does_pcons {k v : ME} {r : MPs} {Q : List (D × D) → Sto → Prop} : (mPCons k v r ρ S).Does Q = (k ρ S).Does fun x S1 => (v ρ S1).Does fun y S2 => (r ρ S2).Does fun xs S3 => Q ((x, y) :: xs) S3 := by
  unfold mPCons
  rw [does_bind]; congr 1; funext x S1
  rw [does_bind]; congr 1; funext y S2
  rw [does_bind] <;> rfl
@[simp] theorem does_disp {m : MPs} : (mDisp m ρ S).Does Q = (m ρ S).Does fun ds S1 => match keysD ds with
    | some kvs => kvs.length ≤ 15 ∧ Q (.cell S1.length) (S1 ++ [.dic (mergeD [] kvs)])
    | none => False := by
  unfold mDisp
  rw [does_bind]; congr 1; funext ds S1
  cases keysD ds with
  | none => rfl
  | some kvs =>
    simp only
    by_cases h : kvs.length ≤ 15
    · rw [if_pos h]; simp [h]
    · rw [if_neg h]; simp [h, Res.Does]
@[simp] theorem does_setDx {m o i : ME} : (mSetDx m o i ρ S).Does N R B C = (m ρ S).Does fun d S1 => (o ρ S1).Does fun x S2 => (i ρ S2).Does fun y S3 => match x with
    | .cell n => match S3[n]?, keyD y with
      | some (.dic kvs), some k => kvs.length < 16777216 ∧ N ρ (S3.set n (.dic (putD kvs k d)))
      | _, _ => False
    | _ => False := by
  unfold mSetDx
  rw [does_ofRes]; congr 1; funext d S1
  rw [does_ofRes]; congr 1; funext x S2
  rw [does_ofRes]; congr 1; funext y S3
  cases x with
  | cell n =>
    simp only
    cases S3[n]? with
    | none => rfl
    | some c =>
      cases c with
      | dic kvs =>
        cases keyD y with
        | none => rfl
        | some k =>
          simp only
          by_cases h : kvs.length < 16777216
          · rw [if_pos h]; simp [h]
          · rw [if_neg h]; simp [h, Out.Does]
      | _ => rfl
  | _ => rfl
theorem dicOf_cell {n : Nat} {kvs : List (Key × D)} (h : S[n]? = some (.dic kvs)) : dicOf S (.cell n) = some kvs := by
  show (match S[n]? with | some (Cell.dic kvs) => some kvs | _ => none) = _
  rw [h]
theorem gDIx_cell {n : Nat} {kvs : List (Key × D)} {y : D} (h : S[n]? = some (.dic kvs)) : gDIx S (.cell n) y = (keyD y).bind fun k => valD kvs k := by
  unfold gDIx
  rw [dicOf_cell h] <;> rfl
/-- a dict comprehension without tests, whose parts change nothing -/
theorem dcA_map {f : D → Rho → Option Rho} {mk mv : ME} {α : Type} {i : α → D} {k : α → Key} {g : α → D} {d : D} {as0 : List α} (hd : seqOf S d = some (as0.map i))
    (h : ∀ a, a ∈ as0 → ∃ ρ1 y, f (i a) ρ = some ρ1 ∧ mk ρ1 S = .ok y S ∧ keyD y = some (k a) ∧ mv ρ1 S = .ok (g a) S) :
    ∀ {as pre : List α} {acc : List (Key × D)}, as0 = pre ++ as → dcA d f mYes mk mv ρ (as.length + 1) pre.length acc S = some (as.foldl (fun acc a => putD acc (k a) (g a)) acc, S)
  | [], pre, acc, e => by
    unfold dcA
    rw [hd]
    have e1 : (as0.map i)[pre.length]? = none := by rw [e, List.append_nil]; exact List.getElem?_eq_none (by rw [List.length_map]; exact Nat.le_refl _)
    simp only [e1]
    rw [if_pos (by rw [e, List.append_nil, List.length_map])] <;> rfl
  | a :: as, pre, acc, e => by
    obtain ⟨ρ1, y, ef, ek, eky, ev⟩ := h a (by rw [e]; exact List.mem_append.mpr (.inr List.mem_cons_self))
    have e1 : (as0.map i)[pre.length]? = some (i a) := by rw [List.getElem?_map, e, List.getElem?_append_right (Nat.le_refl _), Nat.sub_self] <;> rfl
    have en : as0 = (pre ++ [a]) ++ as := by rw [e, List.append_assoc] <;> rfl
    have q := dcA_map hd h (as := as) (pre := pre ++ [a]) (acc := putD acc (k a) (g a)) en
    rw [List.length_append, List.length_singleton] at q
    unfold dcA
    rw [hd]
    simp only [e1, ef, mYes, ek, eky, ev]
    exact q
theorem does_dcA {m : ME} {f : D → Rho → Option Rho} {mt mk mv : ME} {vs : List Nat} {d : D} {S1 S2 : Sto} {ds : List D} {kvs : List (Key × D)} (e : m ρ S = .ok d S1) (e1 : seqOf S1 d = some ds) (e2 : dcA d f mt mk mv (wipeD ρ vs) (ds.length + 1) 0 [] S1 = some (kvs, S2)) (q : Q (.cell S2.length) (S2 ++ [.dic kvs])) :
    (mDcA m f mt mk mv vs ρ S).Does Q := by
  unfold mDcA iAny
  rw [e]
  show Res.Does (Res.bind (match seqOf S1 d with | some ds => Res.ok (d, ds.length) S1 | none => .bad) _) Q
  rw [e1]
  show Res.Does (match dcA d f mt mk mv (wipeD ρ vs) (ds.length + 1) 0 [] S1 with | some (kvs, S2) => .ok (.cell S2.length) (S2 ++ [.dic kvs]) | none => .bad) Q
  rw [e2]
  exact q
end
end Dm
-- text DmKw
namespace Dm
open PySem L2 PySem.Spec PyProof.Rows
open PySem.W (Frag)
/-! ### constant data -/
mutual
inductive KD (K : Frag) : V → D → Prop
  | non : KD K .non .non
  | bl (b : Bool) : KD K (.bl b) (.bl b)
  | int (i : Int) : KD K (.int i) (.int i)
  | str (x : Str) : KD K (.str x) (.str x)
  | tup {a : Addr} {xs : List V} {ds : List D} : KT K a xs → KDs K xs ds → KD K (.ref a) (.tup ds)
inductive KDs (K : Frag) : List V → List D → Prop
  | nil : KDs K [] []
  | cons {v : V} {vs : List V} {d : D} {ds : List D} : KD K v d → KDs K vs ds → KDs K (v :: vs) (d :: ds)
end
mutual
theorem KD.rd {F : Fx} {μ : List Addr} {H : Hp} : ∀ {v : V} (d : D), KD F.K v d → RD F μ H v d
  | _, .non, h => by cases h; exact .non
  | _, .bl b, h => by cases h; exact .bl b
  | _, .int i, h => by cases h; exact .int i
  | _, .str x, h => by cases h; exact .str x
  | _, .tup ds, h => by
    cases h with
    | tup t r => exact .tup (.inr t) (KDs.rd ds r)
  | _, .lst _, h => by cases h
  | _, .cell _, h => by cases h
  | _, .glo _, h => by cases h
theorem KDs.rd {F : Fx} {μ : List Addr} {H : Hp} : ∀ {vs : List V} (ds : List D), KDs F.K vs ds → RDs F μ H vs ds
  | _, [], h => by cases h; exact .nil
  | _, d :: ds, h => by
    cases h with
    | cons a b => exact .cons (KD.rd d a) (KDs.rd ds b)
end
/-- the name stands for this -/
def GlK (K : Frag) (mg : Str → Option Value) (x : Str) (d : D) : Prop := ∃ u v, mg x = some u ∧ RelV v u ∧ KD K v d
theorem GlK.glD {X : Cx} {K : Frag} {mg : Str → Option Value} {x : Str} {d : D} (h : GlK K mg x d) (hK : X.K = K := by rfl) (hg : X.mg = mg := by rfl) : GlD X x d := by
  obtain ⟨u, v, h1, h2, h3⟩ := h
  exact ⟨u, v, by rw [hg]; exact h1, h2, fun ξ μ H => KD.rd (F := fx X ξ) d (by show KD X.K v d; rw [hK]; exact h3)⟩
theorem kt_mk {K : Frag} {a : Addr} {od : Option Addr} {its : Array Value} {n : Nat} {sl : Array (Option Value)} {xs : List V} (h : K.lookup a = some ⟨.type "tuple", od, .seq its n, sl⟩) (hz : its.size ≤ 1000) (r : Vals xs its.toList) : KT K a xs :=
  ⟨_, its, n, h, rfl, rfl, by rw [sizeLine_eq]; omega, r⟩
/-! ### defs with defaults -/
structure FnDD (P : Program) (w : World) (K : Frag) (mg : Str → Option Value) (base : Heap) (k : Nat) (x : Str) (st : Stmt) (dvs : List V) (kws : List (Str × V)) (ps : List Str) (m : List D → Sto → Res D) : Prop where
  ex : ∃ f fd, mg x = some (.ref f) ∧ FunD K x x (defArgs st) (defBody st) (defScope st) dvs kws f fd ∧ FnOk P w K mg base (L2.CX P w) k f fd ps (spD K mg m)
section
variable {P : Program} {w : World} {K : Frag} {mg : Str → Option Value} {base : Heap}
theorem fndd_mk {x : Str} {st : Stmt} {f : Addr} {fd : FuncData} {N ps : List Str} {dvs : List V} {kws : List (Str × V)} {k np nN : Nat} {mb : MS} (hm : mg x = some (.ref f)) (F : FunD K x x (defArgs st) (defBody st) (defScope st) dvs kws f fd) (S : FnScope N ps (defScope st)) (hnp : ps.length = np) (hnN : N.length = nN)
    (hb : ∀ (cdv : Value) (A : Around) (outer : List Env) (s : Shared) (H : Hp) (E : XK), Room k (A.deeper (envOfC x (defScope st) s.heap.objs.size f cdv)) →
      DSs (cxOf (L2.CX P w) P w K mg base N x (defScope st) f cdv A outer s H E) (fun cls d _ H => E cls d H) (defBody st) mb) : FnDD P w K mg base (k + 1) x st dvs kws ps (mDef np nN mb) := by
  subst hnp hnN
  refine ⟨f, fd, hm, F, F.ok S (fun vs H Q E h => ?_) (fun cdv A outer s H vs Q E hr h => ?_)⟩
  · obtain ⟨ξ, μ, ds, S0, s0, r0, w0⟩ := h
    unfold mDef at w0
    by_cases c : ds.length = ps.length
    · rw [r0.length]; exact c
    · rw [if_neg c] at w0; exact w0.elim
  · obtain ⟨ξ, μ, ds, S0, s0, r0, w0⟩ := h
    obtain ⟨ts, pt, kt⟩ := hb cdv A outer s H E hr
    refine ⟨ts, pt, ?_⟩
    unfold mDef at w0
    by_cases c : ds.length = ps.length
    · rw [if_pos c] at w0
      refine kt ξ μ _ H _ S0 _ (rg_start r0) s0 ?_
      show WS' ⟨K, mg, ξ⟩ _ _ _ μ H
      rw [c]
      cases e : mb (ds.map some ++ List.replicate (N.length - ps.length) none) S0 with
      | nx ρ S' => rw [e] at w0; exact fun σ μ' H' u s g => w0 _ μ' H' u s .non
      | rt d S' => rw [e] at w0; exact w0
      | exc c fs ρ S' => rw [e] at w0; exact fun cls dd σ μ' H' u s g x => w0 cls dd μ' H' u s x
      | bk ρ S' => rw [e] at w0; exact w0.elim
      | ct ρ S' => rw [e] at w0; exact w0.elim
      | bad => rw [e] at w0; exact w0.elim
    · rw [if_neg c] at w0; exact w0.elim
end
/-- how the arguments come to the parameters: the written ones, the keywords', the defaults dd -/
def KwBD (K : Frag) (x : Str) (st : Stmt) (dvs : List V) (kws : List (Str × V)) (ps : List Str) (n : Nat) (ks : List Str) (perm : List Nat) (dd : List V) : Prop :=
  ∀ f fd, FunD K x x (defArgs st) (defBody st) (defScope st) dvs kws f fd → ∃ dv : List Value, Vals dd dv ∧ ∀ (s : Shared) (us ws : List Value), K.In s.heap → us.length = n → ws.length = ks.length → BindsTo s fd ⟨us, ks.zip ws⟩ (ps.zip (perm.filterMap ((us ++ ws ++ dv)[·]?)))
theorem kwb_kw {K : Frag} {x : Str} {st : Stmt} {kws : List (Str × V)} {ps : List Str} {n : Nat} {ks : List Str} {perm : List Nat} (ms : List (Str × V)) (hk : kws ≠ []) (hms : ∀ q ∈ ms, q ∈ kws)
    (h : ∀ (D : Addr) (doc pm : Value) (an : Option Addr) (cdv ct : Value) (us ws mv : List Value), us.length = n → ws.length = ks.length → mv.length = ms.length →
      KwChain D ((ms.map (·.1)).zip mv) (bindArgs (PySem.W.fnOf x x (defArgs st) (defBody st) (defScope st) .none (.ref D) doc pm an cdv ct) ⟨us, ks.zip ws⟩) (ps.zip (perm.filterMap ((us ++ ws ++ mv)[·]?)))) :
    KwBD K x st [] kws ps n ks perm (ms.map (·.2)) := by
  intro f fd F
  obtain ⟨oc, od, dV, kV, doc, pm, an, cdv, ct, osl, rfl, lk, hcd, hD, hK⟩ := F.ex
  rcases hD with ⟨_, rfl⟩ | ⟨e, _⟩
  · rcases hK with e | ⟨D, rfl, hq⟩
    · exact absurd e hk
    · obtain ⟨mv, hl, rk, hks⟩ := kwd_vals (ms := ms) fun q h => hq q (hms q h)
      exact ⟨mv, rk, fun s us ws X l1 l2 => BindsTo.of_looks fun M => KwChain.looks X hks (h D doc pm an cdv ct us ws mv l1 l2 hl)⟩
  · exact absurd rfl e
/-- positional defaults alone -/
theorem kwb_pos {K : Frag} {x : Str} {st : Stmt} {dvs : List V} {ps : List Str} {n : Nat} {ks : List Str} {perm : List Nat} (hd : dvs ≠ [])
    (h : ∀ (T : Addr) (kV doc pm : Value) (an : Option Addr) (cdv ct : Value) (us ws its : List Value), us.length = n → ws.length = ks.length → its.length = dvs.length →
      ∃ k, bindArgs (PySem.W.fnOf x x (defArgs st) (defBody st) (defScope st) (.ref T) kV doc pm an cdv ct) ⟨us, ks.zip ws⟩ = seqItems? (.ref T) >>= k ∧ k (some its.toArray) = pure (ps.zip (perm.filterMap ((us ++ ws ++ its)[·]?)))) :
    KwBD K x st dvs [] ps n ks perm dvs := by
  intro f fd F
  obtain ⟨oc, od, dV, kV, doc, pm, an, cdv, ct, osl, rfl, lk, hcd, hD, hK⟩ := F.ex
  rcases hD with ⟨e, _⟩ | ⟨_, T, o, its, m, rfl, lT, oT, rT⟩
  · exact absurd e hd
  · refine ⟨its, rT, fun s us ws X l1 l2 => ?_⟩
    obtain ⟨k, e1, e2⟩ := h T kV doc pm an cdv ct us ws its l1 l2 rT.length.symm
    refine BindsTo.of_looks fun M => ?_
    rw [e1]
    exact looks_items X lT oT (.of_pure e2)
def mCallD (f : List D → Sto → Res D) (n q : Nat) (perm : List Nat) (dd : List D) (a k : MA) : ME := fun ρ S => (a ρ S).bind fun xs S1 => (k ρ S1).bind fun zs S2 => if xs.length = n ∧ zs.length = q then f (perm.filterMap ((xs ++ zs ++ dd)[·]?)) S2 else .bad
def tCallPD (n q : Nat) (sp : Sp) (perm : List Nat) (dd : List V) (E : L2.St → XK) (t tk : TA) : TE := fun σ H Q => t σ H fun vs H1 => tk σ H1 fun zs H2 => vs.length = n ∧ zs.length = q ∧ sp (perm.filterMap ((vs ++ zs ++ dd)[·]?)) H2 Q (E σ)
section
variable {X : Cx} {W : WX} {tg e a b c : Expr} {es : List Expr} {kw : Keyword} {kws : List Keyword} {st : Stmt} {ma mb mc m : ME} {mr mk : MA} {pos p p1 p2 p3 kpos : Pos} {nm : Option Str}
theorem run_fnPD {CX : CXT} {k n : Nat} {f : Addr} {fd : FuncData} {ps ks : List Str} {sp : Sp} {E : L2.St → XK} {perm : List Nat} {pins : List (Addr × Obj)} {σ : L2.St} {H : Hp} {s : Shared} {Q : VK} {us ws dv : List Value} {vs zs dd : List V} (F : FnOk X.prog X.w X.K X.mg X.base CX k f fd ps sp) (hr : Room k X.A)
    (hdv : Vals dd dv) (hb : ∀ (s : Shared) (us ws : List Value), X.K.In s.heap → us.length = n → ws.length = ks.length → BindsTo s fd ⟨us, ks.zip ws⟩ (ps.zip (perm.filterMap ((us ++ ws ++ dv)[·]?)))) (hx : ∀ σ, PassesAt CX X σ (E σ)) (I : Inv X pins σ H s) (r : Vals vs us) (rz : Vals zs ws) (l1 : vs.length = n) (l2 : zs.length = ks.length) (h : sp (perm.filterMap ((vs ++ zs ++ dd)[·]?)) H Q (E σ)) :
    wpAny (model X.prog X.w) X.A (call (.ref f) us (ks.zip ws)) (EP X pins σ Q) X.xe s := by
  have r2 := vals_perm perm ((r.append rz).append hdv)
  refine wpAny_call (codeAny_mono (F.run X.A X.stack s H ⟨us, ks.zip ws⟩ _ _ Q (E σ) hr I.env0 (hb s us ws I.kIn (r.length.symm.trans l1) (rz.length.symm.trans l2)) r2 h) fun r s' hq => ?_)
  cases r with
  | error e => exact hx σ pins H s e s' I hq
  | ok fl =>
    cases fl with
    | ret u => exact I.after hq
    | next => exact False.elim hq
    | brk => exact False.elim hq
    | cont => exact False.elim hq
theorem rds_rd {K : Frag} {F : Fx} {μ : List Addr} {H : Hp} {vs : List V} {ds : List D} (hK : F.K = K) (h : KDs K vs ds) : RDs F μ H vs ds := KDs.rd ds (by rw [hK]; exact h)
theorem d_callD {j k n : Nat} {x : Str} {ps ks : List Str} {dvs : List V} {kwd : List (Str × V)} {f : List D → Sto → Res D} (F : FnDD X.prog X.w X.K X.mg X.base j x st dvs kwd ps f) (perm : List Nat) {dd : List V} {de : List D} (hb : KwBD X.K x st dvs kwd ps n ks perm dd) (hde : KDs X.K dd de)
    (hr : Room k X.A) (tk : Takes X W) (ha : DA X W (e :: es) mr) (hkw : DK X W (kw :: kws) mk) (hj : j ≤ k := by decide) (hg : Gl X x := by rfl) (hall : (backToKw pos (keywordEach (kw :: kws) X.env)).all (·.1.isSome) = true := by rfl) (hks : (backToKw pos (keywordEach (kw :: kws) X.env)).filterMap (·.1) = ks := by rfl)
    (hdb : (x == ("__debug__" : Str)) = false := by decide) (he : starEach (e :: es) X.env = (false, eval e X.env) :: starEach es X.env := by rfl)
    (hpl : ((backTo pos (starEach (e :: es) X.env)).any (·.1) || (backToKw pos (keywordEach (kw :: kws) X.env)).any (·.1.isNone)) = false := by rfl) : DE X W (.Call (.Name x p) (e :: es) (kw :: kws) pos) (mCallD f n ks.length perm de mr mk) := by
  obtain ⟨fa, fd, hm, Fu, G⟩ := F
  obtain ⟨ta, pa, ka⟩ := ha
  obtain ⟨tk', pk, kk⟩ := hkw
  obtain ⟨dv, hdv, hB⟩ := hb fa fd Fu
  refine ⟨tCallPD n ks.length (spD X.K X.mg f) perm dd (WE W) ta tk', ⟨fun pins s σ H Q I h => ?_⟩, fun ξ μ σ H ρ S Q g s h => ka ξ μ σ H ρ S _ g s (WR.bind h fun xs S1 vs μ1 H1 u1 s1 r1 h1 => ?_)⟩
  · refine wpAny_Call_Name_kw (ld_glob I hg hm ?_ hdb)
    refine PySem.W.callWith_KW (h₀ := X.base) I.ok.mod.kin Fu.kp hall (thn (pa.run pos pins s σ H _ I h) fun us s1 ⟨vs, H1, I1, r, q⟩ => ?_) hpl he
    refine thn (pk.run pos pins s1 σ H1 _ I1 q) fun ws s2 ⟨zs, H2, I2, rz, l1, l2, q2⟩ => ⟨I2.kIn, ?_⟩
    rw [hks]
    exact run_fnPD G (hr.mono hj) hdv hB (fun σ => passAt tk σ) I2 r rz l1 l2 q2
  · refine kk ξ μ1 σ H1 ρ S1 _ (g.up u1) s1 (WR.bind h1 fun zs S2 ws μ2 H2 u2 s2 r2 h2 => ?_)
    by_cases c : xs.length = n ∧ zs.length = ks.length
    · rw [if_pos c] at h2
      exact ⟨by rw [r1.length]; exact c.1, by rw [r2.length]; exact c.2, ξ, μ2, _, S2, s2, rds_perm perm (((r1.up u2).append r2).append (rds_rd (F := fx X ξ) rfl hde)), h2⟩
    · rw [if_neg c] at h2; exact h2.elim
/-- f(e, ..), the defaults behind -/
theorem d_callD1 {j k n : Nat} {x : Str} {ps : List Str} {dvs : List V} {kwd : List (Str × V)} {f : List D → Sto → Res D} (F : FnDD X.prog X.w X.K X.mg X.base j x st dvs kwd ps f) (perm : List Nat) {dd : List V} {de : List D} (hb : KwBD X.K x st dvs kwd ps n [] perm dd) (hde : KDs X.K dd de)
    (hr : Room k X.A) (tk : Takes X W) (ha : DA X W (e :: es) mr) (hj : j ≤ k := by decide) (hg : Gl X x := by rfl)
    (hdb : (x == ("__debug__" : Str)) = false := by decide) (he : starEach (e :: es) X.env = (false, eval e X.env) :: starEach es X.env := by rfl) (hpl : (backTo pos (starEach es X.env)).any (·.1) = false := by rfl) : DE X W (.Call (.Name x p) (e :: es) [] pos) (mCallD f n 0 perm de mr mNil) := by
  obtain ⟨fa, fd, hm, Fu, G⟩ := F
  obtain ⟨ta, pa, ka⟩ := ha
  obtain ⟨dv, hdv, hB⟩ := hb fa fd Fu
  refine ⟨tCallPD n 0 (spD X.K X.mg f) perm dd (WE W) ta tNil, ⟨fun pins s σ H Q I h => ?_⟩, fun ξ μ σ H ρ S Q g s h => ka ξ μ σ H ρ S _ g s (WR.bind h fun xs S1 vs μ1 H1 u1 s1 r1 h1 => ?_)⟩
  · refine wpAny_Call_Name_kw (ld_glob I hg hm ?_ hdb)
    refine PySem.W.callWith_K (h₀ := X.base) I.ok.mod.kin Fu.kp (thn (pa.run pos pins s σ H _ I h) fun us s1 ⟨vs, H1, I1, r, l1, l2, q⟩ => ⟨I1.kIn, ?_⟩) he hpl
    exact run_fnPD (ks := []) (ws := []) (zs := []) G (hr.mono hj) hdv hB (fun σ => passAt tk σ) I1 r .nil l1 rfl q
  · have h1 : WE' (fx X ξ) (if xs.length = n ∧ ([] : List D).length = 0 then f (perm.filterMap ((xs ++ [] ++ de)[·]?)) S1 else .bad) Q (fun cls dd H' => W cls dd σ H') μ1 H1 := h1
    by_cases c : xs.length = n ∧ ([] : List D).length = 0
    · rw [if_pos c] at h1
      exact ⟨by rw [r1.length]; exact c.1, rfl, ξ, μ1, _, S1, s1, rds_perm perm ((r1.append .nil).append (rds_rd (F := fx X ξ) rfl hde)), h1⟩
    · rw [if_neg c] at h1; exact h1.elim
/-- f(k = v, ..) -/
theorem d_callD0 {j k : Nat} {x : Str} {ps ks : List Str} {dvs : List V} {kwd : List (Str × V)} {f : List D → Sto → Res D} (F : FnDD X.prog X.w X.K X.mg X.base j x st dvs kwd ps f) (perm : List Nat) {dd : List V} {de : List D} (hb : KwBD X.K x st dvs kwd ps 0 ks perm dd) (hde : KDs X.K dd de)
    (hr : Room k X.A) (tk : Takes X W) (hkw : DK X W (kw :: kws) mk) (hj : j ≤ k := by decide) (hg : Gl X x := by rfl) (hall : (backToKw pos (keywordEach (kw :: kws) X.env)).all (·.1.isSome) = true := by rfl) (hks : (backToKw pos (keywordEach (kw :: kws) X.env)).filterMap (·.1) = ks := by rfl)
    (hdb : (x == ("__debug__" : Str)) = false := by decide) (hpl : ((backTo pos (starEach [] X.env)).any (·.1) || (backToKw pos (keywordEach (kw :: kws) X.env)).any (·.1.isNone)) = false := by rfl) :
    DE X W (.Call (.Name x p) [] (kw :: kws) pos) (mCallD f 0 ks.length perm de mNil mk) := by
  obtain ⟨fa, fd, hm, Fu, G⟩ := F
  obtain ⟨tk', pk, kk⟩ := hkw
  obtain ⟨dv, hdv, hB⟩ := hb fa fd Fu
  refine ⟨tCallPD 0 ks.length (spD X.K X.mg f) perm dd (WE W) tNil tk', ⟨fun pins s σ H Q I h => ?_⟩, fun ξ μ σ H ρ S Q g s h => ?_⟩
  · refine wpAny_Call_Name_kw (ld_glob I hg hm ?_ hdb)
    refine PySem.W.callWith_KW0 (h₀ := X.base) I.ok.mod.kin Fu.kp hall (thn (pk.run pos pins s σ H _ I h) fun ws s2 ⟨zs, H2, I2, rz, l1, l2, q2⟩ => ⟨I2.kIn, ?_⟩) hpl
    rw [hks]
    exact run_fnPD G (hr.mono hj) hdv hB (fun σ => passAt tk σ) I2 .nil rz l1 l2 q2
  · refine kk ξ μ σ H ρ S _ g s (WR.bind (f := fun zs S2 => if ([] : List D).length = 0 ∧ zs.length = ks.length then f (perm.filterMap (([] ++ zs ++ de)[·]?)) S2 else .bad) h fun zs S2 ws μ2 H2 u2 s2 r2 h2 => ?_)
    by_cases c : ([] : List D).length = 0 ∧ zs.length = ks.length
    · rw [if_pos c] at h2
      exact ⟨rfl, by rw [r2.length]; exact c.2, ξ, μ2, _, S2, s2, rds_perm perm ((RDs.append .nil r2).append (rds_rd (F := fx X ξ) rfl hde)), h2⟩
    · rw [if_neg c] at h2; exact h2.elim
end
section
variable {S : Sto} {ρ : Rho} {Q : D → Sto → Prop}
@[simp] theorem does_callD {f : List D → Sto → Res D} {n q : Nat} {p : List Nat} {dd : List D} {a k : MA} : (mCallD f n q p dd a k ρ S).Does Q = (a ρ S).Does fun xs S1 => (k ρ S1).Does fun zs S2 => (xs.length = n ∧ zs.length = q) ∧ (f (p.filterMap ((xs ++ zs ++ dd)[·]?)) S2).Does Q := by
  unfold mCallD
  rw [does_bind]
  congr 1
  funext xs S1
  rw [does_bind]
  congr 1
  funext zs S2
  by_cases h : xs.length = n ∧ zs.length = q
  · rw [if_pos h]; simp [h]
  · rw [if_neg h]; simp [h, Res.Does]
end
end Dm
-- text DmSetD
namespace L2
open PySem PySem.Spec PyProof.Rows
/-- name = {..} on one line, the name a local -/
theorem ps_setDc {X : Cx} {i : Nat} {y : Str} {py : Pos} {kx vx tg iter : Expr} {ifs : List Expr} {scope : Scope} {own : List (Str × Nat)} {pos spos : Pos} {wi : TI} {g : TG} {tt : TT} {tk tv : TE} (hc : X.calm = true) (hN : X.N.Nodup) (hy : X.N[i]? = some y) (hyl : X.env.scope.names.lookup y = some .local)
    (hsw : swapsWith (.DictComp kx vx [⟨tg, iter, ifs, 0⟩] scope pos) (some (.Name y py)) spos.line X.env = pure true) (hi : PI X tg iter wi) (ok : BlkOk X.N X.env.scope scope own)
    (hg : ∀ (s : Shared) (H : Hp) (C : Addr) (cl : List (Str × Addr)) (fp : List Addr), PG (X.blk s H scope (compEnvC scope cl C X.env) fp) tg g) (ht : ∀ (s : Shared) (H : Hp) (C : Addr) (cl : List (Str × Addr)) (fp : List Addr), PTs (X.blk s H scope (compEnvC scope cl C X.env) fp) ifs tt)
    (hk : ∀ (s : Shared) (H : Hp) (C : Addr) (cl : List (Str × Addr)) (fp : List Addr), PE (X.blk s H scope (compEnvC scope cl C X.env) fp) kx tk)
    (he : ∀ (s : Shared) (H : Hp) (C : Addr) (cl : List (Str × Addr)) (fp : List Addr), PE (X.blk s H scope (compEnvC scope cl C X.env) fp) vx tv) (hs : ∀ x, foldedSetIterable iter X.env x = pure x := by intro _; rfl) :
    PS X (.Assign [.Name y py] (.DictComp kx vx [⟨tg, iter, ifs, 0⟩] scope pos) spos) (tAsg (tDc wi g tt tk tv (own.map (·.2))) (gName i)) := by
  refine ⟨fun pins s σ H D I h => ?_⟩
  rw [exec_Assign_Name_used _ _ _ _ hsw]
  refine wpAny_bind (wpAny_standAt (wpAny_bind ?_))
  show wpAny _ X.A (do let _ ← comprehension (.DictComp kx vx [⟨tg, iter, ifs, 0⟩] scope pos) scope X.env (firstIterPos [⟨tg, iter, ifs, 0⟩] pos) newDict false (eval iter X.env) (some (assign (.Name y py) X.env))) _ _ s
  have h : tDc wi g tt tk tv (own.map (·.2)) σ H (fun x H1 => gName i x σ H1 D.nx) := h
  refine wpAny_bind (thn (dc_core (Qf := fun _ s' => SP X pins D .next s') hc hN I hi ok hg ht hk he hs h fun L C s' m H' I' q hn f => ?_) fun _ s' hq => wpAny_pure (wpAny_pure hq))
  show wpAny _ _ (assign (.Name y py) X.env (.ref L)) _ _ _
  refine wpAny_assign_Name (store_ok2 (v := V.ref L) I' hN hy (.inl hyl) rfl (fun s2 I2 ⟨a, sb, ha⟩ => ?_) (.inr hyl))
  obtain ⟨f0, f1, f2, f3, f4, f5⟩ := f
  have haC : C ≠ a := by
    rcases ha with z | z
    · rw [z]; exact f1
    · exact fun e => f4 y a z e.symm
  refine ⟨m, hn.sameBut sb haC, fun h3 sb3 => ?_⟩
  exact ⟨_, H', I2.turned (t' := s2.toks) (fun b o hb e => (sb3.2 b hb).trans e) f0 f1 f3 f4 f5, q⟩
end L2
namespace Dm
open PySem L2 PySem.Spec PyProof.Rows
section
variable {X : Cx} {W : WX} {tg e a b c : Expr} {m mt mk mv : ME} {pos p : Pos}
theorem ds_setDc (i : Nat) {y : Str} {py spos : Pos} {kx vx : Expr} {ifs : List Expr} {scope : Scope} {own : List (Str × Nat)} {f : D → Rho → Option Rho} {is : List Nat} (hc : X.calm = true) (hN : X.N.Nodup) (hi : DE X W e m) (ok : BlkOk X.N X.env.scope scope own)
    (hg : ∀ (s : Shared) (H : Hp) (C : Addr) (cl : List (Str × Addr)) (fp : List Addr), DG (X.blk s H scope (compEnvC scope cl C X.env) fp) tg f is)
    (ht : ∀ (s : Shared) (H : Hp) (C : Addr) (cl : List (Str × Addr)) (fp : List Addr), DTs (X.blk s H scope (compEnvC scope cl C X.env) fp) W0 ifs mt)
    (hk : ∀ (s : Shared) (H : Hp) (C : Addr) (cl : List (Str × Addr)) (fp : List Addr), DE (X.blk s H scope (compEnvC scope cl C X.env) fp) W0 kx mk)
    (he : ∀ (s : Shared) (H : Hp) (C : Addr) (cl : List (Str × Addr)) (fp : List Addr), DE (X.blk s H scope (compEnvC scope cl C X.env) fp) W0 vx mv)
    (hv : ∀ i ∈ is, i ∈ own.map (·.2) := by decide) (hy : X.N[i]? = some y := by rfl) (hyl : X.env.scope.names.lookup y = some .local := by rfl)
    (hsw : swapsWith (.DictComp kx vx [⟨tg, e, ifs, 0⟩] scope pos) (some (.Name y py)) spos.line X.env = pure true := by rfl) (hs : ∀ x, foldedSetIterable e X.env x = pure x := by intro _; rfl) :
    DS X W (.Assign [.Name y py] (.DictComp kx vx [⟨tg, e, ifs, 0⟩] scope pos) spos) (mAsg i (mDcA m f mt mk mv (own.map (·.2)))) := by
  obtain ⟨wi, pi, ki⟩ := dia_any (tg := tg) hi
  obtain ⟨tg', pg, kg⟩ := dg_all (Xf := blkOf X scope) (K := X.K) (mg := X.mg) (fun _ => rfl) (fun _ => rfl) fun i => hg i.1 i.2.1 i.2.2.1 i.2.2.2.1 i.2.2.2.2
  obtain ⟨tt, pt, kt⟩ := dts_all (Xf := blkOf X scope) (K := X.K) (mg := X.mg) (fun _ => rfl) (fun _ => rfl) fun i => ht i.1 i.2.1 i.2.2.1 i.2.2.2.1 i.2.2.2.2
  obtain ⟨tk, pk, kk⟩ := de_all (Xf := blkOf X scope) (K := X.K) (mg := X.mg) (fun _ => rfl) (fun _ => rfl) fun i => hk i.1 i.2.1 i.2.2.1 i.2.2.2.1 i.2.2.2.2
  obtain ⟨te, pe, ke⟩ := de_all (Xf := blkOf X scope) (K := X.K) (mg := X.mg) (fun _ => rfl) (fun _ => rfl) fun i => he i.1 i.2.1 i.2.2.1 i.2.2.2.1 i.2.2.2.2
  refine ⟨_, ps_setDc (i := i) hc hN hy hyl hsw pi ok (fun s H C cl fp => pg (s, H, C, cl, fp)) (fun s H C cl fp => pt (s, H, C, cl, fp)) (fun s H C cl fp => pk (s, H, C, cl, fp)) (fun s H C cl fp => pe (s, H, C, cl, fp)) hs, fun ξ μ σ H ρ S D g s h => ?_⟩
  exact dcA_read (fun R => ki ξ μ σ H ρ S R g s) kg kt kk ke hv g s (WS'.bind g h fun x S1 v μ1 H1 u1 s1 r1 h1 => h1 _ μ1 H1 .refl s1 ((g.up u1).set i r1))
end
end Dm
-- text Hw3
namespace Dm
open PySem L2
noncomputable section
def m_need_rules : List D → Sto → Res D := mDef 2 2 (mSeq (mIfS (mOr (mNot (mIsi .str (mVar 0))) (mOp (gIn true) (mVar 0) (mK (.tup [(.str "early"), (.str "late"), (.str "refuse")])))) (mRaise "InvalidRule") mNop) (mIfS (mOr (mNot (mIsi .str (mVar 1))) (mOp (gIn true) (mVar 1) (mK (.tup [(.str "ahead"), (.str "behind"), (.str "refuse")])))) (mRaise "InvalidRule") mNop))
def m_found_by : List D → Sto → Res D := mDef 5 7 (mSeq (mAsg 5 (mFz (mLcA (mBack (mVar 0)) (tgN 6) (mOp gEq (mOp gDIx (mVar 1) (mOp gSub (mVar 2) (mVar 6))) (mVar 6)) (mOp gSub (mVar 2) (mVar 6)) [6]))) (mSeq (mIfS (mOp gEq (mCallB gLen (mCons (mVar 5) mNil)) (mK (.int 1))) (mRet (mOp gIx (mVar 5) (mK (.int 0)))) mNop) (mSeq (mIfS (mOp gEq (mCallB gLen (mCons (mVar 5) mNil)) (mK (.int 2))) (mSeq (mIfS (mOp gEq (mVar 3) (mK (.str "refuse"))) (mRet (mK .non)) mNop) (mRet (mIf (mOp gEq (mVar 3) (mK (.str "early"))) (mOp gIx (mVar 5) (mK (.int 0))) (mOp gIx (mVar 5) (mK (.int 1)))))) mNop) (mSeq (mIfS (mOp gEq (mVar 4) (mK (.str "refuse"))) (mRet (mK .non)) mNop) (mSeq (mIfS (mOp gEq (mVar 4) (mK (.str "ahead"))) (mRet (mOp gSub (mVar 2) (mOp gDIx (mVar 1) (mOp gSub (mVar 2) (mOp gIx (mVar 0) (mK (.int (-1)))))))) mNop) (mRet (mOp gSub (mVar 2) (mOp gDIx (mVar 1) (mOp gSub (mVar 2) (mOp gIx (mVar 0) (mK (.int 0))))))))))))
def m_find_moment : List D → Sto → Res D := mDef 5 7 (mSeq (mDrop (mCall m_need_zone (mCons (mVar 0) mNil))) (mSeq (mDrop (mCall m_need_table (mCons (mVar 0) (mCons (mVar 1) mNil)))) (mSeq (mDrop (mCall m_need_number (mCons (mVar 2) mNil))) (mSeq (mDrop (mCall m_need_rules (mCons (mVar 3) (mCons (mVar 4) mNil)))) (mSeq (mAsg 5 (mDcA (mOp gIx (mVar 0) (mK (.int 0))) (tgN 6) mYes (mOp gSub (mVar 2) (mVar 6)) (mCall m_offset_in (mCons (mVar 1) (mCons (mOp gSub (mVar 2) (mVar 6)) mNil))) [6])) (mRet (mCall m_found_by (mCons (mOp gIx (mVar 0) (mK (.int 0))) (mCons (mVar 5) (mCons (mVar 2) (mCons (mVar 3) (mCons (mVar 4) mNil))))))))))))
def m_law_k17_whole_other_spacings : List D → Sto → Res D := mDef 1 14 (mSeq (mAsg 1 (mCall m_law_digits (mCons (mOp gIx (mFz (mCatV (mVar 0) (mLst (mCons (mK (.int 1000000000000000000000000000000000000788210055439916673024418)) mNil)))) (mK (.int 0))) mNil))) (mSeq (mAsg 2 (mCall m_law_make_region (mCons (mVar 1) mNil))) (mSeq (mAsg 3 (mCall m_law_cells_sights (mCons (mVar 1) (mCons (mVar 2) (mCons (mFz (mSlL (mVar 0) (mPart (mK (.int 1))) mNoPart)) mNil))))) (mSeq (mAsg 4 (mCall m_law_most_apart (mCons (mVar 3) mNil))) (mSeq (mAsg 5 (mOp gAdd (mOp gSub (mOp gIx (mOp gIx (mVar 2) (mK (.int 0))) (mK (.int (-1)))) (mOp gIx (mOp gIx (mVar 2) (mK (.int 0))) (mK (.int 0)))) (mK (.int 1)))) (mSeq (mFor (iSeq (mFz (mLst (mCons (mVar 4) (mCons (mOp gAdd (mVar 4) (mK (.int 1))) (mCons (mVar 5) (mCons (mK (.int 1000000)) (mCons (mOp gIx (mVar 2) (mK (.int 1))) (mCons (mOp gAdd (mVar 5) (mCall m_law_draw (mCons (mVar 1) (mCons (mOp gSub (mK (.int 1000001)) (mVar 5)) mNil)))) mNil))))))))) (tgN 6) (mIfS (mAnd (mOp gLe (mVar 5) (mVar 6)) (mOp gLe (mVar 6) (mK (.int 1000000)))) (mSeq (mAsg 7 (mTup (mCons (mOp gIx (mVar 2) (mK (.int 0))) (mCons (mVar 6) mNil)))) (mSeq (mIfS (mNot (mCall (m_law_same 30) (mCons (mCall m_can_hold (mCons (mVar 7) (mCons (mVar 3) mNil))) (mCons (mOp gLe (mVar 6) (mVar 4)) mNil)))) (mRet (mK (.bl false))) mNop) (mSeq (mIfS (mOp gNe (mOp (gIsN false) (mCall m_crowded (mCons (mVar 7) (mCons (mVar 3) mNil))) (mK .non)) (mOp gLe (mVar 6) (mVar 4))) (mRet (mK (.bl false))) mNop) (mSeq (mAsg 8 (mCall m_early_table (mCons (mVar 7) (mCons (mVar 3) mNil)))) (mSeq (mIfS (mOp gNe (mOp (gIsN false) (mVar 8) (mK .non)) (mOp gGt (mVar 6) (mVar 4))) (mRet (mK (.bl false))) mNop) (mIfS (mAnd (mOp (gIsN true) (mVar 8) (mK .non)) (mNot (mCall (m_law_same 30) (mCons (mVar 8) (mCons (mCall m_law_early_chart (mCons (mVar 7) (mCons (mVar 3) mNil))) mNil))))) (mRet (mK (.bl false))) mNop)))))) mNop)) (mSeq (mAsg 9 (mCall m_law_wider (mCons (mVar 1) (mCons (mVar 2) mNil)))) (mSeq (mIfS (mNot (mCall (m_law_same 30) (mCons (mCall m_can_hold (mCons (mVar 9) (mCons (mVar 3) mNil))) (mCons (mOp gLe (mOp gIx (mVar 2) (mK (.int 1))) (mVar 4)) mNil)))) (mRet (mK (.bl false))) mNop) (mSeq (mIfS (mNot (mCall (m_law_same 30) (mCons (mCall m_crowded (mCons (mVar 9) (mCons (mVar 3) mNil))) (mCons (mCall m_crowded (mCons (mVar 2) (mCons (mVar 3) mNil))) mNil)))) (mRet (mK (.bl false))) mNop) (mSeq (mIfS (mNot (mCall (m_law_same 30) (mCons (mCall m_early_table (mCons (mVar 9) (mCons (mVar 3) mNil))) (mCons (mCall m_early_table (mCons (mVar 2) (mCons (mVar 3) mNil))) mNil)))) (mRet (mK (.bl false))) mNop) (mSeq (mFor (iRange1 (mCons (mK (.int 4)) mNil)) (tgN 10) (mSeq (mAsg 11 (mCall m_law_beside (mCons (mVar 1) (mCons (mVar 2) (mCons (mVar 3) mNil))))) (mSeq (mAsg 8 (mCall m_offsets_left (mCons (mVar 9) (mCons (mVar 3) (mCons (mVar 11) mNil))))) (mSeq (mAsg 12 (mCall m_offsets_left (mCons (mVar 2) (mCons (mVar 3) (mCons (mVar 11) mNil))))) (mIfS (mOr (mNot (mIsi .lst (mVar 8))) (mNot (mCall (m_law_same 30) (mCons (mFz (mLcA (mVar 8) (tgN 13) (mOp (gIn false) (mVar 13) (mOp gIx (mVar 2) (mK (.int 0)))) (mVar 13) [13])) (mCons (mVar 12) mNil))))) (mRet (mK (.bl false))) mNop))))) (mRet (mK (.bl true))))))))))))))
def m_law_found : List D → Sto → Res D := mDef 4 9 (mSeq (mAsg 4 (mCall m_law_hours_of (mCons (mVar 0) (mCons (mVar 1) mNil)))) (mSeq (mIfS (mOp gEq (mCallB gLen (mCons (mVar 4) mNil)) (mK (.int 1))) (mRet (mOp gIx (mVar 4) (mK (.int 0)))) mNop) (mSeq (mIfS (mOp gEq (mCallB gLen (mCons (mVar 4) mNil)) (mK (.int 2))) (mRet (mOp gDIx (mDisp (mPCons (mK (.str "early")) (mOp gIx (mVar 4) (mK (.int 0))) (mPCons (mK (.str "late")) (mOp gIx (mVar 4) (mK (.int 1))) (mPCons (mK (.str "refuse")) (mK .non) mPNil)))) (mVar 2))) mNop) (mSeq (mAsg 5 (mOp gIx (mVar 0) (mK (.int 0)))) (mSeq (mAsg 6 mDNew) (mSeq (mForA (mOp gIx (mVar 0) (mK (.int 1))) (tgT 2 (tgCons (tgN 7) (tgCons (tgN 8) tgNil))) (mSeq (mIfS (mAnd (mOp gGe (mOp gSub (mVar 1) (mVar 5)) (mVar 7)) (mOp gLt (mOp gSub (mVar 1) (mVar 8)) (mVar 7))) (mAsg 6 (mDisp (mPCons (mK (.str "ahead")) (mOp gSub (mVar 1) (mVar 5)) (mPCons (mK (.str "behind")) (mOp gSub (mVar 1) (mVar 8)) (mPCons (mK (.str "refuse")) (mK .non) mPNil))))) mNop) (mAsg 5 (mVar 8)))) (mRet (mOp gDIx (mVar 6) (mVar 3)))))))))
def m_law_k06_finding_by_rules : List D → Sto → Res D := mDef 1 10 (mSeq (mFor (iSeq (mFz (mCatL (mLst (mCons (mK (.int 1000000000000000000000000000000000000640825519087334206917753)) mNil)) (mSlL (mVar 0) mNoPart (mPart (mK (.int 8))))))) (tgN 1) (mSeq (mAsg 2 (mCall m_law_digits (mCons (mVar 1) mNil))) (mSeq (mAsg 3 (mCall m_law_make_region (mCons (mVar 2) mNil))) (mSeq (mAsg 4 (mCall m_law_make_chart (mCons (mVar 2) (mCons (mVar 3) (mCons (mOp gIx (mFz (mLst (mCons (mK (.int 2)) (mCons (mK (.int 9)) (mCons (mK (.int 60)) mNil))))) (mCall m_law_draw (mCons (mVar 2) (mCons (mK (.int 3)) mNil)))) mNil))))) (mFor (iRange1 (mCons (mK (.int 10)) mNil)) (tgN 5) (mSeq (mAsg 6 (mOp gAdd (mCall m_law_near (mCons (mVar 2) (mCons (mVar 3) (mCons (mVar 4) mNil)))) (mOp gIx (mOp gIx (mVar 3) (mK (.int 0))) (mCall m_law_draw (mCons (mVar 2) (mCons (mCallB gLen (mCons (mOp gIx (mVar 3) (mK (.int 0))) mNil)) mNil)))))) (mSeq (mAsg 6 (mOp gAdd (mVar 6) (mOp gIx (mFz (mLst (mCons (mK (.int 0)) (mCons (mK (.int 0)) (mCons (mK (.int 0)) (mCons (mK (.int 0)) (mCons (mK (.int 0)) (mCons (mK (.int 0)) (mCons (mK (.int 1000000000000)) (mCons (mK (.int (-1000000000000))) mNil)))))))))) (mCall m_law_draw (mCons (mVar 2) (mCons (mK (.int 8)) mNil)))))) (mSeq (mAsg 7 (mOp gIx (mFz (mLst (mCons (mK (.str "early")) (mCons (mK (.str "late")) (mCons (mK (.str "refuse")) mNil))))) (mCall m_law_draw (mCons (mVar 2) (mCons (mK (.int 3)) mNil))))) (mSeq (mAsg 8 (mOp gIx (mFz (mLst (mCons (mK (.str "ahead")) (mCons (mK (.str "behind")) (mCons (mK (.str "refuse")) mNil))))) (mCall m_law_draw (mCons (mVar 2) (mCons (mK (.int 3)) mNil))))) (mSeq (mAsg 9 (mCallD m_find_moment 3 2 [0, 1, 2, 4, 3] [] (mCons (mVar 3) (mCons (mVar 4) (mCons (mVar 6) mNil))) (mCons (mVar 8) (mCons (mVar 7) mNil)))) (mSeq (mIfS (mNot (mCall (m_law_same 30) (mCons (mVar 9) (mCons (mCall m_law_found (mCons (mVar 4) (mCons (mVar 6) (mCons (mVar 7) (mCons (mVar 8) mNil))))) mNil)))) (mRet (mK (.bl false))) mNop) (mSeq (mIfS (mNot (mCall (m_law_same 30) (mCons (mCallD m_find_moment 3 0 [0, 1, 2, 3, 4] [(.str "early"), (.str "ahead")] (mCons (mVar 3) (mCons (mVar 4) (mCons (mVar 6) mNil))) mNil) (mCons (mCall m_law_found (mCons (mVar 4) (mCons (mVar 6) (mCons (mK (.str "early")) (mCons (mK (.str "ahead")) mNil))))) mNil)))) (mRet (mK (.bl false))) mNop) (mSeq (mAsg 9 (mCallD m_find_moment 0 4 [2, 1, 0, 3, 4] [(.str "ahead")] mNil (mCons (mVar 6) (mCons (mVar 4) (mCons (mVar 3) (mCons (mVar 7) mNil)))))) (mSeq (mIfS (mNot (mCall (m_law_same 30) (mCons (mVar 9) (mCons (mCall m_law_found (mCons (mVar 4) (mCons (mVar 6) (mCons (mVar 7) (mCons (mK (.str "ahead")) mNil))))) mNil)))) (mRet (mK (.bl false))) mNop) (mSeq (mAsg 9 (mCallD m_find_moment 3 1 [0, 1, 2, 4, 3] [(.str "early")] (mCons (mVar 3) (mCons (mVar 4) (mCons (mVar 6) mNil))) (mCons (mVar 8) mNil))) (mIfS (mNot (mCall (m_law_same 30) (mCons (mVar 9) (mCons (mCall m_law_found (mCons (mVar 4) (mCons (mVar 6) (mCons (mK (.str "early")) (mCons (mVar 8) mNil))))) mNil)))) (mRet (mK (.bl false))) mNop)))))))))))))))) (mRet (mK (.bl true))))
end
end Dm
-- text DmMisc
namespace Dm
open PySem L2
open PySem.W (Frag)
section
variable {X : Cx} {W : WX} {tg e a b c : Expr} {es : List Expr} {ma mb mc m : ME} {mr : MA} {pos p p1 p2 p3 : Pos}
/-! ### x, y = a, b -/
def mPar (i j : Nat) (a : MA) : MS := fun ρ S => ofRes (a ρ S) ρ fun ds S1 => match ds with
  | [d, d'] => .nx ((ρ.set i (some d)).set j (some d')) S1
  | _ => .bad
theorem ds_par (i j : Nat) {x y : Str} {px py pt pt2 : Pos} {kt k2 : Nat} (hc : X.calm = true) (hN : X.N.Nodup) (ha : DA X W [a, b] mr) (hij : i ≠ j := by decide) (hi : X.N[i]? = some x := by rfl) (hj : X.N[j]? = some y := by rfl)
    (hx : X.env.scope.names.lookup x = some .local := by rfl) (hy : X.env.scope.names.lookup y = some .local := by rfl)
    (hw : swappedStores [.Tuple [.Name x px, .Name y py] kt pt] (.Tuple [a, b] k2 pt2) X.env = pure (some [x, y]) := by rfl)
    (hs : swapsWithSole [.Tuple [.Name x px, .Name y py] kt pt] (.Tuple [a, b] k2 pt2) pos.line X.env = pure false := by rfl) :
    DS X W (.Assign [.Tuple [.Name x px, .Name y py] kt pt] (.Tuple [a, b] k2 pt2) pos) (mPar i j mr) := by
  obtain ⟨ta, pa, ka⟩ := ha
  refine ⟨_, ps_par hc hN hi hj hij hx hy pa hw hs, fun ξ μ σ H ρ S D g s h => ka ξ μ σ H ρ S _ g s (WS'.bind g h fun ds S1 vs μ1 H1 u1 s1 r1 h1 => ?_)⟩
  cases r1 with
  | nil => exact h1.elim
  | @cons v vs d ds r rr =>
    cases rr with
    | nil => exact h1.elim
    | @cons v2 vs2 d2 ds2 r2 rr2 =>
      cases rr2 with
      | cons _ _ => exact h1.elim
      | nil => exact ⟨v, v2, rfl, h1 _ μ1 H1 .refl s1 (((g.up u1).set i r).set j r2)⟩
/-! ### x, y = a tuple, a list that stands still -/
def tgU (n : Nat) (f : List D → Rho → Option Rho) : D → Rho → Option Rho := fun d ρ => match d with
  | .tup ds => if ds.length = n then f ds ρ else none
  | .lst ds => if ds.length = n then f ds ρ else none
  | _ => none
theorem pgOr {X : Cx} {tg : Expr} {g g' : TG} (h : PG X tg g) (h' : PG X tg g') : PG X tg (fun v σ H Q => g v σ H Q ∨ g' v σ H Q) := ⟨fun pins s σ H v u Q I r hw => hw.elim (h.run pins s σ H v u Q I r) (h'.run pins s σ H v u Q I r)⟩
theorem dg_any {k n : Nat} {f : List D → Rho → Option Rho} {is : List Nat} {tp : Pos} (hc : X.calm = true) (h : DGs X es f is) (hn : (assignEach es X.env).length = n := by rfl) (hst : (assignEach es X.env).findIdx? (·.1) = none := by rfl) : DG X (.Tuple es k tp) (tgU n f) is := by
  obtain ⟨t, p, k⟩ := h
  refine ⟨_, pgOr (pg_tup hc p hn hst) (pg_lst hc p hn hst), fun ξ μ σ H ρ v d ρ' Q g r e kk => ?_⟩
  cases r with
  | @tup a xs ds fz r =>
    unfold tgU at e
    by_cases c : ds.length = n
    · simp only [if_pos c] at e
      exact .inl ⟨a, xs, rfl, fz.sq, by rw [r.length]; exact c, k ξ μ σ H ρ xs ds ρ' Q g r e kk⟩
    · simp only [if_neg c] at e
      exact nomatch e
  | @lst a xs ds fz r =>
    unfold tgU at e
    by_cases c : ds.length = n
    · simp only [if_pos c] at e
      exact .inr ⟨a, xs, rfl, fz.sq, by rw [r.length]; exact c, k ξ μ σ H ρ xs ds ρ' Q g r e kk⟩
    · simp only [if_neg c] at e
      exact nomatch e
  | _ => exact nomatch e
/-! ### sum, max, min of a list of ints -/
def gSum : Sto → List D → Option D := fun S ds => match ds with
  | [d] => (lstOf S d).bind fun es => (intsOf es).map fun ns => .int ns.sum
  | _ => none
theorem c_sum : CallD X (rSum X.K) gSum := by
  intro ξ μ H S ds vs z Q s r e k
  unfold gSum at e
  cases r with
  | nil => exact nomatch e
  | @cons v vs d ds r rr =>
    cases rr with
    | cons _ _ => exact nomatch e
    | nil =>
      simp only at e
      cases q : lstOf S d with
      | none => rw [q] at e; exact nomatch e
      | some es =>
        rw [q] at e
        have e : (intsOf es).map (fun ns => D.int ns.sum) = some z := e
        obtain ⟨a, xs, rfl, h1, h2⟩ := RD.lstS s r q
        cases c : intsOf es with
        | none => rw [c] at e; exact nomatch e
        | some ns =>
          rw [c] at e; cases e
          have ee := intsOf_eq c
          subst ee
          have ev := rdsInts h2
          subst ev
          exact ⟨a, ns, rfl, h1, k _ μ H .refl s (.int _)⟩
def mxI : List Int → Int
  | [] => 0
  | [x] => x
  | x :: r => if mxI r > x then mxI r else x
theorem mxI_mem : ∀ {l : List Int}, 0 < l.length → mxI l ∈ l ∧ ∀ y, y ∈ l → y ≤ mxI l
  | [], h => absurd h (by simp)
  | [x], _ => ⟨by simp [mxI], fun y hy => by simp at hy; simp [mxI, hy]⟩
  | x :: y :: r, _ => by
    obtain ⟨h1, h2⟩ := mxI_mem (l := y :: r) (by simp)
    rw [mxI]
    · by_cases c : mxI (y :: r) > x
      · rw [if_pos c]
        refine ⟨List.mem_cons_of_mem _ h1, fun z hz => ?_⟩
        rcases List.mem_cons.mp hz with rfl | hz
        · omega
        · exact h2 z hz
      · rw [if_neg c]
        refine ⟨List.mem_cons_self, fun z hz => ?_⟩
        rcases List.mem_cons.mp hz with rfl | hz
        · omega
        · have := h2 z hz; omega
    · simp
def gMax1 : Sto → List D → Option D := fun S ds => match ds with
  | [d] => (lstOf S d).bind fun es => (intsOf es).bind fun ns => if 0 < ns.length then some (.int (mxI ns)) else none
  | _ => none
theorem c_max1 : CallD X (rMax X.K) gMax1 := by
  intro ξ μ H S ds vs z Q s r e k
  unfold gMax1 at e
  cases r with
  | nil => exact nomatch e
  | @cons v vs d ds r rr =>
    cases rr with
    | cons _ _ => exact nomatch e
    | nil =>
      simp only at e
      cases q : lstOf S d with
      | none => rw [q] at e; exact nomatch e
      | some es =>
        rw [q] at e
        have e : (intsOf es).bind (fun ns => if 0 < ns.length then some (D.int (mxI ns)) else none) = some z := e
        obtain ⟨a, xs, rfl, h1, h2⟩ := RD.lstS s r q
        cases c : intsOf es with
        | none => rw [c] at e; exact nomatch e
        | some ns =>
          rw [c] at e
          simp only [Option.bind_some] at e
          by_cases hl : 0 < ns.length
          · rw [if_pos hl] at e; cases e
            have ee := intsOf_eq c
            subst ee
            have ev := rdsInts h2
            subst ev
            refine ⟨a, ns, rfl, h1, hl, fun m hm hy => ?_⟩
            obtain ⟨m1, m2⟩ := mxI_mem hl
            have : m = mxI ns := Int.le_antisymm (m2 m hm) (hy _ m1)
            rw [this]
            exact k _ μ H .refl s (.int _)
          · rw [if_neg hl] at e; exact nomatch e
/-! ### a kept list some times -/
def mRepC (a b : ME) : MA := fun ρ S => (a ρ S).bind fun x S1 => (b ρ S1).bind fun y S2 => match x, y with
  | .cell n, .int k => match S2[n]? with
    | some (.lst xs) => if k < 1000000 ∧ xs.length * k.toNat ≤ 16777216 ∧ -1000000 < k then .ok (List.replicate k.toNat xs).flatten S2 else .bad
    | _ => .bad
  | _, _ => .bad
theorem dl_repC (ha : DE X W a ma) (hb : DE X W b mb) : DL X W (.BinOp a .Mult b pos) (mRepC ma mb) := by
  obtain ⟨ta, pa, ka⟩ := ha
  obtain ⟨tb, pb, kb⟩ := hb
  refine ⟨_, pe_op op_rep pa pb, fun ξ μ σ H ρ S Q g s h => ka ξ μ σ H ρ S _ g s (WL'.bind h fun x S1 v μ1 H1 u1 s1 r1 h1 => ?_)⟩
  refine kb ξ μ1 σ H1 ρ S1 _ (g.up u1) s1 (WL'.bind h1 fun y S2 w μ2 H2 u2 s2 r2 h2 => ?_)
  have r1 := r1.up u2
  cases r1 with
  | @cell a n ea =>
    cases r2 with
    | int k =>
      simp only at h2
      cases q : S2[n]? with
      | none => rw [q] at h2; exact h2.elim
      | some c =>
        rw [q] at h2
        cases c with
        | lst xs =>
          simp only at h2
          by_cases c : k < 1000000 ∧ xs.length * k.toNat ≤ 16777216 ∧ -1000000 < k
          · rw [if_pos c] at h2
            obtain ⟨vs, e1, e2⟩ := s2.at_ n a _ ea q
            refine ⟨a, k, vs, rfl, rfl, e1, by omega, by omega, by rw [e2.length, sizeLine_eq]; exact c.2.1, fun p hp => ?_⟩
            exact h2 p _ μ2 _ (.fresh hp) hp (s2.holds hp) ((RDs.rep e2 k.toNat).mv (.holds hp)) upd_same
          · rw [if_neg c] at h2; exact h2.elim
        | _ => exact h2.elim
    | _ => exact h2.elim
  | _ => exact h2.elim
/-! ### list(range(a, b)) -/
noncomputable def mLstRg (a : MA) : MA := fun ρ S => (a ρ S).bind fun ds S1 => match ds with
  | [.int i, .int j] => @ite _ (-1000000000000000000 ≤ i ∧ i ≤ 1000000000000000000 ∧ -1000000000000000000 ≤ j ∧ j ≤ 1000000000000000000 ∧ j - i ≤ 16777216) (Classical.propDecidable _) (.ok (rngD i (j - i).toNat) S1) .bad
  | _ => .bad
theorem rds_rg {F : Fx} {μ : List Addr} {H : Hp} (i j : Int) : RDs F μ H (rgV i j) (rngD i (j - i).toNat) := by
  have e1 : rgV i j = ((List.range (j - i).toNat).map fun k : Nat => i + k).map V.int := by unfold rgV; rw [List.map_map] <;> rfl
  have e2 : rngD i (j - i).toNat = ((List.range (j - i).toNat).map fun k : Nat => i + k).map D.int := by unfold rngD; rw [List.map_map] <;> rfl
  rw [e1, e2]
  exact intsRds
theorem dl_listRg2 (hm1 : X.mg "list" = none) (hm2 : X.mg "range" = none) (hc : X.calm = true) (ha : DE X W a ma) (hb : DE X W b mb) (hg1 : Gl X "list" := by rfl) (hg2 : Gl X "range" := by rfl)
    (na : starEach [a, b] X.env = (false, eval a X.env) :: starEach [b] X.env := by rfl) (nb : starEach [b] X.env = (false, eval b X.env) :: starEach [] X.env := by rfl) (np : (backTo p2 (starEach [b] X.env)).any (·.1) = false := by rfl)
    (nc : starEach [.Call (.Name "range" p1) [a, b] [] p2] X.env = (false, eval (.Call (.Name "range" p1) [a, b] [] p2) X.env) :: starEach [] X.env := by rfl) :
    DL X W (.Call (.Name "list" p) [.Call (.Name "range" p1) [a, b] [] p2] [] pos) (mLstRg (mCons ma (mCons mb mNil))) := by
  obtain ⟨ta, pa, ka⟩ := ha
  obtain ⟨tb, pb, kb⟩ := hb
  refine ⟨_, pe_listRg hc hg1 hm1 (prg_2 hg2 hm2 pa pb na nb np) nc, fun ξ μ σ H ρ S Q g s h => ?_⟩
  unfold mLstRg mCons at h
  refine ka ξ μ σ H ρ S _ g s ?_
  cases e1 : ma ρ S with
  | bad => rw [e1] at h; exact h.elim
  | exc cc fs S1 => rw [e1] at h; exact h
  | ok x S1 =>
    intro v μ1 H1 u1 s1 r1
    refine kb ξ μ1 σ H1 ρ S1 _ (g.up u1) s1 ?_
    rw [e1] at h
    cases e2 : mb ρ S1 with
    | bad => simp only [Res.bind, e2] at h; exact h.elim
    | exc cc fs S2 =>
      simp only [Res.bind, e2] at h
      exact fun cls dd μ' H' u' => h cls dd μ' H' (u1.trans u')
    | ok y S2 =>
      simp only [Res.bind, e2, mNil] at h
      intro w μ2 H2 u2 s2 r2
      cases x with
      | int i =>
        cases r1
        cases y with
        | int j =>
          cases r2
          simp only at h
          by_cases c : -1000000000000000000 ≤ i ∧ i ≤ 1000000000000000000 ∧ -1000000000000000000 ≤ j ∧ j ≤ 1000000000000000000 ∧ j - i ≤ 16777216
          · rw [if_pos c] at h
            refine ⟨i, j, rfl, rfl, ⟨by omega, by omega, by omega, by omega, by omega⟩, fun q hq => ?_⟩
            have h := WL'.shift (u1.trans u2) h
            exact h q _ μ2 _ (.fresh hq) hq (s2.holds hq) (rds_rg i j) upd_same
          · rw [if_neg c] at h; exact h.elim
        | _ => exact h.elim
      | _ => cases y <;> exact h.elim
end
/-! ### what they do -/
section
variable {S : Sto} {ρ : Rho} {N B C : Rho → Sto → Prop} {R : D → Sto → Prop}
@[simp] theorem does_par {i j : Nat} {a : MA} : (mPar i j a ρ S).Does N R B C = (a ρ S).Does fun ds S1 => match ds with
    | [d, d'] => N ((ρ.set i (some d)).set j (some d')) S1
    | _ => False := by
  unfold mPar
  rw [does_ofRes]; congr 1; funext ds S1
  match ds with
  | [] => rfl
  | [_] => rfl
  | [_, _] => rfl
  | _ :: _ :: _ :: _ => rfl
@[simp] theorem tgU_tup {m : Nat} {f : List D → Rho → Option Rho} {ds : List D} : tgU m f (.tup ds) ρ = if ds.length = m then f ds ρ else none := rfl
@[simp] theorem tgU_lst {m : Nat} {f : List D → Rho → Option Rho} {ds : List D} : tgU m f (.lst ds) ρ = if ds.length = m then f ds ρ else none := rfl
@[simp] theorem does_repC {a b : ME} {Q : List D → Sto → Prop} : (mRepC a b ρ S).Does Q = (a ρ S).Does fun x S1 => (b ρ S1).Does fun y S2 => match x, y with
    | .cell n, .int k => ∃ xs, S2[n]? = some (.lst xs) ∧ (k < 1000000 ∧ xs.length * k.toNat ≤ 16777216 ∧ -1000000 < k) ∧ Q (List.replicate k.toNat xs).flatten S2
    | _, _ => False := by
  unfold mRepC
  rw [does_bind]; congr 1; funext x S1
  rw [does_bind]; congr 1; funext y S2
  cases x with
  | cell n =>
    cases y with
    | int k =>
      simp only
      cases e : S2[n]? with
      | none => simp [Res.Does]
      | some c =>
        cases c with
        | lst xs =>
          simp only
          by_cases h : k < 1000000 ∧ xs.length * k.toNat ≤ 16777216 ∧ -1000000 < k
          · rw [if_pos h]; simp [h]
          · rw [if_neg h]; simp [h, Res.Does]
        | _ => simp [Res.Does]
    | _ => rfl
  | _ => cases y <;> rfl
@[simp] theorem does_lstRg {a : MA} {Q : List D → Sto → Prop} : (mLstRg a ρ S).Does Q = (a ρ S).Does fun ds S1 => match ds with
    | [.int i, .int j] => (-1000000000000000000 ≤ i ∧ i ≤ 1000000000000000000 ∧ -1000000000000000000 ≤ j ∧ j ≤ 1000000000000000000 ∧ j - i ≤ 16777216) ∧ Q (rngD i (j - i).toNat) S1
    | _ => False := by
  unfold mLstRg
  rw [does_bind]; congr 1; funext ds S1
  match ds with
  | [] => rfl
  | [d] => cases d <;> rfl
  | [d, d'] =>
    cases d with
    | int i =>
      cases d' with
      | int j =>
        simp only
        by_cases h : -1000000000000000000 ≤ i ∧ i ≤ 1000000000000000000 ∧ -1000000000000000000 ≤ j ∧ j ≤ 1000000000000000000 ∧ j - i ≤ 16777216
        · rw [if_pos h]; simp [h]
        · rw [if_neg h]; simp [h, Res.Does]
      | _ => rfl
    | _ => cases d' <;> rfl
  | d :: d' :: _ :: _ => cases d <;> (try rfl) <;> cases d' <;> rfl
theorem gSum_ints {d : D} {ns : List Int} (h : lstOf S d = some (ns.map .int)) : gSum S [d] = some (.int ns.sum) := by
  show (lstOf S d).bind _ = _
  rw [h]
  show (intsOf (ns.map D.int)).map _ = _
  rw [intsOf_map] <;> rfl
theorem gMax1_ints {d : D} {ns : List Int} (h : lstOf S d = some (ns.map .int)) (hl : 0 < ns.length) : gMax1 S [d] = some (.int (mxI ns)) := by
  show (lstOf S d).bind _ = _
  rw [h]
  show (intsOf (ns.map D.int)).bind _ = _
  rw [intsOf_map]
  show (if 0 < ns.length then _ else _) = _
  rw [if_pos hl]
end
end Dm
-- text Hw4
namespace Dm
open PySem L2
noncomputable section
def m_law_gone : List D → Sto → Res D := mDef 3 9 (mSeq (mAsg 3 (mCall m_moments_of (mCons (mVar 0) (mCons (mVar 1) (mCons (mVar 2) mNil))))) (mSeq (mIfS (mOr (mNot (mIsi .lst (mVar 3))) (mOr (mOp gGt (mCallB gLen (mCons (mVar 3) mNil)) (mK (.int 2))) (mNot (mCallB gAll (mCons (mFz (mLcA (mVar 3) (tgN 8) mYes (mCall m_law_whole (mCons (mVar 8) mNil)) [8])) mNil))))) (mRet (mK (.bl false))) mNop) (mSeq (mIfS (mNot (mCallB gAll (mCons (mFz (mLcA (mVar 3) (tgN 8) mYes (mCall (m_law_same 30) (mCons (mCall m_reading_at (mCons (mVar 0) (mCons (mVar 1) (mCons (mVar 8) mNil)))) (mCons (mVar 2) mNil))) [8])) mNil))) (mRet (mK (.bl false))) mNop) (mSeq (mAsg 4 (mNew (mLst mNil))) (mSeq (mFor (iSeq (mFz (mLst (mCons (mK (.str "early")) (mCons (mK (.str "late")) (mCons (mK (.str "refuse")) mNil)))))) (tgN 5) (mFor (iSeq (mFz (mLst (mCons (mK (.str "ahead")) (mCons (mK (.str "behind")) (mCons (mK (.str "refuse")) mNil)))))) (tgN 6) (mApp (mVar 4) (mCallD m_find_moment 3 2 [0, 1, 2, 3, 4] [] (mCons (mVar 0) (mCons (mVar 1) (mCons (mVar 2) mNil))) (mCons (mVar 5) (mCons (mVar 6) mNil)))))) (mSeq (mIfS (mOp gEq (mCallB gLen (mCons (mVar 3) mNil)) (mK (.int 1))) (mRet (mCall (m_law_same 30) (mCons (mVar 4) (mCons (mFz (mRepC (mVar 3) (mK (.int 9)))) mNil)))) mNop) (mSeq (mIfS (mOp gEq (mCallB gLen (mCons (mVar 3) mNil)) (mK (.int 2))) (mRet (mAnd (mOp gLt (mOp gIx (mVar 3) (mK (.int 0))) (mOp gIx (mVar 3) (mK (.int 1)))) (mCall (m_law_same 30) (mCons (mVar 4) (mCons (mFz (mCatL (mCatL (mRepL (mSlL (mVar 3) mNoPart (mPart (mK (.int 1)))) (mK (.int 3))) (mRepL (mSlL (mVar 3) (mPart (mK (.int 1))) mNoPart) (mK (.int 3)))) (mRepL (mLst (mCons (mK .non) mNil)) (mK (.int 3))))) mNil))))) mNop) (mSeq (mIfS (mOr (mNot (mCall m_law_whole (mCons (mOp gIx (mVar 4) (mK (.int 0))) mNil))) (mOr (mNot (mCall m_law_whole (mCons (mOp gIx (mVar 4) (mK (.int 1))) mNil))) (mOp gGe (mOp gIx (mVar 4) (mK (.int 1))) (mOp gIx (mVar 4) (mK (.int 0)))))) (mRet (mK (.bl false))) mNop) (mSeq (mAsg 7 (mFz (mLst (mCons (mCall m_offset_at (mCons (mVar 0) (mCons (mVar 1) (mCons (mOp gIx (mVar 4) (mK (.int 1))) mNil)))) (mCons (mCall m_offset_at (mCons (mVar 0) (mCons (mVar 1) (mCons (mOp gIx (mVar 4) (mK (.int 0))) mNil)))) mNil))))) (mRet (mAnd (mOp gEq (mVar 7) (mFz (mLst (mCons (mOp gSub (mVar 2) (mOp gIx (mVar 4) (mK (.int 0)))) (mCons (mOp gSub (mVar 2) (mOp gIx (mVar 4) (mK (.int 1)))) mNil))))) (mCall (m_law_same 30) (mCons (mVar 4) (mCons (mFz (mRepL (mLst (mCons (mOp gIx (mVar 4) (mK (.int 0))) (mCons (mOp gIx (mVar 4) (mK (.int 1))) (mCons (mK .non) mNil)))) (mK (.int 3)))) mNil))))))))))))))
def m_law_cells_chart : List D → Sto → Res D := mDef 3 13 (mSeq (mAsgG (tgT 2 (tgCons (tgN 3) (tgCons (tgN 4) tgNil))) (mVar 1)) (mSeq (mAsg 5 (mCall m_law_draw (mCons (mVar 0) (mCons (mCallB gLen (mCons (mVar 3) mNil)) mNil)))) (mSeq (mAsg 6 (mOp gIx (mVar 3) (mVar 5))) (mSeq (mAsg 7 (mCall m_law_any_hour (mCons (mVar 0) mNil))) (mSeq (mAsg 8 (mNew (mLst mNil))) (mSeq (mAsg 2 (mFz (mCatV (mVar 2) (mLc (iRange1 (mCons (mK (.int 3)) mNil)) (tgN 12) mYes (mCall m_law_draw (mCons (mVar 0) (mCons (mK (.int 100000000000000000)) mNil))) [12])))) (mSeq (mForA (mFz (mSlL (mVar 2) mNoPart (mPart (mOp gMul (mK (.int 60)) (mCallB gInt1 (mCons (mOp gGt (mCallB gLen (mCons (mVar 3) mNil)) (mK (.int 1))) mNil)))))) (tgN 9) (mSeq (mAsg 10 (mCall m_law_digits (mCons (mVar 9) mNil))) (mSeq (mAsg 5 (mOp gMod (mCallB gInt1 (mCons (mOp gAdd (mOp gAdd (mVar 5) (mK (.int 1))) (mCall m_law_draw (mCons (mVar 10) (mCons (mOp gSub (mCallB gLen (mCons (mVar 3) mNil)) (mK (.int 1))) mNil)))) mNil)) (mCallB gLen (mCons (mVar 3) mNil)))) (mSeq (mApp (mVar 8) (mTup (mCons (mVar 7) (mCons (mOp gIx (mVar 3) (mVar 5)) mNil)))) (mSeq (mAsg 11 (mCall m_law_draw (mCons (mVar 10) (mCons (mK (.int 4)) mNil)))) (mSeq (mAsg 7 (mOp gAdd (mVar 7) (mVar 4))) (mIfS (mOp gGt (mVar 11) (mK (.int 1))) (mAsg 7 (mOp gAdd (mVar 7) (mCall m_law_draw (mCons (mVar 10) (mCons (mOp gIx (mFz (mLst (mCons (mK (.int 0)) (mCons (mK (.int 0)) (mCons (mK (.int 5)) (mCons (mOp gMul (mK (.int 2)) (mVar 4)) mNil)))))) (mVar 11)) mNil))))) mNop))))))) (mRet (mTup (mCons (mVar 6) (mCons (mCallB gTuple (mCons (mVar 8) mNil)) mNil)))))))))))
def m_law_k09_whole_there_and_back : List D → Sto → Res D := mDef 1 13 (mSeq (mAsg 1 (mCall m_law_digits (mCons (mOp gIx (mFz (mCatV (mVar 0) (mLst (mCons (mK (.int 1000000000000000000000000000000000000426603395518820740069155)) mNil)))) (mK (.int 0))) mNil))) (mSeq (mAsg 2 (mCall m_law_make_region (mCons (mVar 1) mNil))) (mSeq (mAsg 3 (mCall m_law_cells_chart (mCons (mVar 1) (mCons (mVar 2) (mCons (mFz (mSlL (mVar 0) (mPart (mK (.int 1))) mNoPart)) mNil))))) (mSeq (mFor (iRange1 (mCons (mK (.int 5)) mNil)) (tgN 4) (mSeq (mAsg 5 (mCall m_law_near (mCons (mVar 1) (mCons (mVar 2) (mCons (mVar 3) mNil))))) (mSeq (mAsg 6 (mCall m_reading_at (mCons (mVar 2) (mCons (mVar 3) (mCons (mVar 5) mNil))))) (mSeq (mIfS (mOr (mNot (mCall m_law_whole (mCons (mVar 6) mNil))) (mOp (gIn true) (mVar 5) (mCall m_moments_of (mCons (mVar 2) (mCons (mVar 3) (mCons (mVar 6) mNil)))))) (mRet (mK (.bl false))) mNop) (mSeq (mAsg 7 (mOp gAdd (mVar 5) (mOp gIx (mOp gIx (mVar 2) (mK (.int 0))) (mCall m_law_draw (mCons (mVar 1) (mCons (mCallB gLen (mCons (mOp gIx (mVar 2) (mK (.int 0))) mNil)) mNil)))))) (mIfS (mOr (mNot (mCall m_law_gone (mCons (mVar 2) (mCons (mVar 3) (mCons (mVar 6) mNil))))) (mNot (mCall m_law_gone (mCons (mVar 2) (mCons (mVar 3) (mCons (mVar 7) mNil)))))) (mRet (mK (.bl false))) mNop)))))) (mSeq (mAsgG (tgU 2 (tgCons (tgN 8) (tgCons (tgN 9) tgNil))) (mFz (mLst (mCons (mOp gIx (mOp gIx (mVar 2) (mK (.int 0))) (mK (.int 0))) (mCons (mOp gIx (mOp gIx (mVar 2) (mK (.int 0))) (mK (.int (-1)))) mNil))))) (mSeq (mIfS (mOp gLt (mOp gSub (mVar 9) (mVar 8)) (mK (.int 61))) (mSeq (mAsg 5 (mOp gAdd (mCall m_law_near (mCons (mVar 1) (mCons (mVar 2) (mCons (mVar 3) mNil)))) (mVar 8))) (mSeq (mAsg 10 (mOp gAdd (mK (.int 1)) (mCall m_law_draw (mCons (mVar 1) (mCons (mK (.int 20)) mNil))))) (mSeq (mAsg 11 (mCallB gSum (mCons (mFz (mLc (iRange1 (mCons (mVar 10) mNil)) (tgN 4) mYes (mCallB gLen (mCons (mCall m_moments_of (mCons (mVar 2) (mCons (mVar 3) (mCons (mOp gAdd (mVar 5) (mVar 4)) mNil)))) mNil)) [4])) mNil))) (mSeq (mAsg 7 (mFz (mLc (iSeq (mFz (mLstRg (mCons (mOp gSub (mVar 5) (mVar 9)) (mCons (mOp gSub (mOp gAdd (mVar 5) (mVar 10)) (mVar 8)) mNil))))) (tgN 4) mYes (mCall m_reading_at (mCons (mVar 2) (mCons (mVar 3) (mCons (mVar 4) mNil)))) [4]))) (mIfS (mOp gNe (mVar 11) (mCallB gLen (mCons (mFz (mLcA (mVar 7) (tgN 12) (mAnd (mOp gLe (mVar 5) (mVar 12)) (mOp gLt (mVar 12) (mOp gAdd (mVar 5) (mVar 10)))) (mVar 12) [12])) mNil))) (mRet (mK (.bl false))) mNop))))) mNop) (mRet (mK (.bl true)))))))))
end
end Dm
-- text DmBack
namespace Dm
open PySem L2
section
variable {X : Cx} {W : WX} {e : Expr} {m : ME} {te te' : TE} {k : Nat} {p1 p2 p3 pos : Pos}
theorem peOr (h : PE X e te) (h' : PE X e te') : PE X e (fun σ H Q => te σ H Q ∨ te' σ H Q) := ⟨fun pins s σ H Q I hw => hw.elim (h.run pins s σ H Q I) (h'.run pins s σ H Q I)⟩
/-- x[::-1], a tuple or a list -/
def mBackA (m : ME) : ME := fun ρ S => (m ρ S).bind fun x S1 => match x with
  | .tup ds => .ok (.tup ds.reverse) S1
  | x => match lstOf S1 x with
    | some ds => .ok (.lst ds.reverse) S1
    | none => .bad
theorem d_backA (h : DE X W e m) : DE X W (.Subscript e (.Slice none none (some (.UnaryOp .USub (.Constant (.int 1) k p1) p2)) p3) pos) (mBackA m) := by
  obtain ⟨te, pe, ke⟩ := h
  refine ⟨_, peOr (pe_backT pe) (pe_revL pe), fun ξ μ σ H ρ S Q g s h => ?_⟩
  unfold mBackA at h
  cases e1 : m ρ S with
  | bad => rw [e1] at h; exact h.elim
  | exc c fs S1 =>
    rw [e1] at h
    refine .inl (ke ξ μ σ H ρ S _ g s ?_)
    rw [e1]; exact h
  | ok d S1 =>
    rw [e1] at h
    by_cases c : ∃ ds, d = .tup ds
    · obtain ⟨ds, rfl⟩ := c
      refine .inl (ke ξ μ σ H ρ S _ g s ?_)
      rw [e1]
      intro v μ1 H1 u1 s1 r1
      cases r1 with
      | @tup a xs _ f r =>
        exact ⟨a, xs, rfl, f.sq, fun p hp => h _ μ1 _ (u1.trans (.fresh hp)) (s1.fresh hp) (.tup (.inl ⟨.inl upd_same, s1.out hp, s1.outX hp⟩) (r.reverse.up (.fresh hp)))⟩
    · have h : WE' (fx X ξ) (match lstOf S1 d with | some ds => .ok (.lst ds.reverse) S1 | none => .bad) Q (fun cls dd H' => W cls dd σ H') μ H := by
        cases d with
        | tup ds => exact absurd ⟨ds, rfl⟩ c
        | _ => exact h
      refine .inr (ke ξ μ σ H ρ S _ g s ?_)
      rw [e1]
      intro v μ1 H1 u1 s1 r1
      cases q : lstOf S1 d with
      | none => rw [q] at h; exact h.elim
      | some ds =>
        rw [q] at h
        obtain ⟨a, xs, rfl, h3, r3⟩ := RD.lstS s1 r1 q
        exact ⟨a, xs, rfl, h3, fun p hp => h _ μ1 _ (u1.trans (.fresh hp)) (s1.fresh hp) (.lst (.inl ⟨.inl upd_same, s1.out hp, s1.outX hp⟩) (r3.reverse.up (.fresh hp)))⟩
end
section
variable {S : Sto} {ρ : Rho} {Q : D → Sto → Prop}
@[simp] theorem does_backA {m : ME} : (mBackA m ρ S).Does Q = (m ρ S).Does fun x S1 => match x with
    | .tup ds => Q (.tup ds.reverse) S1
    | x => match lstOf S1 x with
      | some ds => Q (.lst ds.reverse) S1
      | none => False := by
  unfold mBackA
  rw [does_bind]; congr 1; funext x S1
  cases x with
  | lst ds => rfl
  | cell n => 
    simp only
    cases lstOf S1 (.cell n) <;> rfl
  | _ => rfl
end
end Dm
-- text Hw5
namespace Dm
open PySem L2
noncomputable section
def m_law_turned_region : List D → Sto → Res D := mDef 3 5 (mSeq (mAsg 3 (mFz (mLcA (mOp gIx (mVar 0) (mK (.int 0))) (tgN 4) mYes (mOp gAdd (mVar 4) (mVar 2)) [4]))) (mSeq (mIfS (mVar 1) (mAsg 3 (mFz (mLcA (mBackA (mOp gIx (mVar 0) (mK (.int 0)))) (tgN 4) mYes (mOp gSub (mVar 2) (mVar 4)) [4]))) mNop) (mRet (mTup (mCons (mCallB gTuple (mCons (mVar 3) mNil)) (mCons (mOp gIx (mVar 0) (mK (.int 1))) mNil))))))
def m_law_turned_chart : List D → Sto → Res D := mDef 4 8 (mSeq (mIfS (mNot (mVar 1)) (mRet (mTup (mCons (mOp gAdd (mOp gIx (mVar 0) (mK (.int 0))) (mVar 2)) (mCons (mCallB gTuple (mCons (mFz (mLcA (mOp gIx (mVar 0) (mK (.int 1))) (tgU 2 (tgCons (tgN 6) (tgCons (tgN 7) tgNil))) mYes (mTup (mCons (mOp gAdd (mVar 6) (mVar 3)) (mCons (mOp gAdd (mVar 7) (mVar 2)) mNil))) [6, 7])) mNil)) mNil)))) mNop) (mSeq (mAsg 4 (mOp gIx (mVar 0) (mK (.int 0)))) (mSeq (mAsg 5 (mNew (mLst mNil))) (mSeq (mForA (mOp gIx (mVar 0) (mK (.int 1))) (tgU 2 (tgCons (tgN 6) (tgCons (tgN 7) tgNil))) (mSeq (mApp (mVar 5) (mTup (mCons (mOp gSub (mVar 3) (mVar 6)) (mCons (mOp gSub (mVar 2) (mVar 4)) mNil)))) (mAsg 4 (mVar 7)))) (mRet (mTup (mCons (mOp gSub (mVar 2) (mVar 4)) (mCons (mCallB gTuple (mCons (mBackA (mVar 5)) mNil)) mNil))))))))
def m_law_turned : List D → Sto → Res D := mDef 3 3 (mSeq (mIfS (mOp (gIsN false) (mVar 0) (mK .non)) (mRet (mK .non)) mNop) (mSeq (mIfS (mVar 1) (mRet (mOp gSub (mOp gSub (mVar 2) (mK (.int 1))) (mVar 0))) mNop) (mRet (mOp gAdd (mVar 0) (mVar 2)))))
def m_law_clocks_alike : List D → Sto → Res D := mDef 4 13 (mSeq (mAsgG (tgU 2 (tgCons (tgN 4) (tgCons (tgN 5) tgNil))) (mVar 1)) (mSeq (mAsgG (tgU 3 (tgCons (tgN 6) (tgCons (tgN 7) (tgCons (tgN 8) tgNil)))) (mVar 3)) (mSeq (mAsg 9 (mCall m_law_near (mCons (mVar 0) (mCons (mVar 4) (mCons (mVar 5) mNil))))) (mSeq (mAsg 10 (mCall m_offset_at (mCons (mVar 4) (mCons (mVar 5) (mCons (mVar 9) mNil))))) (mSeq (mAsg 11 (mCall m_law_turned (mCons (mVar 9) (mCons (mVar 6) (mCons (mVar 8) mNil))))) (mSeq (mIfS (mNot (mCall m_law_whole (mCons (mVar 10) mNil))) (mRet (mK (.bl false))) mNop) (mSeq (mIfS (mNot (mCall (m_law_same 30) (mCons (mCall m_offset_at (mCons (mOp gIx (mVar 2) (mK (.int 0))) (mCons (mOp gIx (mVar 2) (mK (.int 1))) (mCons (mVar 11) mNil)))) (mCons (mOp gAdd (mOp gIx (mFz (mLst (mCons (mVar 10) (mCons (mUn gNeg (mVar 10)) mNil)))) (mCallB gInt1 (mCons (mVar 6) mNil))) (mVar 7)) mNil)))) (mRet (mK (.bl false))) mNop) (mSeq (mAsg 12 (mCall m_law_turned (mCons (mCall m_reading_at (mCons (mVar 4) (mCons (mVar 5) (mCons (mVar 9) mNil)))) (mCons (mVar 6) (mCons (mOp gAdd (mVar 8) (mVar 7)) mNil))))) (mRet (mCall (m_law_same 30) (mCons (mCall m_reading_at (mCons (mOp gIx (mVar 2) (mK (.int 0))) (mCons (mOp gIx (mVar 2) (mK (.int 1))) (mCons (mVar 11) mNil)))) (mCons (mVar 12) mNil))))))))))))
def m_law_finds_alike : List D → Sto → Res D := mDef 4 19 (mSeq (mAsgG (tgU 2 (tgCons (tgN 4) (tgCons (tgN 5) tgNil))) (mVar 1)) (mSeq (mAsgG (tgU 3 (tgCons (tgN 6) (tgCons (tgN 7) (tgCons (tgN 8) tgNil)))) (mVar 3)) (mSeq (mAsg 9 (mOp gAdd (mCall m_law_near (mCons (mVar 0) (mCons (mVar 4) (mCons (mVar 5) mNil)))) (mOp gIx (mOp gIx (mVar 4) (mK (.int 0))) (mCall m_law_draw (mCons (mVar 0) (mCons (mCallB gLen (mCons (mOp gIx (mVar 4) (mK (.int 0))) mNil)) mNil)))))) (mSeq (mAsg 10 (mCall m_law_turned (mCons (mVar 9) (mCons (mVar 6) (mCons (mOp gAdd (mVar 8) (mVar 7)) mNil))))) (mSeq (mAsg 11 (mCall m_moments_of (mCons (mVar 4) (mCons (mVar 5) (mCons (mVar 9) mNil))))) (mSeq (mIfS (mNot (mIsi .lst (mVar 11))) (mRet (mK (.bl false))) mNop) (mSeq (mAsg 12 (mFz (mLcA (mVar 11) (tgN 17) mYes (mCall m_law_turned (mCons (mVar 17) (mCons (mVar 6) (mCons (mVar 8) mNil)))) [17]))) (mSeq (mIfS (mNot (mCall (m_law_same 30) (mCons (mCall m_moments_of (mCons (mOp gIx (mVar 2) (mK (.int 0))) (mCons (mOp gIx (mVar 2) (mK (.int 1))) (mCons (mVar 10) mNil)))) (mCons (mOp gIx (mFz (mLst (mCons (mVar 12) (mCons (mBackA (mVar 12)) mNil)))) (mCallB gInt1 (mCons (mVar 6) mNil))) mNil)))) (mRet (mK (.bl false))) mNop) (mSeq (mAsgG (tgU 2 (tgCons (tgN 13) (tgCons (tgN 14) tgNil))) (mOp gIx (mFz (mLst (mCons (mFz (mLst (mCons (mK (.str "early")) (mCons (mK (.str "late")) mNil)))) (mCons (mFz (mLst (mCons (mK (.str "late")) (mCons (mK (.str "early")) mNil)))) (mCons (mFz (mLst (mCons (mK (.str "refuse")) (mCons (mK (.str "refuse")) mNil)))) mNil))))) (mCall m_law_draw (mCons (mVar 0) (mCons (mK (.int 3)) mNil))))) (mSeq (mAsgG (tgU 2 (tgCons (tgN 15) (tgCons (tgN 16) tgNil))) (mOp gIx (mFz (mLst (mCons (mFz (mLst (mCons (mK (.str "ahead")) (mCons (mK (.str "behind")) mNil)))) (mCons (mFz (mLst (mCons (mK (.str "behind")) (mCons (mK (.str "ahead")) mNil)))) (mCons (mFz (mLst (mCons (mK (.str "refuse")) (mCons (mK (.str "refuse")) mNil)))) mNil))))) (mCall m_law_draw (mCons (mVar 0) (mCons (mK (.int 3)) mNil))))) (mSeq (mAsg 17 (mCallD m_find_moment 3 2 [0, 1, 2, 3, 4] [] (mCons (mVar 4) (mCons (mVar 5) (mCons (mVar 9) mNil))) (mCons (mVar 13) (mCons (mVar 15) mNil)))) (mSeq (mIfS (mVar 6) (mPar 13 15 (mCons (mVar 14) (mCons (mVar 16) mNil))) mNop) (mSeq (mAsg 18 (mCallD m_find_moment 3 2 [0, 1, 2, 3, 4] [] (mCons (mOp gIx (mVar 2) (mK (.int 0))) (mCons (mOp gIx (mVar 2) (mK (.int 1))) (mCons (mVar 10) mNil))) (mCons (mVar 13) (mCons (mVar 15) mNil)))) (mRet (mCall (m_law_same 30) (mCons (mVar 18) (mCons (mCall m_law_turned (mCons (mVar 17) (mCons (mVar 6) (mCons (mVar 8) mNil)))) mNil)))))))))))))))))
def m_law_k08_whole_turned_about : List D → Sto → Res D := mDef 1 14 (mSeq (mAsg 1 (mCall m_law_digits (mCons (mOp gIx (mFz (mCatV (mVar 0) (mLst (mCons (mK (.int 1000000000000000000000000000000000000871190364425510739962204)) mNil)))) (mK (.int 0))) mNil))) (mSeq (mAsg 2 (mCall m_law_make_region (mCons (mVar 1) mNil))) (mSeq (mAsg 3 (mCall m_law_cells_chart (mCons (mVar 1) (mCons (mVar 2) (mCons (mFz (mSlL (mVar 0) (mPart (mK (.int 1))) mNoPart)) mNil))))) (mSeq (mAsg 4 (mOp gEq (mCall m_law_draw (mCons (mVar 1) (mCons (mK (.int 2)) mNil))) (mK (.int 1)))) (mSeq (mAsg 5 (mOp gIx (mFz (mCatL (mLcA (mOp gIx (mVar 3) (mK (.int 1))) (tgU 2 (tgCons (tgN 12) (tgCons (tgN 13) tgNil))) mYes (mVar 12) [12, 13]) (mLst (mCons (mK (.int 0)) mNil)))) (mK (.int 0)))) (mSeq (mAsg 6 (mOp gAdd (mOp gFdiv (mCall m_law_any_hour (mCons (mVar 1) mNil)) (mK (.int 4))) (mOp gMul (mOp gIx (mFz (mLst (mCons (mK (.int (-1))) (mCons (mK (.int 1)) mNil)))) (mCallB gInt1 (mCons (mVar 4) mNil))) (mOp gFdiv (mVar 5) (mK (.int 2)))))) (mSeq (mAsgG (tgU 2 (tgCons (tgN 7) (tgCons (tgN 8) tgNil))) (mFz (mLst (mCons (mOp gIx (mOp gIx (mVar 2) (mK (.int 0))) (mK (.int 0))) (mCons (mOp gIx (mOp gIx (mVar 2) (mK (.int 0))) (mK (.int (-1)))) mNil))))) (mSeq (mIfS (mVar 4) (mAsgG (tgU 2 (tgCons (tgN 7) (tgCons (tgN 8) tgNil))) (mFz (mLst (mCons (mUn gNeg (mVar 8)) (mCons (mUn gNeg (mVar 7)) mNil))))) mNop) (mSeq (mAsg 9 (mOp gSub (mOp gSub (mCall m_law_draw (mCons (mVar 1) (mCons (mOp gAdd (mOp gSub (mK (.int 1801)) (mVar 8)) (mVar 7)) mNil))) (mK (.int 900))) (mVar 7))) (mSeq (mAsg 10 (mFz (mLst (mCons (mCall m_law_turned_region (mCons (mVar 2) (mCons (mVar 4) (mCons (mVar 9) mNil)))) (mCons (mCall m_law_turned_chart (mCons (mVar 3) (mCons (mVar 4) (mCons (mVar 9) (mCons (mVar 6) mNil))))) mNil))))) (mSeq (mFor (iRange1 (mCons (mK (.int 5)) mNil)) (tgN 11) (mSeq (mIfS (mNot (mCall m_law_clocks_alike (mCons (mVar 1) (mCons (mFz (mLst (mCons (mVar 2) (mCons (mVar 3) mNil)))) (mCons (mVar 10) (mCons (mFz (mLst (mCons (mVar 4) (mCons (mVar 9) (mCons (mVar 6) mNil))))) mNil)))))) (mRet (mK (.bl false))) mNop) (mIfS (mNot (mCall m_law_finds_alike (mCons (mVar 1) (mCons (mFz (mLst (mCons (mVar 2) (mCons (mVar 3) mNil)))) (mCons (mVar 10) (mCons (mFz (mLst (mCons (mVar 4) (mCons (mVar 9) (mCons (mVar 6) mNil))))) mNil)))))) (mRet (mK (.bl false))) mNop))) (mRet (mK (.bl true))))))))))))))
end
end Dm
-- text DmSet
namespace Dm
open PySem L2 PySem.Spec PyProof.Rows
/-! ### set(xs), xs a list of ints, so that it can be sorted -/
section
variable {P : Program} {w : World} {A : Around} {E : Value → Shared → Prop} {s : Shared}
/-- an empty set as it is made -/
def bare (w : World) : Obj := { cls := .type "set", dict := none, data := .set #[] 0 (.fresh 0 0 (!w.params.followText "set-order")) }
def SetMade (w : World) (s : Shared) (ns : List Int) (s2 : Shared) : Prop := ∃ h' tk c, s2 = { s with heap := h', toks := tk } ∧ SetR w h' s.heap.objs.size (fun j => decide (j ∈ ns)) c ∧ c ≤ ns.length ∧ ∀ b o, s.heap.get? b = some o → h'.get? b = some o
theorem fill_set {l : Addr} {its : Array Value} {ns : List Int} (hh : A.handled = none) (hl : s.heap.IsList l its) (hi : IntsAre its.toList ns) (hb : ns.length + 1 < scanBound) :
    codeAny (model P w) A (.builtin "set.update.loop" ⟨[.ref s.heap.objs.size, .ref (s.heap.objs.size + 1)], []⟩) (wants (fun r s2 => r = .none ∧ SetMade w s ns s2) E)
      { s with heap := (s.heap.push (bare w)).push { cls := .type "list_iterator", data := .fields #[.ref l, .int 0 0] } } := by
  have sz : its.size = ns.length := by
    have q := IntsAre.length hi
    rwa [Array.length_toList] at q
  have z1 : (s.heap.push (bare w)).objs.size = s.heap.objs.size + 1 := Heap.size_push ..
  obtain ⟨o, ho, hc⟩ := id hl
  have lo : l < s.heap.objs.size := Heap.lt_size ho
  have l1 := hl.push (bare w)
  have at0 : ((s.heap.push (bare w)).push { cls := .type "list_iterator", data := .fields #[.ref l, .int 0 0] }).get? s.heap.objs.size = some (bare w) := Heap.get?_push_of_some _ (Heap.get?_push_size _ rfl)
  have at1 : ((s.heap.push (bare w)).push { cls := .type "list_iterator", data := .fields #[.ref l, .int 0 0] }).get? (s.heap.objs.size + 1) = some { cls := .type "list_iterator", data := .fields #[.ref l, .int 0 0] } := by
    rw [← z1]
    exact Heap.get?_push_size _ rfl
  have each : ∀ (i : Nat) (v : Value), its[i]? = some v → ∃ k t, ns[i]? = some k ∧ v = .int k t := fun i v hv => by
    have hlt : i < ns.length := by rw [← sz]; exact (Array.getElem?_eq_some_iff.mp hv).1
    obtain ⟨t, e⟩ := IntsAre.int_at hi i v (by rw [Array.getElem?_toList]; exact hv)
    exact ⟨ns[i], t, List.getElem?_eq_getElem hlt, by rw [e, List.getD_eq_getElem?_getD, List.getElem?_eq_getElem hlt] <;> rfl⟩
  have out : s.heap.objs.size ∉ [s.heap.objs.size + 1, l] := fun m => by
    rcases List.mem_cons.mp m with m | m
    · exact absurd m (Nat.ne_of_lt (Nat.lt_succ_self _))
    · exact absurd (List.mem_singleton.mp m) (Nat.ne_of_gt lo)
  refine set_update_ints ((Walks.list (A := A.in1) (by simp [hh]) (s.heap.objs.size + 1) l (Nat.ne_of_lt (Nat.lt_succ_of_lt lo)) its).toS) s.heap.objs.size out ns sz hb each its.size 0 _ (by omega) (Nat.zero_le _)
    ⟨⟨_, at1, rfl, rfl⟩, l1.push _⟩ ⟨0, Nat.le_refl _, setR_new_at at0⟩ fun s' c m hc' R => ?_
  obtain ⟨h', g, d, tk, o'⟩ := s'
  obtain rfl : g = s.gens := m.gens
  obtain rfl : d = s.drawn := m.drawn
  obtain rfl : o' = s.os := m.os
  refine ⟨rfl, h', tk, c, rfl, R, by rw [← sz]; exact hc', fun b ob e => ?_⟩
  have hlt : b < s.heap.objs.size := Heap.lt_size e
  refine m.heap b ob (fun q => ?_) (Heap.get?_push_of_some _ (Heap.get?_push_of_some _ e))
  rcases List.mem_cons.mp q with q | q
  · exact absurd q (Nat.ne_of_lt hlt)
  · exact absurd (List.mem_singleton.mp q) (Nat.ne_of_lt (Nat.lt_succ_of_lt hlt))
set_option maxHeartbeats 3200000 in
theorem call_set_lst {l : Addr} {its : Array Value} {ns : List Int} {Q : Value → Shared → Prop} (hh : A.handled = none) (hl : s.heap.IsList l its) (hi : IntsAre its.toList ns) (hb : ns.length + 1 < scanBound)
    (h : ∀ s2, SetMade w s ns s2 → Q (.ref s.heap.objs.size) s2) : wpAny (model P w) A (call (.type "set") [.ref l]) Q E s := by
  obtain ⟨c, tl, m1⟩ := F.called_set.mro
  have m2 := F.called_set.made
  have m3 := F.called_set.sub
  have m4 := F.called_set.notType
  have m5 := F.called_set.canCreate
  have m6 := F.typeCall_set_1 (.ref l)
  refine wpAny_call (codeAny_of_tree ?_)
  change wpAny _ _ (callAny (.type "set") _) _ _ _
  refine wpAny_pure ⟨Code.quiet_builtin _ (by decide +kernel), codeAny_builtin F.entry_type_call ?_⟩
  rw [Around.under_plain (weight_type_call_type "set" [.ref l] []) rfl]
  repeat (any_goals (first | assumption | wp_step))
  refine codeAny_mono (code_set_led1 (.ref l) (E := E) (Q₁ := fun o s1 => o = .ref s.heap.objs.size ∧ s1 = { s with heap := s.heap.push (bare w) }) ⟨rfl, rfl⟩) fun r s1 r1 => ?_
  cases r with
  | error e => exact r1
  | ok fl =>
    cases fl with
    | next => exact r1.elim
    | brk => exact r1.elim
    | cont => exact r1.elim
    | ret o =>
      obtain ⟨rfl, rfl⟩ := r1
      have n1 : (s.heap.push (bare w)).get? s.heap.objs.size = some (bare w) := Heap.get?_push_size _ rfl
      have n2 : Shared.TypeIs { s with heap := s.heap.push (bare w) } (.ref s.heap.objs.size) "set" := ⟨_, n1, rfl⟩
      have n3 := F.called_set.init.lookup
      have n4 := F.called_set.init.bind (.ref s.heap.objs.size)
      repeat (any_goals (first | assumption | wp_step))
      refine codeAny_mono (codeAny_call_builtin (R := wants (fun r s2 => r = .none ∧ SetMade w s ns s2) E) F.called_set.init.plain F.entry_set_init (check_set_init_1 n2 ?_)) fun r2 s2 q2 => ?_
      · obtain ⟨ol, hol, hcl, nl, hdl⟩ := id hl
        obtain ⟨ocls, odict, odata, oslots⟩ := ol
        simp only at hcl hdl
        subst hcl hdl
        have k1 : (s.heap.push (bare w)).get? l = some { cls := .type "list", dict := odict, data := .seq its nl, slots := oslots } := Heap.get?_push_of_some _ hol
        have k2 := F.sub_list_set
        have k3 := F.sub_list_frozenset
        have k4 : (Value.type "list" == Value.type "dict") = false := by decide
        unfold Builtin.«set.__init__» noKeywords Builtin.Frozenset.updateFrom
        generalize hPI : pyIter = PI
        wp_walk
        subst hPI
        refine wpAny_pyIter_list (hl.push _) ?_
        refine wpAny_bind (wpAny_runValue ?_)
        have z1 : (s.heap.push (bare w)).objs.size = s.heap.objs.size + 1 := Heap.size_push ..
        rw [z1]
        refine codeAny_mono (fill_set (P := P) (w := w) (E := E) (by simp [hh]) hl hi hb) fun r3 s3 q3 => ?_
        cases r3 with
        | error e => exact q3
        | ok f3 =>
          cases f3 with
          | next => exact q3.elim
          | brk => exact q3.elim
          | cont => exact q3.elim
          | ret o3 =>
            obtain ⟨rfl, q3⟩ := q3
            trace_state
            exact wpAny_pure (wpAny_pure ⟨rfl, q3⟩)
      · cases r2 with
        | error e => exact q2
        | ok f2 =>
          cases f2 with
          | next => exact q2.elim
          | brk => exact q2.elim
          | cont => exact q2.elim
          | ret o2 =>
            obtain ⟨rfl, q2⟩ := q2
            repeat (any_goals (first | assumption | wp_step))
            exact h _ q2
end
end Dm
-- text DmSet2
namespace Dm
open PySem L2 PySem.Spec PyProof.Rows
open PySem.W (Frag)
/-! ### the members of a list, ascending, each once -/
def insU (x : Int) : List Int → List Int
  | [] => [x]
  | y :: r => if x < y then x :: y :: r else if x = y then y :: r else y :: insU x r
def uniq : List Int → List Int
  | [] => []
  | x :: r => insU x (uniq r)
theorem insU_mem {x y : Int} : ∀ {l : List Int}, y ∈ insU x l ↔ y = x ∨ y ∈ l
  | [] => by simp [insU]
  | z :: r => by
    unfold insU
    split
    · simp
    · split
      · next h => subst h; simp
      · rw [List.mem_cons, insU_mem, List.mem_cons]
        constructor
        · rintro (h | h | h)
          · exact .inr (.inl h)
          · exact .inl h
          · exact .inr (.inr h)
        · rintro (h | h | h)
          · exact .inr (.inl h)
          · exact .inl h
          · exact .inr (.inr h)
theorem insU_asc {x : Int} : ∀ {l : List Int}, l.Pairwise (· < ·) → (insU x l).Pairwise (· < ·)
  | [], _ => by simp [insU]
  | z :: r, h => by
    obtain ⟨h1, h2⟩ := List.pairwise_cons.mp h
    unfold insU
    split
    · next c =>
      refine List.pairwise_cons.mpr ⟨fun y hy => ?_, h⟩
      rcases List.mem_cons.mp hy with rfl | hy
      · exact c
      · have := h1 y hy; omega
    · split
      · exact h
      · refine List.pairwise_cons.mpr ⟨fun y hy => ?_, insU_asc h2⟩
        rcases insU_mem.mp hy with rfl | hy
        · omega
        · exact h1 y hy
theorem uniq_mem {y : Int} : ∀ {l : List Int}, y ∈ uniq l ↔ y ∈ l
  | [] => Iff.rfl
  | x :: r => by rw [uniq, insU_mem, uniq_mem, List.mem_cons]
theorem uniq_asc : ∀ l : List Int, (uniq l).Pairwise (· < ·)
  | [] => .nil
  | x :: r => insU_asc (uniq_asc r)
theorem asc_same : ∀ {l l' : List Int}, l.Pairwise (· < ·) → l'.Pairwise (· < ·) → (∀ x, x ∈ l ↔ x ∈ l') → l = l'
  | [], [], _, _, _ => rfl
  | [], y :: r, _, _, h => nomatch (h y).mpr List.mem_cons_self
  | x :: r, [], _, _, h => nomatch (h x).mp List.mem_cons_self
  | x :: r, y :: r', h1, h2, h => by
    obtain ⟨a1, a2⟩ := List.pairwise_cons.mp h1
    obtain ⟨b1, b2⟩ := List.pairwise_cons.mp h2
    have e : x = y := by
      rcases List.mem_cons.mp ((h x).mp List.mem_cons_self) with e | e
      · exact e
      · rcases List.mem_cons.mp ((h y).mpr List.mem_cons_self) with e' | e'
        · exact e'.symm
        · have := b1 x e; have := a1 y e'; omega
    subst e
    rw [asc_same a2 b2 fun z => ?_]
    constructor
    · intro hz
      rcases List.mem_cons.mp ((h z).mp (List.mem_cons_of_mem _ hz)) with e | e
      · subst e; exact absurd (a1 z hz) (by omega)
      · exact e
    · intro hz
      rcases List.mem_cons.mp ((h z).mpr (List.mem_cons_of_mem _ hz)) with e | e
      · subst e; exact absurd (b1 z hz) (by omega)
      · exact e
theorem nodup_len {l ns : List Int} (h : l.Nodup) (hm : ∀ x, x ∈ l ↔ x ∈ ns) : l.length = (uniq ns).length := by
  have e : srtN l = uniq ns := by
    refine asc_same ?_ (uniq_asc ns) fun x => ?_
    · have nd : (srtN l).Nodup := (srtN_perm l).nodup_iff.mpr h
      exact (srtN_asc l).and nd |>.imp fun ⟨h1, h2⟩ => by omega
    · rw [(srtN_perm l).mem_iff, hm, uniq_mem]
  rw [← e, (srtN_perm l).length_eq]
def rSetLst (K : Frag) (w : World) : List V → Hp → VK → Prop := fun vs H Q => ∃ (a : Addr) (ns : List Int), vs = [V.ref a] ∧ SqL K H a (ns.map V.int) ∧ ns.length ≤ 4000 ∧ ∀ p, H p = none → Q (.ref p) (upd H p (SetO w p (fun j => decide (j ∈ ns)) (uniq ns).length))
section
variable {X : Cx} {W : WX} {e : Expr} {m : ME} {p p1 p2 pos : Pos}
theorem cr_setLst (hc : X.calm = true) : CallR X (.type "set") (rSetLst X.K X.w) := by
  intro pins s σ H vs us Q I r h
  obtain ⟨a, ns, rfl, hs, hn, q⟩ := h
  obtain ⟨its, rv, hl, hz⟩ := I.list hs
  rw [Vals.ref1 r]
  refine call_set_lst (ns := ns) (I.ok.hd hc) hl.isList (by simpa using rv.ints) (by unfold scanBound; omega) fun s2 hm => ?_
  obtain ⟨h', tk, c, rfl, R, hc', kp⟩ := hm
  have ec : c = (uniq ns).length := by
    obtain ⟨o, es, ep, t, ho, hex, hd, g, nd, hmm, hb, hf, hn, hr, hl⟩ := R
    rw [← hn, ← nodup_len (l := es.toList.map keyOf) nd fun x => by rw [← hmm]; simp]
    simp
  subst ec
  exact ⟨.ref _, upd H s.heap.objs.size (SetO X.w s.heap.objs.size _ _), I.laid (t' := tk) kp (Nat.le_refl _) (setO_new R), rfl, q _ (I.hok.fresh (Nat.le_refl _))⟩
def gSortSet : Sto → D → Option (List D) := fun S d => (lstOf S d).bind fun es => (intsOf es).bind fun ns => if ns.length ≤ 4000 ∧ (uniq ns).length < 64 then some ((uniq ns).map .int) else none
def mSortSet (m : ME) : MA := fun ρ S => (m ρ S).bind fun d S1 => match gSortSet S1 d with
  | some ds => .ok ds S1
  | none => .bad
theorem dl_sortSet (hm1 : X.mg "sorted" = none) (hm2 : X.mg "set" = none) (hc : X.calm = true) (h : DE X W e m) (hg1 : Gl X "sorted" := by rfl) (hg2 : Gl X "set" := by rfl)
    (na : starEach [e] X.env = (false, eval e X.env) :: starEach [] X.env := by rfl) (nb : (backTo p2 (starEach [] X.env)).any (·.1) = false := by rfl)
    (nc : starEach [.Call (.Name "set" p1) [e] [] p2] X.env = (false, eval (.Call (.Name "set" p1) [e] [] p2) X.env) :: starEach [] X.env := by rfl) (nd : (backTo pos (starEach [] X.env)).any (·.1) = false := by rfl) :
    DL X W (.Call (.Name "sorted" p) [.Call (.Name "set" p1) [e] [] p2] [] pos) (mSortSet m) := by
  obtain ⟨te, pe, ke⟩ := h
  refine ⟨_, pe_callB (cr_sortedSet hc) hg1 hm1 (by decide +kernel) (pa_cons (pe_callTy (cr_setLst hc) hg2 hm2 (by decide +kernel) (pa_cons pe pa_nil na) (he := na) (hpl := nb)) pa_nil nc) (he := nc) (hpl := nd), fun ξ μ σ H ρ S Q g s h => ?_⟩
  refine ke ξ μ σ H ρ S _ g s (WL'.bind h fun d S1 v μ1 H1 u1 s1 r1 h1 => ?_)
  unfold gSortSet at h1
  cases q : lstOf S1 d with
  | none => rw [q] at h1; exact h1.elim
  | some es =>
    rw [q] at h1
    obtain ⟨a, xs, rfl, h2, h3⟩ := RD.lstS s1 r1 q
    cases c : intsOf es with
    | none => simp only [Option.bind_some, c] at h1; exact h1.elim
    | some ns =>
      simp only [Option.bind_some, c] at h1
      by_cases hl : ns.length ≤ 4000 ∧ (uniq ns).length < 64
      · rw [if_pos hl] at h1
        have ee := intsOf_eq c
        subst ee
        have ev := rdsInts h3
        subst ev
        refine ⟨a, ns, rfl, h2, hl.1, fun p hp => ?_⟩
        refine ⟨p, _, _, rfl, upd_same, hl.2, fun ms p' ha hm hlen hp' => ?_⟩
        have em : ms = uniq ns := asc_same ha (uniq_asc ns) fun x => by rw [hm, uniq_mem]; simp
        subst em
        have s2 := s1.fresh (o := SetO X.w p (fun j => decide (j ∈ ns)) (uniq ns).length) hp
        have hne : p' ≠ p := fun z => by rw [z, upd_same] at hp'; cases hp'
        have hpn : H1 p' = none := by rw [upd_ne hne] at hp'; exact hp'
        exact h1 p' _ μ1 _ ((Up.fresh hp).trans (Up.fresh hp')) hpn (s2.holds hp') intsRds upd_same
      · rw [if_neg hl] at h1; exact h1.elim
end
section
variable {S : Sto} {ρ : Rho}
@[simp] theorem does_sortSet {m : ME} {Q : List D → Sto → Prop} : (mSortSet m ρ S).Does Q = (m ρ S).Does fun d S1 => match gSortSet S1 d with
    | some ds => Q ds S1
    | none => False := by
  unfold mSortSet
  rw [does_bind]; congr 1; funext d S1
  cases gSortSet S1 d <;> rfl
theorem gSortSet_ints {d : D} {ns : List Int} (h : lstOf S d = some (ns.map .int)) (h1 : ns.length ≤ 4000) (h2 : (uniq ns).length < 64) : gSortSet S d = some ((uniq ns).map .int) := by
  show (lstOf S d).bind _ = _
  rw [h]
  show (intsOf (ns.map D.int)).bind _ = _
  rw [intsOf_map]
  show (if _ then _ else _) = _
  rw [if_pos ⟨h1, h2⟩]
theorem uniq_of {ns : List Int} (h : ns.Pairwise (· < ·)) : uniq ns = ns := asc_same (uniq_asc ns) h fun _ => uniq_mem
end
end Dm
-- text Hw6
namespace Dm
open PySem L2
noncomputable section
def m_law_filled : List D → Sto → Res D := mDef 3 12 (mSeq (mAsg 3 (mTup mNil)) (mSeq (mForA (mFz (mSlL (mFz (mCatV (mVar 2) (mLc (iRange1 (mCons (mK (.int 3)) mNil)) (tgN 8) mYes (mCall m_law_draw (mCons (mVar 0) (mCons (mK (.int 100000000000000000)) mNil))) [8]))) mNoPart (mPart (mK (.int 56))))) (tgN 4) (mSeq (mAsg 5 (mCall m_law_digits (mCons (mVar 4) mNil))) (mSeq (mAsg 6 (mCall m_law_beside (mCons (mVar 5) (mCons (mVar 1) (mCons (mVar 3) mNil))))) (mSeq (mAsg 7 (mCall m_offsets_left (mCons (mVar 1) (mCons (mVar 3) (mCons (mVar 6) mNil))))) (mSeq (mIfS (mOr (mNot (mIsi .lst (mVar 7))) (mOr (mOp gEq (mCallB gLen (mCons (mVar 7) mNil)) (mK (.int 0))) (mNot (mCallB gAll (mCons (mFz (mLcA (mVar 7) (tgN 9) mYes (mCall m_law_among (mCons (mVar 9) (mCons (mOp gIx (mVar 1) (mK (.int 0))) mNil))) [9])) mNil))))) (mRet (mK .non)) mNop) (mSeq (mIfS (mOp gNe (mVar 7) (mFz (mSortSet (mVar 7)))) (mRet (mK .non)) mNop) (mIfS (mOp (gIn true) (mVar 6) (mFz (mLcA (mVar 3) (tgU 2 (tgCons (tgN 10) (tgCons (tgN 11) tgNil))) mYes (mVar 10) [10, 11]))) (mAsg 3 (mCall m_law_with (mCons (mVar 3) (mCons (mVar 6) (mCons (mOp gIx (mVar 7) (mCall m_law_draw (mCons (mVar 5) (mCons (mCallB gLen (mCons (mVar 7) mNil)) mNil)))) mNil))))) mNop))))))) (mRet (mVar 3))))
def m_law_k18_whole_filled_up : List D → Sto → Res D := mDef 1 14 (mSeq (mAsg 1 (mCall m_law_digits (mCons (mOp gIx (mFz (mCatV (mVar 0) (mLst (mCons (mK (.int 1000000000000000000000000000000000000431870026695130822947712)) mNil)))) (mK (.int 0))) mNil))) (mSeq (mAsg 2 (mCall m_law_make_region (mCons (mVar 1) mNil))) (mSeq (mAsg 3 (mCall m_law_filled (mCons (mVar 1) (mCons (mVar 2) (mCons (mFz (mSlL (mVar 0) (mPart (mK (.int 1))) mNoPart)) mNil))))) (mSeq (mIfS (mOr (mOp (gIsN false) (mVar 3) (mK .non)) (mOr (mOp (gIsB true) (mCall m_can_hold (mCons (mVar 2) (mCons (mVar 3) mNil))) (mK (.bl true))) (mOp (gIsN true) (mCall m_crowded (mCons (mVar 2) (mCons (mVar 3) mNil))) (mK .non)))) (mRet (mK (.bl false))) mNop) (mSeq (mAsg 4 (mCall m_early_table (mCons (mVar 2) (mCons (mVar 3) mNil)))) (mSeq (mIfS (mOr (mNot (mCall m_law_is_chart (mCons (mVar 2) (mCons (mVar 4) mNil)))) (mNot (mCallB gAll (mCons (mFz (mLcA (mVar 3) (tgU 2 (tgCons (tgN 7) (tgCons (tgN 9) tgNil))) mYes (mOp gEq (mCall m_law_shift_at (mCons (mVar 4) (mCons (mVar 7) mNil))) (mVar 9)) [7, 9])) mNil)))) (mRet (mK (.bl false))) mNop) (mSeq (mAsg 5 (mVar 3)) (mSeq (mFor (iRange1 (mCons (mK (.int 4)) mNil)) (tgN 6) (mSeq (mAsg 7 (mCall m_law_beside (mCons (mVar 1) (mCons (mVar 2) (mCons (mVar 3) mNil))))) (mIfS (mOp (gIn true) (mVar 7) (mFz (mLcA (mVar 5) (tgU 2 (tgCons (tgN 12) (tgCons (tgN 9) tgNil))) mYes (mVar 12) [12, 9]))) (mSeq (mIfS (mOp (gIn true) (mCall m_law_shift_at (mCons (mVar 4) (mCons (mVar 7) mNil))) (mCall m_offsets_left (mCons (mVar 2) (mCons (mVar 5) (mCons (mVar 7) mNil))))) (mRet (mK (.bl false))) mNop) (mSeq (mAsg 5 (mCall m_law_with (mCons (mVar 5) (mCons (mVar 7) (mCons (mCall m_law_shift_at (mCons (mVar 4) (mCons (mVar 7) mNil))) mNil))))) (mIfS (mNot (mCall (m_law_same 30) (mCons (mCall m_early_table (mCons (mVar 2) (mCons (mVar 5) mNil))) (mCons (mVar 4) mNil)))) (mRet (mK (.bl false))) mNop))) mNop))) (mSeq (mAsgG (tgU 2 (tgCons (tgN 8) (tgCons (tgN 9) tgNil))) (mOp gIx (mVar 3) (mK (.int (-1))))) (mSeq (mAsg 10 (mCallB gMax1 (mCons (mFz (mCatL (mLst (mCons (mOp gAdd (mVar 8) (mK (.int 1))) mNil)) (mLcA (mOp gIx (mVar 4) (mK (.int 1))) (tgU 2 (tgCons (tgN 7) (tgCons (tgN 13) tgNil))) mYes (mOp gAdd (mVar 7) (mOp gIx (mVar 2) (mK (.int 1)))) [7, 13]))) mNil))) (mSeq (mFor (iSeq (mFz (mLst (mCons (mOp gAdd (mVar 8) (mK (.int 1))) (mCons (mOp gSub (mVar 10) (mK (.int 1))) (mCons (mVar 10) (mCons (mOp gAdd (mVar 10) (mCall m_law_draw (mCons (mVar 1) (mCons (mOp gMul (mK (.int 2)) (mOp gIx (mVar 2) (mK (.int 1)))) mNil)))) mNil))))))) (tgN 7) (mSeq (mAsg 11 (mOp gIx (mFz (mLst (mCons (mFz (mLst (mCons (mVar 9) mNil))) (mCons (mFz (mCallBL gList (mCons (mOp gIx (mVar 2) (mK (.int 0))) mNil))) mNil)))) (mCallB gInt1 (mCons (mOp gGe (mVar 7) (mVar 10)) mNil)))) (mIfS (mAnd (mOp gGt (mVar 7) (mVar 8)) (mNot (mCall (m_law_same 30) (mCons (mCall m_offsets_left (mCons (mVar 2) (mCons (mVar 3) (mCons (mVar 7) mNil)))) (mCons (mVar 11) mNil))))) (mRet (mK (.bl false))) mNop))) (mRet (mK (.bl true))))))))))))))
end
end Dm
-- text DmIn2
namespace Dm
open PySem L2 PySem.Spec PyProof.Rows
open PySem.W (Frag)
/-! ### x in xs, both nested plain data -/
def rIn2 (K : Frag) (neg : Bool) : R2 := fun x y H Q => ∃ d es, Dp K H x d ∧ Dp K H y (.list es) ∧ SeqAt.shaped d = true ∧ SeqAt.shaped (.list es) = true ∧ Q (.bl (if neg then !es.any (fun e => PyData.eqv e d) else es.any (fun e => PyData.eqv e d))) H
def gIn2 (neg : Bool) : Sto → D → D → Option D := fun S x y => match toPyS S x, toPyS S y with
  | some d, some (.list es) => if SeqAt.shaped d = true ∧ SeqAt.shaped (.list es) = true then some (.bl (if neg then !es.any (fun e => PyData.eqv e d) else es.any (fun e => PyData.eqv e d))) else none
  | _, _ => none
section
variable {X : Cx}
theorem in2_room {A : Around} {d : PyData} {es : List PyData} (hs : SeqAt.shaped d = true) (hu : A.units + 66 < cLine) : A.units + 1 + min (PyData.depthAll es) d.depth < cLine := by
  have h1 := SeqAt.depth_of_shaped hs
  have h2 : min (PyData.depthAll es) d.depth ≤ d.depth := Nat.min_le_right _ _
  omega
theorem in2_lay {es : List PyData} (hs : SeqAt.shaped (.list es) = true) : PyData.canLayAll0 es = true := by
  have h := SeqAt.canLay_of_shaped hs
  simpa [PyData.canLay0] using h
theorem op_in2 (hu : X.A.units + 66 < cLine) : OpR X (compareOp .In) (rIn2 X.K false) := by
  intro pins s σ H x y v u Q I rx ry h
  obtain ⟨d, es, hd, he, sd, se, q⟩ := h
  obtain ⟨as, r1⟩ := Dp.reads I d x v hd rx
  obtain ⟨bs, r2⟩ := Dp.reads I (.list es) y u he ry
  exact SeqAt.in_list_reads r2 r1 (in2_lay se) (SeqAt.canLay_of_shaped sd) (in2_room sd hu) ⟨.bl _, H, I, rfl, q⟩
theorem op_notIn2 (hu : X.A.units + 66 < cLine) : OpR X (compareOp .NotIn) (rIn2 X.K true) := by
  intro pins s σ H x y v u Q I rx ry h
  obtain ⟨d, es, hd, he, sd, se, q⟩ := h
  obtain ⟨as, r1⟩ := Dp.reads I d x v hd rx
  obtain ⟨bs, r2⟩ := Dp.reads I (.list es) y u he ry
  exact SeqAt.notIn_list_reads r2 r1 (in2_lay se) (SeqAt.canLay_of_shaped sd) (in2_room sd hu) ⟨.bl _, H, I, rfl, q⟩
theorem o_in2 {neg : Bool} : OpD X (rIn2 X.K neg) (gIn2 neg) := by
  intro ξ μ H S x y v u z Q s rx ry e k
  unfold gIn2 at e
  split at e
  · rename_i d es hd he
    split at e
    · rename_i hs
      cases e
      exact ⟨d, es, dpS_of s rx hd, dpS_of s ry he, hs.1, hs.2, k _ μ H .refl s (.bl _)⟩
    · exact nomatch e
  · exact nomatch e
/-! ### any -/
def gAny : Sto → List D → Option D := fun S ds => match ds with
  | [d] => (lstOf S d).bind fun es => (blsOf es).map fun bs => .bl (bs.any id)
  | _ => none
theorem c_any : CallD X (rAny X.K) gAny := by
  intro ξ μ H S ds vs z Q s r e k
  unfold gAny at e
  cases r with
  | nil => exact nomatch e
  | @cons v vs d ds r rr =>
    cases rr with
    | cons _ _ => exact nomatch e
    | nil =>
      simp only at e
      cases q : lstOf S d with
      | none => rw [q] at e; exact nomatch e
      | some es =>
        rw [q] at e
        have e : (blsOf es).map (fun bs => D.bl (bs.any id)) = some z := e
        cases q' : blsOf es with
        | none => rw [q'] at e; exact nomatch e
        | some bs =>
          rw [q'] at e; cases e
          obtain ⟨a, xs, rfl, h1, h2⟩ := RD.lstS s r q
          have e := bls_of h2 q'
          subst e
          exact ⟨a, bs, rfl, h1, k _ μ H .refl s (.bl _)⟩
end
end Dm
-- text DmTab
namespace Dm
open PySem L2 PySem.Spec PyProof.Rows
open PySem.W (Frag)
/-! ### a dict of the module with text keys, its values plain -/
inductive KEs (K : Frag) (P : Params) : List DictEntry → List (Str × D) → Prop
  | nil : KEs K P [] []
  | cons {e : DictEntry} {r : List DictEntry} {x : Str} {t : Tok} {v : V} {d : D} {kvs : List (Str × D)} : e.key = .str x t → e.hash = PyData.keyHash P x → RelV v e.val → KD K v d → KEs K P r kvs → KEs K P (e :: r) ((x, d) :: kvs)
def tbLook : List (Str × D) → Str → Option D
  | [], _ => none
  | (x, d) :: r, z => if x = z then some d else tbLook r z
theorem KEs.lit {K : Frag} {P : Params} : ∀ {es : List DictEntry} {kvs : List (Str × D)}, KEs K P es kvs → PySem.W.KeysLit P es
  | _, _, .nil => trivial
  | _, _, .cons h1 h2 _ _ r => ⟨⟨_, _, h1, h2⟩, r.lit⟩
theorem KEs.noRef {K : Frag} {P : Params} : ∀ {es : List DictEntry} {kvs : List (Str × D)}, KEs K P es kvs → es.any (·.refKey) = false
  | _, _, .nil => rfl
  | _, _, .cons h1 _ _ _ r => by
    rw [List.any_cons, r.noRef, Bool.or_false]
    unfold DictEntry.refKey
    rw [h1]
theorem KEs.find {K : Frag} {P : Params} (z : Str) : ∀ {es : List DictEntry} {kvs : List (Str × D)}, KEs K P es kvs →
    match tbLook kvs z with
    | some d => ∃ e v, es.find? (·.key.isStr z) = some e ∧ RelV v e.val ∧ KD K v d
    | none => es.find? (·.key.isStr z) = none
  | _, _, .nil => rfl
  | _, _, .cons (e := e) (x := x) (t := t) (v := v) (d := d) (kvs := kvs) h1 h2 h3 h4 r => by
    have ih := KEs.find z r
    unfold tbLook
    by_cases c : x = z
    · rw [if_pos c]
      refine ⟨e, v, ?_, h3, h4⟩
      rw [List.find?_cons_of_pos]
      rw [h1, PySem.W.isStr_of]
      show (x == z) = true
      rw [c]; exact beq_self_eq_true _
    · rw [if_neg c]
      have n : ¬ (e.key.isStr z) = true := by
        rw [h1, PySem.W.isStr_of]
        intro q
        exact c (of_decide_eq_true (by simpa [Value.isStrOf] using q))
      rw [List.find?_cons_of_neg (p := fun q : DictEntry => q.key.isStr z) n]
      exact ih
/-- the name stands for this dict -/
def GlT (K : Frag) (w : World) (mg : Str → Option Value) (x : Str) (kvs : List (Str × D)) : Prop :=
  ∃ d es n, mg x = some (.ref d) ∧ K.lookup d = some ⟨.type "dict", none, .dict es n, #[]⟩ ∧ (d == sysModules) = false ∧ KEs K w.params es.toList kvs
def mTbIn (neg : Bool) (kvs : List (Str × D)) (a : ME) : ME := fun ρ S => (a ρ S).bind fun x S1 => match x with
  | .str z => .ok (.bl (if neg then !(tbLook kvs z).isSome else (tbLook kvs z).isSome)) S1
  | _ => .bad
def mTbIx (kvs : List (Str × D)) (a : ME) : ME := fun ρ S => (a ρ S).bind fun x S1 => match x with
  | .str z => match tbLook kvs z with
    | some d => .ok d S1
    | none => .bad
  | _ => .bad
theorem nsIn_tab {K : Frag} {P : Params} {d : Addr} {es : Array DictEntry} {n : Nat} {kvs : List (Str × D)} (l : K.lookup d = some ⟨.type "dict", none, .dict es n, #[]⟩) (k : KEs K P es.toList kvs) (z : Str) :
    match tbLook kvs z with
    | some dd => ∃ u v, PySem.W.nsIn K d z = some (some u) ∧ RelV v u ∧ KD K v dd
    | none => PySem.W.nsIn K d z = some none := by
  have h := KEs.find z k
  unfold PySem.W.nsIn
  rw [l]
  cases q : tbLook kvs z with
  | some dd =>
    rw [q] at h
    obtain ⟨e, v, h1, h2, h3⟩ := h
    refine ⟨e.val, v, ?_, h2, h3⟩
    simp only [h1]
  | none =>
    rw [q] at h
    have h' : es.toList.find? (·.key.isStr z) = none := h
    simp only [h', k.noRef, Bool.false_eq_true, if_false]
section
variable {X : Cx} {W : WX} {a : Expr} {ma : ME} {pos p : Pos}
theorem tb_name {x : Str} {kvs : List (Str × D)} (hg : Gl X x) (h : GlT X.K X.w X.mg x kvs) (hd : (x == ("__debug__" : Str)) = false := by decide) :
    ∃ (d : Addr) (es : Array DictEntry) (n : Nat), KDict X.K X.w d es n ∧ KEs X.K X.w.params es.toList kvs ∧ PE X (.Name x p) (fun _ H Q => Q (.ref d) H) := by
  obtain ⟨d, es, n, h1, h2, h3, h4⟩ := h
  exact ⟨d, es, n, ⟨h2, h4.lit, h3⟩, h4, pe_glob hg h1 rfl hd⟩
theorem d_tbin {x : Str} {kvs : List (Str × D)} (hg : Gl X x) (h : GlT X.K X.w X.mg x kvs) (ha : DE X W a ma) (hd : (x == ("__debug__" : Str)) = false := by decide) (hm : behindInMarks .In (.Name x p) = false := by first | exact nomark _ | rfl) : DE X W (.Compare a [.In] [.Name x p] pos) (mTbIn false kvs ma) := by
  obtain ⟨ta, pa, ka⟩ := ha
  obtain ⟨d, es, n, hD, hK, pn⟩ := tb_name (p := p) hg h hd
  refine ⟨_, pe_cmpR (op_in_kd hD) pa pn hm, fun ξ μ σ H ρ S Q g s h => ka ξ μ σ H ρ S _ g s (WR.bind h fun y S1 v μ1 H1 u1 s1 r1 h1 => ?_)⟩
  cases r1 with
  | str z =>
    have q := nsIn_tab hD.at_ hK z
    cases e : tbLook kvs z with
    | some dd =>
      simp only [e] at q h1
      obtain ⟨u, v', q1, q2, q3⟩ := q
      exact ⟨z, some u, rfl, rfl, q1, h1 _ μ1 H1 .refl s1 (.bl _)⟩
    | none =>
      simp only [e] at q h1
      exact ⟨z, none, rfl, rfl, q, h1 _ μ1 H1 .refl s1 (.bl _)⟩
  | _ => exact h1.elim
theorem d_tbnot {x : Str} {kvs : List (Str × D)} (hg : Gl X x) (h : GlT X.K X.w X.mg x kvs) (ha : DE X W a ma) (hd : (x == ("__debug__" : Str)) = false := by decide) (hm : behindInMarks .NotIn (.Name x p) = false := by first | exact nomark _ | rfl) : DE X W (.Compare a [.NotIn] [.Name x p] pos) (mTbIn true kvs ma) := by
  obtain ⟨ta, pa, ka⟩ := ha
  obtain ⟨d, es, n, hD, hK, pn⟩ := tb_name (p := p) hg h hd
  refine ⟨_, pe_cmpR (op_notIn_kd hD) pa pn hm, fun ξ μ σ H ρ S Q g s h => ka ξ μ σ H ρ S _ g s (WR.bind h fun y S1 v μ1 H1 u1 s1 r1 h1 => ?_)⟩
  cases r1 with
  | str z =>
    have q := nsIn_tab hD.at_ hK z
    cases e : tbLook kvs z with
    | some dd =>
      simp only [e] at q h1
      obtain ⟨u, v', q1, q2, q3⟩ := q
      exact ⟨z, some u, rfl, rfl, q1, h1 _ μ1 H1 .refl s1 (.bl _)⟩
    | none =>
      simp only [e] at q h1
      exact ⟨z, none, rfl, rfl, q, h1 _ μ1 H1 .refl s1 (.bl _)⟩
  | _ => exact h1.elim
theorem dt_tbin {x : Str} {kvs : List (Str × D)} (hg : Gl X x) (h : GlT X.K X.w X.mg x kvs) (ha : DE X W a ma) (hd : (x == ("__debug__" : Str)) = false := by decide) (hm : behindInMarks .In (.Name x p) = false := by first | exact nomark _ | rfl) : DT X W (.Compare a [.In] [.Name x p] pos) (mTbIn false kvs ma) := by
  obtain ⟨ta, pa, ka⟩ := ha
  obtain ⟨d, es, n, hD, hK, pn⟩ := tb_name (p := p) hg h hd
  refine ⟨_, pt_cmpR (op_in_kd hD) pa pn hm, fun ξ μ σ H ρ S Q g s h => ka ξ μ σ H ρ S _ g s (WR.bind (WT'.val h) fun y S1 v μ1 H1 u1 s1 r1 h1 => ?_)⟩
  cases r1 with
  | str z =>
    have q := nsIn_tab hD.at_ hK z
    cases e : tbLook kvs z with
    | some dd =>
      simp only [e] at q h1
      obtain ⟨u, v', q1, q2, q3⟩ := q
      exact ⟨z, some u, rfl, rfl, q1, h1 _ μ1 H1 .refl s1 (.bl _)⟩
    | none =>
      simp only [e] at q h1
      exact ⟨z, none, rfl, rfl, q, h1 _ μ1 H1 .refl s1 (.bl _)⟩
  | _ => exact h1.elim
theorem dt_tbnot {x : Str} {kvs : List (Str × D)} (hg : Gl X x) (h : GlT X.K X.w X.mg x kvs) (ha : DE X W a ma) (hd : (x == ("__debug__" : Str)) = false := by decide) (hm : behindInMarks .NotIn (.Name x p) = false := by first | exact nomark _ | rfl) : DT X W (.Compare a [.NotIn] [.Name x p] pos) (mTbIn true kvs ma) := by
  obtain ⟨ta, pa, ka⟩ := ha
  obtain ⟨d, es, n, hD, hK, pn⟩ := tb_name (p := p) hg h hd
  refine ⟨_, pt_cmpR (op_notIn_kd hD) pa pn hm, fun ξ μ σ H ρ S Q g s h => ka ξ μ σ H ρ S _ g s (WR.bind (WT'.val h) fun y S1 v μ1 H1 u1 s1 r1 h1 => ?_)⟩
  cases r1 with
  | str z =>
    have q := nsIn_tab hD.at_ hK z
    cases e : tbLook kvs z with
    | some dd =>
      simp only [e] at q h1
      obtain ⟨u, v', q1, q2, q3⟩ := q
      exact ⟨z, some u, rfl, rfl, q1, h1 _ μ1 H1 .refl s1 (.bl _)⟩
    | none =>
      simp only [e] at q h1
      exact ⟨z, none, rfl, rfl, q, h1 _ μ1 H1 .refl s1 (.bl _)⟩
  | _ => exact h1.elim
theorem d_tbix {x : Str} {kvs : List (Str × D)} (hg : Gl X x) (h : GlT X.K X.w X.mg x kvs) (ha : DE X W a ma) (hd : (x == ("__debug__" : Str)) = false := by decide) (hs : PlainIx a := by exact fun _ _ => rfl) : DE X W (.Subscript (.Name x p) a pos) (mTbIx kvs ma) := by
  obtain ⟨ta, pa, ka⟩ := ha
  obtain ⟨d, es, n, hD, hK, pn⟩ := tb_name (p := p) hg h hd
  refine ⟨_, pe_ix ix_kdict pn pa hs, fun ξ μ σ H ρ S Q g s h => ka ξ μ σ H ρ S _ g s (WR.bind h fun y S1 v μ1 H1 u1 s1 r1 h1 => ?_)⟩
  cases r1 with
  | str z =>
    have q := nsIn_tab hD.at_ hK z
    cases e : tbLook kvs z with
    | some dd =>
      simp only [e] at q h1
      obtain ⟨u, v', q1, q2, q3⟩ := q
      exact ⟨d, z, v', rfl, rfl, ⟨es, n, u, hD.at_, hD.lit, q1, q2⟩, h1 _ μ1 H1 .refl s1 (KD.rd (F := fx X ξ) dd q3)⟩
    | none =>
      simp only [e] at h1
      exact h1.elim
  | _ => exact h1.elim
end
end Dm
-- text DmG
namespace Dm
open PySem L2 PySem.Spec PyProof.Rows
open PySem.W (Frag)
/-! ### room under which no repr is under way -/
structure RoomG (k : Nat) (A : Around) : Prop extends Room k A where
  gd : A.guards = some []
theorem RoomG.mono {j k : Nat} {A : Around} (r : RoomG k A) (h : j ≤ k) : RoomG j A := ⟨r.toRoom.mono h, r.gd⟩
theorem RoomG.deeper {k : Nat} {A : Around} (r : RoomG (k + 1) A) (env : Env) : RoomG k (A.deeper env) := ⟨r.toRoom.deeper env, r.gd⟩
theorem roomG_top {k : Nat} (h : Room k callerA) : RoomG k callerA := ⟨h, rfl⟩
structure FnG (P : Program) (w : World) (K : Frag) (mg : Str → Option Value) (base : Heap) (CX : CXT) (k : Nat) (f : Addr) (fd : FuncData) (ps : List Str) (sp : Sp) : Prop where
  len : ∀ vs H Q E, sp vs H Q E → vs.length = ps.length
  run : ∀ (A : Around) (outer : List Env) (s : Shared) (H : Hp) (args : Args) (us : List Value) (vs : List V) (Q : VK) (E : XK), RoomG k A → Env0 P w K mg base A outer s H → BindsTo s fd args (ps.zip us) → Vals vs us → sp vs H Q E →
    codeAny (model P w) A (.call (.ref f) args) (CR CX outer P w H s Q E) s
section
variable {P : Program} {w : World} {K : Frag} {mg : Str → Option Value} {base : Heap} {CX : CXT} {k : Nat} {f : Addr} {fd : FuncData} {ps N : List Str} {sp : Sp}
theorem FnG.mono {j : Nat} (F : FnG P w K mg base CX j f fd ps sp) (h : j ≤ k) : FnG P w K mg base CX k f fd ps sp := ⟨F.len, fun A outer s H args us vs Q E hr => F.run A outer s H args us vs Q E (hr.mono h)⟩
theorem FnG.imp {sp' : Sp} (F : FnG P w K mg base CX k f fd ps sp) (h : ∀ vs H Q E, sp' vs H Q E → sp vs H Q E) : FnG P w K mg base CX k f fd ps sp' :=
  ⟨fun vs H Q E q => F.len vs H Q E (h _ _ _ _ q), fun A outer s H args us vs Q E hr he hb hv hs => F.run A outer s H args us vs Q E hr he hb hv (h _ _ _ _ hs)⟩
/-- the end of a body, told by how it ended -/
theorem ce_of {X : Cx} {outer : List Env} {s s' : Shared} {H H' : Hp} {σ : L2.St} {Q : VK} {v : V} {u : Value} (J : Inv X [] σ H' s') (hP : X.prog = P) (hw : X.w = w) (hs : X.s_0 = s) (hH : X.H_0 = H) (ho : X.fs = frs outer) (hx : X.ex = []) (rv : RelV v u) (q : Q v H') : CE outer P w H s Q u s' := by
  subst hP hw hs hH
  have un := J.base
  rw [ho, hx] at un
  exact ⟨v, H', J.os, J.bare, un, J.hok, rv, q⟩
/-- a def by its body -/
theorem fng_body {name qual : Str} {params : Arguments} {body : List Stmt} {scope : Scope} {dV kV doc pm cdv ct oc : Value} {an od : Option Addr} {osl : Array (Option Value)} (lk : K.lookup f = some ⟨oc, od, .func (PySem.W.fnOf name qual params body scope dV kV doc pm an cdv ct), osl⟩)
    (hcd : PySem.W.codeIn K cdv qual = true) (S : FnScope N ps scope) (len : ∀ vs H Q E, sp vs H Q E → vs.length = ps.length)
    (hbody : ∀ (A : Around) (outer : List Env) (s : Shared) (H : Hp) (vs : List V) (Q : VK) (E : XK), RoomG k (A.deeper (envOfC qual scope s.heap.objs.size f cdv)) → sp vs H Q E →
      ∃ t, PSs (cxOf CX P w K mg base N qual scope f cdv A outer s H E) body t ∧ t { nx := fun _ H' => Q .non H', rt := Q } (L2.start N vs) H) :
    FnG P w K mg base CX (k + 1) f (PySem.W.fnOf name qual params body scope dV kV doc pm an cdv ct) ps sp where
  len := len
  run A outer s H args us vs Q E hr e0 hb r hsp := by
    have up : ∀ b o, base.get? b = some o → s.heap.get? b = some o := fun b o e => (e0.bs b o e).1
    have known : ∀ y ∈ ps.zip us, scope.names.lookup y.1 = some .local ∨ (scope.names.lookup y.1 = some .cell ∧ ((cellsFrom (s.heap.objs.size + 1) scope.names []).lookup y.1).isSome = true) := by
      rintro ⟨n, v⟩ hy
      exact (S.par n (List.of_mem_zip hy).1).imp id fun q => ⟨q, PySem.W.cellsFrom_some _ _ _ (.inl q)⟩
    obtain ⟨t, ht, hq⟩ := hbody A outer s H vs Q E (hr.deeper _) hsp
    refine codeAny_call_function hr.toRoom.depth (e0.mod.kin.keeps up _ _ lk) rfl S.co S.gen rfl (PySem.W.codeRec_of (e0.mod.kin.keeps up) hcd) (hb _ _ _ _ (wpAny_newFunctionEnv_cells S.kind known ?_))
    rintro env rfl s1 x
    refine ⟨(e0.mod.nolimit.keeps up).keeps x.toInCall.keep, codeAny_func (wpAny_mono (ht.run [] s1 (L2.start N vs) H _ (inv_start S hr.toRoom.hd e0 (len _ _ _ _ hsp) r x) hq) ?_ fun _ _ hs => hs)⟩
    intro fl s' hs
    match fl, hs with
    | .ret u, ⟨v, σ', H', J, rv, q⟩ => exact ce_of (outer := outer) J rfl rfl rfl rfl rfl rfl rv q
    | .next, ⟨σ', H', J, q⟩ => exact ce_of (outer := outer) (v := V.non) (u := Value.none) J rfl rfl rfl rfl rfl rfl rfl q
    | .brk, ⟨_, _, _, q⟩ => exact False.elim q
    | .cont, ⟨_, _, _, q⟩ => exact False.elim q
theorem fung_ok {x qual : Str} {st : Stmt} (F : Fun K x qual st f fd) (S : FnScope N ps (defScope st)) (len : ∀ vs H Q E, sp vs H Q E → vs.length = ps.length)
    (hbody : ∀ (cdv : Value) (A : Around) (outer : List Env) (s : Shared) (H : Hp) (vs : List V) (Q : VK) (E : XK), RoomG k (A.deeper (envOfC qual (defScope st) s.heap.objs.size f cdv)) → sp vs H Q E →
      ∃ t, PSs (cxOf CX P w K mg base N qual (defScope st) f cdv A outer s H E) (defBody st) t ∧ t { nx := fun _ H' => Q .non H', rt := Q } (L2.start N vs) H) : FnG P w K mg base CX (k + 1) f fd ps sp := by
  obtain ⟨oc, od, kV, doc, pm, an, cdv, ct, osl, rfl, lk, hcd⟩ := F.ex
  exact fng_body lk hcd S len (hbody cdv)
theorem fundg_ok {x qual : Str} {params : Arguments} {body : List Stmt} {scope : Scope} {dvs : List V} {kws : List (Str × V)} (F : FunD K x qual params body scope dvs kws f fd) (S : FnScope N ps scope) (len : ∀ vs H Q E, sp vs H Q E → vs.length = ps.length)
    (hbody : ∀ (cdv : Value) (A : Around) (outer : List Env) (s : Shared) (H : Hp) (vs : List V) (Q : VK) (E : XK), RoomG k (A.deeper (envOfC qual scope s.heap.objs.size f cdv)) → sp vs H Q E →
      ∃ t, PSs (cxOf CX P w K mg base N qual scope f cdv A outer s H E) body t ∧ t { nx := fun _ H' => Q .non H', rt := Q } (L2.start N vs) H) : FnG P w K mg base CX (k + 1) f fd ps sp := by
  obtain ⟨oc, od, dV, kV, doc, pm, an, cdv, ct, osl, rfl, lk, hcd, _, _⟩ := F.ex
  exact fng_body lk hcd S len (hbody cdv)
end
structure FnDG (P : Program) (w : World) (K : Frag) (mg : Str → Option Value) (base : Heap) (k : Nat) (x : Str) (st : Stmt) (ps : List Str) (m : List D → Sto → Res D) : Prop where
  ex : ∃ f fd, mg x = some (.ref f) ∧ Fun K x x st f fd ∧ Binds K fd ps [] ∧ FnG P w K mg base (L2.CX P w) k f fd ps (spD K mg m)
structure FnDDG (P : Program) (w : World) (K : Frag) (mg : Str → Option Value) (base : Heap) (k : Nat) (x : Str) (st : Stmt) (dvs : List V) (kws : List (Str × V)) (ps : List Str) (m : List D → Sto → Res D) : Prop where
  ex : ∃ f fd, mg x = some (.ref f) ∧ FunD K x x (defArgs st) (defBody st) (defScope st) dvs kws f fd ∧ FnG P w K mg base (L2.CX P w) k f fd ps (spD K mg m)
section
variable {X : Cx} {CX : CXT} {k : Nat} {f : Addr} {fd : FuncData} {ps : List Str} {sp : Sp} {dvs : List V} {ds : List Value} {E : L2.St → XK} {x : Str} {p pos : Pos} {e : Expr} {es : List Expr} {t : TA}
theorem run_fnSG {pins : List (Addr × Obj)} {σ : L2.St} {H : Hp} {s : Shared} {Q : VK} {us : List Value} {vs : List V} (F : FnG X.prog X.w X.K X.mg X.base CX k f fd ps sp) (hr : RoomG k X.A) (hb : Binds X.K fd ps ds) (hd : Vals dvs ds) (hx : PassesAt CX X σ (E σ))
    (I : Inv X pins σ H s) (r : Vals vs us) (h : sp (vs ++ dvs) H Q (E σ)) : wpAny (model X.prog X.w) X.A (call (.ref f) us) (EP X pins σ Q) X.xe s := by
  have r2 := r.append hd
  refine wpAny_call (codeAny_mono (F.run X.A X.stack s H ⟨us, []⟩ (us ++ ds) (vs ++ dvs) Q (E σ) hr I.env0 (hb s us I.kIn (r2.length.symm.trans (F.len _ _ _ _ h))) r2 h) fun r s' hq => ?_)
  match r, hq with
  | .error e, q => exact hx pins H s e s' I q
  | .ok (.ret u), q => exact I.after q
  | .ok .next, q => exact False.elim q
  | .ok .brk, q => exact False.elim q
  | .ok .cont, q => exact False.elim q
theorem pe_callSG (F : FnG X.prog X.w X.K X.mg X.base CX k f fd ps sp) (hr : RoomG k X.A) (hg : Gl X x) (hm : X.mg x = some (.ref f)) (hk : PySem.W.keepIn X.K (.ref f) = true) (hb : Binds X.K fd ps ds) (hd : Vals dvs ds) (hx : ∀ σ, PassesAt CX X σ (E σ))
    (ha : PA X (e :: es) t) (hdb : (x == ("__debug__" : Str)) = false := by decide) (he : starEach (e :: es) X.env = (false, eval e X.env) :: starEach es X.env := by rfl) (hpl : (backTo pos (starEach es X.env)).any (·.1) = false := by rfl) :
    PE X (.Call (.Name x p) (e :: es) [] pos) (tCallSD sp dvs E t) where
  run pins s σ H Q I h := wpAny_Call_Name_kw (ld_glob I hg hm (PySem.W.callWith_K (h₀ := X.base) I.ok.mod.kin hk (thn (ha.run pos pins s σ H _ I h) fun us s1 ⟨vs, H1, I1, r, q⟩ => ⟨I1.kIn, run_fnSG F hr hb hd (hx σ) I1 r q⟩) he hpl) hdb)
end
section
variable {P : Program} {w : World} {K : Frag} {mg : Str → Option Value} {base : Heap}
theorem FnDG.mono {j k : Nat} {x : Str} {st : Stmt} {ps : List Str} {m : List D → Sto → Res D} (F : FnDG P w K mg base j x st ps m) (h : j ≤ k) : FnDG P w K mg base k x st ps m :=
  let ⟨f, fd, a, b, c, d⟩ := F; ⟨f, fd, a, b, c, d.mono h⟩
theorem fnd_mkG {x : Str} {st : Stmt} {f : Addr} {fd : FuncData} {N ps : List Str} {k np nN : Nat} {mb : MS} (hm : mg x = some (.ref f)) (F : Fun K x x st f fd) (B : Binds K fd ps []) (S : FnScope N ps (defScope st)) (hnp : ps.length = np) (hnN : N.length = nN)
    (hb : ∀ (cdv : Value) (A : Around) (outer : List Env) (s : Shared) (H : Hp) (E : XK), RoomG k (A.deeper (envOfC x (defScope st) s.heap.objs.size f cdv)) →
      DSs (cxOf (L2.CX P w) P w K mg base N x (defScope st) f cdv A outer s H E) (fun cls d _ H => E cls d H) (defBody st) mb) : FnDG P w K mg base (k + 1) x st ps (mDef np nN mb) := by
  subst hnp hnN
  refine ⟨f, fd, hm, F, B, fung_ok F S (fun vs H Q E h => ?_) (fun cdv A outer s H vs Q E hr h => ?_)⟩
  · obtain ⟨ξ, μ, ds, S0, s0, r0, w0⟩ := h
    unfold mDef at w0
    by_cases c : ds.length = ps.length
    · rw [r0.length]; exact c
    · rw [if_neg c] at w0; exact w0.elim
  · obtain ⟨ξ, μ, ds, S0, s0, r0, w0⟩ := h
    obtain ⟨ts, pt, kt⟩ := hb cdv A outer s H E hr
    refine ⟨ts, pt, ?_⟩
    unfold mDef at w0
    by_cases c : ds.length = ps.length
    · rw [if_pos c] at w0
      refine kt ξ μ _ H _ S0 _ (rg_start r0) s0 ?_
      show WS' ⟨K, mg, ξ⟩ _ _ _ μ H
      rw [c]
      cases e : mb (ds.map some ++ List.replicate (N.length - ps.length) none) S0 with
      | nx ρ S' => rw [e] at w0; exact fun σ μ' H' u s g => w0 _ μ' H' u s .non
      | rt d S' => rw [e] at w0; exact w0
      | exc c fs ρ S' => rw [e] at w0; exact fun cls dd σ μ' H' u s g x => w0 cls dd μ' H' u s x
      | bk ρ S' => rw [e] at w0; exact w0.elim
      | ct ρ S' => rw [e] at w0; exact w0.elim
      | bad => rw [e] at w0; exact w0.elim
    · rw [if_neg c] at w0; exact w0.elim
theorem fnd_badG {x : Str} {st : Stmt} {f : Addr} {fd : FuncData} {ps : List Str} {k : Nat} (hm : mg x = some (.ref f)) (F : Fun K x x st f fd) (B : Binds K fd ps []) : FnDG P w K mg base k x st ps (fun _ _ => .bad) :=
  ⟨f, fd, hm, F, B, ⟨fun vs H Q E h => (let ⟨_, _, _, _, _, _, w0⟩ := h; False.elim w0), fun A outer s H args us vs Q E hr he hb hv h => (let ⟨_, _, _, _, _, _, w0⟩ := h; False.elim w0)⟩⟩
theorem fndd_mkG {x : Str} {st : Stmt} {f : Addr} {fd : FuncData} {N ps : List Str} {dvs : List V} {kws : List (Str × V)} {k np nN : Nat} {mb : MS} (hm : mg x = some (.ref f)) (F : FunD K x x (defArgs st) (defBody st) (defScope st) dvs kws f fd) (S : FnScope N ps (defScope st)) (hnp : ps.length = np) (hnN : N.length = nN)
    (hb : ∀ (cdv : Value) (A : Around) (outer : List Env) (s : Shared) (H : Hp) (E : XK), RoomG k (A.deeper (envOfC x (defScope st) s.heap.objs.size f cdv)) →
      DSs (cxOf (L2.CX P w) P w K mg base N x (defScope st) f cdv A outer s H E) (fun cls d _ H => E cls d H) (defBody st) mb) : FnDDG P w K mg base (k + 1) x st dvs kws ps (mDef np nN mb) := by
  subst hnp hnN
  refine ⟨f, fd, hm, F, fundg_ok F S (fun vs H Q E h => ?_) (fun cdv A outer s H vs Q E hr h => ?_)⟩
  · obtain ⟨ξ, μ, ds, S0, s0, r0, w0⟩ := h
    unfold mDef at w0
    by_cases c : ds.length = ps.length
    · rw [r0.length]; exact c
    · rw [if_neg c] at w0; exact w0.elim
  · obtain ⟨ξ, μ, ds, S0, s0, r0, w0⟩ := h
    obtain ⟨ts, pt, kt⟩ := hb cdv A outer s H E hr
    refine ⟨ts, pt, ?_⟩
    unfold mDef at w0
    by_cases c : ds.length = ps.length
    · rw [if_pos c] at w0
      refine kt ξ μ _ H _ S0 _ (rg_start r0) s0 ?_
      show WS' ⟨K, mg, ξ⟩ _ _ _ μ H
      rw [c]
      cases e : mb (ds.map some ++ List.replicate (N.length - ps.length) none) S0 with
      | nx ρ S' => rw [e] at w0; exact fun σ μ' H' u s g => w0 _ μ' H' u s .non
      | rt d S' => rw [e] at w0; exact w0
      | exc c fs ρ S' => rw [e] at w0; exact fun cls dd σ μ' H' u s g x => w0 cls dd μ' H' u s x
      | bk ρ S' => rw [e] at w0; exact w0.elim
      | ct ρ S' => rw [e] at w0; exact w0.elim
      | bad => rw [e] at w0; exact w0.elim
    · rw [if_neg c] at w0; exact w0.elim
theorem law_okG {x sp : Str} {st : Stmt} {f : Addr} {fd : FuncData} {k : Nat} {m : List D → Sto → Res D} (hm : mg x = some (.ref f)) (F : Fun K x x st f fd) (G : FnDG P w K mg base k x st [sp] m) (h : LawTrue m) :
    FnG P w K mg base (L2.CX P w) k f fd [sp] (spLaw K) := by
  obtain ⟨f', fd', hm', F', B', G'⟩ := G
  rw [hm] at hm'
  cases hm'
  have e : fd = fd' := by
    obtain ⟨oc, od, kV, doc, pm, an, cdv, ct, osl, e1, lk, hcd⟩ := F.ex
    obtain ⟨oc', od', kV', doc', pm', an', cdv', ct', osl', e1', lk', hcd'⟩ := F'.ex
    rw [lk] at lk'
    have q := Option.some.inj lk'
    injection q with q1 q2 q3 q4
    injection q3
  subst e
  refine G'.imp fun vs H Q E hh => ?_
  obtain ⟨a, ns, rfl, hS, hl, q⟩ := hh
  obtain ⟨S', e⟩ := h ns hl
  refine ⟨[], [], [.lst (ns.map .int)], [], ⟨rfl, .nil, (fun n a c e _ => nomatch e), (fun a h => nomatch h)⟩, .cons (.lst ?_ (rds_ints ns)) .nil, ?_⟩
  · exact hS.imp (fun z => ⟨z, List.not_mem_nil, List.not_mem_nil⟩) id
  · rw [e]
    intro v μ' H' u s r
    cases r
    exact q H'
end
section
variable {X : Cx} {W : WX} {tg e a b c : Expr} {es : List Expr} {kws : List Keyword} {kw : Keyword} {st : Stmt} {sts ts : List Stmt} {ma mb mc m : ME} {mr mk : MA} {m1 m2 : MS} {pos p p1 p2 p3 kpos : Pos} {nm : Option Str}
theorem d_callG {j k : Nat} {x : Str} {ps : List Str} {f : List D → Sto → Res D} (F : FnDG X.prog X.w X.K X.mg X.base j x st ps f) (hr : RoomG k X.A) (tk : Takes X W) (ha : DA X W (e :: es) mr) (hj : j ≤ k := by decide) (hg : Gl X x := by rfl)
    (hdb : (x == ("__debug__" : Str)) = false := by decide) (he : starEach (e :: es) X.env = (false, eval e X.env) :: starEach es X.env := by rfl) (hpl : (backTo pos (starEach es X.env)).any (·.1) = false := by rfl) :
    DE X W (.Call (.Name x p) (e :: es) [] pos) (mCall f mr) := by
  obtain ⟨fa, fd, hm, Fu, B, G⟩ := F
  obtain ⟨ta, pa, ka⟩ := ha
  refine ⟨_, pe_callSG G (hr.mono hj) hg hm Fu.kp B .nil (fun σ => passAt tk σ) pa hdb he hpl, fun ξ μ σ H ρ S Q g s h => ka ξ μ σ H ρ S _ g s (WR.bind h fun xs S1 vs μ1 H1 u1 s1 r1 h1 => ?_)⟩
  rw [List.append_nil]
  exact ⟨ξ, μ1, xs, S1, s1, r1, h1⟩
theorem pe_call0SG {CX : CXT} {j k : Nat} {x : Str} {f : Addr} {fd : FuncData} {ps : List Str} {sp : Sp} {E : L2.St → XK} (F : FnG X.prog X.w X.K X.mg X.base CX k f fd ps sp) (hr : RoomG k X.A) (hg : Gl X x) (hm : X.mg x = some (.ref f)) (hk : PySem.W.keepIn X.K (.ref f) = true) (hb : Binds X.K fd ps []) (hx : ∀ σ, PassesAt CX X σ (E σ))
    (hdb : (x == ("__debug__" : Str)) = false := by decide) : PE X (.Call (.Name x p) [] [] pos) (tCallSD sp [] E tNil) := by
  refine ⟨fun pins s σ H Q I h => ?_⟩
  refine wpAny_Call_Name_kw (ld_glob I hg hm ?_ hdb)
  refine PySem.W.callWith_K0 I.kIn hk ?_
  exact run_fnSG F hr hb .nil (hx σ) I .nil h
theorem d_call0G {j k : Nat} {x : Str} {ps : List Str} {f : List D → Sto → Res D} (F : FnDG X.prog X.w X.K X.mg X.base j x st ps f) (hr : RoomG k X.A) (tk : Takes X W) (hj : j ≤ k := by decide) (hg : Gl X x := by rfl)
    (hdb : (x == ("__debug__" : Str)) = false := by decide) : DE X W (.Call (.Name x p) [] [] pos) (mCall f mNil) := by
  obtain ⟨fa, fd, hm, Fu, B, G⟩ := F
  refine ⟨_, pe_call0SG (j := j) G (hr.mono hj) hg hm Fu.kp B (fun σ => passAt tk σ) hdb, fun ξ μ σ H ρ S Q g s h => ?_⟩
  exact ⟨ξ, μ, [], S, s, .nil, h⟩
theorem run_fnPG {CX : CXT} {k n : Nat} {f : Addr} {fd : FuncData} {ps ks : List Str} {sp : Sp} {E : L2.St → XK} {perm : List Nat} {pins : List (Addr × Obj)} {σ : L2.St} {H : Hp} {s : Shared} {Q : VK} {us ws : List Value} {vs zs : List V} (F : FnG X.prog X.w X.K X.mg X.base CX k f fd ps sp) (hr : RoomG k X.A)
    (hb : KwB X.K fd ps n ks perm) (hx : ∀ σ, PassesAt CX X σ (E σ)) (I : Inv X pins σ H s) (r : Vals vs us) (rz : Vals zs ws) (l1 : vs.length = n) (l2 : zs.length = ks.length) (h : sp (perm.filterMap ((vs ++ zs)[·]?)) H Q (E σ)) :
    wpAny (model X.prog X.w) X.A (call (.ref f) us (ks.zip ws)) (EP X pins σ Q) X.xe s := by
  have r2 := vals_perm perm (r.append rz)
  refine wpAny_call (codeAny_mono (F.run X.A X.stack s H ⟨us, ks.zip ws⟩ _ _ Q (E σ) hr I.env0 (.of_eq (hb us ws (r.length.symm.trans l1) (rz.length.symm.trans l2))) r2 h) fun r s' hq => ?_)
  cases r with
  | error e => exact hx σ pins H s e s' I hq
  | ok fl =>
    cases fl with
    | ret u => exact I.after hq
    | next => exact False.elim hq
    | brk => exact False.elim hq
    | cont => exact False.elim hq
theorem d_callKG {j k n : Nat} {x : Str} {ps ks : List Str} {f : List D → Sto → Res D} (F : FnDG X.prog X.w X.K X.mg X.base j x st ps f) (perm : List Nat)
    (hb : ∀ (kV doc pm : Value) (an : Option Addr) (cdv ct : Value) (us ws : List Value), us.length = n → ws.length = ks.length → bindArgs (PySem.W.fnOf x x (defArgs st) (defBody st) (defScope st) .none kV doc pm an cdv ct) ⟨us, ks.zip ws⟩ = pure (ps.zip (perm.filterMap ((us ++ ws)[·]?))))
    (hr : RoomG k X.A) (tk : Takes X W) (ha : DA X W (e :: es) mr) (hkw : DK X W kws mk) (hj : j ≤ k := by decide) (hg : Gl X x := by rfl) (hall : (backToKw pos (keywordEach kws X.env)).all (·.1.isSome) = true := by rfl) (hks : (backToKw pos (keywordEach kws X.env)).filterMap (·.1) = ks := by rfl)
    (hdb : (x == ("__debug__" : Str)) = false := by decide) (he : starEach (e :: es) X.env = (false, eval e X.env) :: starEach es X.env := by rfl)
    (hpl : ((backTo pos (starEach (e :: es) X.env)).any (·.1) || (backToKw pos (keywordEach kws X.env)).any (·.1.isNone)) = false := by rfl) : DE X W (.Call (.Name x p) (e :: es) kws pos) (mCallK f n ks.length perm mr mk) := by
  obtain ⟨fa, fd, hm, Fu, B, G⟩ := F
  obtain ⟨ta, pa, ka⟩ := ha
  obtain ⟨tk', pk, kk⟩ := hkw
  have hB : KwB X.K fd ps n ks perm := by
    obtain ⟨oc, od, kV, doc, pm, an, cdv, ct, osl, rfl, lk, hcd⟩ := Fu.ex
    exact hb kV doc pm an cdv ct
  refine ⟨tCallP n ks.length (spD X.K X.mg f) perm (WE W) ta tk', ⟨fun pins s σ H Q I h => ?_⟩, fun ξ μ σ H ρ S Q g s h => ka ξ μ σ H ρ S _ g s (WR.bind h fun xs S1 vs μ1 H1 u1 s1 r1 h1 => ?_)⟩
  · refine wpAny_Call_Name_kw (ld_glob I hg hm ?_ hdb)
    refine PySem.W.callWith_KW (h₀ := X.base) I.ok.mod.kin Fu.kp hall (thn (pa.run pos pins s σ H _ I h) fun us s1 ⟨vs, H1, I1, r, q⟩ => ?_) hpl he
    refine thn (pk.run pos pins s1 σ H1 _ I1 q) fun ws s2 ⟨zs, H2, I2, rz, l1, l2, q2⟩ => ⟨I2.kIn, ?_⟩
    rw [hks]
    exact run_fnPG G (hr.mono hj) hB (fun σ => passAt tk σ) I2 r rz l1 l2 q2
  · refine kk ξ μ1 σ H1 ρ S1 _ (g.up u1) s1 (WR.bind h1 fun zs S2 ws μ2 H2 u2 s2 r2 h2 => ?_)
    by_cases c : xs.length = n ∧ zs.length = ks.length
    · rw [if_pos c] at h2
      exact ⟨by rw [r1.length]; exact c.1, by rw [r2.length]; exact c.2, ξ, μ2, _, S2, s2, rds_perm perm ((r1.up u2).append r2), h2⟩
    · rw [if_neg c] at h2; exact h2.elim
theorem d_callK0G {j k : Nat} {x : Str} {ps ks : List Str} {f : List D → Sto → Res D} (F : FnDG X.prog X.w X.K X.mg X.base j x st ps f) (perm : List Nat)
    (hb : ∀ (kV doc pm : Value) (an : Option Addr) (cdv ct : Value) (us ws : List Value), us.length = 0 → ws.length = ks.length → bindArgs (PySem.W.fnOf x x (defArgs st) (defBody st) (defScope st) .none kV doc pm an cdv ct) ⟨us, ks.zip ws⟩ = pure (ps.zip (perm.filterMap ((us ++ ws)[·]?))))
    (hr : RoomG k X.A) (tk : Takes X W) (hkw : DK X W kws mk) (hj : j ≤ k := by decide) (hg : Gl X x := by rfl) (hall : (backToKw pos (keywordEach kws X.env)).all (·.1.isSome) = true := by rfl) (hks : (backToKw pos (keywordEach kws X.env)).filterMap (·.1) = ks := by rfl)
    (hdb : (x == ("__debug__" : Str)) = false := by decide) (hpl : ((backTo pos (starEach [] X.env)).any (·.1) || (backToKw pos (keywordEach kws X.env)).any (·.1.isNone)) = false := by rfl) :
    DE X W (.Call (.Name x p) [] kws pos) (mCallK f 0 ks.length perm mNil mk) := by
  obtain ⟨fa, fd, hm, Fu, B, G⟩ := F
  obtain ⟨tk', pk, kk⟩ := hkw
  have hB : KwB X.K fd ps 0 ks perm := by
    obtain ⟨oc, od, kV, doc, pm, an, cdv, ct, osl, rfl, lk, hcd⟩ := Fu.ex
    exact hb kV doc pm an cdv ct
  refine ⟨tCallP 0 ks.length (spD X.K X.mg f) perm (WE W) tNil tk', ⟨fun pins s σ H Q I h => ?_⟩, fun ξ μ σ H ρ S Q g s h => ?_⟩
  · refine wpAny_Call_Name_kw (ld_glob I hg hm ?_ hdb)
    refine PySem.W.callWith_KW0 (h₀ := X.base) I.ok.mod.kin Fu.kp hall (thn (pk.run pos pins s σ H _ I h) fun ws s2 ⟨zs, H2, I2, rz, l1, l2, q2⟩ => ⟨I2.kIn, ?_⟩) hpl
    rw [hks]
    exact run_fnPG G (hr.mono hj) hB (fun σ => passAt tk σ) I2 .nil rz l1 l2 q2
  · refine kk ξ μ σ H ρ S _ g s (WR.bind (f := fun zs S2 => if ([] : List D).length = 0 ∧ zs.length = ks.length then f (perm.filterMap (([] ++ zs)[·]?)) S2 else .bad) h fun zs S2 ws μ2 H2 u2 s2 r2 h2 => ?_)
    by_cases c : ([] : List D).length = 0 ∧ zs.length = ks.length
    · rw [if_pos c] at h2
      exact ⟨rfl, by rw [r2.length]; exact c.2, ξ, μ2, _, S2, s2, rds_perm perm (RDs.append .nil r2), h2⟩
    · rw [if_neg c] at h2; exact h2.elim

theorem run_fnPDG {CX : CXT} {k n : Nat} {f : Addr} {fd : FuncData} {ps ks : List Str} {sp : Sp} {E : L2.St → XK} {perm : List Nat} {pins : List (Addr × Obj)} {σ : L2.St} {H : Hp} {s : Shared} {Q : VK} {us ws dv : List Value} {vs zs dd : List V} (F : FnG X.prog X.w X.K X.mg X.base CX k f fd ps sp) (hr : RoomG k X.A)
    (hdv : Vals dd dv) (hb : ∀ (s : Shared) (us ws : List Value), X.K.In s.heap → us.length = n → ws.length = ks.length → BindsTo s fd ⟨us, ks.zip ws⟩ (ps.zip (perm.filterMap ((us ++ ws ++ dv)[·]?)))) (hx : ∀ σ, PassesAt CX X σ (E σ)) (I : Inv X pins σ H s) (r : Vals vs us) (rz : Vals zs ws) (l1 : vs.length = n) (l2 : zs.length = ks.length) (h : sp (perm.filterMap ((vs ++ zs ++ dd)[·]?)) H Q (E σ)) :
    wpAny (model X.prog X.w) X.A (call (.ref f) us (ks.zip ws)) (EP X pins σ Q) X.xe s := by
  have r2 := vals_perm perm ((r.append rz).append hdv)
  refine wpAny_call (codeAny_mono (F.run X.A X.stack s H ⟨us, ks.zip ws⟩ _ _ Q (E σ) hr I.env0 (hb s us ws I.kIn (r.length.symm.trans l1) (rz.length.symm.trans l2)) r2 h) fun r s' hq => ?_)
  cases r with
  | error e => exact hx σ pins H s e s' I hq
  | ok fl =>
    cases fl with
    | ret u => exact I.after hq
    | next => exact False.elim hq
    | brk => exact False.elim hq
    | cont => exact False.elim hq
theorem d_callDG {j k n : Nat} {x : Str} {ps ks : List Str} {dvs : List V} {kwd : List (Str × V)} {f : List D → Sto → Res D} (F : FnDDG X.prog X.w X.K X.mg X.base j x st dvs kwd ps f) (perm : List Nat) {dd : List V} {de : List D} (hb : KwBD X.K x st dvs kwd ps n ks perm dd) (hde : KDs X.K dd de)
    (hr : RoomG k X.A) (tk : Takes X W) (ha : DA X W (e :: es) mr) (hkw : DK X W (kw :: kws) mk) (hj : j ≤ k := by decide) (hg : Gl X x := by rfl) (hall : (backToKw pos (keywordEach (kw :: kws) X.env)).all (·.1.isSome) = true := by rfl) (hks : (backToKw pos (keywordEach (kw :: kws) X.env)).filterMap (·.1) = ks := by rfl)
    (hdb : (x == ("__debug__" : Str)) = false := by decide) (he : starEach (e :: es) X.env = (false, eval e X.env) :: starEach es X.env := by rfl)
    (hpl : ((backTo pos (starEach (e :: es) X.env)).any (·.1) || (backToKw pos (keywordEach (kw :: kws) X.env)).any (·.1.isNone)) = false := by rfl) : DE X W (.Call (.Name x p) (e :: es) (kw :: kws) pos) (mCallD f n ks.length perm de mr mk) := by
  obtain ⟨fa, fd, hm, Fu, G⟩ := F
  obtain ⟨ta, pa, ka⟩ := ha
  obtain ⟨tk', pk, kk⟩ := hkw
  obtain ⟨dv, hdv, hB⟩ := hb fa fd Fu
  refine ⟨tCallPD n ks.length (spD X.K X.mg f) perm dd (WE W) ta tk', ⟨fun pins s σ H Q I h => ?_⟩, fun ξ μ σ H ρ S Q g s h => ka ξ μ σ H ρ S _ g s (WR.bind h fun xs S1 vs μ1 H1 u1 s1 r1 h1 => ?_)⟩
  · refine wpAny_Call_Name_kw (ld_glob I hg hm ?_ hdb)
    refine PySem.W.callWith_KW (h₀ := X.base) I.ok.mod.kin Fu.kp hall (thn (pa.run pos pins s σ H _ I h) fun us s1 ⟨vs, H1, I1, r, q⟩ => ?_) hpl he
    refine thn (pk.run pos pins s1 σ H1 _ I1 q) fun ws s2 ⟨zs, H2, I2, rz, l1, l2, q2⟩ => ⟨I2.kIn, ?_⟩
    rw [hks]
    exact run_fnPDG G (hr.mono hj) hdv hB (fun σ => passAt tk σ) I2 r rz l1 l2 q2
  · refine kk ξ μ1 σ H1 ρ S1 _ (g.up u1) s1 (WR.bind h1 fun zs S2 ws μ2 H2 u2 s2 r2 h2 => ?_)
    by_cases c : xs.length = n ∧ zs.length = ks.length
    · rw [if_pos c] at h2
      exact ⟨by rw [r1.length]; exact c.1, by rw [r2.length]; exact c.2, ξ, μ2, _, S2, s2, rds_perm perm (((r1.up u2).append r2).append (rds_rd (F := fx X ξ) rfl hde)), h2⟩
    · rw [if_neg c] at h2; exact h2.elim
theorem d_callD1G {j k n : Nat} {x : Str} {ps : List Str} {dvs : List V} {kwd : List (Str × V)} {f : List D → Sto → Res D} (F : FnDDG X.prog X.w X.K X.mg X.base j x st dvs kwd ps f) (perm : List Nat) {dd : List V} {de : List D} (hb : KwBD X.K x st dvs kwd ps n [] perm dd) (hde : KDs X.K dd de)
    (hr : RoomG k X.A) (tk : Takes X W) (ha : DA X W (e :: es) mr) (hj : j ≤ k := by decide) (hg : Gl X x := by rfl)
    (hdb : (x == ("__debug__" : Str)) = false := by decide) (he : starEach (e :: es) X.env = (false, eval e X.env) :: starEach es X.env := by rfl) (hpl : (backTo pos (starEach es X.env)).any (·.1) = false := by rfl) : DE X W (.Call (.Name x p) (e :: es) [] pos) (mCallD f n 0 perm de mr mNil) := by
  obtain ⟨fa, fd, hm, Fu, G⟩ := F
  obtain ⟨ta, pa, ka⟩ := ha
  obtain ⟨dv, hdv, hB⟩ := hb fa fd Fu
  refine ⟨tCallPD n 0 (spD X.K X.mg f) perm dd (WE W) ta tNil, ⟨fun pins s σ H Q I h => ?_⟩, fun ξ μ σ H ρ S Q g s h => ka ξ μ σ H ρ S _ g s (WR.bind h fun xs S1 vs μ1 H1 u1 s1 r1 h1 => ?_)⟩
  · refine wpAny_Call_Name_kw (ld_glob I hg hm ?_ hdb)
    refine PySem.W.callWith_K (h₀ := X.base) I.ok.mod.kin Fu.kp (thn (pa.run pos pins s σ H _ I h) fun us s1 ⟨vs, H1, I1, r, l1, l2, q⟩ => ⟨I1.kIn, ?_⟩) he hpl
    exact run_fnPDG (ks := []) (ws := []) (zs := []) G (hr.mono hj) hdv hB (fun σ => passAt tk σ) I1 r .nil l1 rfl q
  · have h1 : WE' (fx X ξ) (if xs.length = n ∧ ([] : List D).length = 0 then f (perm.filterMap ((xs ++ [] ++ de)[·]?)) S1 else .bad) Q (fun cls dd H' => W cls dd σ H') μ1 H1 := h1
    by_cases c : xs.length = n ∧ ([] : List D).length = 0
    · rw [if_pos c] at h1
      exact ⟨by rw [r1.length]; exact c.1, rfl, ξ, μ1, _, S1, s1, rds_perm perm ((r1.append .nil).append (rds_rd (F := fx X ξ) rfl hde)), h1⟩
    · rw [if_neg c] at h1; exact h1.elim
theorem d_callD0G {j k : Nat} {x : Str} {ps ks : List Str} {dvs : List V} {kwd : List (Str × V)} {f : List D → Sto → Res D} (F : FnDDG X.prog X.w X.K X.mg X.base j x st dvs kwd ps f) (perm : List Nat) {dd : List V} {de : List D} (hb : KwBD X.K x st dvs kwd ps 0 ks perm dd) (hde : KDs X.K dd de)
    (hr : RoomG k X.A) (tk : Takes X W) (hkw : DK X W (kw :: kws) mk) (hj : j ≤ k := by decide) (hg : Gl X x := by rfl) (hall : (backToKw pos (keywordEach (kw :: kws) X.env)).all (·.1.isSome) = true := by rfl) (hks : (backToKw pos (keywordEach (kw :: kws) X.env)).filterMap (·.1) = ks := by rfl)
    (hdb : (x == ("__debug__" : Str)) = false := by decide) (hpl : ((backTo pos (starEach [] X.env)).any (·.1) || (backToKw pos (keywordEach (kw :: kws) X.env)).any (·.1.isNone)) = false := by rfl) :
    DE X W (.Call (.Name x p) [] (kw :: kws) pos) (mCallD f 0 ks.length perm de mNil mk) := by
  obtain ⟨fa, fd, hm, Fu, G⟩ := F
  obtain ⟨tk', pk, kk⟩ := hkw
  obtain ⟨dv, hdv, hB⟩ := hb fa fd Fu
  refine ⟨tCallPD 0 ks.length (spD X.K X.mg f) perm dd (WE W) tNil tk', ⟨fun pins s σ H Q I h => ?_⟩, fun ξ μ σ H ρ S Q g s h => ?_⟩
  · refine wpAny_Call_Name_kw (ld_glob I hg hm ?_ hdb)
    refine PySem.W.callWith_KW0 (h₀ := X.base) I.ok.mod.kin Fu.kp hall (thn (pk.run pos pins s σ H _ I h) fun ws s2 ⟨zs, H2, I2, rz, l1, l2, q2⟩ => ⟨I2.kIn, ?_⟩) hpl
    rw [hks]
    exact run_fnPDG G (hr.mono hj) hdv hB (fun σ => passAt tk σ) I2 .nil rz l1 l2 q2
  · refine kk ξ μ σ H ρ S _ g s (WR.bind (f := fun zs S2 => if ([] : List D).length = 0 ∧ zs.length = ks.length then f (perm.filterMap (([] ++ zs ++ de)[·]?)) S2 else .bad) h fun zs S2 ws μ2 H2 u2 s2 r2 h2 => ?_)
    by_cases c : ([] : List D).length = 0 ∧ zs.length = ks.length
    · rw [if_pos c] at h2
      exact ⟨rfl, by rw [r2.length]; exact c.2, ξ, μ2, _, S2, s2, rds_perm perm ((RDs.append .nil r2).append (rds_rd (F := fx X ξ) rfl hde)), h2⟩
    · rw [if_neg c] at h2; exact h2.elim
end
end Dm
-- text DmGEnd
namespace Dm
open PySem L2 PySem.Spec PyProof.Rows
open PySem.W (Frag)
/-- of all addresses the script's alone may be tracked, frozen, and then the written part does not know it -/
def Lone (K : Frag) (a : Addr) (H : Hp) : Prop := ∀ b, H b = none ∨ (b = a ∧ K.lookup a = none ∧ ∃ o xs, H b = some (.frz o (.lst xs)))
section
variable {P : Program} {w : World} {K : Frag} {mg mb : Str → Option Value} {k : Nat} {fa a : Addr} {fd : FuncData} {x : Str} {s : Shared} {vs : List Value} {ns : List Int} {H : Hp}
theorem Lone.free (L : Lone K a H) (KX : K.In s.heap) {b : Addr} {o : Obj} (h : K.lookup b = some o) : H b = none := by
  rcases L b with q | ⟨rfl, q, _⟩
  · exact q
  · rw [q] at h; cases h
theorem Lone.dic (L : Lone K a H) (ha : s.heap.get? a = some { cls := .type "list", data := .seq vs.toArray }) {b : Addr} {o : Obj} {es : Array DictEntry} {n : Nat} (h : s.heap.get? b = some o) (hd : o.data = .dict es n) : H b = none := by
  rcases L b with q | ⟨rfl, _, _⟩
  · exact q
  · rw [ha] at h
    cases h
    cases (show Data.seq vs.toArray _ = Data.dict es n from hd)
theorem Lone.nsp (L : Lone K a H) (ha : s.heap.get? a = some { cls := .type "list", data := .seq vs.toArray }) {b : Addr} {m : Str → Option Value} (h : s.heap.Ns b m) : (hidT s.heap H).Ns b m := by
  obtain ⟨o, es, ep, h1, h2, h3⟩ := h
  exact ⟨o, es, ep, hidT_get h1 (L.dic ha h1 h2), h2, h3⟩
/-- the call of the law, from an abstract heap -/
theorem lone_call (L : Lone K a H) (KX : K.In s.heap) (hns : s.heap.Ns mainGlobals mg) (hb : s.heap.Ns builtinsNs mb) (hbb : ∀ x : Str, x ≠ "__name__" → mb x = bootBuiltins x) (hlim : s.heap.NoLimit) (hg : s.gens = #[])
    (ha : s.heap.get? a = some { cls := .type "list", data := .seq vs.toArray }) (hr : RoomG k callerA) (F : ∀ base : Heap, K.In base → base.Ns mainGlobals mg → FnG P w K mg base (L2.CX P w) k fa fd [x] (spLaw K))
    (hbind : ∀ (s : Shared) (u : Value), BindsTo s fd ⟨[u], []⟩ [(x, u)]) (hS : SqL K H a (ns.map V.int)) (hl : ns.length ≤ 63) (hok : HOk P w H s.heap) :
    codeAny (model P w) callerA (.call (.ref fa) ⟨[.ref a], []⟩) (fun r s' => r = .ok (.ret (.bool true)) ∧ OldK s.heap s'.heap ∧ s'.os = s.os ∧ AllBare s'.gens) s := by
  have hK : K.In (hidT s.heap H) := fun b o e => hidT_get (KX b o e) (L.free KX e)
  obtain ⟨mc, l1, l2⟩ := hlim
  have e0 : Env0 P w K mg (hidT s.heap H) callerA [] s H := {
    frames := rfl
    mod := ⟨hK, L.nsp ha hns, ⟨mb, L.nsp ha hb, hbb⟩, ⟨mc, L.nsp ha l1, l2⟩⟩
    bs := fun b o e => of_hidT e
    bsz := Nat.le_of_eq (hidT_size _ _)
    funs := trivial
    frf := fun b hb => absurd (show b ∈ ([] : List Addr) from hb) List.not_mem_nil
    hok := hok
    bare := .of_eq hg }
  have sp : spLaw K [.ref a] H (fun v _ => v = .bl true) fun _ _ _ => False := ⟨a, ns, rfl, hS, hl, fun _ => rfl⟩
  refine codeAny_mono ((F _ hK (L.nsp ha hns)).run callerA [] s H ⟨[.ref a], []⟩ [.ref a] [.ref a] _ _ hr e0 (hbind s (.ref a)) (.cons rfl .nil) sp) ?_
  intro r s' h
  match r, h with
  | .error e, h => exact (cx_no h).elim
  | .ok .next, h => exact False.elim h
  | .ok .brk, h => exact False.elim h
  | .ok .cont, h => exact False.elim h
  | .ok (.ret u), ⟨v, H', os, bare, un, hok', rv, q⟩ =>
    obtain rfl : v = .bl true := q
    obtain rfl : u = Value.bool true := rv
    refine ⟨rfl, OldK.of_keep fun b o e => ?_, os, bare⟩
    rcases L b with q | ⟨_, _, ob, xs, q⟩
    · exact un.keep b o e q (fun z => absurd (show b ∈ ([] : List Addr) from z) List.not_mem_nil) List.not_mem_nil
    · have e1 := (hok b _ q).1
      have e2 := (hok' b _ (un.frzs b ob _ q)).1
      rw [e] at e1
      cases e1
      exact e2
/-- the call of the law -/
theorem law_callG (KX : K.In s.heap) (hns : s.heap.Ns mainGlobals mg) (hb : s.heap.Ns builtinsNs mb) (hbb : ∀ x : Str, x ≠ "__name__" → mb x = bootBuiltins x) (hlim : s.heap.NoLimit) (hg : s.gens = #[])
    (ha : s.heap.get? a = some { cls := .type "list", data := .seq vs.toArray }) (hi : IntsAre vs ns) (hl : ns.length ≤ 63) (hr : RoomG k callerA) (F : ∀ base : Heap, K.In base → base.Ns mainGlobals mg → FnG P w K mg base (L2.CX P w) k fa fd [x] (spLaw K))
    (hbind : ∀ (s : Shared) (u : Value), BindsTo s fd ⟨[u], []⟩ [(x, u)]) :
    codeAny (model P w) callerA (.call (.ref fa) ⟨[.ref a], []⟩) (fun r s' => r = .ok (.ret (.bool true)) ∧ OldK s.heap s'.heap ∧ s'.os = s.os ∧ AllBare s'.gens) s := by
  have rv := vals_ints hi
  have hz : ns.length ≤ sizeLine := Nat.le_trans hl (by decide)
  by_cases hk : K.lookup a = none
  · let H : Hp := fun b => if b = a then some (.frz { cls := .type "list", data := .seq vs.toArray } (.lst (ns.map V.int))) else none
    have Ha : H a = some (.frz { cls := .type "list", data := .seq vs.toArray } (.lst (ns.map V.int))) := if_pos rfl
    refine lone_call (H := H) (ns := ns) (vs := vs) (fun b => ?_) KX hns hb hbb hlim hg ha hr F hbind (.inl (.inr ⟨_, Ha⟩)) hl fun b u z => ?_
    · by_cases hb : b = a
      · subst hb
        exact .inr ⟨rfl, hk, _, _, Ha⟩
      · exact .inl (if_neg hb)
    · by_cases hb : b = a
      · subst hb
        rw [Ha] at z
        cases z
        exact ⟨ha, by rw [List.length_map]; exact hz, vs, _, rv, ha⟩
      · rw [show H b = none from if_neg hb] at z
        cases z
  · obtain ⟨o, ho⟩ := Option.ne_none_iff_exists'.mp hk
    have e := KX a o ho
    rw [ha] at e
    cases e
    refine lone_call (H := fun _ => none) (ns := ns) (vs := vs) (fun b => .inl rfl) KX hns hb hbb hlim hg ha hr F hbind ?_ hl fun b u z => nomatch z
    exact .inr ⟨_, vs.toArray, _, ho, rfl, rfl, rfl, by rw [List.size_toArray, hi.length]; exact hz, by simpa using rv⟩
end
theorem walkG_of {l : PySem.W.OpenLaw} {k : Nat} {q : Program} {loose : List Str} {XP : (Str → Option Value) → Heap → Prop} {YP : World → Heap → Prop} {d : DefRec} {K : Params → Frag} {x : Str}
    (hn : l.most = some 63) (hdf : d.params.defaults = []) (hr : Room k callerA) (hY : ∀ (w : World) (h : Heap), YP w h → (K w.params).In h)
    (F : ∀ (w : World) (mg : Str → Option Value) (fa : Addr) (h : Heap), (K w.params).In h → h.Ns mainGlobals mg → mg d.name = some (.ref fa) →
      ∃ fd : FuncData, (∀ (s : Shared) (u : Value), BindsTo s fd ⟨[u], []⟩ [(x, u)]) ∧
        ∀ base : Heap, (K w.params).In base → base.Ns mainGlobals mg → FnG l.prog w (K w.params) mg base (L2.CX l.prog w) k fa fd [x] (spLaw (K w.params))) :
    PySem.W.WalkO q loose XP YP l.row.toRowW d [] (fun f vs => PySem.call f vs) := by
  refine Att.attach_call hn hdf fun w s₀ s₁ mg mb fa o pm cd doc a vs ns G Y ho hd hcd hmg hobj hints hlen hg => ?_
  obtain ⟨fd, hb, hF⟩ := F w mg fa _ (hY w _ Y) G.T.g hmg
  exact law_callG (hY w _ Y) G.T.g G.T.b G.T.builtins G.T.nolimit hg hobj hints hlen (roomG_top hr) hF hb
end Dm
-- text DmRepr
namespace Dm
open PySem L2 PySem.Spec PyProof.Rows
open PySem.W (Frag)
/-! ### repr of plain data -/
def reprOk (d : PyData) : Prop := d.showable = true ∧ d.hasDict = false ∧ d.shown.length ≤ sizeLine ∧ d.depth ≤ 64
def rRepr (K : Frag) : List V → Hp → VK → Prop := fun xs H Q => ∃ x d, xs = [x] ∧ Dp K H x d ∧ reprOk d ∧ Q (.str d.shown) H
open Classical in
noncomputable def gRepr : Sto → List D → Option D := fun S ds => match ds with
  | [x] => match toPyS S x with
    | some d => if reprOk d then some (.str d.shown) else none
    | none => none
  | _ => none
section
variable {X : Cx}
theorem cr_repr {k : Nat} (hr : RoomG k X.A) : CallR X (.builtin "repr") (rRepr X.K) := by
  intro pins s σ H xs us Q I r h
  obtain ⟨x, d, rfl, hd, ⟨h1, h2, h3, h4⟩, q⟩ := h
  obtain ⟨u, rfl, rx⟩ := vals1 r
  obtain ⟨as, rd⟩ := Dp.reads I d x u hd rx
  have hu : X.A.units + (d.depth + 1) < cLine := by
    have := hr.toRoom.un
    omega
  have done : ∀ (h' : Heap) (t : Tok) (tk : Nat), (∀ b o, s.heap.get? b = some o → h'.get? b = some o) → EP X pins σ Q (.str d.shown t) { s with heap := h', toks := tk } := fun h' t tk hk => ⟨.str d.shown, H, I.kept hk, ⟨t, rfl⟩, q⟩
  cases rd with
  | none =>
    simp only [PyData.shown] at done
    exact PySem.P.repr_of_none (done s.heap _ _ fun _ _ e => e)
  | bool b =>
    simp only [PyData.shown] at done
    exact PySem.P.repr_of_bool (done s.heap _ _ fun _ _ e => e)
  | int i t =>
    simp only [PyData.shown] at done
    exact PySem.P.repr_of_int (by simpa [PyData.showable] using h1) (done s.heap _ _ fun _ _ e => e)
  | str y t =>
    simp only [PyData.shown] at done h3
    exact PySem.P.repr_of_str (done s.heap _ _ fun _ _ e => e) h3
  | list a1 a2 a3 a4 => exact repr_of_reads' (.list a1 a2 a3 a4) h1 (fun z => by rw [h2] at z; cases z) hr.gd hu (fun _ _ e => e) (fun h' t tk hk => done h' t tk hk) h3
  | tuple a1 a2 a3 a4 => exact repr_of_reads' (.tuple a1 a2 a3 a4) h1 (fun z => by rw [h2] at z; cases z) hr.gd hu (fun _ _ e => e) (fun h' t tk hk => done h' t tk hk) h3
  | dict a1 a2 a3 a4 a5 => simp only [PyData.hasDict] at h2; cases h2
theorem c_repr : CallD X (rRepr X.K) gRepr := by
  intro ξ μ H S ds vs z Q s r e k
  unfold gRepr at e
  cases r with
  | nil => exact nomatch e
  | @cons v vs d ds r rr =>
    cases rr with
    | cons _ _ => exact nomatch e
    | nil =>
      simp only at e
      cases q : toPyS S d with
      | none => simp only [q] at e; exact nomatch e
      | some p =>
        simp only [q] at e
        split at e
        · rename_i hp
          cases e
          exact ⟨v, p, rfl, dpS_of s r q, hp, k _ μ H .refl s (.str _)⟩
        · exact nomatch e
end
end Dm
-- text DmPar3
namespace Dm
open PySem L2 PySem.Spec PyProof.Rows
open PySem.W (Frag)
/-! ### x, y, z = a, b, c -/
def mPar3 (i j l : Nat) (a : MA) : MS := fun ρ S => ofRes (a ρ S) ρ fun ds S1 => match ds with
  | [d, d', d''] => .nx (((ρ.set i (some d)).set j (some d')).set l (some d'')) S1
  | _ => .bad
section
variable {X : Cx} {W : WX} {a b c : Expr} {mr : MA} {pos : Pos}
theorem ds_par3 (i j l : Nat) {x y z : Str} {px py pz pt pt2 : Pos} {kt k2 : Nat} (hc : X.calm = true) (hN : X.N.Nodup) (ha : DA X W [a, b, c] mr) (hij : i ≠ j := by decide) (hil : i ≠ l := by decide) (hjl : j ≠ l := by decide) (hi : X.N[i]? = some x := by rfl) (hj : X.N[j]? = some y := by rfl) (hl : X.N[l]? = some z := by rfl)
    (hx : X.env.scope.names.lookup x = some .local := by rfl) (hy : X.env.scope.names.lookup y = some .local := by rfl) (hz : X.env.scope.names.lookup z = some .local := by rfl)
    (hw : swappedStores [.Tuple [.Name x px, .Name y py, .Name z pz] kt pt] (.Tuple [a, b, c] k2 pt2) X.env = pure (some [x, y, z]) := by rfl)
    (hs : swapsWithSole [.Tuple [.Name x px, .Name y py, .Name z pz] kt pt] (.Tuple [a, b, c] k2 pt2) pos.line X.env = pure false := by rfl) :
    DS X W (.Assign [.Tuple [.Name x px, .Name y py, .Name z pz] kt pt] (.Tuple [a, b, c] k2 pt2) pos) (mPar3 i j l mr) := by
  obtain ⟨ta, pa, ka⟩ := ha
  refine ⟨_, ps_par3 hc hN hi hj hl hij hil hjl hx hy hz pa hw hs, fun ξ μ σ H ρ S D g s h => ka ξ μ σ H ρ S _ g s (WS'.bind g h fun ds S1 vs μ1 H1 u1 s1 r1 h1 => ?_)⟩
  match ds, r1, h1 with
  | [d, d', d''], .cons r (.cons r2 (.cons r3 .nil)), h1 => exact ⟨_, _, _, rfl, h1 _ μ1 H1 .refl s1 ((((g.up u1).set i r).set j r2).set l r3)⟩
  | [], _, h1 => exact h1.elim
  | [_], _, h1 => exact h1.elim
  | [_, _], _, h1 => exact h1.elim
  | _ :: _ :: _ :: _ :: _, _, h1 => exact h1.elim
end
section
variable {S : Sto} {ρ : Rho} {N B C : Rho → Sto → Prop} {R : D → Sto → Prop}
@[simp] theorem does_par3 {i j l : Nat} {a : MA} : (mPar3 i j l a ρ S).Does N R B C = (a ρ S).Does fun ds S1 => match ds with
    | [d, d', d''] => N (((ρ.set i (some d)).set j (some d')).set l (some d'')) S1
    | _ => False := by
  unfold mPar3
  rw [does_ofRes]; congr 1; funext ds S1
  match ds with
  | [] => rfl
  | [_] => rfl
  | [_, _] => rfl
  | [_, _, _] => rfl
  | _ :: _ :: _ :: _ :: _ => rfl
@[simp] theorem does_tbin {neg : Bool} {kvs : List (Str × D)} {a : ME} {Q : D → Sto → Prop} : (mTbIn neg kvs a ρ S).Does Q = (a ρ S).Does fun x S1 => match x with
    | .str z => Q (.bl (if neg then !(tbLook kvs z).isSome else (tbLook kvs z).isSome)) S1
    | _ => False := by
  unfold mTbIn
  rw [does_bind]; congr 1; funext x S1
  cases x <;> rfl
@[simp] theorem does_tbix {kvs : List (Str × D)} {a : ME} {Q : D → Sto → Prop} : (mTbIx kvs a ρ S).Does Q = (a ρ S).Does fun x S1 => match x with
    | .str z => ∃ d, tbLook kvs z = some d ∧ Q d S1
    | _ => False := by
  unfold mTbIx
  rw [does_bind]; congr 1; funext x S1
  cases x with
  | str z =>
    simp only
    cases e : tbLook kvs z with
    | some d => simp
    | none => exact propext ⟨fun h => h.elim, fun ⟨_, h, _⟩ => nomatch h⟩
  | _ => rfl
end
end Dm
-- text Hw7
namespace Dm
open PySem L2
noncomputable section
def m_is_zones : List D → Sto → Res D := mDef 1 2 (mSeq (mIfS (mOr (mNot (mIsi .tup (mVar 0))) (mNot (mChain gLe gLe (mK (.int 1)) (mCallB gLen (mCons (mVar 0) mNil)) (mK (.int 2))))) (mRet (mK (.bl false))) mNop) (mRet (mCallB gAll (mCons (mFz (mLcA (mVar 0) (tgN 1) mYes (mCall m_is_zone (mCons (mVar 1) mNil)) [1])) mNil))))
def m_need_zones : List D → Sto → Res D := mDef 1 1 (mIfS (mNot (mCall m_is_zones (mCons (mVar 0) mNil))) (mRaise "InvalidZones") mNop)
def m_is_part : List D → Sto → Res D := mDef 4 4 (mSeq (mIfS (mOp gEq (mVar 2) (mK (.str "fold"))) (mRet (mAnd (mIsi .str (mVar 3)) (mOp (gIn false) (mVar 3) (mK (.tup [(.str "early"), (.str "late"), (.str "refuse")]))))) mNop) (mSeq (mIfS (mOp gEq (mVar 2) (mK (.str "gap"))) (mRet (mAnd (mIsi .str (mVar 3)) (mOp (gIn false) (mVar 3) (mK (.tup [(.str "ahead"), (.str "behind"), (.str "refuse")]))))) mNop) (mSeq (mIfS (mNot (mCall m_is_integer (mCons (mVar 3) mNil))) (mRet (mK (.bl false))) mNop) (mSeq (mIfS (mOp gEq (mVar 2) (mK (.str "place"))) (mRet (mChain gLe gLt (mK (.int 0)) (mVar 3) (mCallB gLen (mCons (mVar 0) mNil)))) mNop) (mSeq (mIfS (mOp gEq (mVar 2) (mK (.str "minutes"))) (mRet (mChain gLe gLe (mUn gNeg (mK (.int 100000))) (mVar 3) (mK (.int 100000)))) mNop) (mSeq (mIfS (mNot (mChain gLe gLt (mK (.int 0)) (mVar 3) (mCallB gLen (mCons (mVar 1) mNil)))) (mRet (mK (.bl false))) mNop) (mSeq (mIfS (mOp gEq (mVar 2) (mK (.str "point"))) (mRet (mOp gNe (mOp gIx (mVar 1) (mVar 3)) (mK (.str "span")))) mNop) (mRet (mOp gEq (mOp gIx (mVar 1) (mVar 3)) (mVar 2))))))))))
def m_is_step : List D → Sto → Res D := mDef 3 6 (mSeq (mIfS (mOr (mNot (mIsi .tup (mVar 2))) (mOp gEq (mCallB gLen (mCons (mVar 2) mNil)) (mK (.int 0)))) (mRet (mK (.bl false))) mNop) (mSeq (mIfS (mOr (mNot (mIsi .str (mOp gIx (mVar 2) (mK (.int 0))))) (mTbIn true [("read", (.tup [(.str "moment"), (.str "place")])), ("find", (.tup [(.str "reading"), (.str "place"), (.str "fold"), (.str "gap")])), ("offset", (.tup [(.str "moment"), (.str "place")])), ("edition", (.tup [(.str "moment"), (.str "place")])), ("plus", (.tup [(.str "moment"), (.str "span")])), ("less", (.tup [(.str "reading"), (.str "span")])), ("add", (.tup [(.str "point"), (.str "minutes")]))] (mOp gIx (mVar 2) (mK (.int 0))))) (mRet (mK (.bl false))) mNop) (mSeq (mAsg 3 (mTbIx [("read", (.tup [(.str "moment"), (.str "place")])), ("find", (.tup [(.str "reading"), (.str "place"), (.str "fold"), (.str "gap")])), ("offset", (.tup [(.str "moment"), (.str "place")])), ("edition", (.tup [(.str "moment"), (.str "place")])), ("plus", (.tup [(.str "moment"), (.str "span")])), ("less", (.tup [(.str "reading"), (.str "span")])), ("add", (.tup [(.str "point"), (.str "minutes")]))] (mOp gIx (mVar 2) (mK (.int 0))))) (mSeq (mIfS (mOp gNe (mCallB gLen (mCons (mVar 2) mNil)) (mOp gAdd (mCallB gLen (mCons (mVar 3) mNil)) (mK (.int 1)))) (mRet (mK (.bl false))) mNop) (mRet (mCallB gAll (mCons (mFz (mLc (iEnumS (mVar 3)) (tgU 2 (tgCons (tgN 4) (tgCons (tgN 5) tgNil))) mYes (mCall m_is_part (mCons (mVar 0) (mCons (mVar 1) (mCons (mVar 5) (mCons (mOp gIx (mVar 2) (mOp gAdd (mVar 4) (mK (.int 1)))) mNil))))) [4, 5])) mNil)))))))
def m_kind_made : List D → Sto → Res D := mDef 2 2 (mSeq (mIfS (mOp gEq (mOp gIx (mVar 1) (mK (.int 0))) (mK (.str "add"))) (mRet (mOp gIx (mVar 0) (mOp gIx (mVar 1) (mK (.int 1))))) mNop) (mRet (mTbIx [("read", (.str "reading")), ("find", (.str "moment")), ("offset", (.str "span")), ("edition", (.str "moment")), ("plus", (.str "reading")), ("less", (.str "moment"))] (mOp gIx (mVar 1) (mK (.int 0))))))
def m_kinds_of : List D → Sto → Res D := mDef 1 3 (mSeq (mAsg 1 (mNew (mLst (mCons (mK (.str "moment")) mNil)))) (mSeq (mForA (mVar 0) (tgN 2) (mApp (mVar 1) (mCall m_kind_made (mCons (mVar 1) (mCons (mVar 2) mNil))))) (mRet (mVar 1))))
def m_is_program : List D → Sto → Res D := mDef 2 4 (mSeq (mDrop (mCall m_need_zones (mCons (mVar 0) mNil))) (mSeq (mIfS (mOr (mNot (mIsi .tup (mVar 1))) (mOp gGt (mCallB gLen (mCons (mVar 1) mNil)) (mK (.int 8)))) (mRet (mK (.bl false))) mNop) (mSeq (mAsg 2 (mNew (mLst (mCons (mK (.str "moment")) mNil)))) (mSeq (mForA (mVar 1) (tgN 3) (mSeq (mIfS (mNot (mCall m_is_step (mCons (mVar 0) (mCons (mVar 2) (mCons (mVar 3) mNil))))) (mRet (mK (.bl false))) mNop) (mApp (mVar 2) (mCall m_kind_made (mCons (mVar 2) (mCons (mVar 3) mNil)))))) (mRet (mOp gLt (mCallB gLen (mCons (mFz (mLcA (mVar 1) (tgN 3) (mOp gEq (mOp gIx (mVar 3) (mK (.int 0))) (mK (.str "edition"))) (mVar 3) [3])) mNil)) (mK (.int 2))))))))
def m_need_program : List D → Sto → Res D := mDef 2 2 (mIfS (mNot (mCall m_is_program (mCons (mVar 0) (mCons (mVar 1) mNil)))) (mRaise "InvalidProgram") mNop)
def m_kinds : List D → Sto → Res D := mDef 2 2 (mSeq (mDrop (mCall m_need_zones (mCons (mVar 0) mNil))) (mSeq (mDrop (mCall m_need_program (mCons (mVar 0) (mCons (mVar 1) mNil)))) (mRet (mCall m_kinds_of (mCons (mVar 1) mNil)))))
def m_law_bag_of : List D → Sto → Res D := mDef 1 1 (mRet (mNew (mLst (mCons (mCallB gMax2 (mCons (mK (.int 0)) (mCons (mOp gSub (mVar 0) (mK (.int 1000000000000000000))) mNil))) (mCons (mOp gMod (mCallB gInt1 (mCons (mVar 0) mNil)) (mK (.int 2305843009213693951))) (mCons (mK (.int 0)) mNil))))))
def m_law_pick : List D → Sto → Res D := mDef 2 3 (mSeq (mIfS (mOp gGt (mOp gIx (mVar 0) (mK (.int 0))) (mK (.int 0))) (mSeq (mAsg 2 (mOp gMod (mCallB gInt1 (mCons (mOp gIx (mVar 0) (mK (.int 0))) mNil)) (mVar 1))) (mSeq (mSetIx (mOp gFdiv (mOp gIx (mVar 0) (mK (.int 0))) (mVar 1)) (mVar 0) (mK (.int 0))) (mRet (mVar 2)))) mNop) (mSeq (mSetIx (mOp gAdd (mOp gIx (mVar 0) (mK (.int 2))) (mK (.int 1))) (mVar 0) (mK (.int 2))) (mSeq (mAsg 2 (mOp gMul (mOp gAdd (mOp gIx (mVar 0) (mK (.int 1))) (mOp gMul (mK (.int 104729)) (mOp gIx (mVar 0) (mK (.int 2))))) (mOp gAdd (mOp gAdd (mOp gIx (mVar 0) (mK (.int 1))) (mOp gMul (mK (.int 15485863)) (mOp gIx (mVar 0) (mK (.int 2))))) (mK (.int 11))))) (mSeq (mAsg 2 (mOp gMod (mCallB gInt1 (mCons (mVar 2) mNil)) (mK (.int 2305843009213693951)))) (mSeq (mAsg 2 (mOp gAdd (mOp gMul (mVar 2) (mVar 2)) (mOp gMul (mK (.int 7)) (mOp gIx (mVar 0) (mK (.int 2)))))) (mRet (mOp gMod (mCallB gInt1 (mCons (mOp gFdiv (mOp gMod (mCallB gInt1 (mCons (mVar 2) mNil)) (mK (.int 2305843009213693951))) (mK (.int 4099))) mNil)) (mVar 1))))))))
def m_law_any_belt : List D → Sto → Res D := mDef 2 10 (mSeq (mAsg 2 (mCallB gMin2 (mCons (mVar 1) (mCons (mOp gIx (mFz (mLst (mCons (mK (.int 2)) (mCons (mK (.int 3)) (mCons (mK (.int 2)) (mCons (mK (.int 1)) (mCons (mK (.int 3)) (mCons (mK (.int 2)) mNil)))))))) (mCall m_law_pick (mCons (mVar 0) (mCons (mK (.int 6)) mNil)))) mNil)))) (mSeq (mAsg 3 (mOp gIx (mFz (mLst (mCons (mK (.int 1)) (mCons (mK (.int 60)) (mCons (mK (.int 3)) (mCons (mK (.int 600)) (mCons (mK (.int 20)) (mCons (mK (.int 1800)) mNil)))))))) (mCall m_law_pick (mCons (mVar 0) (mCons (mK (.int 6)) mNil))))) (mSeq (mAsg 3 (mCallB gMax2 (mCons (mK (.int 1)) (mCons (mOp gFdiv (mVar 3) (mCallB gMax2 (mCons (mK (.int 1)) (mCons (mOp gSub (mVar 2) (mK (.int 1))) mNil)))) mNil)))) (mSeq (mAsg 4 (mFz (mLc (iRange1 (mCons (mOp gSub (mVar 2) (mK (.int 1))) mNil)) (tgN 9) mYes (mOp gSub (mVar 3) (mOp gMul (mCall m_law_pick (mCons (mVar 0) (mCons (mVar 3) mNil))) (mCall m_law_pick (mCons (mVar 0) (mCons (mK (.int 2)) mNil))))) [9]))) (mSeq (mAsg 5 (mNew (mLst (mCons (mOp gSub (mCall m_law_pick (mCons (mVar 0) (mCons (mOp gSub (mK (.int 1801)) (mCallB gSum (mCons (mVar 4) mNil))) mNil))) (mK (.int 900))) mNil)))) (mSeq (mForA (mVar 4) (tgN 6) (mApp (mVar 5) (mOp gAdd (mOp gIx (mVar 5) (mK (.int (-1)))) (mVar 6)))) (mSeq (mAsg 7 (mOp gAdd (mCallB gSum (mCons (mVar 4) mNil)) (mK (.int 1)))) (mSeq (mAsg 8 (mFz (mLst (mCons (mK (.int 0)) (mCons (mK (.int 1)) (mCons (mK (.int 40)) (mCons (mOp gSub (mK (.int 1000000)) (mVar 7)) (mCons (mCall m_law_pick (mCons (mVar 0) (mCons (mK (.int 2000)) mNil))) (mCons (mK (.int 100)) (mCons (mCall m_law_pick (mCons (mVar 0) (mCons (mOp gSub (mK (.int 1000001)) (mVar 7)) mNil))) mNil)))))))))) (mRet (mTup (mCons (mCallB gTuple (mCons (mVar 5) mNil)) (mCons (mOp gAdd (mVar 7) (mOp gIx (mVar 8) (mCall m_law_pick (mCons (mVar 0) (mCons (mK (.int 7)) mNil))))) mNil))))))))))))
def m_law_any_belts : List D → Sto → Res D := mDef 2 3 (mRet (mCallB gTuple (mCons (mFz (mLc (iRange1 (mCons (mOp gAdd (mK (.int 1)) (mCall m_law_pick (mCons (mVar 0) (mCons (mK (.int 2)) mNil)))) mNil)) (tgN 2) mYes (mCall m_law_any_belt (mCons (mVar 0) (mCons (mVar 1) mNil))) [2])) mNil)))
def m_law_same_v2 : List D → Sto → Res D := mDef 2 2 (mRet (mOp gEq (mCallB gRepr (mCons (mVar 0) mNil)) (mCallB gRepr (mCons (mVar 1) mNil))))
def m_law_spot : List D → Sto → Res D := mDef 3 5 (mSeq (mAsg 3 (mFz (mLc (iRange1 (mCons (mCallB gLen (mCons (mVar 1) mNil)) mNil)) (tgN 4) (mOr (mOp gEq (mOp gIx (mVar 1) (mVar 4)) (mVar 2)) (mAnd (mOp gEq (mVar 2) (mK (.str "point"))) (mOp gNe (mOp gIx (mVar 1) (mVar 4)) (mK (.str "span"))))) (mVar 4) [4]))) (mSeq (mIfS (mOp gEq (mCall m_law_pick (mCons (mVar 0) (mCons (mK (.int 2)) mNil))) (mK (.int 0))) (mRet (mOp gIx (mVar 3) (mK (.int (-1))))) mNop) (mRet (mOp gIx (mVar 3) (mCall m_law_pick (mCons (mVar 0) (mCons (mCallB gLen (mCons (mVar 3) mNil)) mNil)))))))
def m_law_minutes : List D → Sto → Res D := mDef 3 8 (mSeq (mIfS (mOp gEq (mVar 2) (mK (.int 1))) (mRet (mOp gSub (mCall m_law_pick (mCons (mVar 0) (mCons (mK (.int 5)) mNil))) (mK (.int 2)))) mNop) (mSeq (mAsgG (tgU 2 (tgCons (tgN 3) (tgCons (tgN 4) tgNil))) (mOp gIx (mVar 1) (mCall m_law_pick (mCons (mVar 0) (mCons (mCallB gLen (mCons (mVar 1) mNil)) mNil))))) (mSeq (mAsg 5 (mOp gSub (mOp gIx (mVar 3) (mK (.int (-1)))) (mOp gIx (mVar 3) (mK (.int 0))))) (mSeq (mAsg 6 (mFz (mLst (mCons (mK (.int 1)) (mCons (mVar 4) (mCons (mVar 5) (mCons (mK (.int 60)) (mCons (mK (.int 100000)) (mCons (mCall m_law_pick (mCons (mVar 0) (mCons (mK (.int 100000)) mNil))) (mCons (mK (.int 300)) (mCons (mOp gSub (mVar 4) (mVar 5)) (mCons (mOp gAdd (mVar 4) (mVar 5)) mNil)))))))))))) (mSeq (mAsg 7 (mCallB gMin2 (mCons (mK (.int 100000)) (mCons (mOp gSub (mOp gAdd (mOp gIx (mVar 6) (mCall m_law_pick (mCons (mVar 0) (mCons (mK (.int 9)) mNil)))) (mCall m_law_pick (mCons (mVar 0) (mCons (mK (.int 3)) mNil)))) (mK (.int 1))) mNil)))) (mRet (mOp gMul (mVar 7) (mOp gSub (mK (.int 1)) (mOp gMul (mK (.int 2)) (mCall m_law_pick (mCons (mVar 0) (mCons (mK (.int 2)) mNil))))))))))))
def m_law_any_rules : List D → Sto → Res D := mDef 1 1 (mRet (mTup (mCons (mOp gIx (mFz (mLst (mCons (mK (.str "early")) (mCons (mK (.str "late")) (mCons (mK (.str "refuse")) mNil))))) (mCall m_law_pick (mCons (mVar 0) (mCons (mK (.int 3)) mNil)))) (mCons (mOp gIx (mFz (mLst (mCons (mK (.str "ahead")) (mCons (mK (.str "behind")) (mCons (mK (.str "refuse")) mNil))))) (mCall m_law_pick (mCons (mVar 0) (mCons (mK (.int 3)) mNil)))) mNil))))
def m_law_less_room : List D → Sto → Res D := mDef 2 3 (mSeq (mAsg 2 (mCallB gInt1 (mCons (mOp (gIn false) (mOp gIx (mVar 1) (mK (.int 0))) (mFz (mLst (mCons (mK (.str "read")) (mCons (mK (.str "find")) (mCons (mK (.str "offset")) (mCons (mK (.str "edition")) mNil))))))) mNil))) (mRet (mFz (mLst (mCons (mOp gSub (mOp gIx (mVar 0) (mK (.int 0))) (mVar 2)) (mCons (mOp gSub (mOp gIx (mVar 0) (mK (.int 1))) (mCallB gInt1 (mCons (mOp gEq (mOp gIx (mVar 1) (mK (.int 0))) (mK (.str "find"))) mNil))) (mCons (mOp gSub (mOp gIx (mVar 0) (mK (.int 2))) (mCallB gInt1 (mCons (mOp gEq (mOp gIx (mVar 1) (mK (.int 0))) (mK (.str "edition"))) mNil))) (mCons (mOp gIx (mVar 0) (mK (.int 3))) mNil))))))))
def m_law_deed_for : List D → Sto → Res D := mDef 5 7 (mSeq (mAsg 5 (mNew (mLst mNil))) (mSeq (mIfS (mAnd (mOp gNe (mVar 3) (mK (.str "span"))) (mOp (gIn false) (mVar 3) (mVar 2))) (mApp (mVar 5) (mTup (mCons (mK (.str "add")) (mCons (mCall m_law_spot (mCons (mVar 0) (mCons (mVar 2) (mCons (mVar 3) mNil)))) (mCons (mCall m_law_minutes (mCons (mVar 0) (mCons (mVar 1) (mCons (mK (.int 0)) mNil)))) mNil))))) mNop) (mSeq (mIfS (mAnd (mOp gEq (mVar 3) (mK (.str "reading"))) (mOp (gIn false) (mK (.str "span")) (mVar 2))) (mApp (mVar 5) (mTup (mCons (mK (.str "plus")) (mCons (mCall m_law_spot (mCons (mVar 0) (mCons (mVar 2) (mCons (mK (.str "moment")) mNil)))) (mCons (mCall m_law_spot (mCons (mVar 0) (mCons (mVar 2) (mCons (mK (.str "span")) mNil)))) mNil))))) mNop) (mSeq (mIfS (mAnd (mOp gEq (mVar 3) (mK (.str "moment"))) (mAnd (mOp (gIn false) (mK (.str "span")) (mVar 2)) (mOp (gIn false) (mK (.str "reading")) (mVar 2)))) (mApp (mVar 5) (mTup (mCons (mK (.str "less")) (mCons (mCall m_law_spot (mCons (mVar 0) (mCons (mVar 2) (mCons (mK (.str "reading")) mNil)))) (mCons (mCall m_law_spot (mCons (mVar 0) (mCons (mVar 2) (mCons (mK (.str "span")) mNil)))) mNil))))) mNop) (mSeq (mAsg 6 (mCall m_law_pick (mCons (mVar 0) (mCons (mCallB gLen (mCons (mVar 1) mNil)) mNil)))) (mSeq (mIfS (mAnd (mOp gEq (mVar 3) (mK (.str "reading"))) (mOp gGt (mOp gIx (mVar 4) (mK (.int 0))) (mK (.int 0)))) (mApp (mVar 5) (mTup (mCons (mK (.str "read")) (mCons (mCall m_law_spot (mCons (mVar 0) (mCons (mVar 2) (mCons (mK (.str "moment")) mNil)))) (mCons (mVar 6) mNil))))) mNop) (mSeq (mIfS (mAnd (mOp gEq (mVar 3) (mK (.str "span"))) (mOp gGt (mOp gIx (mVar 4) (mK (.int 0))) (mK (.int 0)))) (mApp (mVar 5) (mTup (mCons (mK (.str "offset")) (mCons (mCall m_law_spot (mCons (mVar 0) (mCons (mVar 2) (mCons (mK (.str "moment")) mNil)))) (mCons (mVar 6) mNil))))) mNop) (mSeq (mIfS (mAnd (mOp gEq (mVar 3) (mK (.str "moment"))) (mAnd (mOp (gIn false) (mK (.str "reading")) (mVar 2)) (mOp gGt (mCallB gMin2 (mCons (mOp gIx (mVar 4) (mK (.int 0))) (mCons (mOp gIx (mVar 4) (mK (.int 1))) mNil))) (mK (.int 0))))) (mApp (mVar 5) (mOp gAdd (mTup (mCons (mK (.str "find")) (mCons (mCall m_law_spot (mCons (mVar 0) (mCons (mVar 2) (mCons (mK (.str "reading")) mNil)))) (mCons (mVar 6) mNil)))) (mCall m_law_any_rules (mCons (mVar 0) mNil)))) mNop) (mSeq (mIfS (mAnd (mOp gEq (mVar 3) (mK (.str "moment"))) (mOp gGt (mCallB gMin2 (mCons (mOp gIx (mVar 4) (mK (.int 0))) (mCons (mOp gIx (mVar 4) (mK (.int 2))) mNil))) (mK (.int 0)))) (mApp (mVar 5) (mTup (mCons (mK (.str "edition")) (mCons (mCall m_law_spot (mCons (mVar 0) (mCons (mVar 2) (mCons (mK (.str "moment")) mNil)))) (mCons (mVar 6) mNil))))) mNop) (mSeq (mIfS (mOp gEq (mVar 5) (mFz (mLst mNil))) (mRet (mK .non)) mNop) (mRet (mOp gIx (mVar 5) (mCall m_law_pick (mCons (mVar 0) (mCons (mCallB gLen (mCons (mVar 5) mNil)) mNil)))))))))))))))
def m_law_wanted : List D → Sto → Res D := mDef 2 8 (mSeq (mPar3 2 3 4 (mCons (mTup mNil) (mCons (mNew (mLst (mCons (mK (.str "moment")) mNil))) (mCons (mOp gIx (mFz (mLst (mCons (mFz (mLst (mCons (mK (.int 4)) (mCons (mK (.int 2)) (mCons (mK (.int 1)) (mCons (mK (.int 0)) mNil)))))) (mCons (mFz (mLst (mCons (mK (.int 8)) (mCons (mK (.int 8)) (mCons (mK (.int 1)) (mCons (mK (.int 0)) mNil)))))) mNil)))) (mCall m_law_pick (mCons (mVar 0) (mCons (mK (.int 2)) mNil)))) mNil)))) (mSeq (mFor (iRange1 (mCons (mCallB gMax2 (mCons (mCall m_law_pick (mCons (mVar 0) (mCons (mK (.int 9)) mNil))) (mCons (mCall m_law_pick (mCons (mVar 0) (mCons (mK (.int 9)) mNil))) mNil))) mNil)) (tgN 5) (mSeq (mAsg 6 (mOp gIx (mFz (mLst (mCons (mK (.str "moment")) (mCons (mK (.str "reading")) (mCons (mK (.str "span")) mNil))))) (mCall m_law_pick (mCons (mVar 0) (mCons (mK (.int 3)) mNil))))) (mSeq (mAsg 7 (mCall m_law_deed_for (mCons (mVar 0) (mCons (mVar 1) (mCons (mVar 3) (mCons (mVar 6) (mCons (mVar 4) mNil))))))) (mIfS (mOp (gIsN true) (mVar 7) (mK .non)) (mSeq (mAsg 2 (mOp gAdd (mVar 2) (mTup (mCons (mVar 7) mNil)))) (mSeq (mApp (mVar 3) (mVar 6)) (mAsg 4 (mCall m_law_less_room (mCons (mVar 4) (mCons (mVar 7) mNil)))))) mNop)))) (mRet (mTup (mCons (mVar 2) (mCons (mVar 3) mNil))))))
def m_law_k20_kinds_of_values : List D → Sto → Res D := mDef 1 9 (mSeq (mFor (iSeq (mFz (mCatL (mLst (mCons (mK (.int 590128837461150927736481920045517362288104975310662843)) mNil)) (mSlL (mVar 0) mNoPart (mPart (mK (.int 30))))))) (tgN 1) (mSeq (mAsg 2 (mCall m_law_bag_of (mCons (mVar 1) mNil))) (mSeq (mAsg 3 (mCall m_law_any_belts (mCons (mVar 2) (mCons (mK (.int 3)) mNil)))) (mSeq (mAsgG (tgU 2 (tgCons (tgN 4) (tgCons (tgN 5) tgNil))) (mCall m_law_wanted (mCons (mVar 2) (mCons (mVar 3) mNil)))) (mSeq (mAsgG (tgU 2 (tgCons (tgN 6) (tgCons (tgN 7) tgNil))) (mCall m_law_wanted (mCons (mVar 2) (mCons (mVar 3) mNil)))) (mSeq (mAsg 8 (mCall m_kinds (mCons (mVar 3) (mCons (mVar 4) mNil)))) (mSeq (mIfS (mOr (mNot (mCall m_law_same_v2 (mCons (mVar 8) (mCons (mVar 5) mNil)))) (mNot (mCall m_is_program (mCons (mVar 3) (mCons (mVar 4) mNil))))) (mRet (mK (.bl false))) mNop) (mSeq (mApp (mVar 8) (mK (.str "span"))) (mSeq (mSetIx (mK (.str "reading")) (mVar 8) (mK (.int 0))) (mIfS (mOr (mNot (mCall m_law_same_v2 (mCons (mCall m_kinds (mCons (mVar 3) (mCons (mVar 6) mNil))) (mCons (mVar 7) mNil)))) (mNot (mCall m_law_same_v2 (mCons (mCallK m_kinds 0 2 [1, 0] mNil (mCons (mVar 4) (mCons (mVar 3) mNil))) (mCons (mVar 5) mNil))))) (mRet (mK (.bl false))) mNop)))))))))) (mRet (mK (.bl true))))
end
end Dm
-- text V_k20
namespace V
open PySem L2 PySem.Spec PyProof.Rows Dm
open PySem.W (Frag)
theorem rvR {a : Addr} : L2.RelV (.ref a) (.ref a) := rfl
theorem rvS {x : Str} {t : Tok} : L2.RelV (.str x) (.str x t) := ⟨t, rfl⟩
theorem rvI {x : Int} {t : Tok} : L2.RelV (.int x) (.int x t) := ⟨t, rfl⟩
theorem rvB {b : Bool} : L2.RelV (.bl b) (.bool b) := rfl
theorem rvN : L2.RelV .non .none := rfl
def top (i : Nat) : Stmt := PySem.Challenge.pw_hoursmeant_k20_kinds_of_values.main.body.getD i (.Pass ⟨0, 0, 0, 0⟩)
structure Txt (K : Frag) (mg : Str → Option Value) (w : World) : Prop where
  n_all : mg "all" = none
  n_bool : mg "bool" = none
  n_enumerate : mg "enumerate" = none
  n_int : mg "int" = none
  n_isinstance : mg "isinstance" = none
  n_len : mg "len" = none
  n_max : mg "max" = none
  n_min : mg "min" = none
  n_range : mg "range" = none
  n_repr : mg "repr" = none
  n_str : mg "str" = none
  n_sum : mg "sum" = none
  n_tuple : mg "tuple" = none
  v_FOLDS : GlK K mg "FOLDS" (.tup [(.str "early"), (.str "late"), (.str "refuse")])
  v_GAPS : GlK K mg "GAPS" (.tup [(.str "ahead"), (.str "behind"), (.str "refuse")])
  v_MADE : GlT K w mg "MADE" [("read", (.str "reading")), ("find", (.str "moment")), ("offset", (.str "span")), ("edition", (.str "moment")), ("plus", (.str "reading")), ("less", (.str "moment"))]
  v_MOST_MINUTES : ∃ t, mg "MOST_MINUTES" = some (.int (100000) t)
  v_MOST_OFFSET : ∃ t, mg "MOST_OFFSET" = some (.int (900) t)
  v_MOST_SPACING : ∃ t, mg "MOST_SPACING" = some (.int (1000000) t)
  v_MOST_STEPS : ∃ t, mg "MOST_STEPS" = some (.int (8) t)
  v_PARTS : GlT K w mg "PARTS" [("read", (.tup [(.str "moment"), (.str "place")])), ("find", (.tup [(.str "reading"), (.str "place"), (.str "fold"), (.str "gap")])), ("offset", (.tup [(.str "moment"), (.str "place")])), ("edition", (.tup [(.str "moment"), (.str "place")])), ("plus", (.tup [(.str "moment"), (.str "span")])), ("less", (.tup [(.str "reading"), (.str "span")])), ("add", (.tup [(.str "point"), (.str "minutes")]))]
  x_InvalidProgram : XcOk K mg "InvalidProgram"
  x_InvalidZones : XcOk K mg "InvalidZones"
section
variable {P : Program} {w : World} {K : Frag} {mg : Str → Option Value} {base : Heap}
theorem Txt.c_FOLDS (T : Txt K mg w) {X : Cx} (hK : X.K = K := by rfl) (h : X.mg = mg := by rfl) : GlD X "FOLDS" (.tup [(.str "early"), (.str "late"), (.str "refuse")]) := T.v_FOLDS.glD hK h
theorem Txt.c_GAPS (T : Txt K mg w) {X : Cx} (hK : X.K = K := by rfl) (h : X.mg = mg := by rfl) : GlD X "GAPS" (.tup [(.str "ahead"), (.str "behind"), (.str "refuse")]) := T.v_GAPS.glD hK h
theorem Txt.c_MADE (T : Txt K mg w) {X : Cx} (hK : X.K = K := by rfl) (h : X.mg = mg := by rfl) (hw : X.w = w := by rfl) : GlT X.K X.w X.mg "MADE" [("read", (.str "reading")), ("find", (.str "moment")), ("offset", (.str "span")), ("edition", (.str "moment")), ("plus", (.str "reading")), ("less", (.str "moment"))] := by
  rw [hK, h, hw]
  exact T.v_MADE
theorem Txt.c_MOST_MINUTES (T : Txt K mg w) {X : Cx} (h : X.mg = mg := by rfl) : GlD X "MOST_MINUTES" (.int 100000) := by
  obtain ⟨t, e⟩ := T.v_MOST_MINUTES
  exact ⟨_, .int _, by rw [h]; exact e, ⟨t, rfl⟩, fun _ _ _ => .int _⟩
theorem Txt.c_MOST_OFFSET (T : Txt K mg w) {X : Cx} (h : X.mg = mg := by rfl) : GlD X "MOST_OFFSET" (.int 900) := by
  obtain ⟨t, e⟩ := T.v_MOST_OFFSET
  exact ⟨_, .int _, by rw [h]; exact e, ⟨t, rfl⟩, fun _ _ _ => .int _⟩
theorem Txt.c_MOST_SPACING (T : Txt K mg w) {X : Cx} (h : X.mg = mg := by rfl) : GlD X "MOST_SPACING" (.int 1000000) := by
  obtain ⟨t, e⟩ := T.v_MOST_SPACING
  exact ⟨_, .int _, by rw [h]; exact e, ⟨t, rfl⟩, fun _ _ _ => .int _⟩
theorem Txt.c_MOST_STEPS (T : Txt K mg w) {X : Cx} (h : X.mg = mg := by rfl) : GlD X "MOST_STEPS" (.int 8) := by
  obtain ⟨t, e⟩ := T.v_MOST_STEPS
  exact ⟨_, .int _, by rw [h]; exact e, ⟨t, rfl⟩, fun _ _ _ => .int _⟩
theorem Txt.c_PARTS (T : Txt K mg w) {X : Cx} (hK : X.K = K := by rfl) (h : X.mg = mg := by rfl) (hw : X.w = w := by rfl) : GlT X.K X.w X.mg "PARTS" [("read", (.tup [(.str "moment"), (.str "place")])), ("find", (.tup [(.str "reading"), (.str "place"), (.str "fold"), (.str "gap")])), ("offset", (.tup [(.str "moment"), (.str "place")])), ("edition", (.tup [(.str "moment"), (.str "place")])), ("plus", (.tup [(.str "moment"), (.str "span")])), ("less", (.tup [(.str "reading"), (.str "span")])), ("add", (.tup [(.str "point"), (.str "minutes")]))] := by
  rw [hK, h, hw]
  exact T.v_PARTS
abbrev s_is_integer : Stmt := top 9
theorem sc_is_integer : FnScope ["value"] ["value"] (defScope s_is_integer) := ⟨rfl, rfl, rfl, by decide +kernel, rfl, by decide +kernel, by decide +kernel⟩
theorem fn_is_integer (T : Txt K mg w) {f : Addr} {fd : FuncData} (hm : mg "is_integer" = some (.ref f)) (F : Fun K "is_integer" "is_integer" s_is_integer f fd) : FnDG P w K mg base 1 "is_integer" s_is_integer ["value"] m_is_integer := by
  refine fnd_mkG (np := 1) (nN := 1) (k := 0) hm F (F.binds fun _ _ _ _ _ _ us hl => match us, hl with | [_], _ => rfl) sc_is_integer rfl rfl fun cdv A outer s H E hr => ?_
  have tk : Takes (cxOf (L2.CX P w) P w K mg base ["value"] "is_integer" (defScope s_is_integer) f cdv A outer s H E) (fun cls d _ H => E cls d H) := takes_of rfl rfl rfl rfl
  exact (dss_one (ds_ret (d_and (d_isi .int (d_var 0) T.n_isinstance T.n_int) (d_one (d_not (d_isi .bl (d_var 0) T.n_isinstance T.n_bool))))))
abbrev s_is_zone : Stmt := top 10
theorem sc_is_zone : FnScope ["value", "offsets", "spacing", "offset", "k"] ["value"] (defScope s_is_zone) := ⟨rfl, rfl, rfl, by decide +kernel, rfl, by decide +kernel, by decide +kernel⟩
theorem fn_is_zone (T : Txt K mg w) {f : Addr} {fd : FuncData} (hm : mg "is_zone" = some (.ref f)) (F : Fun K "is_zone" "is_zone" s_is_zone f fd) (G_is_integer : FnDG P w K mg base 1 "is_integer" s_is_integer ["value"] m_is_integer) : FnDG P w K mg base 2 "is_zone" s_is_zone ["value"] m_is_zone := by
  refine fnd_mkG (np := 1) (nN := 5) (k := 1) hm F (F.binds fun _ _ _ _ _ _ us hl => match us, hl with | [_], _ => rfl) sc_is_zone rfl rfl fun cdv A outer s H E hr => ?_
  have tk : Takes (cxOf (L2.CX P w) P w K mg base ["value", "offsets", "spacing", "offset", "k"] "is_zone" (defScope s_is_zone) f cdv A outer s H E) (fun cls d _ H => E cls d H) := takes_of rfl rfl rfl rfl
  exact (dss_cons (ds_if (DT.w (dw_or (dt_not (dt_val (d_isi .tup (d_var 0) T.n_isinstance T.n_tuple))) (dw_or1 (dt_cmp (op_neA hr.units) o_ne (d_callB call_len c_len T.n_len (da_cons (d_var 0) da_nil)) d_int)))) (dss_one (ds_ret d_bl)) dss_nil) (dss_cons (ds_asg (d_var 0) (dg_tup rfl (dgs_cons (dg_name 1 sc_is_zone.nd) (dgs_cons (dg_name 2 sc_is_zone.nd) dgs_nil)))) (dss_cons (ds_if (DT.w (dw_or (dt_not (dt_val (d_isi .tup (d_var 1) T.n_isinstance T.n_tuple))) (dw_or1 (dt_not (dt_chain op_le op_le o_le o_le d_int (d_callB call_len c_len T.n_len (da_cons (d_var 1) da_nil)) d_int))))) (dss_one (ds_ret d_bl)) dss_nil) (dss_cons (ds_for (passes_of rfl) rfl (di_seq (d_var 1)) (dg_name 3 sc_is_zone.nd) (dss_one (ds_if (DT.w (dw_or (dt_not (dt_val (d_callG G_is_integer hr tk (da_cons (d_var 3) da_nil)))) (dw_or1 (dt_not (dt_chain op_le op_le o_le o_le (d_un un_neg o_neg (d_glob rfl (T.c_MOST_OFFSET))) (d_var 3) (d_glob rfl (T.c_MOST_OFFSET))))))) (dss_one (ds_ret d_bl)) dss_nil))) (dss_cons (ds_for (passes_of rfl) rfl (di_range2 (da_cons d_int (da_cons (d_callB call_len c_len T.n_len (da_cons (d_var 1) da_nil)) da_nil)) T.n_range) (dg_name 4 sc_is_zone.nd) (dss_one (ds_if (dt_cmp op_le o_le (d_ix ix_seq o_ix (d_var 1) (d_var 4)) (d_ix ix_seq o_ix (d_var 1) (d_op op_sub o_sub (d_var 4) d_int))) (dss_one (ds_ret d_bl)) dss_nil))) (dss_one (ds_ret (d_and (d_callG G_is_integer hr tk (da_cons (d_var 2) da_nil)) (d_one (d_chain op_lt op_le o_lt o_le (d_op op_sub o_sub (d_ix ix_seq o_ix (d_var 1) (d_fold (d := .int (-1)) (d_un un_neg o_neg d_int) (fun _ _ => rfl))) (d_ix ix_seq o_ix (d_var 1) d_int)) (d_var 2) (d_glob rfl (T.c_MOST_SPACING))))))))))))
abbrev s_is_zones : Stmt := top 11
theorem sc_is_zones : FnScope ["value", "zone"] ["value"] (defScope s_is_zones) := ⟨rfl, rfl, rfl, by decide +kernel, rfl, by decide +kernel, by decide +kernel⟩
theorem fn_is_zones (T : Txt K mg w) {f : Addr} {fd : FuncData} (hm : mg "is_zones" = some (.ref f)) (F : Fun K "is_zones" "is_zones" s_is_zones f fd) (G_is_zone : FnDG P w K mg base 2 "is_zone" s_is_zone ["value"] m_is_zone) : FnDG P w K mg base 3 "is_zones" s_is_zones ["value"] m_is_zones := by
  refine fnd_mkG (np := 1) (nN := 2) (k := 2) hm F (F.binds fun _ _ _ _ _ _ us hl => match us, hl with | [_], _ => rfl) sc_is_zones rfl rfl fun cdv A outer s H E hr => ?_
  have tk : Takes (cxOf (L2.CX P w) P w K mg base ["value", "zone"] "is_zones" (defScope s_is_zones) f cdv A outer s H E) (fun cls d _ H => E cls d H) := takes_of rfl rfl rfl rfl
  exact (dss_cons (ds_if (DT.w (dw_or (dt_not (dt_val (d_isi .tup (d_var 0) T.n_isinstance T.n_tuple))) (dw_or1 (dt_not (dt_chain op_le op_le o_le o_le d_int (d_callB call_len c_len T.n_len (da_cons (d_var 0) da_nil)) d_int))))) (dss_one (ds_ret d_bl)) dss_nil) (dss_one (ds_ret (d_callB (cr_all rfl) c_all T.n_all (da_cons (d_fz (dl_lcA (own := [("zone", 1)]) rfl sc_is_zones.nd (d_var 0) (blkOk_by (own := [("zone", 1)]) (N := ["value", "zone"]) (sc := defScope s_is_zones) (by decide +kernel)) (fun _ _ _ _ _ => (dg_name 1 sc_is_zones.nd)) (fun _ _ _ _ _ => dts_nil) (fun _ _ _ _ _ => (d_callG G_is_zone hr takes0 (da_cons (d_var 1) da_nil))))) da_nil)))))
abbrev s_need_zones : Stmt := top 12
theorem sc_need_zones : FnScope ["zones"] ["zones"] (defScope s_need_zones) := ⟨rfl, rfl, rfl, by decide +kernel, rfl, by decide +kernel, by decide +kernel⟩
theorem fn_need_zones (T : Txt K mg w) {f : Addr} {fd : FuncData} (hm : mg "need_zones" = some (.ref f)) (F : Fun K "need_zones" "need_zones" s_need_zones f fd) (G_is_zones : FnDG P w K mg base 3 "is_zones" s_is_zones ["value"] m_is_zones) : FnDG P w K mg base 4 "need_zones" s_need_zones ["zones"] m_need_zones := by
  refine fnd_mkG (np := 1) (nN := 1) (k := 3) hm F (F.binds fun _ _ _ _ _ _ us hl => match us, hl with | [_], _ => rfl) sc_need_zones rfl rfl fun cdv A outer s H E hr => ?_
  have tk : Takes (cxOf (L2.CX P w) P w K mg base ["zones"] "need_zones" (defScope s_need_zones) f cdv A outer s H E) (fun cls d _ H => E cls d H) := takes_of rfl rfl rfl rfl
  exact (dss_one (ds_if (dt_not (dt_val (d_callG G_is_zones hr tk (da_cons (d_var 0) da_nil)))) (dss_one (ds_raise T.x_InvalidZones rfl tk)) dss_nil))
abbrev s_is_part : Stmt := top 18
theorem sc_is_part : FnScope ["zones", "before", "part", "value"] ["zones", "before", "part", "value"] (defScope s_is_part) := ⟨rfl, rfl, rfl, by decide +kernel, rfl, by decide +kernel, by decide +kernel⟩
theorem fn_is_part (T : Txt K mg w) {f : Addr} {fd : FuncData} (hm : mg "is_part" = some (.ref f)) (F : Fun K "is_part" "is_part" s_is_part f fd) (G_is_integer : FnDG P w K mg base 1 "is_integer" s_is_integer ["value"] m_is_integer) : FnDG P w K mg base 2 "is_part" s_is_part ["zones", "before", "part", "value"] m_is_part := by
  refine fnd_mkG (np := 4) (nN := 4) (k := 1) hm F (F.binds fun _ _ _ _ _ _ us hl => match us, hl with | [_, _, _, _], _ => rfl) sc_is_part rfl rfl fun cdv A outer s H E hr => ?_
  have tk : Takes (cxOf (L2.CX P w) P w K mg base ["zones", "before", "part", "value"] "is_part" (defScope s_is_part) f cdv A outer s H E) (fun cls d _ H => E cls d H) := takes_of rfl rfl rfl rfl
  exact (dss_cons (ds_if (dt_cmp (op_eqA hr.units) o_eq (d_var 2) d_str) (dss_one (ds_ret (d_and (d_isi .str (d_var 3) T.n_isinstance T.n_str) (d_one (d_cmp op_in_seq o_in (d_var 3) (d_glob rfl (T.c_FOLDS)) (by rfl)))))) dss_nil) (dss_cons (ds_if (dt_cmp (op_eqA hr.units) o_eq (d_var 2) d_str) (dss_one (ds_ret (d_and (d_isi .str (d_var 3) T.n_isinstance T.n_str) (d_one (d_cmp op_in_seq o_in (d_var 3) (d_glob rfl (T.c_GAPS)) (by rfl)))))) dss_nil) (dss_cons (ds_if (dt_not (dt_val (d_callG G_is_integer hr tk (da_cons (d_var 3) da_nil)))) (dss_one (ds_ret d_bl)) dss_nil) (dss_cons (ds_if (dt_cmp (op_eqA hr.units) o_eq (d_var 2) d_str) (dss_one (ds_ret (d_chain op_le op_lt o_le o_lt d_int (d_var 3) (d_callB call_len c_len T.n_len (da_cons (d_var 0) da_nil))))) dss_nil) (dss_cons (ds_if (dt_cmp (op_eqA hr.units) o_eq (d_var 2) d_str) (dss_one (ds_ret (d_chain op_le op_le o_le o_le (d_un un_neg o_neg (d_glob rfl (T.c_MOST_MINUTES))) (d_var 3) (d_glob rfl (T.c_MOST_MINUTES))))) dss_nil) (dss_cons (ds_if (dt_not (dt_chain op_le op_lt o_le o_lt d_int (d_var 3) (d_callB call_len c_len T.n_len (da_cons (d_var 1) da_nil)))) (dss_one (ds_ret d_bl)) dss_nil) (dss_cons (ds_if (dt_cmp (op_eqA hr.units) o_eq (d_var 2) d_str) (dss_one (ds_ret (d_cmp (op_neA hr.units) o_ne (d_ix ix_seq o_ix (d_var 1) (d_var 3)) d_str))) dss_nil) (dss_one (ds_ret (d_cmp (op_eqA hr.units) o_eq (d_ix ix_seq o_ix (d_var 1) (d_var 3)) (d_var 2)))))))))))
abbrev s_is_step : Stmt := top 19
theorem sc_is_step : FnScope ["zones", "before", "value", "parts", "k", "part"] ["zones", "before", "value"] (defScope s_is_step) := ⟨rfl, rfl, rfl, by decide +kernel, rfl, by decide +kernel, by decide +kernel⟩
theorem fn_is_step (T : Txt K mg w) {f : Addr} {fd : FuncData} (hm : mg "is_step" = some (.ref f)) (F : Fun K "is_step" "is_step" s_is_step f fd) (G_is_part : FnDG P w K mg base 2 "is_part" s_is_part ["zones", "before", "part", "value"] m_is_part) : FnDG P w K mg base 3 "is_step" s_is_step ["zones", "before", "value"] m_is_step := by
  refine fnd_mkG (np := 3) (nN := 6) (k := 2) hm F (F.binds fun _ _ _ _ _ _ us hl => match us, hl with | [_, _, _], _ => rfl) sc_is_step rfl rfl fun cdv A outer s H E hr => ?_
  have tk : Takes (cxOf (L2.CX P w) P w K mg base ["zones", "before", "value", "parts", "k", "part"] "is_step" (defScope s_is_step) f cdv A outer s H E) (fun cls d _ H => E cls d H) := takes_of rfl rfl rfl rfl
  exact (dss_cons (ds_if (DT.w (dw_or (dt_not (dt_val (d_isi .tup (d_var 2) T.n_isinstance T.n_tuple))) (dw_or1 (dt_cmp (op_eqA hr.units) o_eq (d_callB call_len c_len T.n_len (da_cons (d_var 2) da_nil)) d_int)))) (dss_one (ds_ret d_bl)) dss_nil) (dss_cons (ds_if (DT.w (dw_or (dt_not (dt_val (d_isi .str (d_ix ix_seq o_ix (d_var 2) d_int) T.n_isinstance T.n_str))) (dw_or1 (dt_tbnot rfl (T.c_PARTS) (d_ix ix_seq o_ix (d_var 2) d_int))))) (dss_one (ds_ret d_bl)) dss_nil) (dss_cons (ds_set 3 sc_is_step.nd (d_tbix rfl (T.c_PARTS) (d_ix ix_seq o_ix (d_var 2) d_int))) (dss_cons (ds_if (dt_cmp (op_neA hr.units) o_ne (d_callB call_len c_len T.n_len (da_cons (d_var 2) da_nil)) (d_op op_addD o_add (d_callB call_len c_len T.n_len (da_cons (d_var 3) da_nil)) d_int)) (dss_one (ds_ret d_bl)) dss_nil) (dss_one (ds_ret (d_callB (cr_all rfl) c_all T.n_all (da_cons (d_fz (dl_lc (own := [("k", 4), ("part", 5)]) rfl sc_is_step.nd (di_enum (d_var 3) T.n_enumerate) (blkOk_by (own := [("k", 4), ("part", 5)]) (N := ["zones", "before", "value", "parts", "k", "part"]) (sc := defScope s_is_step) (by decide +kernel)) (fun _ _ _ _ _ => (dg_any rfl (dgs_cons (dg_name 4 sc_is_step.nd) (dgs_cons (dg_name 5 sc_is_step.nd) dgs_nil)))) (fun _ _ _ _ _ => dts_nil) (fun _ _ _ _ _ => (d_callG G_is_part hr takes0 (da_cons (d_var 0) (da_cons (d_var 1) (da_cons (d_var 5) (da_cons (d_ix ix_seq o_ix (d_var 2) (d_op op_addD o_add (d_var 4) d_int)) da_nil)))))))) da_nil))))))))
abbrev s_kind_made : Stmt := top 20
theorem sc_kind_made : FnScope ["before", "step"] ["before", "step"] (defScope s_kind_made) := ⟨rfl, rfl, rfl, by decide +kernel, rfl, by decide +kernel, by decide +kernel⟩
theorem fn_kind_made (T : Txt K mg w) {f : Addr} {fd : FuncData} (hm : mg "kind_made" = some (.ref f)) (F : Fun K "kind_made" "kind_made" s_kind_made f fd) : FnDG P w K mg base 1 "kind_made" s_kind_made ["before", "step"] m_kind_made := by
  refine fnd_mkG (np := 2) (nN := 2) (k := 0) hm F (F.binds fun _ _ _ _ _ _ us hl => match us, hl with | [_, _], _ => rfl) sc_kind_made rfl rfl fun cdv A outer s H E hr => ?_
  have tk : Takes (cxOf (L2.CX P w) P w K mg base ["before", "step"] "kind_made" (defScope s_kind_made) f cdv A outer s H E) (fun cls d _ H => E cls d H) := takes_of rfl rfl rfl rfl
  exact (dss_cons (ds_if (dt_cmp (op_eqA hr.units) o_eq (d_ix ix_seq o_ix (d_var 1) d_int) d_str) (dss_one (ds_ret (d_ix ix_seq o_ix (d_var 0) (d_ix ix_seq o_ix (d_var 1) d_int)))) dss_nil) (dss_one (ds_ret (d_tbix rfl (T.c_MADE) (d_ix ix_seq o_ix (d_var 1) d_int)))))
abbrev s_kinds_of : Stmt := top 21
theorem sc_kinds_of : FnScope ["program", "made", "step"] ["program"] (defScope s_kinds_of) := ⟨rfl, rfl, rfl, by decide +kernel, rfl, by decide +kernel, by decide +kernel⟩
theorem fn_kinds_of (T : Txt K mg w) {f : Addr} {fd : FuncData} (hm : mg "kinds_of" = some (.ref f)) (F : Fun K "kinds_of" "kinds_of" s_kinds_of f fd) (G_kind_made : FnDG P w K mg base 1 "kind_made" s_kind_made ["before", "step"] m_kind_made) : FnDG P w K mg base 2 "kinds_of" s_kinds_of ["program"] m_kinds_of := by
  refine fnd_mkG (np := 1) (nN := 3) (k := 1) hm F (F.binds fun _ _ _ _ _ _ us hl => match us, hl with | [_], _ => rfl) sc_kinds_of rfl rfl fun cdv A outer s H E hr => ?_
  have tk : Takes (cxOf (L2.CX P w) P w K mg base ["program", "made", "step"] "kinds_of" (defScope s_kinds_of) f cdv A outer s H E) (fun cls d _ H => E cls d H) := takes_of rfl rfl rfl rfl
  exact (dss_cons (ds_set 1 sc_kinds_of.nd (d_new (dl_lst (da_cons d_str da_nil)))) (dss_cons (ds_forA (passes_of rfl) rfl (d_var 0) (dg_name 2 sc_kinds_of.nd) (dss_one (ds_app (d_var 1) (d_callG G_kind_made hr tk (da_cons (d_var 1) (da_cons (d_var 2) da_nil))) (fun a b => ps_expr (pe_bm PySem.F.plainAttrs_list PySem.F.slot_list_append PySem.F.type_list_append mt_append a (pa_cons b pa_nil)))))) (dss_one (ds_ret (d_var 1)))))
abbrev s_is_program : Stmt := top 22
theorem sc_is_program : FnScope ["zones", "value", "before", "step"] ["zones", "value"] (defScope s_is_program) := ⟨rfl, rfl, rfl, by decide +kernel, rfl, by decide +kernel, by decide +kernel⟩
theorem fn_is_program (T : Txt K mg w) {f : Addr} {fd : FuncData} (hm : mg "is_program" = some (.ref f)) (F : Fun K "is_program" "is_program" s_is_program f fd) (G_kind_made : FnDG P w K mg base 1 "kind_made" s_kind_made ["before", "step"] m_kind_made) (G_is_step : FnDG P w K mg base 3 "is_step" s_is_step ["zones", "before", "value"] m_is_step) (G_need_zones : FnDG P w K mg base 4 "need_zones" s_need_zones ["zones"] m_need_zones) : FnDG P w K mg base 5 "is_program" s_is_program ["zones", "value"] m_is_program := by
  refine fnd_mkG (np := 2) (nN := 4) (k := 4) hm F (F.binds fun _ _ _ _ _ _ us hl => match us, hl with | [_, _], _ => rfl) sc_is_program rfl rfl fun cdv A outer s H E hr => ?_
  have tk : Takes (cxOf (L2.CX P w) P w K mg base ["zones", "value", "before", "step"] "is_program" (defScope s_is_program) f cdv A outer s H E) (fun cls d _ H => E cls d H) := takes_of rfl rfl rfl rfl
  exact (dss_cons (ds_expr (d_callG G_need_zones hr tk (da_cons (d_var 0) da_nil))) (dss_cons (ds_if (DT.w (dw_or (dt_not (dt_val (d_isi .tup (d_var 1) T.n_isinstance T.n_tuple))) (dw_or1 (dt_cmp op_gt o_gt (d_callB call_len c_len T.n_len (da_cons (d_var 1) da_nil)) (d_glob rfl (T.c_MOST_STEPS)))))) (dss_one (ds_ret d_bl)) dss_nil) (dss_cons (ds_set 2 sc_is_program.nd (d_new (dl_lst (da_cons d_str da_nil)))) (dss_cons (ds_forA (passes_of rfl) rfl (d_var 1) (dg_name 3 sc_is_program.nd) (dss_cons (ds_if (dt_not (dt_val (d_callG G_is_step hr tk (da_cons (d_var 0) (da_cons (d_var 2) (da_cons (d_var 3) da_nil)))))) (dss_one (ds_ret d_bl)) dss_nil) (dss_one (ds_app (d_var 2) (d_callG G_kind_made hr tk (da_cons (d_var 2) (da_cons (d_var 3) da_nil))) (fun a b => ps_expr (pe_bm PySem.F.plainAttrs_list PySem.F.slot_list_append PySem.F.type_list_append mt_append a (pa_cons b pa_nil))))))) (dss_one (ds_ret (d_cmp op_lt o_lt (d_callB call_len c_len T.n_len (da_cons (d_fz (dl_lcA (own := [("step", 3)]) rfl sc_is_program.nd (d_var 1) (blkOk_by (own := [("step", 3)]) (N := ["zones", "value", "before", "step"]) (sc := defScope s_is_program) (by decide +kernel)) (fun _ _ _ _ _ => (dg_name 3 sc_is_program.nd)) (fun _ _ _ _ _ => (dts_one (dt_cmp (op_eqA hr.units) o_eq (d_ix ix_seq o_ix (d_var 3) d_int) d_str))) (fun _ _ _ _ _ => (d_var 3)))) da_nil)) d_int)))))))
abbrev s_need_program : Stmt := top 23
theorem sc_need_program : FnScope ["zones", "program"] ["zones", "program"] (defScope s_need_program) := ⟨rfl, rfl, rfl, by decide +kernel, rfl, by decide +kernel, by decide +kernel⟩
theorem fn_need_program (T : Txt K mg w) {f : Addr} {fd : FuncData} (hm : mg "need_program" = some (.ref f)) (F : Fun K "need_program" "need_program" s_need_program f fd) (G_is_program : FnDG P w K mg base 5 "is_program" s_is_program ["zones", "value"] m_is_program) : FnDG P w K mg base 6 "need_program" s_need_program ["zones", "program"] m_need_program := by
  refine fnd_mkG (np := 2) (nN := 2) (k := 5) hm F (F.binds fun _ _ _ _ _ _ us hl => match us, hl with | [_, _], _ => rfl) sc_need_program rfl rfl fun cdv A outer s H E hr => ?_
  have tk : Takes (cxOf (L2.CX P w) P w K mg base ["zones", "program"] "need_program" (defScope s_need_program) f cdv A outer s H E) (fun cls d _ H => E cls d H) := takes_of rfl rfl rfl rfl
  exact (dss_one (ds_if (dt_not (dt_val (d_callG G_is_program hr tk (da_cons (d_var 0) (da_cons (d_var 1) da_nil))))) (dss_one (ds_raise T.x_InvalidProgram rfl tk)) dss_nil))
abbrev s_kinds : Stmt := top 24
theorem sc_kinds : FnScope ["zones", "program"] ["zones", "program"] (defScope s_kinds) := ⟨rfl, rfl, rfl, by decide +kernel, rfl, by decide +kernel, by decide +kernel⟩
theorem fn_kinds (T : Txt K mg w) {f : Addr} {fd : FuncData} (hm : mg "kinds" = some (.ref f)) (F : Fun K "kinds" "kinds" s_kinds f fd) (G_kinds_of : FnDG P w K mg base 2 "kinds_of" s_kinds_of ["program"] m_kinds_of) (G_need_program : FnDG P w K mg base 6 "need_program" s_need_program ["zones", "program"] m_need_program) (G_need_zones : FnDG P w K mg base 4 "need_zones" s_need_zones ["zones"] m_need_zones) : FnDG P w K mg base 7 "kinds" s_kinds ["zones", "program"] m_kinds := by
  refine fnd_mkG (np := 2) (nN := 2) (k := 6) hm F (F.binds fun _ _ _ _ _ _ us hl => match us, hl with | [_, _], _ => rfl) sc_kinds rfl rfl fun cdv A outer s H E hr => ?_
  have tk : Takes (cxOf (L2.CX P w) P w K mg base ["zones", "program"] "kinds" (defScope s_kinds) f cdv A outer s H E) (fun cls d _ H => E cls d H) := takes_of rfl rfl rfl rfl
  exact (dss_cons (ds_expr (d_callG G_need_zones hr tk (da_cons (d_var 0) da_nil))) (dss_cons (ds_expr (d_callG G_need_program hr tk (da_cons (d_var 0) (da_cons (d_var 1) da_nil)))) (dss_one (ds_ret (d_callG G_kinds_of hr tk (da_cons (d_var 1) da_nil))))))
abbrev s__law_bag_of : Stmt := top 26
theorem sc__law_bag_of : FnScope ["_law_cell"] ["_law_cell"] (defScope s__law_bag_of) := ⟨rfl, rfl, rfl, by decide +kernel, rfl, by decide +kernel, by decide +kernel⟩
theorem fn__law_bag_of (T : Txt K mg w) {f : Addr} {fd : FuncData} (hm : mg "_law_bag_of" = some (.ref f)) (F : Fun K "_law_bag_of" "_law_bag_of" s__law_bag_of f fd) : FnDG P w K mg base 1 "_law_bag_of" s__law_bag_of ["_law_cell"] m_law_bag_of := by
  refine fnd_mkG (np := 1) (nN := 1) (k := 0) hm F (F.binds fun _ _ _ _ _ _ us hl => match us, hl with | [_], _ => rfl) sc__law_bag_of rfl rfl fun cdv A outer s H E hr => ?_
  have tk : Takes (cxOf (L2.CX P w) P w K mg base ["_law_cell"] "_law_bag_of" (defScope s__law_bag_of) f cdv A outer s H E) (fun cls d _ H => E cls d H) := takes_of rfl rfl rfl rfl
  exact (dss_one (ds_ret (d_new (dl_lst (da_cons (d_callB (call_max2 rfl) c_II T.n_max (da_cons d_int (da_cons (d_op op_sub o_sub (d_var 0) (d_fold (d := .int 1000000000000000000) (d_op op_pow o_pow d_int d_int) (fun _ _ => rfl))) da_nil))) (da_cons (d_op op_mod o_mod (d_callTy call_int1 c_int1 T.n_int (da_cons (d_var 0) da_nil)) d_int) (da_cons d_int da_nil)))))))
abbrev s__law_pick : Stmt := top 27
theorem sc__law_pick : FnScope ["_law_bag", "_law_many", "_law_here"] ["_law_bag", "_law_many"] (defScope s__law_pick) := ⟨rfl, rfl, rfl, by decide +kernel, rfl, by decide +kernel, by decide +kernel⟩
theorem fn__law_pick (T : Txt K mg w) {f : Addr} {fd : FuncData} (hm : mg "_law_pick" = some (.ref f)) (F : Fun K "_law_pick" "_law_pick" s__law_pick f fd) : FnDG P w K mg base 1 "_law_pick" s__law_pick ["_law_bag", "_law_many"] m_law_pick := by
  refine fnd_mkG (np := 2) (nN := 3) (k := 0) hm F (F.binds fun _ _ _ _ _ _ us hl => match us, hl with | [_, _], _ => rfl) sc__law_pick rfl rfl fun cdv A outer s H E hr => ?_
  have tk : Takes (cxOf (L2.CX P w) P w K mg base ["_law_bag", "_law_many", "_law_here"] "_law_pick" (defScope s__law_pick) f cdv A outer s H E) (fun cls d _ H => E cls d H) := takes_of rfl rfl rfl rfl
  exact (dss_cons (ds_if (dt_cmp op_gt o_gt (d_ix ix_seq o_ix (d_var 0) d_int) d_int) (dss_cons (ds_set 2 sc__law_pick.nd (d_op op_mod o_mod (d_callTy call_int1 c_int1 T.n_int (da_cons (d_ix ix_seq o_ix (d_var 0) d_int) da_nil)) (d_var 1))) (dss_cons (ds_setIx (d_op op_fdivW o_fdiv (d_ix ix_seq o_ix (d_var 0) d_int) (d_var 1)) (d_var 0) d_int) (dss_one (ds_ret (d_var 2))))) dss_nil) (dss_cons (ds_setIx (d_op op_addD o_add (d_ix ix_seq o_ix (d_var 0) d_int) d_int) (d_var 0) d_int) (dss_cons (ds_set 2 sc__law_pick.nd (d_op op_mulW o_mul (d_op op_addD o_add (d_ix ix_seq o_ix (d_var 0) d_int) (d_op op_mulW o_mul d_int (d_ix ix_seq o_ix (d_var 0) d_int))) (d_op op_addD o_add (d_op op_addD o_add (d_ix ix_seq o_ix (d_var 0) d_int) (d_op op_mulW o_mul d_int (d_ix ix_seq o_ix (d_var 0) d_int))) d_int))) (dss_cons (ds_set 2 sc__law_pick.nd (d_op op_mod o_mod (d_callTy call_int1 c_int1 T.n_int (da_cons (d_var 2) da_nil)) d_int)) (dss_cons (ds_set 2 sc__law_pick.nd (d_op op_addD o_add (d_op op_mulW o_mul (d_var 2) (d_var 2)) (d_op op_mulW o_mul d_int (d_ix ix_seq o_ix (d_var 0) d_int)))) (dss_one (ds_ret (d_op op_mod o_mod (d_callTy call_int1 c_int1 T.n_int (da_cons (d_op op_fdivW o_fdiv (d_op op_mod o_mod (d_callTy call_int1 c_int1 T.n_int (da_cons (d_var 2) da_nil)) d_int) d_int) da_nil)) (d_var 1)))))))))
abbrev s__law_any_belt : Stmt := top 28
theorem sc__law_any_belt : FnScope ["_law_bag", "_law_upto", "_law_many", "_law_wide", "_law_gaps", "_law_shifts", "_law_gap_here", "_law_least", "_law_more", "_law_k"] ["_law_bag", "_law_upto"] (defScope s__law_any_belt) := ⟨rfl, rfl, rfl, by decide +kernel, rfl, by decide +kernel, by decide +kernel⟩
theorem fn__law_any_belt (T : Txt K mg w) {f : Addr} {fd : FuncData} (hm : mg "_law_any_belt" = some (.ref f)) (F : Fun K "_law_any_belt" "_law_any_belt" s__law_any_belt f fd) (G__law_pick : FnDG P w K mg base 1 "_law_pick" s__law_pick ["_law_bag", "_law_many"] m_law_pick) : FnDG P w K mg base 2 "_law_any_belt" s__law_any_belt ["_law_bag", "_law_upto"] m_law_any_belt := by
  refine fnd_mkG (np := 2) (nN := 10) (k := 1) hm F (F.binds fun _ _ _ _ _ _ us hl => match us, hl with | [_, _], _ => rfl) sc__law_any_belt rfl rfl fun cdv A outer s H E hr => ?_
  have tk : Takes (cxOf (L2.CX P w) P w K mg base ["_law_bag", "_law_upto", "_law_many", "_law_wide", "_law_gaps", "_law_shifts", "_law_gap_here", "_law_least", "_law_more", "_law_k"] "_law_any_belt" (defScope s__law_any_belt) f cdv A outer s H E) (fun cls d _ H => E cls d H) := takes_of rfl rfl rfl rfl
  exact (dss_cons (ds_set 2 sc__law_any_belt.nd (d_callB (call_min2 rfl) c_II T.n_min (da_cons (d_var 1) (da_cons (d_ix ix_seq o_ix (d_fz (dl_lst (da_cons d_int (da_cons d_int (da_cons d_int (da_cons d_int (da_cons d_int (da_cons d_int da_nil)))))))) (d_callG G__law_pick hr tk (da_cons (d_var 0) (da_cons d_int da_nil)))) da_nil)))) (dss_cons (ds_set 3 sc__law_any_belt.nd (d_ix ix_seq o_ix (d_fz (dl_lst (da_cons d_int (da_cons d_int (da_cons d_int (da_cons d_int (da_cons d_int (da_cons d_int da_nil)))))))) (d_callG G__law_pick hr tk (da_cons (d_var 0) (da_cons d_int da_nil))))) (dss_cons (ds_set 3 sc__law_any_belt.nd (d_callB (call_max2 rfl) c_II T.n_max (da_cons d_int (da_cons (d_op op_fdivW o_fdiv (d_var 3) (d_callB (call_max2 rfl) c_II T.n_max (da_cons d_int (da_cons (d_op op_sub o_sub (d_var 2) d_int) da_nil)))) da_nil)))) (dss_cons (ds_setLc (mw := mFz) 4 (own := [("_law_k", 9)]) (rd_fz) rfl sc__law_any_belt.nd (di_range1 (da_cons (d_op op_sub o_sub (d_var 2) d_int) da_nil) T.n_range) (blkOk_by (own := [("_law_k", 9)]) (N := ["_law_bag", "_law_upto", "_law_many", "_law_wide", "_law_gaps", "_law_shifts", "_law_gap_here", "_law_least", "_law_more", "_law_k"]) (sc := defScope s__law_any_belt) (by decide +kernel)) (fun _ _ _ _ _ => (dg_name 9 sc__law_any_belt.nd)) (fun _ _ _ _ _ => dts_nil) (fun _ _ _ _ _ => (d_op op_sub o_sub (d_var 3) (d_op op_mulW o_mul (d_callG G__law_pick hr takes0 (da_cons (d_var 0) (da_cons (d_var 3) da_nil))) (d_callG G__law_pick hr takes0 (da_cons (d_var 0) (da_cons d_int da_nil))))))) (dss_cons (ds_set 5 sc__law_any_belt.nd (d_new (dl_lst (da_cons (d_op op_sub o_sub (d_callG G__law_pick hr tk (da_cons (d_var 0) (da_cons (d_op op_sub o_sub d_int (d_callB (cr_sum rfl) c_sum T.n_sum (da_cons (d_var 4) da_nil))) da_nil))) d_int) da_nil)))) (dss_cons (ds_forA (passes_of rfl) rfl (d_var 4) (dg_name 6 sc__law_any_belt.nd) (dss_one (ds_app (d_var 5) (d_op op_addD o_add (d_ix ix_seq o_ix (d_var 5) (d_fold (d := .int (-1)) (d_un un_neg o_neg d_int) (fun _ _ => rfl))) (d_var 6)) (fun a b => ps_expr (pe_bm PySem.F.plainAttrs_list PySem.F.slot_list_append PySem.F.type_list_append mt_append a (pa_cons b pa_nil)))))) (dss_cons (ds_set 7 sc__law_any_belt.nd (d_op op_addD o_add (d_callB (cr_sum rfl) c_sum T.n_sum (da_cons (d_var 4) da_nil)) d_int)) (dss_cons (ds_set 8 sc__law_any_belt.nd (d_fz (dl_lst (da_cons d_int (da_cons d_int (da_cons d_int (da_cons (d_op op_sub o_sub d_int (d_var 7)) (da_cons (d_callG G__law_pick hr tk (da_cons (d_var 0) (da_cons d_int da_nil))) (da_cons d_int (da_cons (d_callG G__law_pick hr tk (da_cons (d_var 0) (da_cons (d_op op_sub o_sub d_int (d_var 7)) da_nil))) da_nil)))))))))) (dss_one (ds_ret (d_tup (da_cons (d_callTy call_tuple_of c_tuple T.n_tuple (da_cons (d_var 5) da_nil)) (da_cons (d_op op_addD o_add (d_var 7) (d_ix ix_seq o_ix (d_var 8) (d_callG G__law_pick hr tk (da_cons (d_var 0) (da_cons d_int da_nil))))) da_nil)))))))))))))
abbrev s__law_any_belts : Stmt := top 29
theorem sc__law_any_belts : FnScope ["_law_bag", "_law_upto", "_law_k"] ["_law_bag", "_law_upto"] (defScope s__law_any_belts) := ⟨rfl, rfl, rfl, by decide +kernel, rfl, by decide +kernel, by decide +kernel⟩
theorem fn__law_any_belts (T : Txt K mg w) {f : Addr} {fd : FuncData} (hm : mg "_law_any_belts" = some (.ref f)) (F : Fun K "_law_any_belts" "_law_any_belts" s__law_any_belts f fd) (G__law_pick : FnDG P w K mg base 1 "_law_pick" s__law_pick ["_law_bag", "_law_many"] m_law_pick) (G__law_any_belt : FnDG P w K mg base 2 "_law_any_belt" s__law_any_belt ["_law_bag", "_law_upto"] m_law_any_belt) : FnDG P w K mg base 3 "_law_any_belts" s__law_any_belts ["_law_bag", "_law_upto"] m_law_any_belts := by
  refine fnd_mkG (np := 2) (nN := 3) (k := 2) hm F (F.binds fun _ _ _ _ _ _ us hl => match us, hl with | [_, _], _ => rfl) sc__law_any_belts rfl rfl fun cdv A outer s H E hr => ?_
  have tk : Takes (cxOf (L2.CX P w) P w K mg base ["_law_bag", "_law_upto", "_law_k"] "_law_any_belts" (defScope s__law_any_belts) f cdv A outer s H E) (fun cls d _ H => E cls d H) := takes_of rfl rfl rfl rfl
  exact (dss_one (ds_ret (d_callTy call_tuple_of c_tuple T.n_tuple (da_cons (d_fz (dl_lc (own := [("_law_k", 2)]) rfl sc__law_any_belts.nd (di_range1 (da_cons (d_op op_addD o_add d_int (d_callG G__law_pick hr tk (da_cons (d_var 0) (da_cons d_int da_nil)))) da_nil) T.n_range) (blkOk_by (own := [("_law_k", 2)]) (N := ["_law_bag", "_law_upto", "_law_k"]) (sc := defScope s__law_any_belts) (by decide +kernel)) (fun _ _ _ _ _ => (dg_name 2 sc__law_any_belts.nd)) (fun _ _ _ _ _ => dts_nil) (fun _ _ _ _ _ => (d_callG G__law_any_belt hr takes0 (da_cons (d_var 0) (da_cons (d_var 1) da_nil)))))) da_nil))))
abbrev s__law_same : Stmt := top 30
theorem sc__law_same : FnScope ["_law_told", "_law_due"] ["_law_told", "_law_due"] (defScope s__law_same) := ⟨rfl, rfl, rfl, by decide +kernel, rfl, by decide +kernel, by decide +kernel⟩
theorem fn__law_same (T : Txt K mg w) {f : Addr} {fd : FuncData} (hm : mg "_law_same" = some (.ref f)) (F : Fun K "_law_same" "_law_same" s__law_same f fd) : FnDG P w K mg base 1 "_law_same" s__law_same ["_law_told", "_law_due"] m_law_same_v2 := by
  refine fnd_mkG (np := 2) (nN := 2) (k := 0) hm F (F.binds fun _ _ _ _ _ _ us hl => match us, hl with | [_, _], _ => rfl) sc__law_same rfl rfl fun cdv A outer s H E hr => ?_
  have tk : Takes (cxOf (L2.CX P w) P w K mg base ["_law_told", "_law_due"] "_law_same" (defScope s__law_same) f cdv A outer s H E) (fun cls d _ H => E cls d H) := takes_of rfl rfl rfl rfl
  exact (dss_one (ds_ret (d_cmp (op_eqA hr.units) o_eq (d_callB (cr_repr hr) c_repr T.n_repr (da_cons (d_var 0) da_nil)) (d_callB (cr_repr hr) c_repr T.n_repr (da_cons (d_var 1) da_nil)))))
abbrev s__law_spot : Stmt := top 31
theorem sc__law_spot : FnScope ["_law_bag", "_law_made", "_law_kind", "_law_some", "_law_k"] ["_law_bag", "_law_made", "_law_kind"] (defScope s__law_spot) := ⟨rfl, rfl, rfl, by decide +kernel, rfl, by decide +kernel, by decide +kernel⟩
theorem fn__law_spot (T : Txt K mg w) {f : Addr} {fd : FuncData} (hm : mg "_law_spot" = some (.ref f)) (F : Fun K "_law_spot" "_law_spot" s__law_spot f fd) (G__law_pick : FnDG P w K mg base 1 "_law_pick" s__law_pick ["_law_bag", "_law_many"] m_law_pick) : FnDG P w K mg base 2 "_law_spot" s__law_spot ["_law_bag", "_law_made", "_law_kind"] m_law_spot := by
  refine fnd_mkG (np := 3) (nN := 5) (k := 1) hm F (F.binds fun _ _ _ _ _ _ us hl => match us, hl with | [_, _, _], _ => rfl) sc__law_spot rfl rfl fun cdv A outer s H E hr => ?_
  have tk : Takes (cxOf (L2.CX P w) P w K mg base ["_law_bag", "_law_made", "_law_kind", "_law_some", "_law_k"] "_law_spot" (defScope s__law_spot) f cdv A outer s H E) (fun cls d _ H => E cls d H) := takes_of rfl rfl rfl rfl
  exact (dss_cons (ds_setLc (mw := mFz) 3 (own := [("_law_k", 4)]) (rd_fz) rfl sc__law_spot.nd (di_range1 (da_cons (d_callB call_len c_len T.n_len (da_cons (d_var 1) da_nil)) da_nil) T.n_range) (blkOk_by (own := [("_law_k", 4)]) (N := ["_law_bag", "_law_made", "_law_kind", "_law_some", "_law_k"]) (sc := defScope s__law_spot) (by decide +kernel)) (fun _ _ _ _ _ => (dg_name 4 sc__law_spot.nd)) (fun _ _ _ _ _ => (dts_one (DT.w (dw_or (dt_cmp (op_eqA hr.units) o_eq (d_ix ix_seq o_ix (d_var 1) (d_var 4)) (d_var 2)) (dw_or1 (DT.w (dw_and (dt_cmp (op_eqA hr.units) o_eq (d_var 2) d_str) (dw_and1 (dt_cmp (op_neA hr.units) o_ne (d_ix ix_seq o_ix (d_var 1) (d_var 4)) d_str))))))))) (fun _ _ _ _ _ => (d_var 4))) (dss_cons (ds_if (dt_cmp (op_eqA hr.units) o_eq (d_callG G__law_pick hr tk (da_cons (d_var 0) (da_cons d_int da_nil))) d_int) (dss_one (ds_ret (d_ix ix_seq o_ix (d_var 3) (d_fold (d := .int (-1)) (d_un un_neg o_neg d_int) (fun _ _ => rfl))))) dss_nil) (dss_one (ds_ret (d_ix ix_seq o_ix (d_var 3) (d_callG G__law_pick hr tk (da_cons (d_var 0) (da_cons (d_callB call_len c_len T.n_len (da_cons (d_var 3) da_nil)) da_nil))))))))
abbrev s__law_minutes : Stmt := top 32
theorem sc__law_minutes : FnScope ["_law_bag", "_law_belts", "_law_tiny", "_law_shifts", "_law_apart", "_law_wide", "_law_near", "_law_amount"] ["_law_bag", "_law_belts", "_law_tiny"] (defScope s__law_minutes) := ⟨rfl, rfl, rfl, by decide +kernel, rfl, by decide +kernel, by decide +kernel⟩
theorem fn__law_minutes (T : Txt K mg w) {f : Addr} {fd : FuncData} (hm : mg "_law_minutes" = some (.ref f)) (F : Fun K "_law_minutes" "_law_minutes" s__law_minutes f fd) (G__law_pick : FnDG P w K mg base 1 "_law_pick" s__law_pick ["_law_bag", "_law_many"] m_law_pick) : FnDG P w K mg base 2 "_law_minutes" s__law_minutes ["_law_bag", "_law_belts", "_law_tiny"] m_law_minutes := by
  refine fnd_mkG (np := 3) (nN := 8) (k := 1) hm F (F.binds fun _ _ _ _ _ _ us hl => match us, hl with | [_, _, _], _ => rfl) sc__law_minutes rfl rfl fun cdv A outer s H E hr => ?_
  have tk : Takes (cxOf (L2.CX P w) P w K mg base ["_law_bag", "_law_belts", "_law_tiny", "_law_shifts", "_law_apart", "_law_wide", "_law_near", "_law_amount"] "_law_minutes" (defScope s__law_minutes) f cdv A outer s H E) (fun cls d _ H => E cls d H) := takes_of rfl rfl rfl rfl
  exact (dss_cons (ds_if (dt_cmp (op_eqA hr.units) o_eq (d_var 2) d_int) (dss_one (ds_ret (d_op op_sub o_sub (d_callG G__law_pick hr tk (da_cons (d_var 0) (da_cons d_int da_nil))) d_int))) dss_nil) (dss_cons (ds_asg (d_ix ix_seq o_ix (d_var 1) (d_callG G__law_pick hr tk (da_cons (d_var 0) (da_cons (d_callB call_len c_len T.n_len (da_cons (d_var 1) da_nil)) da_nil)))) (dg_any rfl (dgs_cons (dg_name 3 sc__law_minutes.nd) (dgs_cons (dg_name 4 sc__law_minutes.nd) dgs_nil)))) (dss_cons (ds_set 5 sc__law_minutes.nd (d_op op_sub o_sub (d_ix ix_seq o_ix (d_var 3) (d_fold (d := .int (-1)) (d_un un_neg o_neg d_int) (fun _ _ => rfl))) (d_ix ix_seq o_ix (d_var 3) d_int))) (dss_cons (ds_set 6 sc__law_minutes.nd (d_fz (dl_lst (da_cons d_int (da_cons (d_var 4) (da_cons (d_var 5) (da_cons d_int (da_cons d_int (da_cons (d_callG G__law_pick hr tk (da_cons (d_var 0) (da_cons d_int da_nil))) (da_cons d_int (da_cons (d_op op_sub o_sub (d_var 4) (d_var 5)) (da_cons (d_op op_addD o_add (d_var 4) (d_var 5)) da_nil)))))))))))) (dss_cons (ds_set 7 sc__law_minutes.nd (d_callB (call_min2 rfl) c_II T.n_min (da_cons d_int (da_cons (d_op op_sub o_sub (d_op op_addD o_add (d_ix ix_seq o_ix (d_var 6) (d_callG G__law_pick hr tk (da_cons (d_var 0) (da_cons d_int da_nil)))) (d_callG G__law_pick hr tk (da_cons (d_var 0) (da_cons d_int da_nil)))) d_int) da_nil)))) (dss_one (ds_ret (d_op op_mulW o_mul (d_var 7) (d_op op_sub o_sub d_int (d_op op_mulW o_mul d_int (d_callG G__law_pick hr tk (da_cons (d_var 0) (da_cons d_int da_nil)))))))))))))
abbrev s__law_any_rules : Stmt := top 33
theorem sc__law_any_rules : FnScope ["_law_bag"] ["_law_bag"] (defScope s__law_any_rules) := ⟨rfl, rfl, rfl, by decide +kernel, rfl, by decide +kernel, by decide +kernel⟩
theorem fn__law_any_rules (T : Txt K mg w) {f : Addr} {fd : FuncData} (hm : mg "_law_any_rules" = some (.ref f)) (F : Fun K "_law_any_rules" "_law_any_rules" s__law_any_rules f fd) (G__law_pick : FnDG P w K mg base 1 "_law_pick" s__law_pick ["_law_bag", "_law_many"] m_law_pick) : FnDG P w K mg base 2 "_law_any_rules" s__law_any_rules ["_law_bag"] m_law_any_rules := by
  refine fnd_mkG (np := 1) (nN := 1) (k := 1) hm F (F.binds fun _ _ _ _ _ _ us hl => match us, hl with | [_], _ => rfl) sc__law_any_rules rfl rfl fun cdv A outer s H E hr => ?_
  have tk : Takes (cxOf (L2.CX P w) P w K mg base ["_law_bag"] "_law_any_rules" (defScope s__law_any_rules) f cdv A outer s H E) (fun cls d _ H => E cls d H) := takes_of rfl rfl rfl rfl
  exact (dss_one (ds_ret (d_tup (da_cons (d_ix ix_seq o_ix (d_fz (dl_lst (da_cons d_str (da_cons d_str (da_cons d_str da_nil))))) (d_callG G__law_pick hr tk (da_cons (d_var 0) (da_cons d_int da_nil)))) (da_cons (d_ix ix_seq o_ix (d_fz (dl_lst (da_cons d_str (da_cons d_str (da_cons d_str da_nil))))) (d_callG G__law_pick hr tk (da_cons (d_var 0) (da_cons d_int da_nil)))) da_nil)))))
abbrev s__law_less_room : Stmt := top 34
theorem sc__law_less_room : FnScope ["_law_room", "_law_deed", "_law_turned"] ["_law_room", "_law_deed"] (defScope s__law_less_room) := ⟨rfl, rfl, rfl, by decide +kernel, rfl, by decide +kernel, by decide +kernel⟩
theorem fn__law_less_room (T : Txt K mg w) {f : Addr} {fd : FuncData} (hm : mg "_law_less_room" = some (.ref f)) (F : Fun K "_law_less_room" "_law_less_room" s__law_less_room f fd) : FnDG P w K mg base 1 "_law_less_room" s__law_less_room ["_law_room", "_law_deed"] m_law_less_room := by
  refine fnd_mkG (np := 2) (nN := 3) (k := 0) hm F (F.binds fun _ _ _ _ _ _ us hl => match us, hl with | [_, _], _ => rfl) sc__law_less_room rfl rfl fun cdv A outer s H E hr => ?_
  have tk : Takes (cxOf (L2.CX P w) P w K mg base ["_law_room", "_law_deed", "_law_turned"] "_law_less_room" (defScope s__law_less_room) f cdv A outer s H E) (fun cls d _ H => E cls d H) := takes_of rfl rfl rfl rfl
  exact (dss_cons (ds_set 2 sc__law_less_room.nd (d_callTy call_int1 c_int1 T.n_int (da_cons (d_cmp op_in_seq o_in (d_ix ix_seq o_ix (d_var 1) d_int) (d_fz (dl_lst (da_cons d_str (da_cons d_str (da_cons d_str (da_cons d_str da_nil)))))) (by rfl)) da_nil))) (dss_one (ds_ret (d_fz (dl_lst (da_cons (d_op op_sub o_sub (d_ix ix_seq o_ix (d_var 0) d_int) (d_var 2)) (da_cons (d_op op_sub o_sub (d_ix ix_seq o_ix (d_var 0) d_int) (d_callTy call_int1 c_int1 T.n_int (da_cons (d_cmp (op_eqA hr.units) o_eq (d_ix ix_seq o_ix (d_var 1) d_int) d_str) da_nil))) (da_cons (d_op op_sub o_sub (d_ix ix_seq o_ix (d_var 0) d_int) (d_callTy call_int1 c_int1 T.n_int (da_cons (d_cmp (op_eqA hr.units) o_eq (d_ix ix_seq o_ix (d_var 1) d_int) d_str) da_nil))) (da_cons (d_ix ix_seq o_ix (d_var 0) d_int) da_nil)))))))))
abbrev s__law_deed_for : Stmt := top 35
theorem sc__law_deed_for : FnScope ["_law_bag", "_law_belts", "_law_made", "_law_kind", "_law_room", "_law_some", "_law_site"] ["_law_bag", "_law_belts", "_law_made", "_law_kind", "_law_room"] (defScope s__law_deed_for) := ⟨rfl, rfl, rfl, by decide +kernel, rfl, by decide +kernel, by decide +kernel⟩
theorem fn__law_deed_for (T : Txt K mg w) {f : Addr} {fd : FuncData} (hm : mg "_law_deed_for" = some (.ref f)) (F : Fun K "_law_deed_for" "_law_deed_for" s__law_deed_for f fd) (G__law_pick : FnDG P w K mg base 1 "_law_pick" s__law_pick ["_law_bag", "_law_many"] m_law_pick) (G__law_spot : FnDG P w K mg base 2 "_law_spot" s__law_spot ["_law_bag", "_law_made", "_law_kind"] m_law_spot) (G__law_any_rules : FnDG P w K mg base 2 "_law_any_rules" s__law_any_rules ["_law_bag"] m_law_any_rules) (G__law_minutes : FnDG P w K mg base 2 "_law_minutes" s__law_minutes ["_law_bag", "_law_belts", "_law_tiny"] m_law_minutes) : FnDG P w K mg base 3 "_law_deed_for" s__law_deed_for ["_law_bag", "_law_belts", "_law_made", "_law_kind", "_law_room"] m_law_deed_for := by
  refine fnd_mkG (np := 5) (nN := 7) (k := 2) hm F (F.binds fun _ _ _ _ _ _ us hl => match us, hl with | [_, _, _, _, _], _ => rfl) sc__law_deed_for rfl rfl fun cdv A outer s H E hr => ?_
  have tk : Takes (cxOf (L2.CX P w) P w K mg base ["_law_bag", "_law_belts", "_law_made", "_law_kind", "_law_room", "_law_some", "_law_site"] "_law_deed_for" (defScope s__law_deed_for) f cdv A outer s H E) (fun cls d _ H => E cls d H) := takes_of rfl rfl rfl rfl
  exact (dss_cons (ds_set 5 sc__law_deed_for.nd (d_new (dl_lst da_nil))) (dss_cons (ds_if (DT.w (dw_and (dt_cmp (op_neA hr.units) o_ne (d_var 3) d_str) (dw_and1 (dt_cmp op_in_seq o_in (d_var 3) (d_var 2) (by rfl))))) (dss_one (ds_app (d_var 5) (d_tup (da_cons d_str (da_cons (d_callG G__law_spot hr tk (da_cons (d_var 0) (da_cons (d_var 2) (da_cons (d_var 3) da_nil)))) (da_cons (d_callG G__law_minutes hr tk (da_cons (d_var 0) (da_cons (d_var 1) (da_cons d_int da_nil)))) da_nil)))) (fun a b => ps_expr (pe_bm PySem.F.plainAttrs_list PySem.F.slot_list_append PySem.F.type_list_append mt_append a (pa_cons b pa_nil))))) dss_nil) (dss_cons (ds_if (DT.w (dw_and (dt_cmp (op_eqA hr.units) o_eq (d_var 3) d_str) (dw_and1 (dt_cmp op_in_seq o_in d_str (d_var 2) (by rfl))))) (dss_one (ds_app (d_var 5) (d_tup (da_cons d_str (da_cons (d_callG G__law_spot hr tk (da_cons (d_var 0) (da_cons (d_var 2) (da_cons d_str da_nil)))) (da_cons (d_callG G__law_spot hr tk (da_cons (d_var 0) (da_cons (d_var 2) (da_cons d_str da_nil)))) da_nil)))) (fun a b => ps_expr (pe_bm PySem.F.plainAttrs_list PySem.F.slot_list_append PySem.F.type_list_append mt_append a (pa_cons b pa_nil))))) dss_nil) (dss_cons (ds_if (DT.w (dw_and (dt_cmp (op_eqA hr.units) o_eq (d_var 3) d_str) (dw_and (dt_cmp op_in_seq o_in d_str (d_var 2) (by rfl)) (dw_and1 (dt_cmp op_in_seq o_in d_str (d_var 2) (by rfl)))))) (dss_one (ds_app (d_var 5) (d_tup (da_cons d_str (da_cons (d_callG G__law_spot hr tk (da_cons (d_var 0) (da_cons (d_var 2) (da_cons d_str da_nil)))) (da_cons (d_callG G__law_spot hr tk (da_cons (d_var 0) (da_cons (d_var 2) (da_cons d_str da_nil)))) da_nil)))) (fun a b => ps_expr (pe_bm PySem.F.plainAttrs_list PySem.F.slot_list_append PySem.F.type_list_append mt_append a (pa_cons b pa_nil))))) dss_nil) (dss_cons (ds_set 6 sc__law_deed_for.nd (d_callG G__law_pick hr tk (da_cons (d_var 0) (da_cons (d_callB call_len c_len T.n_len (da_cons (d_var 1) da_nil)) da_nil)))) (dss_cons (ds_if (DT.w (dw_and (dt_cmp (op_eqA hr.units) o_eq (d_var 3) d_str) (dw_and1 (dt_cmp op_gt o_gt (d_ix ix_seq o_ix (d_var 4) d_int) d_int)))) (dss_one (ds_app (d_var 5) (d_tup (da_cons d_str (da_cons (d_callG G__law_spot hr tk (da_cons (d_var 0) (da_cons (d_var 2) (da_cons d_str da_nil)))) (da_cons (d_var 6) da_nil)))) (fun a b => ps_expr (pe_bm PySem.F.plainAttrs_list PySem.F.slot_list_append PySem.F.type_list_append mt_append a (pa_cons b pa_nil))))) dss_nil) (dss_cons (ds_if (DT.w (dw_and (dt_cmp (op_eqA hr.units) o_eq (d_var 3) d_str) (dw_and1 (dt_cmp op_gt o_gt (d_ix ix_seq o_ix (d_var 4) d_int) d_int)))) (dss_one (ds_app (d_var 5) (d_tup (da_cons d_str (da_cons (d_callG G__law_spot hr tk (da_cons (d_var 0) (da_cons (d_var 2) (da_cons d_str da_nil)))) (da_cons (d_var 6) da_nil)))) (fun a b => ps_expr (pe_bm PySem.F.plainAttrs_list PySem.F.slot_list_append PySem.F.type_list_append mt_append a (pa_cons b pa_nil))))) dss_nil) (dss_cons (ds_if (DT.w (dw_and (dt_cmp (op_eqA hr.units) o_eq (d_var 3) d_str) (dw_and (dt_cmp op_in_seq o_in d_str (d_var 2) (by rfl)) (dw_and1 (dt_cmp op_gt o_gt (d_callB (call_min2 rfl) c_II T.n_min (da_cons (d_ix ix_seq o_ix (d_var 4) d_int) (da_cons (d_ix ix_seq o_ix (d_var 4) d_int) da_nil))) d_int))))) (dss_one (ds_app (d_var 5) (d_op op_addD o_add (d_tup (da_cons d_str (da_cons (d_callG G__law_spot hr tk (da_cons (d_var 0) (da_cons (d_var 2) (da_cons d_str da_nil)))) (da_cons (d_var 6) da_nil)))) (d_callG G__law_any_rules hr tk (da_cons (d_var 0) da_nil))) (fun a b => ps_expr (pe_bm PySem.F.plainAttrs_list PySem.F.slot_list_append PySem.F.type_list_append mt_append a (pa_cons b pa_nil))))) dss_nil) (dss_cons (ds_if (DT.w (dw_and (dt_cmp (op_eqA hr.units) o_eq (d_var 3) d_str) (dw_and1 (dt_cmp op_gt o_gt (d_callB (call_min2 rfl) c_II T.n_min (da_cons (d_ix ix_seq o_ix (d_var 4) d_int) (da_cons (d_ix ix_seq o_ix (d_var 4) d_int) da_nil))) d_int)))) (dss_one (ds_app (d_var 5) (d_tup (da_cons d_str (da_cons (d_callG G__law_spot hr tk (da_cons (d_var 0) (da_cons (d_var 2) (da_cons d_str da_nil)))) (da_cons (d_var 6) da_nil)))) (fun a b => ps_expr (pe_bm PySem.F.plainAttrs_list PySem.F.slot_list_append PySem.F.type_list_append mt_append a (pa_cons b pa_nil))))) dss_nil) (dss_cons (ds_if (dt_cmp (op_eqA hr.units) o_eq (d_var 5) (d_fz (dl_lst da_nil))) (dss_one (ds_ret d_non)) dss_nil) (dss_one (ds_ret (d_ix ix_seq o_ix (d_var 5) (d_callG G__law_pick hr tk (da_cons (d_var 0) (da_cons (d_callB call_len c_len T.n_len (da_cons (d_var 5) da_nil)) da_nil))))))))))))))))
abbrev s__law_wanted : Stmt := top 36
theorem sc__law_wanted : FnScope ["_law_bag", "_law_belts", "_law_plan", "_law_row", "_law_room", "_law_k", "_law_kind", "_law_deed"] ["_law_bag", "_law_belts"] (defScope s__law_wanted) := ⟨rfl, rfl, rfl, by decide +kernel, rfl, by decide +kernel, by decide +kernel⟩
theorem fn__law_wanted (T : Txt K mg w) {f : Addr} {fd : FuncData} (hm : mg "_law_wanted" = some (.ref f)) (F : Fun K "_law_wanted" "_law_wanted" s__law_wanted f fd) (G__law_less_room : FnDG P w K mg base 1 "_law_less_room" s__law_less_room ["_law_room", "_law_deed"] m_law_less_room) (G__law_deed_for : FnDG P w K mg base 3 "_law_deed_for" s__law_deed_for ["_law_bag", "_law_belts", "_law_made", "_law_kind", "_law_room"] m_law_deed_for) (G__law_pick : FnDG P w K mg base 1 "_law_pick" s__law_pick ["_law_bag", "_law_many"] m_law_pick) : FnDG P w K mg base 4 "_law_wanted" s__law_wanted ["_law_bag", "_law_belts"] m_law_wanted := by
  refine fnd_mkG (np := 2) (nN := 8) (k := 3) hm F (F.binds fun _ _ _ _ _ _ us hl => match us, hl with | [_, _], _ => rfl) sc__law_wanted rfl rfl fun cdv A outer s H E hr => ?_
  have tk : Takes (cxOf (L2.CX P w) P w K mg base ["_law_bag", "_law_belts", "_law_plan", "_law_row", "_law_room", "_law_k", "_law_kind", "_law_deed"] "_law_wanted" (defScope s__law_wanted) f cdv A outer s H E) (fun cls d _ H => E cls d H) := takes_of rfl rfl rfl rfl
  exact (dss_cons (ds_par3 2 3 4 rfl sc__law_wanted.nd (da_cons (d_tup da_nil) (da_cons (d_new (dl_lst (da_cons d_str da_nil))) (da_cons (d_ix ix_seq o_ix (d_fz (dl_lst (da_cons (d_fz (dl_lst (da_cons d_int (da_cons d_int (da_cons d_int (da_cons d_int da_nil)))))) (da_cons (d_fz (dl_lst (da_cons d_int (da_cons d_int (da_cons d_int (da_cons d_int da_nil)))))) da_nil)))) (d_callG G__law_pick hr tk (da_cons (d_var 0) (da_cons d_int da_nil)))) da_nil)))) (dss_cons (ds_for (passes_of rfl) rfl (di_range1 (da_cons (d_callB (call_max2 rfl) c_II T.n_max (da_cons (d_callG G__law_pick hr tk (da_cons (d_var 0) (da_cons d_int da_nil))) (da_cons (d_callG G__law_pick hr tk (da_cons (d_var 0) (da_cons d_int da_nil))) da_nil))) da_nil) T.n_range) (dg_name 5 sc__law_wanted.nd) (dss_cons (ds_set 6 sc__law_wanted.nd (d_ix ix_seq o_ix (d_fz (dl_lst (da_cons d_str (da_cons d_str (da_cons d_str da_nil))))) (d_callG G__law_pick hr tk (da_cons (d_var 0) (da_cons d_int da_nil))))) (dss_cons (ds_set 7 sc__law_wanted.nd (d_callG G__law_deed_for hr tk (da_cons (d_var 0) (da_cons (d_var 1) (da_cons (d_var 3) (da_cons (d_var 6) (da_cons (d_var 4) da_nil))))))) (dss_one (ds_if (dt_cmp op_notN o_notN (d_var 7) d_non) (dss_cons (ds_set 2 sc__law_wanted.nd (d_op op_addD o_add (d_var 2) (d_tup (da_cons (d_var 7) da_nil)))) (dss_cons (ds_app (d_var 3) (d_var 6) (fun a b => ps_expr (pe_bm PySem.F.plainAttrs_list PySem.F.slot_list_append PySem.F.type_list_append mt_append a (pa_cons b pa_nil)))) (dss_one (ds_set 4 sc__law_wanted.nd (d_callG G__law_less_room hr tk (da_cons (d_var 4) (da_cons (d_var 7) da_nil))))))) dss_nil))))) (dss_one (ds_ret (d_tup (da_cons (d_var 2) (da_cons (d_var 3) da_nil)))))))
abbrev s_law : Stmt := top 37
theorem sc_law : FnScope ["_law_script", "_law_cell", "_law_bag", "_law_belts", "_law_plan", "_law_row", "_law_later_plan", "_law_later_row", "_law_told"] ["_law_script"] (defScope s_law) := ⟨rfl, rfl, rfl, by decide +kernel, rfl, by decide +kernel, by decide +kernel⟩
theorem fn_law (T : Txt K mg w) {f : Addr} {fd : FuncData} (hm : mg "law" = some (.ref f)) (F : Fun K "law" "law" s_law f fd) (G__law_same : FnDG P w K mg base 1 "_law_same" s__law_same ["_law_told", "_law_due"] m_law_same_v2) (G_kinds : FnDG P w K mg base 7 "kinds" s_kinds ["zones", "program"] m_kinds) (G_is_program : FnDG P w K mg base 5 "is_program" s_is_program ["zones", "value"] m_is_program) (G__law_wanted : FnDG P w K mg base 4 "_law_wanted" s__law_wanted ["_law_bag", "_law_belts"] m_law_wanted) (G__law_any_belts : FnDG P w K mg base 3 "_law_any_belts" s__law_any_belts ["_law_bag", "_law_upto"] m_law_any_belts) (G__law_bag_of : FnDG P w K mg base 1 "_law_bag_of" s__law_bag_of ["_law_cell"] m_law_bag_of) : FnDG P w K mg base 8 "law" s_law ["_law_script"] m_law_k20_kinds_of_values := by
  refine fnd_mkG (np := 1) (nN := 9) (k := 7) hm F (F.binds fun _ _ _ _ _ _ us hl => match us, hl with | [_], _ => rfl) sc_law rfl rfl fun cdv A outer s H E hr => ?_
  have tk : Takes (cxOf (L2.CX P w) P w K mg base ["_law_script", "_law_cell", "_law_bag", "_law_belts", "_law_plan", "_law_row", "_law_later_plan", "_law_later_row", "_law_told"] "law" (defScope s_law) f cdv A outer s H E) (fun cls d _ H => E cls d H) := takes_of rfl rfl rfl rfl
  exact (dss_cons (ds_for (passes_of rfl) rfl (di_seq (d_fz (dl_cat (dl_lst (da_cons d_int da_nil)) (dl_slL (d_var 0) do_none (do_some d_int))))) (dg_name 1 sc_law.nd) (dss_cons (ds_set 2 sc_law.nd (d_callG G__law_bag_of hr tk (da_cons (d_var 1) da_nil))) (dss_cons (ds_set 3 sc_law.nd (d_callG G__law_any_belts hr tk (da_cons (d_var 2) (da_cons d_int da_nil)))) (dss_cons (ds_asg (d_callG G__law_wanted hr tk (da_cons (d_var 2) (da_cons (d_var 3) da_nil))) (dg_any rfl (dgs_cons (dg_name 4 sc_law.nd) (dgs_cons (dg_name 5 sc_law.nd) dgs_nil)))) (dss_cons (ds_asg (d_callG G__law_wanted hr tk (da_cons (d_var 2) (da_cons (d_var 3) da_nil))) (dg_any rfl (dgs_cons (dg_name 6 sc_law.nd) (dgs_cons (dg_name 7 sc_law.nd) dgs_nil)))) (dss_cons (ds_set 8 sc_law.nd (d_callG G_kinds hr tk (da_cons (d_var 3) (da_cons (d_var 4) da_nil)))) (dss_cons (ds_if (DT.w (dw_or (dt_not (dt_val (d_callG G__law_same hr tk (da_cons (d_var 8) (da_cons (d_var 5) da_nil))))) (dw_or1 (dt_not (dt_val (d_callG G_is_program hr tk (da_cons (d_var 3) (da_cons (d_var 4) da_nil)))))))) (dss_one (ds_ret d_bl)) dss_nil) (dss_cons (ds_app (d_var 8) d_str (fun a b => ps_expr (pe_bm PySem.F.plainAttrs_list PySem.F.slot_list_append PySem.F.type_list_append mt_append a (pa_cons b pa_nil)))) (dss_cons (ds_setIx d_str (d_var 8) d_int) (dss_one (ds_if (DT.w (dw_or (dt_not (dt_val (d_callG G__law_same hr tk (da_cons (d_callG G_kinds hr tk (da_cons (d_var 3) (da_cons (d_var 6) da_nil))) (da_cons (d_var 7) da_nil))))) (dw_or1 (dt_not (dt_val (d_callG G__law_same hr tk (da_cons (d_callK0G (ks := (["program", "zones"] : List Str)) G_kinds [1, 0] (fun _ _ _ _ _ _ us ws h1 h2 => match us, ws, h1, h2 with | [], [_, _], _, _ => rfl) hr tk (dk_cons (d_var 4) (dk_cons (d_var 3) dk_nil))) (da_cons (d_var 5) da_nil)))))))) (dss_one (ds_ret d_bl)) dss_nil))))))))))) (dss_one (ds_ret d_bl)))
end
theorem all_mk {l : PySem.W.OpenLaw} {w : World} {K : Frag} {h : Heap} {mg : Str → Option Value} {fa : Addr} (hlaw : LawTrue m_law_k20_kinds_of_values) (X : K.In h) (G : h.Ns mainGlobals mg) (hfa : mg "law" = some (.ref fa))
    {f0 : Addr} {od0 an0 : Option Addr} {sl0 : Array (Option Value)} {oc0 kV0 dc0 pm0 cd0 ct0 : Value} {f1 : Addr} {od1 an1 : Option Addr} {sl1 : Array (Option Value)} {oc1 kV1 dc1 pm1 cd1 ct1 : Value} {f2 : Addr} {od2 an2 : Option Addr} {sl2 : Array (Option Value)} {oc2 kV2 dc2 pm2 cd2 ct2 : Value} {f3 : Addr} {od3 an3 : Option Addr} {sl3 : Array (Option Value)} {oc3 kV3 dc3 pm3 cd3 ct3 : Value} {f4 : Addr} {od4 an4 : Option Addr} {sl4 : Array (Option Value)} {oc4 kV4 dc4 pm4 cd4 ct4 : Value} {f5 : Addr} {od5 an5 : Option Addr} {sl5 : Array (Option Value)} {oc5 kV5 dc5 pm5 cd5 ct5 : Value} {f6 : Addr} {od6 an6 : Option Addr} {sl6 : Array (Option Value)} {oc6 kV6 dc6 pm6 cd6 ct6 : Value} {f7 : Addr} {od7 an7 : Option Addr} {sl7 : Array (Option Value)} {oc7 kV7 dc7 pm7 cd7 ct7 : Value} {f8 : Addr} {od8 an8 : Option Addr} {sl8 : Array (Option Value)} {oc8 kV8 dc8 pm8 cd8 ct8 : Value} {f9 : Addr} {od9 an9 : Option Addr} {sl9 : Array (Option Value)} {oc9 kV9 dc9 pm9 cd9 ct9 : Value} {f10 : Addr} {od10 an10 : Option Addr} {sl10 : Array (Option Value)} {oc10 kV10 dc10 pm10 cd10 ct10 : Value} {f11 : Addr} {od11 an11 : Option Addr} {sl11 : Array (Option Value)} {oc11 kV11 dc11 pm11 cd11 ct11 : Value} {f12 : Addr} {od12 an12 : Option Addr} {sl12 : Array (Option Value)} {oc12 kV12 dc12 pm12 cd12 ct12 : Value} {f13 : Addr} {od13 an13 : Option Addr} {sl13 : Array (Option Value)} {oc13 kV13 dc13 pm13 cd13 ct13 : Value} {f14 : Addr} {od14 an14 : Option Addr} {sl14 : Array (Option Value)} {oc14 kV14 dc14 pm14 cd14 ct14 : Value} {f15 : Addr} {od15 an15 : Option Addr} {sl15 : Array (Option Value)} {oc15 kV15 dc15 pm15 cd15 ct15 : Value} {f16 : Addr} {od16 an16 : Option Addr} {sl16 : Array (Option Value)} {oc16 kV16 dc16 pm16 cd16 ct16 : Value} {f17 : Addr} {od17 an17 : Option Addr} {sl17 : Array (Option Value)} {oc17 kV17 dc17 pm17 cd17 ct17 : Value} {f18 : Addr} {od18 an18 : Option Addr} {sl18 : Array (Option Value)} {oc18 kV18 dc18 pm18 cd18 ct18 : Value} {f19 : Addr} {od19 an19 : Option Addr} {sl19 : Array (Option Value)} {oc19 kV19 dc19 pm19 cd19 ct19 : Value} {f20 : Addr} {od20 an20 : Option Addr} {sl20 : Array (Option Value)} {oc20 kV20 dc20 pm20 cd20 ct20 : Value} {f21 : Addr} {od21 an21 : Option Addr} {sl21 : Array (Option Value)} {oc21 kV21 dc21 pm21 cd21 ct21 : Value} {f22 : Addr} {od22 an22 : Option Addr} {sl22 : Array (Option Value)} {oc22 kV22 dc22 pm22 cd22 ct22 : Value} {Q0_1 : Addr} {oQ0_1 : Option Addr} {nQ0_1 : Nat} {sQ0_1 : Array (Option Value)} {tQ0_2 : Tok} {tQ0_3 : Tok} {tQ0_4 : Tok} {Q1_1 : Addr} {oQ1_1 : Option Addr} {nQ1_1 : Nat} {sQ1_1 : Array (Option Value)} {tQ1_2 : Tok} {tQ1_3 : Tok} {tQ1_4 : Tok} {Q2_t : Addr} {nQ2_t : Nat} {hQ2_0 : Int} {uQ2_0 : Tok} {tQ2_1 : Tok} {hQ2_1 : Int} {uQ2_1 : Tok} {tQ2_2 : Tok} {hQ2_2 : Int} {uQ2_2 : Tok} {tQ2_3 : Tok} {hQ2_3 : Int} {uQ2_3 : Tok} {tQ2_4 : Tok} {hQ2_4 : Int} {uQ2_4 : Tok} {tQ2_5 : Tok} {hQ2_5 : Int} {uQ2_5 : Tok} {tQ2_6 : Tok} {t3 : Tok} {t4 : Tok} {t5 : Tok} {t6 : Tok} {Q7_t : Addr} {nQ7_t : Nat} {hQ7_0 : Int} {uQ7_0 : Tok} {Q7_1 : Addr} {oQ7_1 : Option Addr} {nQ7_1 : Nat} {sQ7_1 : Array (Option Value)} {tQ7_2 : Tok} {tQ7_3 : Tok} {hQ7_1 : Int} {uQ7_1 : Tok} {Q7_4 : Addr} {oQ7_4 : Option Addr} {nQ7_4 : Nat} {sQ7_4 : Array (Option Value)} {tQ7_5 : Tok} {tQ7_6 : Tok} {tQ7_7 : Tok} {tQ7_8 : Tok} {hQ7_2 : Int} {uQ7_2 : Tok} {Q7_9 : Addr} {oQ7_9 : Option Addr} {nQ7_9 : Nat} {sQ7_9 : Array (Option Value)} {tQ7_10 : Tok} {tQ7_11 : Tok} {hQ7_3 : Int} {uQ7_3 : Tok} {Q7_12 : Addr} {oQ7_12 : Option Addr} {nQ7_12 : Nat} {sQ7_12 : Array (Option Value)} {tQ7_13 : Tok} {tQ7_14 : Tok} {hQ7_4 : Int} {uQ7_4 : Tok} {Q7_15 : Addr} {oQ7_15 : Option Addr} {nQ7_15 : Nat} {sQ7_15 : Array (Option Value)} {tQ7_16 : Tok} {tQ7_17 : Tok} {hQ7_5 : Int} {uQ7_5 : Tok} {Q7_18 : Addr} {oQ7_18 : Option Addr} {nQ7_18 : Nat} {sQ7_18 : Array (Option Value)} {tQ7_19 : Tok} {tQ7_20 : Tok} {hQ7_6 : Int} {uQ7_6 : Tok} {Q7_21 : Addr} {oQ7_21 : Option Addr} {nQ7_21 : Nat} {sQ7_21 : Array (Option Value)} {tQ7_22 : Tok} {tQ7_23 : Tok} {C0 : Addr} {C1 : Addr}
    (a0 : PySem.W.nsIn K mainGlobals "is_integer" = some (some (.ref f0)))
    (l0 : K.lookup f0 = some ⟨oc0, od0, .func (PySem.W.fnOf "is_integer" "is_integer" (defArgs s_is_integer) (defBody s_is_integer) (defScope s_is_integer) .none kV0 dc0 pm0 an0 cd0 ct0), sl0⟩)
    (c0 : PySem.W.codeIn K cd0 "is_integer" = true)
    (k0 : PySem.W.keepIn K (.ref f0) = true)
    (a1 : PySem.W.nsIn K mainGlobals "is_zone" = some (some (.ref f1)))
    (l1 : K.lookup f1 = some ⟨oc1, od1, .func (PySem.W.fnOf "is_zone" "is_zone" (defArgs s_is_zone) (defBody s_is_zone) (defScope s_is_zone) .none kV1 dc1 pm1 an1 cd1 ct1), sl1⟩)
    (c1 : PySem.W.codeIn K cd1 "is_zone" = true)
    (k1 : PySem.W.keepIn K (.ref f1) = true)
    (a2 : PySem.W.nsIn K mainGlobals "is_zones" = some (some (.ref f2)))
    (l2 : K.lookup f2 = some ⟨oc2, od2, .func (PySem.W.fnOf "is_zones" "is_zones" (defArgs s_is_zones) (defBody s_is_zones) (defScope s_is_zones) .none kV2 dc2 pm2 an2 cd2 ct2), sl2⟩)
    (c2 : PySem.W.codeIn K cd2 "is_zones" = true)
    (k2 : PySem.W.keepIn K (.ref f2) = true)
    (a3 : PySem.W.nsIn K mainGlobals "need_zones" = some (some (.ref f3)))
    (l3 : K.lookup f3 = some ⟨oc3, od3, .func (PySem.W.fnOf "need_zones" "need_zones" (defArgs s_need_zones) (defBody s_need_zones) (defScope s_need_zones) .none kV3 dc3 pm3 an3 cd3 ct3), sl3⟩)
    (c3 : PySem.W.codeIn K cd3 "need_zones" = true)
    (k3 : PySem.W.keepIn K (.ref f3) = true)
    (a4 : PySem.W.nsIn K mainGlobals "is_part" = some (some (.ref f4)))
    (l4 : K.lookup f4 = some ⟨oc4, od4, .func (PySem.W.fnOf "is_part" "is_part" (defArgs s_is_part) (defBody s_is_part) (defScope s_is_part) .none kV4 dc4 pm4 an4 cd4 ct4), sl4⟩)
    (c4 : PySem.W.codeIn K cd4 "is_part" = true)
    (k4 : PySem.W.keepIn K (.ref f4) = true)
    (a5 : PySem.W.nsIn K mainGlobals "is_step" = some (some (.ref f5)))
    (l5 : K.lookup f5 = some ⟨oc5, od5, .func (PySem.W.fnOf "is_step" "is_step" (defArgs s_is_step) (defBody s_is_step) (defScope s_is_step) .none kV5 dc5 pm5 an5 cd5 ct5), sl5⟩)
    (c5 : PySem.W.codeIn K cd5 "is_step" = true)
    (k5 : PySem.W.keepIn K (.ref f5) = true)
    (a6 : PySem.W.nsIn K mainGlobals "kind_made" = some (some (.ref f6)))
    (l6 : K.lookup f6 = some ⟨oc6, od6, .func (PySem.W.fnOf "kind_made" "kind_made" (defArgs s_kind_made) (defBody s_kind_made) (defScope s_kind_made) .none kV6 dc6 pm6 an6 cd6 ct6), sl6⟩)
    (c6 : PySem.W.codeIn K cd6 "kind_made" = true)
    (k6 : PySem.W.keepIn K (.ref f6) = true)
    (a7 : PySem.W.nsIn K mainGlobals "kinds_of" = some (some (.ref f7)))
    (l7 : K.lookup f7 = some ⟨oc7, od7, .func (PySem.W.fnOf "kinds_of" "kinds_of" (defArgs s_kinds_of) (defBody s_kinds_of) (defScope s_kinds_of) .none kV7 dc7 pm7 an7 cd7 ct7), sl7⟩)
    (c7 : PySem.W.codeIn K cd7 "kinds_of" = true)
    (k7 : PySem.W.keepIn K (.ref f7) = true)
    (a8 : PySem.W.nsIn K mainGlobals "is_program" = some (some (.ref f8)))
    (l8 : K.lookup f8 = some ⟨oc8, od8, .func (PySem.W.fnOf "is_program" "is_program" (defArgs s_is_program) (defBody s_is_program) (defScope s_is_program) .none kV8 dc8 pm8 an8 cd8 ct8), sl8⟩)
    (c8 : PySem.W.codeIn K cd8 "is_program" = true)
    (k8 : PySem.W.keepIn K (.ref f8) = true)
    (a9 : PySem.W.nsIn K mainGlobals "need_program" = some (some (.ref f9)))
    (l9 : K.lookup f9 = some ⟨oc9, od9, .func (PySem.W.fnOf "need_program" "need_program" (defArgs s_need_program) (defBody s_need_program) (defScope s_need_program) .none kV9 dc9 pm9 an9 cd9 ct9), sl9⟩)
    (c9 : PySem.W.codeIn K cd9 "need_program" = true)
    (k9 : PySem.W.keepIn K (.ref f9) = true)
    (a10 : PySem.W.nsIn K mainGlobals "kinds" = some (some (.ref f10)))
    (l10 : K.lookup f10 = some ⟨oc10, od10, .func (PySem.W.fnOf "kinds" "kinds" (defArgs s_kinds) (defBody s_kinds) (defScope s_kinds) .none kV10 dc10 pm10 an10 cd10 ct10), sl10⟩)
    (c10 : PySem.W.codeIn K cd10 "kinds" = true)
    (k10 : PySem.W.keepIn K (.ref f10) = true)
    (a11 : PySem.W.nsIn K mainGlobals "_law_bag_of" = some (some (.ref f11)))
    (l11 : K.lookup f11 = some ⟨oc11, od11, .func (PySem.W.fnOf "_law_bag_of" "_law_bag_of" (defArgs s__law_bag_of) (defBody s__law_bag_of) (defScope s__law_bag_of) .none kV11 dc11 pm11 an11 cd11 ct11), sl11⟩)
    (c11 : PySem.W.codeIn K cd11 "_law_bag_of" = true)
    (k11 : PySem.W.keepIn K (.ref f11) = true)
    (a12 : PySem.W.nsIn K mainGlobals "_law_pick" = some (some (.ref f12)))
    (l12 : K.lookup f12 = some ⟨oc12, od12, .func (PySem.W.fnOf "_law_pick" "_law_pick" (defArgs s__law_pick) (defBody s__law_pick) (defScope s__law_pick) .none kV12 dc12 pm12 an12 cd12 ct12), sl12⟩)
    (c12 : PySem.W.codeIn K cd12 "_law_pick" = true)
    (k12 : PySem.W.keepIn K (.ref f12) = true)
    (a13 : PySem.W.nsIn K mainGlobals "_law_any_belt" = some (some (.ref f13)))
    (l13 : K.lookup f13 = some ⟨oc13, od13, .func (PySem.W.fnOf "_law_any_belt" "_law_any_belt" (defArgs s__law_any_belt) (defBody s__law_any_belt) (defScope s__law_any_belt) .none kV13 dc13 pm13 an13 cd13 ct13), sl13⟩)
    (c13 : PySem.W.codeIn K cd13 "_law_any_belt" = true)
    (k13 : PySem.W.keepIn K (.ref f13) = true)
    (a14 : PySem.W.nsIn K mainGlobals "_law_any_belts" = some (some (.ref f14)))
    (l14 : K.lookup f14 = some ⟨oc14, od14, .func (PySem.W.fnOf "_law_any_belts" "_law_any_belts" (defArgs s__law_any_belts) (defBody s__law_any_belts) (defScope s__law_any_belts) .none kV14 dc14 pm14 an14 cd14 ct14), sl14⟩)
    (c14 : PySem.W.codeIn K cd14 "_law_any_belts" = true)
    (k14 : PySem.W.keepIn K (.ref f14) = true)
    (a15 : PySem.W.nsIn K mainGlobals "_law_same" = some (some (.ref f15)))
    (l15 : K.lookup f15 = some ⟨oc15, od15, .func (PySem.W.fnOf "_law_same" "_law_same" (defArgs s__law_same) (defBody s__law_same) (defScope s__law_same) .none kV15 dc15 pm15 an15 cd15 ct15), sl15⟩)
    (c15 : PySem.W.codeIn K cd15 "_law_same" = true)
    (k15 : PySem.W.keepIn K (.ref f15) = true)
    (a16 : PySem.W.nsIn K mainGlobals "_law_spot" = some (some (.ref f16)))
    (l16 : K.lookup f16 = some ⟨oc16, od16, .func (PySem.W.fnOf "_law_spot" "_law_spot" (defArgs s__law_spot) (defBody s__law_spot) (defScope s__law_spot) .none kV16 dc16 pm16 an16 cd16 ct16), sl16⟩)
    (c16 : PySem.W.codeIn K cd16 "_law_spot" = true)
    (k16 : PySem.W.keepIn K (.ref f16) = true)
    (a17 : PySem.W.nsIn K mainGlobals "_law_minutes" = some (some (.ref f17)))
    (l17 : K.lookup f17 = some ⟨oc17, od17, .func (PySem.W.fnOf "_law_minutes" "_law_minutes" (defArgs s__law_minutes) (defBody s__law_minutes) (defScope s__law_minutes) .none kV17 dc17 pm17 an17 cd17 ct17), sl17⟩)
    (c17 : PySem.W.codeIn K cd17 "_law_minutes" = true)
    (k17 : PySem.W.keepIn K (.ref f17) = true)
    (a18 : PySem.W.nsIn K mainGlobals "_law_any_rules" = some (some (.ref f18)))
    (l18 : K.lookup f18 = some ⟨oc18, od18, .func (PySem.W.fnOf "_law_any_rules" "_law_any_rules" (defArgs s__law_any_rules) (defBody s__law_any_rules) (defScope s__law_any_rules) .none kV18 dc18 pm18 an18 cd18 ct18), sl18⟩)
    (c18 : PySem.W.codeIn K cd18 "_law_any_rules" = true)
    (k18 : PySem.W.keepIn K (.ref f18) = true)
    (a19 : PySem.W.nsIn K mainGlobals "_law_less_room" = some (some (.ref f19)))
    (l19 : K.lookup f19 = some ⟨oc19, od19, .func (PySem.W.fnOf "_law_less_room" "_law_less_room" (defArgs s__law_less_room) (defBody s__law_less_room) (defScope s__law_less_room) .none kV19 dc19 pm19 an19 cd19 ct19), sl19⟩)
    (c19 : PySem.W.codeIn K cd19 "_law_less_room" = true)
    (k19 : PySem.W.keepIn K (.ref f19) = true)
    (a20 : PySem.W.nsIn K mainGlobals "_law_deed_for" = some (some (.ref f20)))
    (l20 : K.lookup f20 = some ⟨oc20, od20, .func (PySem.W.fnOf "_law_deed_for" "_law_deed_for" (defArgs s__law_deed_for) (defBody s__law_deed_for) (defScope s__law_deed_for) .none kV20 dc20 pm20 an20 cd20 ct20), sl20⟩)
    (c20 : PySem.W.codeIn K cd20 "_law_deed_for" = true)
    (k20 : PySem.W.keepIn K (.ref f20) = true)
    (a21 : PySem.W.nsIn K mainGlobals "_law_wanted" = some (some (.ref f21)))
    (l21 : K.lookup f21 = some ⟨oc21, od21, .func (PySem.W.fnOf "_law_wanted" "_law_wanted" (defArgs s__law_wanted) (defBody s__law_wanted) (defScope s__law_wanted) .none kV21 dc21 pm21 an21 cd21 ct21), sl21⟩)
    (c21 : PySem.W.codeIn K cd21 "_law_wanted" = true)
    (k21 : PySem.W.keepIn K (.ref f21) = true)
    (a22 : PySem.W.nsIn K mainGlobals "law" = some (some (.ref f22)))
    (l22 : K.lookup f22 = some ⟨oc22, od22, .func (PySem.W.fnOf "law" "law" (defArgs s_law) (defBody s_law) (defScope s_law) .none kV22 dc22 pm22 an22 cd22 ct22), sl22⟩)
    (c22 : PySem.W.codeIn K cd22 "law" = true)
    (k22 : PySem.W.keepIn K (.ref f22) = true)
    (z0 : PySem.W.nsIn K mainGlobals "all" = some none)
    (z1 : PySem.W.nsIn K mainGlobals "bool" = some none)
    (z2 : PySem.W.nsIn K mainGlobals "enumerate" = some none)
    (z3 : PySem.W.nsIn K mainGlobals "int" = some none)
    (z4 : PySem.W.nsIn K mainGlobals "isinstance" = some none)
    (z5 : PySem.W.nsIn K mainGlobals "len" = some none)
    (z6 : PySem.W.nsIn K mainGlobals "max" = some none)
    (z7 : PySem.W.nsIn K mainGlobals "min" = some none)
    (z8 : PySem.W.nsIn K mainGlobals "range" = some none)
    (z9 : PySem.W.nsIn K mainGlobals "repr" = some none)
    (z10 : PySem.W.nsIn K mainGlobals "str" = some none)
    (z11 : PySem.W.nsIn K mainGlobals "sum" = some none)
    (z12 : PySem.W.nsIn K mainGlobals "tuple" = some none)
    (v0 : PySem.W.nsIn K mainGlobals "FOLDS" = some (some (.ref Q0_1)))
    (q0_1 : K.lookup Q0_1 = some ⟨.type "tuple", oQ0_1, .seq #[(.str "early" tQ0_2), (.str "late" tQ0_3), (.str "refuse" tQ0_4)] nQ0_1, sQ0_1⟩)
    (v1 : PySem.W.nsIn K mainGlobals "GAPS" = some (some (.ref Q1_1)))
    (q1_1 : K.lookup Q1_1 = some ⟨.type "tuple", oQ1_1, .seq #[(.str "ahead" tQ1_2), (.str "behind" tQ1_3), (.str "refuse" tQ1_4)] nQ1_1, sQ1_1⟩)
    (v2 : PySem.W.nsIn K mainGlobals "MADE" = some (some (.ref Q2_t)))
    (tb2 : K.lookup Q2_t = some ⟨.type "dict", none, .dict #[⟨hQ2_0, (.str "read" uQ2_0), (.str "reading" tQ2_1)⟩, ⟨hQ2_1, (.str "find" uQ2_1), (.str "moment" tQ2_2)⟩, ⟨hQ2_2, (.str "offset" uQ2_2), (.str "span" tQ2_3)⟩, ⟨hQ2_3, (.str "edition" uQ2_3), (.str "moment" tQ2_4)⟩, ⟨hQ2_4, (.str "plus" uQ2_4), (.str "reading" tQ2_5)⟩, ⟨hQ2_5, (.str "less" uQ2_5), (.str "moment" tQ2_6)⟩] nQ2_t, #[]⟩)
    (hs2_0 : hQ2_0 = PyData.keyHash w.params "read")
    (hs2_1 : hQ2_1 = PyData.keyHash w.params "find")
    (hs2_2 : hQ2_2 = PyData.keyHash w.params "offset")
    (hs2_3 : hQ2_3 = PyData.keyHash w.params "edition")
    (hs2_4 : hQ2_4 = PyData.keyHash w.params "plus")
    (hs2_5 : hQ2_5 = PyData.keyHash w.params "less")
    (lw2 : (Q2_t == sysModules) = false)
    (v3 : PySem.W.nsIn K mainGlobals "MOST_MINUTES" = some (some (.int (100000) t3)))
    (v4 : PySem.W.nsIn K mainGlobals "MOST_OFFSET" = some (some (.int (900) t4)))
    (v5 : PySem.W.nsIn K mainGlobals "MOST_SPACING" = some (some (.int (1000000) t5)))
    (v6 : PySem.W.nsIn K mainGlobals "MOST_STEPS" = some (some (.int (8) t6)))
    (v7 : PySem.W.nsIn K mainGlobals "PARTS" = some (some (.ref Q7_t)))
    (tb7 : K.lookup Q7_t = some ⟨.type "dict", none, .dict #[⟨hQ7_0, (.str "read" uQ7_0), (.ref Q7_1)⟩, ⟨hQ7_1, (.str "find" uQ7_1), (.ref Q7_4)⟩, ⟨hQ7_2, (.str "offset" uQ7_2), (.ref Q7_9)⟩, ⟨hQ7_3, (.str "edition" uQ7_3), (.ref Q7_12)⟩, ⟨hQ7_4, (.str "plus" uQ7_4), (.ref Q7_15)⟩, ⟨hQ7_5, (.str "less" uQ7_5), (.ref Q7_18)⟩, ⟨hQ7_6, (.str "add" uQ7_6), (.ref Q7_21)⟩] nQ7_t, #[]⟩)
    (hs7_0 : hQ7_0 = PyData.keyHash w.params "read")
    (hs7_1 : hQ7_1 = PyData.keyHash w.params "find")
    (hs7_2 : hQ7_2 = PyData.keyHash w.params "offset")
    (hs7_3 : hQ7_3 = PyData.keyHash w.params "edition")
    (hs7_4 : hQ7_4 = PyData.keyHash w.params "plus")
    (hs7_5 : hQ7_5 = PyData.keyHash w.params "less")
    (hs7_6 : hQ7_6 = PyData.keyHash w.params "add")
    (lw7 : (Q7_t == sysModules) = false)
    (q7_1 : K.lookup Q7_1 = some ⟨.type "tuple", oQ7_1, .seq #[(.str "moment" tQ7_2), (.str "place" tQ7_3)] nQ7_1, sQ7_1⟩)
    (q7_4 : K.lookup Q7_4 = some ⟨.type "tuple", oQ7_4, .seq #[(.str "reading" tQ7_5), (.str "place" tQ7_6), (.str "fold" tQ7_7), (.str "gap" tQ7_8)] nQ7_4, sQ7_4⟩)
    (q7_9 : K.lookup Q7_9 = some ⟨.type "tuple", oQ7_9, .seq #[(.str "moment" tQ7_10), (.str "place" tQ7_11)] nQ7_9, sQ7_9⟩)
    (q7_12 : K.lookup Q7_12 = some ⟨.type "tuple", oQ7_12, .seq #[(.str "moment" tQ7_13), (.str "place" tQ7_14)] nQ7_12, sQ7_12⟩)
    (q7_15 : K.lookup Q7_15 = some ⟨.type "tuple", oQ7_15, .seq #[(.str "moment" tQ7_16), (.str "span" tQ7_17)] nQ7_15, sQ7_15⟩)
    (q7_18 : K.lookup Q7_18 = some ⟨.type "tuple", oQ7_18, .seq #[(.str "reading" tQ7_19), (.str "span" tQ7_20)] nQ7_18, sQ7_18⟩)
    (q7_21 : K.lookup Q7_21 = some ⟨.type "tuple", oQ7_21, .seq #[(.str "point" tQ7_22), (.str "minutes" tQ7_23)] nQ7_21, sQ7_21⟩)
    (xa0 : PySem.W.nsIn K mainGlobals "InvalidProgram" = some (some (.ref C0)))
    (xq0 : PySem.W.excIn K C0 [.type "ValueError", .type "Exception", .type "BaseException", .type "object"] "ValueError.__new__" = true)
    (xk0 : PySem.W.keepIn K (.ref C0) = true)
    (xb0 : PySem.W.subIn K (.ref C0) (.type "BaseException") = some true)
    (xt0 : PySem.W.typeIn K (.ref C0) = some (.type "type"))
    (xa1 : PySem.W.nsIn K mainGlobals "InvalidZones" = some (some (.ref C1)))
    (xq1 : PySem.W.excIn K C1 [.type "ValueError", .type "Exception", .type "BaseException", .type "object"] "ValueError.__new__" = true)
    (xk1 : PySem.W.keepIn K (.ref C1) = true)
    (xb1 : PySem.W.subIn K (.ref C1) (.type "BaseException") = some true)
    (xt1 : PySem.W.typeIn K (.ref C1) = some (.type "type")) :
    ∃ fd : FuncData, (∀ (s : Shared) (v : Value), BindsTo s fd ⟨[v], []⟩ [("_law_script", v)]) ∧ ∀ base : Heap, K.In base → base.Ns mainGlobals mg → FnG l.prog w K mg base (L2.CX l.prog w) 8 fa fd ["_law_script"] (spLaw K) := by
  have e := hfa.symm.trans (PySem.W.mg_of X G a22)
  cases e
  have T : Txt K mg w := ⟨PySem.W.mg_none_of X G z0, PySem.W.mg_none_of X G z1, PySem.W.mg_none_of X G z2, PySem.W.mg_none_of X G z3, PySem.W.mg_none_of X G z4, PySem.W.mg_none_of X G z5, PySem.W.mg_none_of X G z6, PySem.W.mg_none_of X G z7, PySem.W.mg_none_of X G z8, PySem.W.mg_none_of X G z9, PySem.W.mg_none_of X G z10, PySem.W.mg_none_of X G z11, PySem.W.mg_none_of X G z12, ⟨_, _, PySem.W.mg_of X G v0, rvR, (.tup (kt_mk q0_1 (Nat.le_of_ble_eq_true rfl) (.cons rvS (.cons rvS (.cons rvS .nil)))) (.cons (.str _) (.cons (.str _) (.cons (.str _) .nil))))⟩, ⟨_, _, PySem.W.mg_of X G v1, rvR, (.tup (kt_mk q1_1 (Nat.le_of_ble_eq_true rfl) (.cons rvS (.cons rvS (.cons rvS .nil)))) (.cons (.str _) (.cons (.str _) (.cons (.str _) .nil))))⟩, ⟨_, _, _, PySem.W.mg_of X G v2, tb2, lw2, (.cons rfl hs2_0 rvS (.str _) (.cons rfl hs2_1 rvS (.str _) (.cons rfl hs2_2 rvS (.str _) (.cons rfl hs2_3 rvS (.str _) (.cons rfl hs2_4 rvS (.str _) (.cons rfl hs2_5 rvS (.str _) .nil))))))⟩, ⟨t3, PySem.W.mg_of X G v3⟩, ⟨t4, PySem.W.mg_of X G v4⟩, ⟨t5, PySem.W.mg_of X G v5⟩, ⟨t6, PySem.W.mg_of X G v6⟩, ⟨_, _, _, PySem.W.mg_of X G v7, tb7, lw7, (.cons rfl hs7_0 rvR (.tup (kt_mk q7_1 (Nat.le_of_ble_eq_true rfl) (.cons rvS (.cons rvS .nil))) (.cons (.str _) (.cons (.str _) .nil))) (.cons rfl hs7_1 rvR (.tup (kt_mk q7_4 (Nat.le_of_ble_eq_true rfl) (.cons rvS (.cons rvS (.cons rvS (.cons rvS .nil))))) (.cons (.str _) (.cons (.str _) (.cons (.str _) (.cons (.str _) .nil))))) (.cons rfl hs7_2 rvR (.tup (kt_mk q7_9 (Nat.le_of_ble_eq_true rfl) (.cons rvS (.cons rvS .nil))) (.cons (.str _) (.cons (.str _) .nil))) (.cons rfl hs7_3 rvR (.tup (kt_mk q7_12 (Nat.le_of_ble_eq_true rfl) (.cons rvS (.cons rvS .nil))) (.cons (.str _) (.cons (.str _) .nil))) (.cons rfl hs7_4 rvR (.tup (kt_mk q7_15 (Nat.le_of_ble_eq_true rfl) (.cons rvS (.cons rvS .nil))) (.cons (.str _) (.cons (.str _) .nil))) (.cons rfl hs7_5 rvR (.tup (kt_mk q7_18 (Nat.le_of_ble_eq_true rfl) (.cons rvS (.cons rvS .nil))) (.cons (.str _) (.cons (.str _) .nil))) (.cons rfl hs7_6 rvR (.tup (kt_mk q7_21 (Nat.le_of_ble_eq_true rfl) (.cons rvS (.cons rvS .nil))) (.cons (.str _) (.cons (.str _) .nil))) .nil)))))))⟩, ⟨C0, PySem.W.mg_of X G xa0, xq0, xk0, xb0, xt0⟩, ⟨C1, PySem.W.mg_of X G xa1, xq1, xk1, xb1, xt1⟩⟩
  have F0 := fun_mk (st := s_is_integer) l0 c0 k0
  have F1 := fun_mk (st := s_is_zone) l1 c1 k1
  have F2 := fun_mk (st := s_is_zones) l2 c2 k2
  have F3 := fun_mk (st := s_need_zones) l3 c3 k3
  have F4 := fun_mk (st := s_is_part) l4 c4 k4
  have F5 := fun_mk (st := s_is_step) l5 c5 k5
  have F6 := fun_mk (st := s_kind_made) l6 c6 k6
  have F7 := fun_mk (st := s_kinds_of) l7 c7 k7
  have F8 := fun_mk (st := s_is_program) l8 c8 k8
  have F9 := fun_mk (st := s_need_program) l9 c9 k9
  have F10 := fun_mk (st := s_kinds) l10 c10 k10
  have F11 := fun_mk (st := s__law_bag_of) l11 c11 k11
  have F12 := fun_mk (st := s__law_pick) l12 c12 k12
  have F13 := fun_mk (st := s__law_any_belt) l13 c13 k13
  have F14 := fun_mk (st := s__law_any_belts) l14 c14 k14
  have F15 := fun_mk (st := s__law_same) l15 c15 k15
  have F16 := fun_mk (st := s__law_spot) l16 c16 k16
  have F17 := fun_mk (st := s__law_minutes) l17 c17 k17
  have F18 := fun_mk (st := s__law_any_rules) l18 c18 k18
  have F19 := fun_mk (st := s__law_less_room) l19 c19 k19
  have F20 := fun_mk (st := s__law_deed_for) l20 c20 k20
  have F21 := fun_mk (st := s__law_wanted) l21 c21 k21
  have F22 := fun_mk (st := s_law) l22 c22 k22
  refine ⟨PySem.W.fnOf "law" "law" (defArgs s_law) (defBody s_law) (defScope s_law) .none kV22 dc22 pm22 an22 cd22 ct22, fun s v => .of_eq rfl, fun base _ _ => ?_⟩
  have G_is_integer := fn_is_integer (P := l.prog) (w := w) (base := base) T (PySem.W.mg_of X G a0) F0 
  have G_is_zone := fn_is_zone (P := l.prog) (w := w) (base := base) T (PySem.W.mg_of X G a1) F1 G_is_integer
  have G_is_zones := fn_is_zones (P := l.prog) (w := w) (base := base) T (PySem.W.mg_of X G a2) F2 G_is_zone
  have G_need_zones := fn_need_zones (P := l.prog) (w := w) (base := base) T (PySem.W.mg_of X G a3) F3 G_is_zones
  have G_is_part := fn_is_part (P := l.prog) (w := w) (base := base) T (PySem.W.mg_of X G a4) F4 G_is_integer
  have G_is_step := fn_is_step (P := l.prog) (w := w) (base := base) T (PySem.W.mg_of X G a5) F5 G_is_part
  have G_kind_made := fn_kind_made (P := l.prog) (w := w) (base := base) T (PySem.W.mg_of X G a6) F6 
  have G_kinds_of := fn_kinds_of (P := l.prog) (w := w) (base := base) T (PySem.W.mg_of X G a7) F7 G_kind_made
  have G_is_program := fn_is_program (P := l.prog) (w := w) (base := base) T (PySem.W.mg_of X G a8) F8 G_kind_made G_is_step G_need_zones
  have G_need_program := fn_need_program (P := l.prog) (w := w) (base := base) T (PySem.W.mg_of X G a9) F9 G_is_program
  have G_kinds := fn_kinds (P := l.prog) (w := w) (base := base) T (PySem.W.mg_of X G a10) F10 G_kinds_of G_need_program G_need_zones
  have G__law_bag_of := fn__law_bag_of (P := l.prog) (w := w) (base := base) T (PySem.W.mg_of X G a11) F11 
  have G__law_pick := fn__law_pick (P := l.prog) (w := w) (base := base) T (PySem.W.mg_of X G a12) F12 
  have G__law_any_belt := fn__law_any_belt (P := l.prog) (w := w) (base := base) T (PySem.W.mg_of X G a13) F13 G__law_pick
  have G__law_any_belts := fn__law_any_belts (P := l.prog) (w := w) (base := base) T (PySem.W.mg_of X G a14) F14 G__law_pick G__law_any_belt
  have G__law_same := fn__law_same (P := l.prog) (w := w) (base := base) T (PySem.W.mg_of X G a15) F15 
  have G__law_spot := fn__law_spot (P := l.prog) (w := w) (base := base) T (PySem.W.mg_of X G a16) F16 G__law_pick
  have G__law_minutes := fn__law_minutes (P := l.prog) (w := w) (base := base) T (PySem.W.mg_of X G a17) F17 G__law_pick
  have G__law_any_rules := fn__law_any_rules (P := l.prog) (w := w) (base := base) T (PySem.W.mg_of X G a18) F18 G__law_pick
  have G__law_less_room := fn__law_less_room (P := l.prog) (w := w) (base := base) T (PySem.W.mg_of X G a19) F19 
  have G__law_deed_for := fn__law_deed_for (P := l.prog) (w := w) (base := base) T (PySem.W.mg_of X G a20) F20 G__law_pick G__law_spot G__law_any_rules G__law_minutes
  have G__law_wanted := fn__law_wanted (P := l.prog) (w := w) (base := base) T (PySem.W.mg_of X G a21) F21 G__law_less_room G__law_deed_for G__law_pick
  have G_law := fn_law (P := l.prog) (w := w) (base := base) T (PySem.W.mg_of X G a22) F22 G__law_same G_kinds G_is_program G__law_wanted G__law_any_belts G__law_bag_of
  exact law_okG (PySem.W.mg_of X G a22) F22 G_law hlaw
theorem walk {l : PySem.W.OpenLaw} {q : Program} {loose : List Str} {XP : (Str → Option Value) → Heap → Prop} {YP : World → Heap → Prop} {d : DefRec} {K : Params → Frag} (hn : l.most = some 63) (hdf : d.params.defaults = [])
    (hY : ∀ (w : World) (h : Heap), YP w h → (K w.params).In h)
    (F : ∀ (w : World) (mg : Str → Option Value) (fa : Addr) (h : Heap), (K w.params).In h → h.Ns mainGlobals mg → mg d.name = some (.ref fa) →
      ∃ fd : FuncData, (∀ (s : Shared) (u : Value), BindsTo s fd ⟨[u], []⟩ [("_law_script", u)]) ∧ ∀ base : Heap, (K w.params).In base → base.Ns mainGlobals mg → FnG l.prog w (K w.params) mg base (L2.CX l.prog w) 8 fa fd ["_law_script"] (spLaw (K w.params))) :
    PySem.W.WalkO q loose XP YP l.row.toRowW d [] (fun f vs => PySem.call f vs) :=
  walkG_of (k := 8) hn hdf ⟨rfl, by decide, by decide⟩ hY F
end V
-- text HmBase
namespace Dm
open PySem L2
/-- a pot of digits stands at p -/
def Pot (p : Nat) (S : Sto) : Prop := ∃ k : Int, S[p]? = some (.lst [.int k])
/-- from S to S': the pot at p has turned, cells have come, all else is as it was -/
structure Go (p : Nat) (S S' : Sto) : Prop where
  len : S.length ≤ S'.length
  same : ∀ n, n < S.length → n ≠ p → S'[n]? = S[n]?
  pot : Pot p S'
theorem Pot.lt {p : Nat} {S : Sto} (h : Pot p S) : p < S.length := by
  obtain ⟨k, e⟩ := h
  exact (List.getElem?_eq_some_iff.mp e).1
theorem Go.refl {p : Nat} {S : Sto} (h : Pot p S) : Go p S S := ⟨Nat.le_refl _, fun _ _ _ => rfl, h⟩
theorem Go.trans {p : Nat} {S S1 S2 : Sto} (a : Go p S S1) (b : Go p S1 S2) : Go p S S2 :=
  ⟨Nat.le_trans a.len b.len, fun n h hn => (b.same n (Nat.lt_of_lt_of_le h a.len) hn).trans (a.same n h hn), b.pot⟩
theorem Go.push {p : Nat} {S S1 : Sto} (a : Go p S S1) (c : Cell) : Go p S (S1 ++ [c]) :=
  ⟨by rw [List.length_append]; exact Nat.le_trans a.len (Nat.le_add_right _ _), fun n h hn => by
    rw [List.getElem?_append_left (Nat.lt_of_lt_of_le h a.len)]
    exact a.same n h hn, by
    obtain ⟨k, e⟩ := a.pot
    exact ⟨k, by rw [List.getElem?_append_left (List.getElem?_eq_some_iff.mp e).1]; exact e⟩⟩
/-- a cell that is younger than S is written -/
theorem Go.setNew {p n : Nat} {S S1 : Sto} (hp : Pot p S) (a : Go p S S1) (hn : S.length ≤ n) (c : Cell) : Go p S (S1.set n c) :=
  ⟨by rw [List.length_set]; exact a.len, fun m h hm => by
    rw [List.getElem?_set_ne (by omega)]
    exact a.same m h hm, by
    obtain ⟨k, e⟩ := a.pot
    have := hp.lt
    exact ⟨k, by rw [List.getElem?_set_ne (by omega)]; exact e⟩⟩
theorem Go.get {p n : Nat} {S S1 : Sto} {c : Cell} (a : Go p S S1) (h : S[n]? = some c) (hn : n ≠ p) : S1[n]? = some c := by
  rw [a.same n (List.getElem?_eq_some_iff.mp h).1 hn]
  exact h
theorem draw_does {S : Sto} {p : Nat} {u : Int} {Q : D → Sto → Prop} (hp : Pot p S) (h0 : 0 < u) (hb : u < 18446744073709551616)
    (q : ∀ r S', Go p S S' → 0 ≤ r → r < u → Q (.int r) S') : (m_law_draw [.cell p, .int u] S).Does Q := by
  obtain ⟨k, e⟩ := id hp
  refine does_def rfl ?_
  have hl := hp.lt
  have hc : CDivW k u := cdivw h0 hb
  simp [gIx_cell e, h0, hc]
  refine ⟨[.int k], e, 0, rfl, ?_⟩
  refine q (k % u) _ ⟨by rw [List.length_set]; exact Nat.le_refl _, fun n h hn => List.getElem?_set_ne (Ne.symm hn), ⟨k / u, ?_⟩⟩ (Int.emod_nonneg _ (by omega)) (Int.emod_lt_of_pos _ h0)
  rw [List.getElem?_set_self hl] <;> rfl
theorem any_hour_does {S : Sto} {p : Nat} {Q : D → Sto → Prop} (hp : Pot p S) (q : ∀ h S', Go p S S' → -1000000000000 < h → h < 1000000000000 → Q (.int h) S') : (m_law_any_hour [.cell p] S).Does Q := by
  refine does_def rfl ?_
  simp
  refine draw_does hp (by decide) (by decide) fun r S1 g1 h0 h1 => ?_
  simp
  by_cases c1 : r < 2
  · simp [c1]
    refine draw_does g1.pot (by decide) (by decide) fun r2 S2 g2 a0 a1 => ?_
    simp
    exact q _ _ (g1.trans g2) (by omega) (by omega)
  · simp [c1]
    by_cases c2 : r = 2
    · simp [c2]
      refine draw_does g1.pot (by decide) (by decide) fun r2 S2 g2 a0 a1 => ?_
      simp
      exact q _ _ (g1.trans g2) (by omega) (by omega)
    · simp [c2]
      refine draw_does g1.pot (by decide) (by decide) fun r2 S2 g2 a0 a1 => ?_
      have g := g1.trans g2
      have e : r2 = 0 ∨ r2 = 1 ∨ r2 = 2 ∨ r2 = 3 ∨ r2 = 4 ∨ r2 = 5 ∨ r2 = 6 := by omega
      rcases e with e | e | e | e | e | e | e <;> subst e <;> simp [atI, ixN] <;> exact q _ _ g (by decide) (by decide)
end Dm
-- text HmDig
namespace Dm
open PySem L2
theorem rngD_nil {lo : Int} : rngD lo 0 = [] := rfl
theorem rngD_cons {lo : Int} {n : Nat} : rngD lo (n + 1) = .int lo :: rngD (lo + 1) n := by
  unfold rngD
  rw [List.range_succ_eq_map, List.map_cons, List.map_map]
  congr 1
  · simp
  · refine List.map_congr_left fun i _ => ?_
    simp only [Function.comp]
    congr 1
    omega
theorem mul_bits {i j : Int} {n m : Nat} (h : i.natAbs < 2 ^ n) (h' : j.natAbs < 2 ^ m) : (i * j).natAbs < 2 ^ (n + m) := by
  rw [Int.natAbs_mul, Nat.pow_add]
  exact Nat.mul_lt_mul'' h h'
theorem add_bits {i j : Int} {n m : Nat} (h : i.natAbs < 2 ^ n) (h' : j.natAbs < 2 ^ n) (hm : n + 1 ≤ m) : (i + j).natAbs < 2 ^ m := by
  have a := Int.natAbs_add_le i j
  have b : 2 ^ (n + 1) ≤ 2 ^ m := Nat.pow_le_pow_right (by decide) hm
  have c : (2:Nat) ^ (n + 1) = 2 ^ n * 2 := Nat.pow_succ 2 n
  omega
theorem up_bits {i : Int} {n m : Nat} (h : i.natAbs < 2 ^ n) (hm : n ≤ m) : i.natAbs < 2 ^ m :=
  Nat.lt_of_lt_of_le h (Nat.pow_le_pow_right (by decide) hm)
theorem bits_of {i b : Int} (n : Nat) (h0 : 0 ≤ i) (h : i < b) (hb : b = ((2 ^ n : Nat) : Int)) : i.natAbs < 2 ^ n := by
  subst hb
  omega
theorem cdiv_of {i j : Int} (h0 : 0 < j) (h : j.natAbs.log2 < 9000) : CDivW i j := ⟨h0, h⟩
theorem bits_mono {i : Int} (n : Nat) {b : Int} (h0 : 0 ≤ i) (h : i < b) (hb : b ≤ ((2 ^ n : Nat) : Int)) : i.natAbs < 2 ^ n := by
  omega
theorem digits_does {S : Sto} {c : Int} {Q : D → Sto → Prop} (q : ∀ k, Q (.cell S.length) (S ++ [.lst [.int k]])) : (m_law_digits [.int c] S).Does Q := by
  refine does_def rfl ?_
  simp
  by_cases h : 1000000000000000000 ≤ c
  · simp [h]
    exact q _
  · simp [h]
    refine forL_does (fun ds ρ S' => S' = S ∧ ∃ (t n : Nat) (m full : Int) (x : Option D), ρ = [some (.int c), some (.int m), some (.int full), x] ∧ ds = rngD t n ∧ t ≤ 19 ∧ t + n = 19 ∧ m.natAbs < 2 ^ 140 ∧ full.natAbs < 2 ^ (300 * t + 2)) ?_ ?_ _ _ _ ?_
    · rintro d r ρ S' ⟨rfl, t, n, m, full, x, rfl, e, ht, hn, hm, hf⟩
      cases n with
      | zero => rw [rngD_nil] at e; cases e
      | succ n =>
        rw [rngD_cons] at e
        injection e with e1 e2
        subst e1
        refine ⟨_, rfl, ?_⟩
        simp
        have ht' : (t : Int).natAbs < 2 ^ 140 := Nat.lt_of_le_of_lt (show t ≤ 19 by omega) (by decide)
        have hr0 := Int.emod_nonneg (m * m + 31415926535 * m + 271829 * t + 17) (b := 100000000000000000000000000000000000000009) (by decide)
        have hr1 := Int.emod_lt_of_pos (m * m + 31415926535 * m + 271829 * t + 17) (b := 100000000000000000000000000000000000000009) (by decide)
        generalize (m * m + 31415926535 * m + 271829 * t + 17) % 100000000000000000000000000000000000000009 = r1 at hr0 hr1
        have hr : r1.natAbs < 2 ^ 140 := bits_mono 140 hr0 hr1 (by decide +kernel)
        refine ⟨cmulw 140 140 hm hm (by decide), cmulw 140 140 (by decide) hm (by decide), cmulw 140 140 (by decide) ht' (by decide), ?_⟩
        have h300 : 300 * (t + 1) + 2 = (300 * t + 301) + 1 := by omega
        by_cases c3 : (2 : Int) < t
        · simp [c3]
          refine ⟨cmulw (300 * t + 2) 140 hf (by decide +kernel) (by omega), t + 1, n, _, _, ⟨rfl, rfl⟩, by rw [e2] <;> rfl, by omega, by omega, hr, ?_⟩
          refine add_bits (n := 300 * t + 301) (up_bits (mul_bits hf (m := 140) (by decide +kernel)) (by omega)) (up_bits hr (by omega)) (by omega)
        · simp [c3]
          exact ⟨t + 1, n, _, _, ⟨rfl, rfl⟩, by rw [e2] <;> rfl, by omega, by omega, hr, up_bits hf (by omega)⟩
    · rintro ρ S' ⟨rfl, t, n, m, full, x, rfl, _⟩
      simp
      exact q _
    · have hr0 := Int.emod_nonneg c (b := 100000000000000000000000000000000000133) (by decide)
      have hr1 := Int.emod_lt_of_pos c (b := 100000000000000000000000000000000000133) (by decide)
      exact ⟨rfl, 0, 19, _, 1, none, rfl, rfl, by decide, by decide, bits_mono 140 (b := 200000000000000000000000000000000000133) (by omega) (by omega) (by decide +kernel), by decide⟩
end Dm
-- text HmZone
namespace Dm
open PySem L2
theorem seq_cut {ρ : Rho} {S : Sto} {N B C : Rho → Sto → Prop} {R : D → Sto → Prop} {a b : MS} (M : Rho → Sto → Prop) (h : ∀ M' : Rho → Sto → Prop, (∀ ρ S, M ρ S → M' ρ S) → (a ρ S).Does M' R B C) (k : ∀ ρ S, M ρ S → (b ρ S).Does N R B C) : (mSeq a b ρ S).Does N R B C := by
  rw [does_seq]
  exact (h M fun _ _ h => h).mono k (fun _ _ h => h) (fun _ _ h => h) (fun _ _ h => h)
/-- a zone of one, two or three offsets -/
inductive ZoneOK : List Int → Int → Prop
  | one (a s : Int) : -900 ≤ a → a ≤ 900 → 0 < s → s ≤ 1000000 → ZoneOK [a] s
  | two (a b s : Int) : -900 ≤ a → a < b → b ≤ 900 → b - a < s → s ≤ 1000000 → ZoneOK [a, b] s
  | three (a b c s : Int) : -900 ≤ a → a < b → b < c → c ≤ 900 → c - a < s → s ≤ 1000000 → ZoneOK [a, b, c] s
def zoneD (os : List Int) (s : Int) : D := .tup [.tup (os.map .int), .int s]
@[simp] theorem atI_last1 {α : Type} {x : α} : atI [x] (-1) = some x := rfl
@[simp] theorem atI_last2 {α : Type} {x y : α} : atI [x, y] (-1) = some y := rfl
@[simp] theorem atI_last3 {α : Type} {x y z : α} : atI [x, y, z] (-1) = some z := rfl
theorem make_region_does {S : Sto} {p : Nat} {Q : D → Sto → Prop} (hp : Pot p S) (q : ∀ os s S', Go p S S' → ZoneOK os s → Q (zoneD os s) S') : (m_law_make_region [.cell p] S).Does Q := by
  refine does_def rfl ?_
  -- the kind
  refine seq_cut (fun ρ S' => ∃ k : Int, ρ = [some (.cell p), some (.int k), none, none, none, none, none, none, none, none, none] ∧ Go p S S' ∧ 0 ≤ k ∧ k < 6) (fun M hM => ?_) ?_
  · simp
    refine draw_does hp (by decide) (by decide) fun r S1 g1 h0 h1 => ?_
    exact hM _ _ ⟨r, rfl, g1, h0, h1⟩
  rintro ρ S1 ⟨k, rfl, g1, k0, k1⟩
  refine seq_cut (fun ρ S' => S' = S1 ∧ ρ = [some (.cell p), some (.int k), some (.int (-900)), none, none, none, none, none, none, none, none]) (fun M hM => ?_) ?_
  · simp
    exact hM _ _ ⟨rfl, by first | rfl | exact ⟨_, rfl, rfl⟩⟩
  rintro ρ _ ⟨rfl, rfl⟩
  refine seq_cut (fun ρ S' => ∃ low : Int, ρ = [some (.cell p), some (.int k), some (.int low), none, none, none, none, none, none, none, none] ∧ Go p S S' ∧ -900 ≤ low ∧ (k = 0 → low ≤ 3) ∧ (k = 1 → low ≤ 3) ∧ (k = 2 → low ≤ 660) ∧ (k = 3 → low = -900) ∧ (k = 4 → low ≤ 300) ∧ (k = 5 → low = -900)) (fun M hM => ?_) ?_
  · simp
    by_cases c1 : k < 2
    · simp [c1]
      refine draw_does g1.pot (by decide) (by decide) fun r S2 g2 a0 a1 => ?_
      simp
      exact hM _ _ ⟨_, rfl, g1.trans g2, by omega, by omega, by omega, by omega, by omega, by omega, by omega⟩
    · simp [c1]
      by_cases c2 : k = 2
      · subst c2
        simp
        refine draw_does g1.pot (by decide) (by decide) fun r S2 g2 a0 a1 => ?_
        simp
        exact ⟨cmulw64 (by omega) (by omega), hM _ _ ⟨_, rfl, g1.trans g2, by omega, by omega, by omega, by omega, by omega, by omega, by omega⟩⟩
      · simp [c2]
        by_cases c4 : k = 4
        · subst c4
          simp
          refine draw_does g1.pot (by decide) (by decide) fun r S2 g2 a0 a1 => ?_
          simp
          exact hM _ _ ⟨_, rfl, g1.trans g2, by omega, by omega, by omega, by omega, by omega, by omega, by omega⟩
        · simp [c4]
          exact hM _ _ ⟨_, rfl, g1, by omega, by omega, by omega, by omega, by omega, by omega, by omega⟩
  rintro ρ S2 ⟨low, rfl, g2, l0, l1⟩
  refine seq_cut (fun ρ S' => ∃ low u w: Int, ρ = [some (.cell p), some (.int k), some (.int low), some (.int u), some (.int w), none, none, none, none, none, none] ∧ Go p S S' ∧ -900 ≤ low ∧ ((u = 1 ∧ (w = 4 ∨ w = 900 ∨ w = 300)) ∨ (u = 30 ∧ w = 4) ∨ (u = 900 ∧ w = 1)) ∧ low + 2 * u * w ≤ 900) (fun M hM => ?_) ?_
  · have e : k = 0 ∨ k = 1 ∨ k = 2 ∨ k = 3 ∨ k = 4 ∨ k = 5 := by omega
    rcases e with e | e | e | e | e | e <;> subst e <;> simp [atI, ixN] <;> exact hM _ _ ⟨_, _, _, rfl, g2, by omega, by omega, by omega⟩
  rintro ρ S3 ⟨low, u, w, rfl, g3, l0, uw, l1⟩
  have hw : 0 < w := by omega
  have hw' : w < 1000 := by omega
  have hu : 0 < u ∧ u < 1000 := by omega
  refine seq_cut (fun ρ S' => ∃ mid : Int, ρ = [some (.cell p), some (.int k), some (.int low), some (.int u), some (.int w), some (.int mid), none, none, none, none, none] ∧ Go p S S' ∧ low < mid ∧ mid ≤ low + u * w) (fun M hM => ?_) ?_
  · simp
    refine draw_does g3.pot hw (by omega) fun r S4 g4 a0 a1 => ?_
    simp
    refine ⟨cmulw64 (by omega) (by omega), ?_⟩
    refine hM _ _ ⟨_, rfl, g3.trans g4, ?_⟩
    rcases uw with ⟨rfl, rfl | rfl | rfl⟩ | ⟨rfl, rfl⟩ | ⟨rfl, rfl⟩ <;> constructor <;> omega
  rintro ρ S4 ⟨mid, rfl, g4, m0, m1⟩
  refine seq_cut (fun ρ S' => ∃ top : Int, ρ = [some (.cell p), some (.int k), some (.int low), some (.int u), some (.int w), some (.int mid), some (.int top), none, none, none, none] ∧ Go p S S' ∧ mid < top ∧ top ≤ 900) (fun M hM => ?_) ?_
  · simp
    refine draw_does g4.pot hw (by omega) fun r S5 g5 a0 a1 => ?_
    simp
    refine ⟨cmulw64 (by omega) (by omega), ?_⟩
    refine hM _ _ ⟨_, rfl, g4.trans g5, ?_⟩
    rcases uw with ⟨rfl, rfl | rfl | rfl⟩ | ⟨rfl, rfl⟩ | ⟨rfl, rfl⟩ <;> constructor <;> omega
  rintro ρ S5 ⟨top, rfl, g5, t0, t1⟩
  clear l1 m1
  refine seq_cut (fun ρ S' => S' = S5 ∧ ∃ d, ρ = [some (.cell p), some (.int k), some (.int low), some (.int u), some (.int w), some (.int mid), some (.int top), some d, none, none, none] ∧ d = .lst [.tup [.int low, .int mid], .tup [.int low, .int mid, .int top], .tup [.int low, .int top], .tup [.int low, .int mid, .int top], .tup [.int top]]) (fun M hM => ?_) ?_
  · simp
    exact hM _ _ ⟨rfl, by first | rfl | exact ⟨_, rfl, rfl⟩⟩
  rintro ρ _ ⟨rfl, d, rfl, rfl⟩
  refine seq_cut (fun ρ S' => ∃ os x, ρ = [some (.cell p), some (.int k), some (.int low), some (.int u), some (.int w), some (.int mid), some (.int top), some (.tup (os.map .int)), none, none, x] ∧ Go p S S' ∧ ZoneOK os 1000000) (fun M hM => ?_) ?_
  · simp
    refine draw_does g5.pot (by decide) (by decide) fun r S6 g6 a0 a1 => ?_
    have g := g5.trans g6
    have e : r / 2 = 0 ∨ r / 2 = 1 ∨ r / 2 = 2 ∨ r / 2 = 3 ∨ r / 2 = 4 := by omega
    simp
    rcases e with e | e | e | e | e <;> rw [e] <;> simp [atI, ixN]
    · exact ⟨cdivw (by decide) (by decide), hM _ _ ⟨[low, mid], _, rfl, g, .two _ _ _ (by omega) (by omega) (by omega) (by omega) (by omega)⟩⟩
    · exact ⟨cdivw (by decide) (by decide), hM _ _ ⟨[low, mid, top], _, rfl, g, .three _ _ _ _ (by omega) (by omega) (by omega) (by omega) (by omega) (by omega)⟩⟩
    · exact ⟨cdivw (by decide) (by decide), hM _ _ ⟨[low, top], _, rfl, g, .two _ _ _ (by omega) (by omega) (by omega) (by omega) (by omega)⟩⟩
    · exact ⟨cdivw (by decide) (by decide), hM _ _ ⟨[low, mid, top], _, rfl, g, .three _ _ _ _ (by omega) (by omega) (by omega) (by omega) (by omega) (by omega)⟩⟩
    · exact ⟨cdivw (by decide) (by decide), hM _ _ ⟨[top], _, rfl, g, .one _ _ (by omega) (by omega) (by omega) (by omega)⟩⟩
  rintro ρ S6 ⟨os, x, rfl, g6, z6⟩
  refine seq_cut (fun ρ S' => ∃ os x, ρ = [some (.cell p), some (.int k), some (.int low), some (.int u), some (.int w), some (.int mid), some (.int top), some (.tup (os.map .int)), none, none, x] ∧ Go p S S' ∧ ZoneOK os 1000000) (fun M hM => ?_) ?_
  · simp
    refine draw_does g6.pot (by decide) (by decide) fun r S7 g7 a0 a1 => ?_
    have g := g6.trans g7
    by_cases c : r = 1
    · subst c
      cases z6 with
      | one a s h1 h2 h3 h4 =>
        simp [wipeD]
        exact hM _ _ ⟨[-a], _, rfl, g, .one _ _ (by omega) (by omega) (by omega) (by omega)⟩
      | two a b s h1 h2 h3 h4 h5 =>
        simp [wipeD]
        exact hM _ _ ⟨[-b, -a], _, rfl, g, .two _ _ _ (by omega) (by omega) (by omega) (by omega) (by omega)⟩
      | three a b c s h1 h2 h3 h4 h5 h6 =>
        simp [wipeD]
        exact hM _ _ ⟨[-c, -b, -a], _, rfl, g, .three _ _ _ _ (by omega) (by omega) (by omega) (by omega) (by omega) (by omega)⟩
    · simp [c]
      exact hM _ _ ⟨os, _, rfl, g, z6⟩
  rintro ρ S7 ⟨os, x, rfl, g7, z7⟩
  refine seq_cut (fun ρ S' => S' = S7 ∧ ∃ w' : Int, ρ = [some (.cell p), some (.int k), some (.int low), some (.int u), some (.int w), some (.int mid), some (.int top), some (.tup (os.map .int)), some (.int w'), none, x] ∧ 0 ≤ w' ∧ w' ≤ 1800 ∧ ∀ s, w' < s → s ≤ 1000000 → ZoneOK os s) (fun M hM => ?_) ?_
  · cases z7 with
      | one a s h1 h2 h3 h4 =>
        simp
        exact hM _ _ ⟨rfl, _, rfl, by omega, by omega, fun s k1 k2 => .one _ _ h1 h2 (by omega) k2⟩
      | two a b s h1 h2 h3 h4 h5 =>
        simp
        exact hM _ _ ⟨rfl, _, rfl, by omega, by omega, fun s k1 k2 => .two _ _ _ h1 h2 h3 (by omega) k2⟩
      | three a b c s h1 h2 h3 h4 h5 h6 =>
        simp
        exact hM _ _ ⟨rfl, _, rfl, by omega, by omega, fun s k1 k2 => .three _ _ _ _ h1 h2 h3 h4 (by omega) k2⟩
  rintro ρ _ ⟨rfl, w', rfl, w0, w1, zz⟩
  refine seq_cut (fun ρ S' => ∃ m1 m2 : Int, ρ = [some (.cell p), some (.int k), some (.int low), some (.int u), some (.int w), some (.int mid), some (.int top), some (.tup (os.map .int)), some (.int w'), some (.lst [.int 0, .int 0, .int 1, .int m1, .int m2, .int (999999 - w')]), x] ∧ Go p S S' ∧ 0 ≤ m1 ∧ m1 < 1000 ∧ 0 ≤ m2 ∧ m2 < 1000000 - w') (fun M hM => ?_) ?_
  · simp
    refine draw_does g7.pot (by decide) (by decide) fun r S8 g8 a0 a1 => ?_
    refine draw_does g8.pot (by omega) (by omega) fun r' S9 g9 b0 b1 => ?_
    exact hM _ _ ⟨_, _, rfl, g7.trans (g8.trans g9), a0, a1, b0, b1⟩
  rintro ρ S9 ⟨m1, m2, rfl, g9, a0, a1, b0, b1⟩
  simp
  refine draw_does g9.pot (by decide) (by decide) fun r S10 g10 r0 r1 => ?_
  have g := g9.trans g10
  have e : r = 0 ∨ r = 1 ∨ r = 2 ∨ r = 3 ∨ r = 4 ∨ r = 5 := by omega
  rcases e with e | e | e | e | e | e <;> subst e <;> simp [atI, ixN] <;> exact q os _ _ g (zz _ (by omega) (by omega))
end Dm
-- text HmBag
namespace Dm
open PySem L2
/-- a bag of draws stands at p, n more can be drawn -/
def Bag (p n : Nat) (S : Sto) : Prop := ∃ a b c : Int, S[p]? = some (.lst [.int a, .int b, .int c]) ∧ 0 ≤ b ∧ b < 2305843009213693951 ∧ 0 ≤ c ∧ c + n ≤ 9223372036854775808
/-- from S to S': cells have come, all but p is as it was -/
structure GoB (p : Nat) (S S' : Sto) : Prop where
  len : S.length ≤ S'.length
  same : ∀ n, n < S.length → n ≠ p → S'[n]? = S[n]?
theorem Bag.lt {p n : Nat} {S : Sto} (h : Bag p n S) : p < S.length := by
  obtain ⟨a, b, c, e, _⟩ := h
  exact (List.getElem?_eq_some_iff.mp e).1
theorem Bag.mono {p n m : Nat} {S : Sto} (h : Bag p n S) (hm : m ≤ n) : Bag p m S := by
  obtain ⟨a, b, c, e, h1, h2, h3, h4⟩ := h
  exact ⟨a, b, c, e, h1, h2, h3, by omega⟩
theorem Bag.push {p n : Nat} {S : Sto} (h : Bag p n S) (c : Cell) : Bag p n (S ++ [c]) := by
  have hl := h.lt
  obtain ⟨a, b, c, e, r⟩ := h
  exact ⟨a, b, c, by rw [List.getElem?_append_left hl]; exact e, r⟩
theorem Bag.set {p n q : Nat} {S : Sto} (h : Bag p n S) (hq : q ≠ p) (c : Cell) : Bag p n (S.set q c) := by
  obtain ⟨a, b, c, e, r⟩ := h
  exact ⟨a, b, c, by rw [List.getElem?_set_ne hq]; exact e, r⟩
theorem GoB.refl {p : Nat} {S : Sto} : GoB p S S := ⟨Nat.le_refl _, fun _ _ _ => rfl⟩
theorem GoB.trans {p : Nat} {S S1 S2 : Sto} (a : GoB p S S1) (b : GoB p S1 S2) : GoB p S S2 :=
  ⟨Nat.le_trans a.len b.len, fun n h hn => (b.same n (Nat.lt_of_lt_of_le h a.len) hn).trans (a.same n h hn)⟩
theorem GoB.push {p : Nat} {S : Sto} (c : Cell) : GoB p S (S ++ [c]) := ⟨by rw [List.length_append]; omega, fun n h _ => List.getElem?_append_left h⟩
theorem GoB.setNew {p n : Nat} {S S1 : Sto} (a : GoB p S S1) (hn : S.length ≤ n) (c : Cell) : GoB p S (S1.set n c) :=
  ⟨by rw [List.length_set]; exact a.len, fun m h hm => by
    rw [List.getElem?_set_ne (by omega)]
    exact a.same m h hm⟩
theorem GoB.get {p n : Nat} {S S1 : Sto} {c : Cell} (a : GoB p S S1) (h : S[n]? = some c) (hn : n ≠ p) : S1[n]? = some c := by
  rw [a.same n (List.getElem?_eq_some_iff.mp h).1 hn]
  exact h
theorem bag_of_does {S : Sto} {c : Int} {Q : D → Sto → Prop} (q : ∀ S', Bag S.length 9223372036854775808 S' → GoB S.length S S' → Q (.cell S.length) S') : (m_law_bag_of [.int c] S).Does Q := by
  refine does_def rfl ?_
  have hc : CDivW c 2305843009213693951 := cdivw (by decide) (by decide)
  simp [hc]
  exact q _ ⟨_, _, 0, by rw [List.getElem?_append_right (Nat.le_refl _), Nat.sub_self]; rfl, Int.emod_nonneg c (by decide), Int.emod_lt_of_pos c (by decide), by decide, by decide⟩ (GoB.push _)
theorem pick_does {S : Sto} {p n : Nat} {u : Int} {Q : D → Sto → Prop} (hp : Bag p (n + 1) S) (h0 : 0 < u) (hb : u < 18446744073709551616)
    (q : ∀ r S', Bag p n S' → GoB p S S' → 0 ≤ r → r < u → Q (.int r) S') : (m_law_pick [.cell p, .int u] S).Does Q := by
  obtain ⟨a, b, c, e, b0, b1, c0, c1⟩ := id hp
  have hl := hp.lt
  refine does_def rfl ?_
  have hu : ∀ k : Int, CDivW k u := fun k => cdivw h0 hb
  have hm : ∀ k : Int, CDivW k 2305843009213693951 := fun k => cdivw (by decide) (by decide)
  have hd : ∀ k : Int, CDivW k 4099 := fun k => cdivw (by decide) (by decide)
  by_cases ha : 0 < a
  · simp [gIx_cell e, ha, hu]
    refine ⟨h0, _, e, 0, rfl, ?_⟩
    refine q _ _ ⟨a / u, b, c, by simp [hl], b0, b1, c0, by omega⟩ ⟨by rw [List.length_set]; exact Nat.le_refl _, fun n h hn => List.getElem?_set_ne (Ne.symm hn)⟩ (Int.emod_nonneg _ (by omega)) (Int.emod_lt_of_pos _ h0)
  · simp [gIx_cell e, ha]
    refine ⟨_, e, 2, rfl, ?_⟩
    have e2 : (S.set p (.lst ([.int a, .int b, .int c].set 2 (.int (c + 1)))))[p]? = some (.lst [.int a, .int b, .int (c + 1)]) := by
      rw [List.getElem?_set_self hl]; rfl
    have g1 : GoB p S (S.set p (.lst ([.int a, .int b, .int c].set 2 (.int (c + 1))))) := ⟨by rw [List.length_set]; exact Nat.le_refl _, fun n h hn => List.getElem?_set_ne (Ne.symm hn)⟩
    generalize S.set p (.lst ([.int a, .int b, .int c].set 2 (.int (c + 1)))) = S1 at e2 g1
    have w1 : CMulW 104729 (c + 1) := cmulw64 (by omega) (by omega)
    have w2 : CMulW 15485863 (c + 1) := cmulw64 (by omega) (by omega)
    have w3 : CMulW (b + 104729 * (c + 1)) (b + 15485863 * (c + 1) + 11) := cmulw 100 100 (by omega) (by omega) (by decide)
    have r0 : 0 ≤ ((b + 104729 * (c + 1)) * (b + 15485863 * (c + 1) + 11)) % 2305843009213693951 := Int.emod_nonneg _ (by decide)
    have r1 : ((b + 104729 * (c + 1)) * (b + 15485863 * (c + 1) + 11)) % 2305843009213693951 < 2305843009213693951 := Int.emod_lt_of_pos _ (by decide)
    have w5 : CMulW 7 (c + 1) := cmulw64 (by omega) (by omega)
    simp [gIx_cell e2, hu, hm, hd, w1, w2, w3, w5]
    generalize ((b + 104729 * (c + 1)) * (b + 15485863 * (c + 1) + 11)) % 2305843009213693951 = r at r0 r1
    have w4 : CMulW r r := cmulw64 (by omega) (by omega)
    exact ⟨w4, h0, q _ _ ⟨a, b, c + 1, e2, b0, b1, by omega, by omega⟩ g1 (Int.emod_nonneg _ (by omega)) (Int.emod_lt_of_pos _ h0)⟩
end Dm
-- text HmBelt
namespace Dm
open PySem L2
theorem cmin2 (a b : Int) : (if b < a then b else a) ≤ a := by split <;> omega
/-- gaps drawn: each at least 1 and at most w -/
def GapsOK (w : Int) (gs : List Int) : Prop := ∀ g, g ∈ gs → 1 ≤ g ∧ g ≤ w
theorem any_belt_does {S : Sto} {p n : Nat} {Q : D → Sto → Prop} (hp : Bag p (n + 20) S) (q : ∀ os s S', Bag p n S' → GoB p S S' → ZoneOK os s → Q (zoneD os s) S') : (m_law_any_belt [.cell p, .int 3] S).Does Q := by
  refine does_def rfl ?_
  -- how many
  refine seq_cut (fun ρ S' => ∃ k : Int, ρ = [some (.cell p), some (.int 3), some (.int k), none, none, none, none, none, none, none] ∧ Bag p (n + 19) S' ∧ GoB p S S' ∧ (k = 1 ∨ k = 2 ∨ k = 3)) (fun M hM => ?_) ?_
  · simp
    refine pick_does (n := n + 19) hp (by decide) (by decide) fun r S1 b1 g1 r0 r1 => ?_
    have e : r = 0 ∨ r = 1 ∨ r = 2 ∨ r = 3 ∨ r = 4 ∨ r = 5 := by omega
    rcases e with e | e | e | e | e | e <;> subst e <;> simp [atI, ixN] <;> exact hM _ _ ⟨_, rfl, b1, g1, by decide⟩
  rintro ρ S1 ⟨k, rfl, b1, g1, hk⟩
  -- how wide
  refine seq_cut (fun ρ S' => ∃ w : Int, ρ = [some (.cell p), some (.int 3), some (.int k), some (.int w), none, none, none, none, none, none] ∧ Bag p (n + 18) S' ∧ GoB p S S' ∧ 1 ≤ w ∧ w ≤ 1800) (fun M hM => ?_) ?_
  · simp
    refine pick_does (n := n + 18) b1 (by decide) (by decide) fun r S2 b2 g2 r0 r1 => ?_
    have e : r = 0 ∨ r = 1 ∨ r = 2 ∨ r = 3 ∨ r = 4 ∨ r = 5 := by omega
    rcases e with e | e | e | e | e | e <;> subst e <;> simp [atI, ixN] <;> exact hM _ _ ⟨_, rfl, b2, g1.trans g2, by decide, by decide⟩
  rintro ρ S2 ⟨w, rfl, b2, g2, w0, w1⟩
  refine seq_cut (fun ρ S' => S' = S2 ∧ ∃ w : Int, ρ = [some (.cell p), some (.int 3), some (.int k), some (.int w), none, none, none, none, none, none] ∧ 1 ≤ w ∧ w * (k - 1) ≤ 1800 ∧ w ≤ 1800) (fun M hM => ?_) ?_
  · rcases hk with rfl | rfl | rfl
    · have hc : CDivW w 1 := cdivw (by decide) (by decide)
      simp [hc]
      refine hM _ _ ⟨rfl, _, rfl, ?_, ?_, ?_⟩ <;> split <;> omega
    · have hc : CDivW w 1 := cdivw (by decide) (by decide)
      simp [hc]
      refine hM _ _ ⟨rfl, _, rfl, ?_, ?_, ?_⟩ <;> split <;> omega
    · have hc : CDivW w 2 := cdivw (by decide) (by decide)
      simp [hc]
      refine hM _ _ ⟨rfl, _, rfl, ?_, ?_, ?_⟩ <;> split <;> omega
  clear w0 w1
  rintro ρ _ ⟨rfl, w, rfl, w0, w1, w2⟩
  -- the gaps
  refine seq_cut (fun ρ S' => ∃ gs x9, ρ = [some (.cell p), some (.int 3), some (.int k), some (.int w), some (.lst (gs.map .int)), none, none, none, none, x9] ∧ Bag p (n + 14) S' ∧ GoB p S S' ∧ (gs : List Int).length = (k - 1).toNat ∧ GapsOK w gs) (fun M hM => ?_) ?_
  · have draw1 : ∀ {S' : Sto} {m : Nat} {Q : D → Sto → Prop}, Bag p (m + 2) S' → (∀ g S'', Bag p m S'' → GoB p S' S'' → 1 ≤ g → g ≤ w → Q (.int g) S'') →
        (m_law_pick [.cell p, .int w] S').Does fun y S1 => (m_law_pick [.cell p, .int 2] S1).Does fun y_1 S2 => OptQ (gMul S2 y y_1) fun z => OptQ (gSub S2 (.int w) z) fun z => Q z S2 := by
      intro S' m Q b' q'
      refine pick_does (n := m + 1) b' (by omega) (by omega) fun r S3 b3 g3 r0 r1 => ?_
      refine pick_does (n := m) b3 (by decide) (by decide) fun r' S4 b4 g4 r0' r1' => ?_
      have hc : CMulW r r' := cmulw64 (by omega) (by omega)
      simp [hc]
      have e : r' = 0 ∨ r' = 1 := by omega
      rcases e with rfl | rfl
      · exact q' _ _ b4 (g3.trans g4) (by omega) (by omega)
      · exact q' _ _ b4 (g3.trans g4) (by omega) (by omega)
    rcases hk with rfl | rfl | rfl
    · simp [rngD_nil]
      exact hM _ _ ⟨[], _, rfl, b2.mono (by omega), g2, rfl, fun _ h => nomatch h⟩
    · simp [rngD_cons, rngD_nil, wipeD]
      refine draw1 (m := n + 16) b2 fun a S3 b3 g3 a0 a1 => ?_
      exact hM _ _ ⟨[a], _, rfl, b3.mono (by omega), g2.trans g3, rfl, fun g h => by cases List.mem_singleton.mp h; exact ⟨a0, a1⟩⟩
    · simp [rngD_cons, rngD_nil, wipeD]
      refine draw1 (m := n + 16) b2 fun a S3 b3 g3 a0 a1 => ?_
      refine draw1 (m := n + 14) b3 fun b S4 b4 g4 c0 c1 => ?_
      exact hM _ _ ⟨[a, b], _, rfl, b4, g2.trans (g3.trans g4), rfl, fun g h => by simp at h; rcases h with rfl | rfl <;> constructor <;> assumption⟩
  rintro ρ S3 ⟨gs, x9, rfl, b3, g3, gl, gok⟩
  have hs : 0 ≤ gs.sum ∧ gs.sum ≤ 1800 := by
    rcases hk with rfl | rfl | rfl
    · match gs, gl with
      | [], _ => decide
    · match gs, gl, gok with
      | [a], _, gok =>
        have := gok a (by simp)
        simp
        omega
    · match gs, gl, gok with
      | [a, b], _, gok =>
        have := gok a (by simp)
        have := gok b (by simp)
        simp
        omega
  -- the offsets
  refine seq_cut (fun ρ S' => ∃ low q, ρ = [some (.cell p), some (.int 3), some (.int k), some (.int w), some (.lst (gs.map .int)), some (.cell q), none, none, none, x9] ∧ Bag p (n + 13) S' ∧ GoB p S S' ∧ S'[q]? = some (.lst [.int low]) ∧ S.length ≤ q ∧ -900 ≤ low ∧ low ≤ 900 - gs.sum) (fun M hM => ?_) ?_
  · simp [gSum_ints (S := S3) (d := .lst (gs.map .int)) (ns := gs) rfl]
    refine pick_does (n := n + 13) b3 (by omega) (by omega) fun r S4 b4 g4 r0 r1 => ?_
    simp
    have g := g3.trans g4
    exact hM _ _ ⟨_, _, rfl, b4.push _, g.trans (GoB.push _), by rw [List.getElem?_append_right (Nat.le_refl _), Nat.sub_self]; rfl, g.len, by omega, by omega⟩
  rintro ρ S4 ⟨low, q', rfl, b4, g4, e4, hq, l0, l1⟩
  have hpq : q' ≠ p := by have := hp.lt; omega
  have step : ∀ (S5 : Sto) (xs : List Int) (l a : Int), S5[q']? = some (.lst ((xs ++ [l]).map .int)) → gIx S5 (.cell q') (.int (-1)) = some (.int l) := by
    intro S5 xs l a e
    rw [gIx_cell e]
    have h1 : (1 : Int) ≤ ↑xs.length + 1 := by omega
    have h2 : (-1 + ((xs.length : Int) + 1)).toNat = xs.length := by omega
    simp [atI, ixN, h1, h2]
  refine seq_cut (fun ρ S' => ∃ os x6, ρ = [some (.cell p), some (.int 3), some (.int k), some (.int w), some (.lst (gs.map .int)), some (.cell q'), x6, none, none, x9] ∧ Bag p (n + 13) S' ∧ GoB p S S' ∧ S'[q']? = some (.lst ((os : List Int).map .int)) ∧ (∀ s, gs.sum < s → s ≤ 1000000 → ZoneOK os s)) (fun M hM => ?_) ?_
  · have grow : ∀ {S5 : Sto} {l : List D} (a : Int), S5[q']? = some (.lst l) → Bag p (n + 13) S5 → GoB p S S5 → Bag p (n + 13) (S5.set q' (.lst (l ++ [.int a]))) ∧ GoB p S (S5.set q' (.lst (l ++ [.int a]))) ∧ (S5.set q' (.lst (l ++ [.int a])))[q']? = some (.lst (l ++ [.int a])) :=
      fun a e b g => ⟨b.set hpq _, g.setNew hq _, List.getElem?_set_self (List.getElem?_eq_some_iff.mp e).1⟩
    rcases hk with rfl | rfl | rfl
    · match gs, gl, hs, l1 with
      | [], _, hs, l1 =>
        simp at l1 ⊢
        exact hM _ _ ⟨[low], _, rfl, b4, g4, e4, fun s h1 h2 => .one _ _ l0 (by omega) (by simpa using h1) h2⟩
    · match gs, gl, hs, l1, gok with
      | [a], _, hs, l1, gok =>
        have := gok a (by simp)
        simp at l1 hs ⊢
        simp [step S4 [] low a e4, e4]
        obtain ⟨b5, g5, e5⟩ := grow (low + a) e4 b4 g4
        exact hM _ _ ⟨[low, low + a], _, rfl, b5, g5, e5, fun s h1 h2 => .two _ _ _ l0 (by omega) (by omega) (by simp at h1; omega) h2⟩
    · match gs, gl, hs, l1, gok with
      | [a, b], _, hs, l1, gok =>
        have := gok a (by simp)
        have := gok b (by simp)
        simp at l1 hs ⊢
        simp [step S4 [] low a e4, e4]
        obtain ⟨b5, g5, e5⟩ := grow (low + a) e4 b4 g4
        have e5' : (S4.set q' (.lst ([D.int low] ++ [D.int (low + a)])))[q']? = some (.lst (([low] ++ [low + a]).map .int)) := e5
        simp at e5'
        simp [step _ [low] (low + a) b e5']
        refine ⟨⟨_, e5'⟩, _, e5', by simp, ?_⟩
        obtain ⟨b6, g6, e6⟩ := grow (low + a + b) e5' b5 g5
        rw [List.set_set] at b6 g6 e6
        exact hM _ _ ⟨[low, low + a, low + a + b], _, rfl, b6, g6, e6, fun s h1 h2 => .three _ _ _ _ l0 (by omega) (by omega) (by omega) (by simp at h1; omega) h2⟩
  rintro ρ S5 ⟨os, x6, rfl, b5, g5, e5, zz⟩
  -- the spacing
  refine seq_cut (fun ρ S' => S' = S5 ∧ ρ = [some (.cell p), some (.int 3), some (.int k), some (.int w), some (.lst (gs.map .int)), some (.cell q'), x6, some (.int (gs.sum + 1)), none, x9]) (fun M hM => ?_) ?_
  · simp [gSum_ints (S := S5) (d := .lst (gs.map .int)) (ns := gs) rfl]
    exact hM _ _ ⟨rfl, rfl⟩
  rintro ρ _ ⟨rfl, rfl⟩
  refine seq_cut (fun ρ S' => ∃ m1 m2 : Int, ρ = [some (.cell p), some (.int 3), some (.int k), some (.int w), some (.lst (gs.map .int)), some (.cell q'), x6, some (.int (gs.sum + 1)), some (.lst [.int 0, .int 1, .int 40, .int (1000000 - (gs.sum + 1)), .int m1, .int 100, .int m2]), x9] ∧ Bag p (n + 11) S' ∧ GoB p S S' ∧ S'[q']? = some (.lst (os.map .int)) ∧ 0 ≤ m1 ∧ m1 < 2000 ∧ 0 ≤ m2 ∧ m2 ≤ 1000000 - (gs.sum + 1)) (fun M hM => ?_) ?_
  · simp
    refine pick_does (n := n + 12) b5 (by decide) (by decide) fun r S6 b6 g6 r0 r1 => ?_
    refine pick_does (n := n + 11) b6 (by omega) (by omega) fun r' S7 b7 g7 r0' r1' => ?_
    exact hM _ _ ⟨_, _, rfl, b7, g5.trans (g6.trans g7), g7.get (g6.get e5 hpq) hpq, r0, r1, r0', by omega⟩
  rintro ρ S6 ⟨m1, m2, rfl, b6, g6, e6, m10, m11, m20, m21⟩
  simp [gTuple_cell e6]
  refine pick_does (n := n + 10) b6 (by decide) (by decide) fun r S7 b7 g7 r0 r1 => ?_
  have e : r = 0 ∨ r = 1 ∨ r = 2 ∨ r = 3 ∨ r = 4 ∨ r = 5 ∨ r = 6 := by omega
  rcases e with e | e | e | e | e | e | e <;> subst e <;> simp [atI, ixN] <;> exact q os _ _ (b7.mono (by omega)) (g6.trans g7) (zz _ (by omega) (by omega))
theorem any_belts_does {S : Sto} {p n : Nat} {Q : D → Sto → Prop} (hp : Bag p (n + 60) S) (q : ∀ zs S', Bag p n S' → GoB p S S' → (∀ z, z ∈ zs → ZoneOK z.1 z.2) → zs.length = 1 ∨ zs.length = 2 → Q (.tup ((zs : List (List Int × Int)).map fun z => zoneD z.1 z.2)) S') :
    (m_law_any_belts [.cell p, .int 3] S).Does Q := by
  refine does_def rfl ?_
  simp
  refine pick_does (n := n + 59) hp (by decide) (by decide) fun r S1 b1 g1 r0 r1 => ?_
  have e : r = 0 ∨ r = 1 := by omega
  rcases e with rfl | rfl
  · simp [rngD_cons, rngD_nil, wipeD]
    refine any_belt_does (n := n + 39) b1 fun os s S2 b2 g2 z => ?_
    exact q [(os, s)] _ (b2.mono (by omega)) (g1.trans g2) (fun z' h => by cases List.mem_singleton.mp h; exact z) (.inl rfl)
  · simp [rngD_cons, rngD_nil, wipeD]
    refine any_belt_does (n := n + 39) b1 fun os s S2 b2 g2 z => ?_
    refine any_belt_does (n := n + 19) b2 fun os' s' S3 b3 g3 z' => ?_
    exact q [(os, s), (os', s')] _ (b3.mono (by omega)) (g1.trans (g2.trans g3)) (fun z'' h => by simp at h; rcases h with rfl | rfl <;> assumption) (.inr rfl)
end Dm
-- text HmTab
namespace Dm
open PySem L2
theorem pure_of {α : Type} {r : Res α} {a : α} {S : Sto} (h : ∀ Q : α → Sto → Prop, Q a S → r.Does Q) : r = .ok a S := by
  obtain ⟨a', S', e, h1, h2⟩ := (h (fun x T => x = a ∧ T = S) ⟨rfl, rfl⟩).eq
  rw [e, h1, h2]
section
variable {S : Sto} {os : List Int} {s h m : Int} {js : List (Int × Int)}
theorem ZoneOK.len {os : List Int} {s : Int} (z : ZoneOK os s) : 1 ≤ os.length ∧ os.length ≤ 3 := by cases z <;> simp
theorem ZoneOK.sp (z : ZoneOK os s) : 0 < s ∧ s ≤ 1000000 := by cases z <;> constructor <;> omega
theorem ZoneOK.nodup (z : ZoneOK os s) : os.Nodup := by cases z <;> simp <;> omega
@[simp] theorem is_integer_int {i : Int} : m_is_integer [.int i] S = .ok (.bl true) S := by
  refine pure_of fun Q q => ?_
  refine does_def rfl ?_
  simpa [isTn] using q
theorem is_zone_ok (z : ZoneOK os s) : m_is_zone [zoneD os s] S = .ok (.bl true) S := by
  refine pure_of fun Q q => ?_
  refine does_def rfl ?_
  cases z with
  | one a s h1 h2 h3 h4 => simp [zoneD, isTn, rngD_cons, rngD_nil, h1, h2, h3, h4, q]
  | two a b s h1 h2 h3 h4 h5 =>
    have e1 : a ≤ 900 := by omega
    have e2 : -900 ≤ b := by omega
    have e3 : ¬ b ≤ a := by omega
    simp [zoneD, isTn, rngD_cons, rngD_nil, h1, h2, h3, h4, h5, e1, e2, e3, q]
  | three a b c s h1 h2 h3 h4 h5 h6 => 
    have e1 : a ≤ 900 := by omega
    have e2 : -900 ≤ b := by omega
    have e3 : ¬ b ≤ a := by omega
    have e4 : b ≤ 900 := by omega
    have e5 : -900 ≤ c := by omega
    have e6 : ¬ c ≤ b := by omega
    simp [zoneD, isTn, rngD_cons, rngD_nil, h1, h2, h3, h4, h5, h6, e1, e2, e3, e4, e5, e6, q]
@[simp] theorem need_zone_ok (z : ZoneOK os s) : m_need_zone [zoneD os s] S = .ok .non S := by
  refine pure_of fun Q q => ?_
  refine does_def rfl ?_
  simp [is_zone_ok z, q]
@[simp] theorem need_number_int {i : Int} : m_need_number [.int i] S = .ok .non S := by
  refine pure_of fun Q q => ?_
  refine does_def rfl ?_
  simp [q]
/-- a jump and a table, as data -/
def jmpD (j : Int × Int) : D := .tup [.int j.1, .int j.2]
def tabD (h : Int) (js : List (Int × Int)) : D := .tup [.int h, .tup (js.map jmpD)]
section
variable {j : Int × Int} {ρ : Rho} {f : List D → Rho → Option Rho}
@[simp] theorem ix_jmp0 : gIx S (jmpD j) (.int 0) = some (.int j.1) := by simp [jmpD]
@[simp] theorem ix_jmp1 : gIx S (jmpD j) (.int 1) = some (.int j.2) := by simp [jmpD]
@[simp] theorem ix_tab0 : gIx S (tabD h js) (.int 0) = some (.int h) := by simp [tabD]
@[simp] theorem ix_tab1 : gIx S (tabD h js) (.int 1) = some (.tup (js.map jmpD)) := by simp [tabD]
@[simp] theorem ix_zone0 : gIx S (zoneD os s) (.int 0) = some (.tup (os.map .int)) := by simp [zoneD]
@[simp] theorem ix_zone1 : gIx S (zoneD os s) (.int 1) = some (.int s) := by simp [zoneD]
@[simp] theorem len_jmp : gLen S [jmpD j] = some (.int 2) := rfl
@[simp] theorem len_tab : gLen S [tabD h js] = some (.int 2) := rfl
@[simp] theorem len_zone : gLen S [zoneD os s] = some (.int 2) := rfl
@[simp] theorem ty_jmp : tyOf S (jmpD j) = some .tup := rfl
@[simp] theorem ty_tab : tyOf S (tabD h js) = some .tup := rfl
@[simp] theorem ty_zone : tyOf S (zoneD os s) = some .tup := rfl
@[simp] theorem tg_jmp : tgT 2 f (jmpD j) ρ = f [.int j.1, .int j.2] ρ := rfl
@[simp] theorem tg_tab : tgT 2 f (tabD h js) ρ = f [.int h, .tup (js.map jmpD)] ρ := rfl
@[simp] theorem tg_zone : tgT 2 f (zoneD os s) ρ = f [.tup (os.map .int), .int s] ρ := rfl
end
/-- the jumps that may follow: the offset held, the moment of the jump before -/
def Chain (os : List Int) (s : Int) : Int → Option Int → List (Int × Int) → Prop
  | _, _, [] => True
  | h, p, (m, o) :: r => o ∈ os ∧ o ≠ h ∧ (∀ q, p = some q → q + s ≤ m) ∧ Chain os s o (some m) r
def endH : Int → List (Int × Int) → Int
  | h, [] => h
  | _, (_, o) :: r => endH o r
def endP : Option Int → List (Int × Int) → Option Int
  | p, [] => p
  | _, (m, _) :: r => endP (some m) r
theorem endH_snoc {m o : Int} : ∀ {h : Int} {js : List (Int × Int)}, endH h (js ++ [(m, o)]) = o
  | _, [] => rfl
  | _, (m', o') :: r => endH_snoc (h := o') (js := r)
theorem endP_snoc {m o : Int} : ∀ {p : Option Int} {js : List (Int × Int)}, endP p (js ++ [(m, o)]) = some m
  | _, [] => rfl
  | _, (m', o') :: r => endP_snoc (p := some m') (js := r)
theorem chain_snoc {m o : Int} : ∀ {h : Int} {p : Option Int} {js : List (Int × Int)}, Chain os s h p js → o ∈ os → o ≠ endH h js → (∀ q, endP p js = some q → q + s ≤ m) → Chain os s h p (js ++ [(m, o)])
  | _, _, [], _, a, b, c => ⟨a, b, c, trivial⟩
  | _, _, (m', o') :: r, ⟨x, y, z, w⟩, a, b, c => ⟨x, y, z, chain_snoc w a b c⟩
structure TabOK (os : List Int) (s h : Int) (js : List (Int × Int)) : Prop where
  held : h ∈ os
  chain : Chain os s h none js
theorem flat_ints (os : List Int) : (os.map D.int).all flatD = true := by
  rw [List.all_map]
  exact List.all_eq_true.mpr fun _ _ => rfl
theorem any_ints (os : List Int) (o : Int) : (os.map D.int).any (eqF · (.int o)) = decide (o ∈ os) := by
  induction os with
  | nil => simp
  | cons a r ih =>
    rw [List.map_cons, List.any_cons, ih, eqF_int]
    have e : (a == o) = decide (o = a) := by
      by_cases h : o = a
      · subst h; simp
      · have h' : ¬ a = o := fun x => h x.symm
        simp [h, h']
    rw [e]
    simp
theorem gIn_ints {o : Int} : gIn false S (.int o) (.tup (os.map .int)) = some (.bl (decide (o ∈ os))) := by
  unfold gIn
  rw [seqOf_tup]
  simp only
  rw [if_pos ⟨rfl, flat_ints os⟩, any_ints]
  simp
theorem is_offset_int {o : Int} : m_is_offset [zoneD os s, .int o] S = .ok (.bl (decide (o ∈ os))) S := by
  refine pure_of fun Q q => ?_
  refine does_def rfl ?_
  simp [gIn_ints, q]
theorem is_mark_jmp {j : Int × Int} : m_is_mark [zoneD os s, jmpD j] S = .ok (.bl (decide (j.2 ∈ os))) S := by
  refine pure_of fun Q q => ?_
  refine does_def rfl ?_
  simp [isTn, is_offset_int, q]
def enumF (k : Nat) (ds : List D) : List D := (ds.zipIdx k).map fun p => .tup [.int (p.2 : Nat), p.1]
theorem enumD_eq {ds : List D} : enumD ds = enumF 0 ds := rfl
theorem enumF_cons {k : Nat} {d : D} {r : List D} : enumF k (d :: r) = .tup [.int k, d] :: enumF (k + 1) r := rfl
theorem is_table_ok (z : ZoneOK os s) (t : TabOK os s h js) : m_is_table [zoneD os s, tabD h js] S = .ok (.bl true) S := by
  refine pure_of fun Q q => ?_
  refine does_def rfl ?_
  simp [isTn, need_zone_ok z, is_offset_int, t.held, enumD_eq]
  refine forL_cut (fun ds ρ S' => S' = S ∧ ∃ (pre suf : List (Int × Int)) (h' : Int) (pm : Option Int) (x4 x5 : Option D), ρ = [some (zoneD os s), some (tabD h js), some (.int h'), some (.tup (js.map jmpD)), x4, x5]
    ∧ js = pre ++ suf ∧ ds = enumF pre.length (suf.map jmpD) ∧ Chain os s h' pm suf ∧ (pre ≠ [] → ∃ m o, pm = some m ∧ atI (js.map jmpD) ((pre.length : Int) - 1) = some (jmpD (m, o)))) _ ⟨rfl, [], js, h, none, none, none, rfl, rfl, rfl, t.chain, fun h => (h rfl).elim⟩ ?_ ?_
  · rintro d r ρ S' ⟨rfl, pre, suf, h', pm, x4, x5, rfl, ej, e, c, l⟩
    cases suf with
    | nil => cases e
    | cons j suf =>
      rw [List.map_cons, enumF_cons] at e
      injection e with e1 e2
      subst e1
      obtain ⟨c1, c2, c3, c4⟩ := c
      refine ⟨[some (zoneD os s), some (tabD h js), some (.int h'), some (.tup (js.map jmpD)), some (.int pre.length), some (jmpD j)], by simp, fun M hM => ?_⟩
      have last : some (jmpD j) = atI (js.map jmpD) (((pre ++ [j]).length : Int) - 1) := by
        rw [ej, atI_of (by simp) (by simp; omega)]
        simp
      have fin : M [some (zoneD os s), some (tabD h js), some (.int j.2), some (.tup (js.map jmpD)), some (.int pre.length), some (jmpD j)] S' :=
        hM _ _ ⟨rfl, pre ++ [j], suf, _, _, _, _, rfl, by rw [ej, List.append_assoc] <;> rfl, by rw [e2, List.length_append] <;> rfl, c4, fun _ => ⟨_, _, rfl, last.symm⟩⟩
      simp [is_mark_jmp, c1, c2]
      by_cases hp : pre = []
      · subst hp
        simpa using fin
      · obtain ⟨m, o, e3, e4⟩ := l hp
        have c5 := c3 m e3
        rw [e4]
        have c6 : ¬ j.1 - m < s := by omega
        simp [List.length_pos_iff, hp, c6]
        exact fin
  · rintro ρ S' ⟨rfl, pre, suf, h', pm, x4, x5, rfl, ej, e, c, l⟩
    simpa using q
end
end Dm
-- text HmChart
namespace Dm
open PySem L2
section
variable {S : Sto} {os : List Int} {s h m : Int} {js : List (Int × Int)} {p : Nat}
@[simp] theorem need_table_ok (z : ZoneOK os s) (t : TabOK os s h js) : m_need_table [zoneD os s, tabD h js] S = .ok .non S := by
  refine pure_of fun Q q => ?_
  refine does_def rfl ?_
  simp [is_table_ok z t, q]
/-- the offset at a moment: up to the first jump after it -/
def offAt : Int → List (Int × Int) → Int → Int
  | h, [], _ => h
  | h, (a, o) :: r, m => if m < a then h else offAt o r m
def shAt : Int → List (Int × Int) → Int → Int
  | h, [], _ => h
  | h, (a, o) :: r, m => shAt (if a ≤ m then o else h) r m
theorem shAt_late {pm : Int} (hs : 0 < s) (hm : m < pm) : ∀ {js : List (Int × Int)} {h0 : Int} {pm : Int}, m < pm → Chain os s h0 (some pm) js → shAt h js m = h
  | [], _, _, _, _ => rfl
  | (a, o) :: r, h0, pm, hm, ⟨_, _, c, d⟩ => by
    have e := c pm rfl
    have n : ¬ a ≤ m := by omega
    rw [shAt, if_neg n]
    exact shAt_late hs (by omega) (show m < a by omega) d
theorem shAt_eq (hs : 0 < s) : ∀ {js : List (Int × Int)} {h : Int} {p : Option Int}, Chain os s h p js → shAt h js m = offAt h js m
  | [], _, _, _ => rfl
  | (a, o) :: r, h, p, ⟨_, _, c, d⟩ => by
    by_cases g : m < a
    · rw [shAt, offAt, if_pos g, if_neg (by omega)]
      exact shAt_late hs g g d
    · rw [shAt, offAt, if_neg g, if_pos (by omega)]
      exact shAt_eq hs d
theorem offset_in_ok : m_offset_in [tabD h js, .int m] S = .ok (.int (offAt h js m)) S := by
  refine pure_of fun Q q => ?_
  refine does_def rfl ?_
  simp
  refine forL_cut (fun ds ρ S' => S' = S ∧ ∃ (suf : List (Int × Int)) (h' : Int) (x3 x4 : Option D), ρ = [some (tabD h js), some (.int m), some (.int h'), x3, x4] ∧ ds = suf.map jmpD ∧ offAt h js m = offAt h' suf m) _ ⟨rfl, js, h, none, none, rfl, rfl, rfl⟩ ?_ ?_
  · rintro d r ρ S' ⟨rfl, suf, h', x3, x4, rfl, e, eo⟩
    cases suf with
    | nil => cases e
    | cons j suf =>
      obtain ⟨a, o⟩ := j
      injection e with e1 e2
      subst e1
      refine ⟨_, rfl, fun M hM => ?_⟩
      simp
      by_cases g : m < a
      · simp [g]
        rw [offAt, if_pos g] at eo
        rw [← eo]; exact q
      · simp [g]
        rw [offAt, if_neg g] at eo
        exact hM _ _ ⟨rfl, suf, o, _, _, rfl, e2, eo⟩
  · rintro ρ S' ⟨rfl, suf, h', x3, x4, rfl, e, eo⟩
    cases suf with
    | cons j suf => cases e
    | nil =>
      simp
      rw [show h' = offAt h js m from eo.symm]
      exact q
theorem offset_at_ok (z : ZoneOK os s) (t : TabOK os s h js) : m_offset_at [zoneD os s, tabD h js, .int m] S = .ok (.int (offAt h js m)) S := by
  refine pure_of fun Q q => ?_
  refine does_def rfl ?_
  simp [need_zone_ok z, need_table_ok z t, offset_in_ok, q]
theorem reading_at_ok (z : ZoneOK os s) (t : TabOK os s h js) : m_reading_at [zoneD os s, tabD h js, .int m] S = .ok (.int (m + offAt h js m)) S := by
  refine pure_of fun Q q => ?_
  refine does_def rfl ?_
  simp [offset_at_ok z t, q]
theorem shift_at_ok : m_law_shift_at [tabD h js, .int m] S = .ok (.int (shAt h js m)) S := by
  refine pure_of fun Q q => ?_
  refine does_def rfl ?_
  simp
  refine forL_cut (fun ds ρ S' => S' = S ∧ ∃ (suf : List (Int × Int)) (h' : Int) (x3 x4 : Option D), ρ = [some (tabD h js), some (.int m), some (.int h'), x3, x4] ∧ ds = suf.map jmpD ∧ shAt h js m = shAt h' suf m) _ ⟨rfl, js, h, none, none, rfl, rfl, rfl⟩ ?_ ?_
  · rintro d r ρ S' ⟨rfl, suf, h', x3, x4, rfl, e, eo⟩
    cases suf with
    | nil => cases e
    | cons j suf =>
      obtain ⟨a, o⟩ := j
      injection e with e1 e2
      subst e1
      refine ⟨_, rfl, fun M hM => ?_⟩
      simp
      by_cases g : a ≤ m
      · simp [g]
        rw [shAt, if_pos g] at eo
        exact hM _ _ ⟨rfl, suf, o, _, _, rfl, e2, eo⟩
      · simp [g]
        rw [shAt, if_neg g] at eo
        exact hM _ _ ⟨rfl, suf, _, _, _, rfl, e2, eo⟩
  · rintro ρ S' ⟨rfl, suf, h', x3, x4, rfl, e, eo⟩
    cases suf with
    | cons j suf => cases e
    | nil =>
      simp
      rw [show h' = shAt h js m from eo.symm]
      exact q
@[simp] theorem whole_int {i : Int} : m_law_whole [.int i] S = .ok (.bl true) S := by
  refine pure_of fun Q q => ?_
  refine does_def rfl ?_
  simpa [isTn] using q
theorem same_int {n : Nat} {i j : Int} : m_law_same (n + 1) [.int i, .int j] S = .ok (.bl (i == j)) S := by
  refine pure_of fun Q q => ?_
  unfold m_law_same
  refine does_def rfl ?_
  simpa [isTn] using q
@[simp] theorem same_int30 {i j : Int} : m_law_same 30 [.int i, .int j] S = .ok (.bl (i == j)) S := same_int
theorem ZoneOK.at (z : ZoneOK os s) {i : Int} (h0 : 0 ≤ i) (h1 : i < os.length) : ∃ o, atI (os.map D.int) i = some (.int o) ∧ o ∈ os ∧ os[i.toNat]? = some o := by
  have l : i.toNat < os.length := by omega
  refine ⟨os[i.toNat], ?_, List.getElem_mem l, List.getElem?_eq_getElem l⟩
  rw [atI_of h0 (by rw [List.length_map]; exact h1), List.getElem?_map, List.getElem?_eq_getElem l] <;> rfl
theorem nodup_ne {os : List Int} {i j : Nat} {a b : Int} (n : os.Nodup) (h : os[i]? = some a) (h' : os[j]? = some b) (ne : i ≠ j) : a ≠ b := by
  obtain ⟨l, e⟩ := List.getElem?_eq_some_iff.mp h
  obtain ⟨l', e'⟩ := List.getElem?_eq_some_iff.mp h'
  intro c
  subst e e'
  rcases Nat.lt_or_gt_of_ne ne with w | w
  · exact List.pairwise_iff_getElem.mp n i j l l' w c
  · exact List.pairwise_iff_getElem.mp n j i l' l w c.symm
/-- the bounds of a drawn chart -/
def Near (js : List (Int × Int)) : Prop := js.length ≤ 60 ∧ ∀ j, j ∈ js → -2000000000000 < j.1 ∧ j.1 < 2000000000000
theorem make_chart_does {u : Int} {Q : D → Sto → Prop} (hp : Pot p S) (z : ZoneOK os s) (u0 : 0 ≤ u) (u1 : u ≤ 60) (q : ∀ h js S', Go p S S' → TabOK os s h js → Near js → Q (tabD h js) S') : (m_law_make_chart [.cell p, zoneD os s, .int u] S).Does Q := by
  have hl := z.len
  have hs := z.sp
  refine does_def rfl ?_
  refine seq_cut (fun ρ S' => S = S' ∧ ρ = [some (.cell p), some (zoneD os s), some (.int u), some (.tup (os.map .int)), some (.int s), none, none, none, none, none, none]) (fun M hM => ?_) ?_
  · simp
    exact hM _ _ ⟨rfl, rfl⟩
  rintro ρ _ ⟨rfl, rfl⟩
  refine seq_cut (fun ρ S' => ∃ a : Int, ρ = [some (.cell p), some (zoneD os s), some (.int u), some (.tup (os.map .int)), some (.int s), some (.int a), none, none, none, none, none] ∧ Go p S S' ∧ 0 ≤ a ∧ a < os.length) (fun M hM => ?_) ?_
  · simp
    refine draw_does hp (by omega) (by omega) fun r S1 g1 a0 a1 => ?_
    exact hM _ _ ⟨_, rfl, g1, a0, a1⟩
  rintro ρ S1 ⟨a, rfl, g1, a0, a1⟩
  obtain ⟨o, ao, om, oi⟩ := z.at a0 a1
  refine seq_cut (fun ρ S' => S1 = S' ∧ ρ = [some (.cell p), some (zoneD os s), some (.int u), some (.tup (os.map .int)), some (.int s), some (.int a), some (.int o), none, none, none, none]) (fun M hM => ?_) ?_
  · simp [ao]
    exact hM _ _ ⟨rfl, rfl⟩
  rintro ρ _ ⟨rfl, rfl⟩
  refine seq_cut (fun ρ S' => ∃ hr : Int, ρ = [some (.cell p), some (zoneD os s), some (.int u), some (.tup (os.map .int)), some (.int s), some (.int a), some (.int o), some (.int hr), none, none, none] ∧ Go p S S' ∧ -1000000000000 < hr ∧ hr < 1000000000000) (fun M hM => ?_) ?_
  · simp
    refine any_hour_does g1.pot fun r S2 g2 b0 b1 => ?_
    exact hM _ _ ⟨_, rfl, g1.trans g2, b0, b1⟩
  rintro ρ S2 ⟨hr, rfl, g2, b0, b1⟩
  refine seq_cut (fun ρ S' => ρ = [some (.cell p), some (zoneD os s), some (.int u), some (.tup (os.map .int)), some (.int s), some (.int a), some (.int o), some (.int hr), some (.cell S2.length), none, none] ∧ S' = S2 ++ [.lst []]) (fun M hM => ?_) ?_
  · simp
    exact hM _ _ ⟨rfl, rfl⟩
  rintro ρ _ ⟨rfl, rfl⟩
  have g3 := g2.push (.lst [])
  have hn : p ≠ S2.length := by have := g2.pot.lt; omega
  have hn2 : S.length ≤ S2.length := g2.len
  generalize hN : S2.length = N at hn hn2
  have c3 : (S2 ++ [.lst []])[N]? = some (.lst []) := by subst hN; simp
  generalize S2 ++ [.lst []] = S3 at g3 c3
  refine seq_cut (fun ρ S' => ∃ (js : List (Int × Int)) (a' hr' : Int) (x9 x10 : Option D), ρ = [some (.cell p), some (zoneD os s), some (.int u), some (.tup (os.map .int)), some (.int s), some (.int a'), some (.int o), some (.int hr'), some (.cell N), x9, x10] ∧ Go p S S' ∧ S'[N]? = some (.lst (js.map jmpD)) ∧ TabOK os s o js ∧ Near js) (fun M hM => ?_) ?_
  · simp
    refine draw_does g3.pot (by omega) (by omega) fun c S4 g4 d0 d1 => ?_
    simp
    have c4 := g4.get c3 (Ne.symm hn)
    refine ⟨cmulw64 (by omega) (by split <;> omega), ?_, ?_⟩
    · split <;> omega
    generalize hC : c * (if (1 : Int) < (os.length : Int) then (1 : Int) else 0) = k
    have hk : 0 ≤ k ∧ k ≤ 60 ∧ (os.length = 1 → k = 0) := by
      subst hC
      split <;> omega
    refine forL_cut (fun ds ρ S' => ∃ (js : List (Int × Int)) (n : Nat) (t a' hr' : Int) (x9 x10 : Option D), ds = rngD t n ∧ ρ = [some (.cell p), some (zoneD os s), some (.int u), some (.tup (os.map .int)), some (.int s), some (.int a'), some (.int o), some (.int hr'), some (.cell N), x9, x10] ∧ Go p S S' ∧ S'[N]? = some (.lst (js.map jmpD)) ∧
      0 ≤ a' ∧ a' < os.length ∧ os[a'.toNat]? = some (endH o js) ∧ Chain os s o none js ∧ (∀ j, j ∈ js → -2000000000000 < j.1 ∧ j.1 < 2000000000000) ∧ (∀ pm, endP none js = some pm → pm + s ≤ hr') ∧ js.length + n ≤ 60 ∧ -1000000000000 < hr' ∧ hr' < 1000000000000 + 3000000 * js.length ∧ (os.length = 1 → n = 0)) _
      ⟨[], k.toNat, 0, a, hr, none, none, rfl, rfl, g3.trans g4, c4, a0, a1, oi, trivial, (fun _ h => nomatch h), (fun _ h => nomatch h), by simp; omega, b0, by simpa using b1, fun h => by omega⟩ ?_ ?_
    · rintro d r ρ S5 ⟨js, n, t, a', hr', x9, x10, e, rfl, g5, c5, q0, q1, qi, ch, bd, pr, ln, r0, r1, one⟩
      cases n with
      | zero => cases e
      | succ n =>
        rw [rngD_cons] at e
        injection e with e1 e2
        subst e1
        refine ⟨_, rfl, fun M2 hM2 => ?_⟩
        have two : 1 < os.length := by
          have := fun h => one h
          omega
        simp
        refine draw_does g5.pot (by omega) (by omega) fun c2 S6 g6 f0 f1 => ?_
        simp
        refine ⟨by omega, ?_⟩
        have w0 := Int.emod_nonneg (a' + 1 + c2) (b := (os.length : Int)) (by omega)
        have w1 := Int.emod_lt_of_pos (a' + 1 + c2) (b := (os.length : Int)) (by omega)
        have w2 : (a' + 1 + c2) % (os.length : Int) ≠ a' := by
          intro w
          have l3 : (os.length : Int) = 2 ∨ (os.length : Int) = 3 := by omega
          rcases l3 with l3 | l3 <;> rw [l3] at w f1 q1 <;> omega
        generalize (a' + 1 + c2) % (os.length : Int) = a2 at w0 w1 w2
        obtain ⟨o2, ao2, om2, oi2⟩ := z.at w0 w1
        have ne2 : o2 ≠ endH o js := nodup_ne z.nodup oi2 qi (by omega)
        have c6 := g6.get c5 (Ne.symm hn)
        rw [c6]
        simp only [Option.some.injEq, Cell.lst.injEq, exists_eq_left', ao2, optQ_some]
        refine ⟨⟨_, rfl⟩, by rw [List.length_map]; omega, ?_⟩
        have g7 : Go p S (S6.set N (.lst (js.map jmpD ++ [.tup [.int hr', .int o2]]))) := (g5.trans g6).setNew hp hn2 _
        have c7 : (S6.set N (.lst (js.map jmpD ++ [.tup [.int hr', .int o2]])))[N]? = some (.lst ((js ++ [(hr', o2)]).map jmpD)) := by
          rw [List.getElem?_set_self (List.getElem?_eq_some_iff.mp c6).1, List.map_append] <;> rfl
        generalize S6.set N (.lst (js.map jmpD ++ [.tup [.int hr', .int o2]])) = S7 at g7 c7
        have ch2 := chain_snoc ch om2 ne2 pr
        have bd2 : ∀ j, j ∈ js ++ [(hr', o2)] → -2000000000000 < j.1 ∧ j.1 < 2000000000000 := by
          intro j hj
          rcases List.mem_append.mp hj with hj | hj
          · exact bd j hj
          · cases List.mem_singleton.mp hj
            constructor <;> simp only <;> omega
        have fin : ∀ (z : Int) (x : Option D) (S8 : Sto), hr' + s ≤ z → z < hr' + 3000000 → Go p S7 S8 → M2 [some (.cell p), some (zoneD os s), some (.int u), some (.tup (os.map .int)), some (.int s), some (.int a2), some (.int o), some (.int z), some (.cell N), some (.int t), x] S8 := by
          intro zz x S8 z0 z1 g8
          refine hM2 _ _ ⟨js ++ [(hr', o2)], n, t + 1, a2, zz, _, _, e2, rfl, g7.trans g8, g8.get c7 (Ne.symm hn), w0, w1, ?_, ch2, bd2, ?_, ?_, ?_, ?_, ?_⟩
          · rw [endH_snoc]; exact oi2
          · intro pm hpm
            rw [endP_snoc] at hpm
            cases hpm
            exact z0
          · rw [List.length_append, List.length_singleton]; omega
          · omega
          · rw [List.length_append, List.length_singleton]; omega
          · intro h; omega
        refine draw_does g7.pot (by decide) (by decide) fun c3 S8 g8 k0 k1 => ?_
        simp
        by_cases cc : 2 < c3
        · have e5 : c3 = 3 ∨ c3 = 4 := by omega
          rcases e5 with e5 | e5 <;> subst e5 <;> simp [atI, ixN]
          · refine ⟨cmulw64 (by decide) (by omega), ?_⟩
            refine draw_does g8.pot (by decide) (by decide) fun c4 S9 g9 k2 k3 => ?_
            simp
            exact fin _ _ _ (by omega) (by omega) (g8.trans g9)
          · refine ⟨cmulw64 (by decide) (by omega), ?_⟩
            refine draw_does g8.pot (by omega) (by omega) fun c4 S9 g9 k2 k3 => ?_
            simp
            exact fin _ _ _ (by omega) (by omega) (g8.trans g9)
        · simp [cc]
          exact fin _ _ _ (by omega) (by omega) g8
    · rintro ρ S5 ⟨js, n, t, a', hr', x9, x10, e, rfl, g5, c5, q0, q1, qi, ch, bd, pr, ln, r0, r1, one⟩
      exact hM _ _ ⟨js, a', hr', _, _, rfl, g5, c5, ⟨om, ch⟩, by omega, bd⟩
  rintro ρ S5 ⟨js, a', hr', x9, x10, rfl, g5, c5, t, nr⟩
  simp [gTuple_cell c5]
  exact q _ _ _ g5 t nr
end
end Dm
-- text HmNear
namespace Dm
open PySem L2
section
variable {S : Sto} {os : List Int} {s h m : Int} {js : List (Int × Int)} {p : Nat}
theorem at_jmp {js : List (Int × Int)} {i : Int} (h0 : 0 ≤ i) (h1 : i < js.length) : ∃ j, atI (js.map jmpD) i = some (jmpD j) ∧ j ∈ js := by
  have l : i.toNat < js.length := by omega
  refine ⟨js[i.toNat], ?_, List.getElem_mem l⟩
  rw [atI_of h0 (by rw [List.length_map]; exact h1), List.getElem?_map, List.getElem?_eq_getElem l] <;> rfl
theorem near_does {Q : D → Sto → Prop} (hp : Pot p S) (z : ZoneOK os s) (nr : js.length < 1000000000) (q : ∀ i S', Go p S S' → -1000000000000 < i → i < 1000000000000 → Q (.int i) S') : (m_law_near [.cell p, zoneD os s, tabD h js] S).Does Q := by
  have ends : ∃ f l, atI (os.map D.int) (-1) = some (.int l) ∧ atI (os.map D.int) 0 = some (.int f) ∧ 0 ≤ l - f ∧ l - f < 1000000 := by
    cases z
    · exact ⟨_, _, rfl, rfl, by omega, by omega⟩
    · exact ⟨_, _, rfl, rfl, by omega, by omega⟩
    · exact ⟨_, _, rfl, rfl, by omega, by omega⟩
  obtain ⟨f, l, ef, el, w0, w1⟩ := ends
  refine does_def rfl ?_
  refine seq_cut (fun ρ S' => S = S' ∧ ρ = [some (.cell p), some (zoneD os s), some (tabD h js), some (.tup (js.map jmpD)), none, none, none]) (fun M hM => ?_) ?_
  · simp
    exact hM _ _ ⟨rfl, rfl⟩
  rintro ρ _ ⟨rfl, rfl⟩
  cases js with
  | nil =>
    simp
    exact any_hour_does hp fun i S1 g1 b0 b1 => q _ _ g1 b0 b1
  | cons j0 jr =>
    have hlen : 0 < (j0 :: jr).length := by simp
    generalize hjs : j0 :: jr = js at hlen nr
    have hl0 : ¬ (js = []) := by intro e; subst e; cases hjs
    simp [hl0]
    refine draw_does hp (by decide) (by decide) fun c S1 g1 c0 c1 => ?_
    simp
    by_cases c7 : c = 7
    · simp [c7]
      exact any_hour_does g1.pot fun i S2 g2 b0 b1 => q _ _ (g1.trans g2) b0 b1
    · simp [c7]
      refine draw_does g1.pot (by omega) (by omega) fun c S2 g2 d0 d1 => ?_
      obtain ⟨j, ej, hj⟩ := at_jmp d0 d1
      simp [ej, ef, el]
      refine ⟨cmulw64 (by omega) (by omega), ?_⟩
      refine draw_does g2.pot (by omega) (by omega) fun c2 S3 g3 e0 e1 => ?_
      simp
      refine draw_does g3.pot (by omega) (by omega) fun c3 S4 g4 f0 f1 => ?_
      have g := (g1.trans g2).trans (g3.trans g4)
      have e : c3 = 0 ∨ c3 = 1 ∨ c3 = 2 ∨ c3 = 3 ∨ c3 = 4 ∨ c3 = 5 ∨ c3 = 6 ∨ c3 = 7 := by omega
      rcases e with e | e | e | e | e | e | e | e <;> subst e <;> simp [atI, ixN] <;> refine q _ _ g ?_ ?_ <;> (repeat' split) <;> omega
theorem Pot.set {n : Nat} {c : Cell} (h : Pot p S) (hn : p ≠ n) : Pot p (S.set n c) := by
  obtain ⟨k, e⟩ := h
  exact ⟨k, by rw [List.getElem?_set_ne (Ne.symm hn)]; exact e⟩
/-- a drawn zone with a drawn table of it -/
structure PairOK (d : D) : Prop where
  ex : ∃ os s h js, d = .tup [zoneD os s, tabD h js] ∧ ZoneOK os s ∧ TabOK os s h js ∧ Near js
end
theorem cut_len {ds : List D} {lo hi : Option Int} : (cutD ds lo hi).length ≤ ds.length := by
  unfold cutD
  rw [List.length_take, List.length_drop]
  omega
theorem cut_mem {ds : List D} {lo hi : Option Int} {d : D} (h : d ∈ cutD ds lo hi) : d ∈ ds := List.mem_of_mem_drop (List.mem_of_mem_take h)
/-- the loop over the cells of a script -/
theorem law_loop {nN : Nat} {C k : Int} {body : MS} (hn : 2 ≤ nN) (hb : ∀ c L (xs : List (Option D)) (S : Sto), xs.length = nN - 2 → (body (some L :: some (.int c) :: xs) S).Does (fun ρ S' => ∃ y xs', ρ = some L :: y :: xs' ∧ xs'.length = nN - 2) (fun _ _ => False) (fun _ _ => False) (fun _ _ => False)) :
    LawTrue (mDef 1 nN (mSeq (mFor (iSeq (mFz (mCatL (mLst (mCons (mK (.int C)) mNil)) (mSlL (mVar 0) mNoPart (mPart (mK (.int k))))))) (tgN 1) body) (mRet (mK (.bl true))))) := by
  intro ns hl
  obtain ⟨m, rfl⟩ : ∃ m, nN = m + 2 := ⟨nN - 2, by omega⟩
  have main : (mDef 1 (m + 2) (mSeq (mFor (iSeq (mFz (mCatL (mLst (mCons (mK (.int C)) mNil)) (mSlL (mVar 0) mNoPart (mPart (mK (.int k))))))) (tgN 1) body) (mRet (mK (.bl true)))) [.lst (ns.map .int)] []).Does fun d _ => d = .bl true := by
    refine does_def rfl ?_
    rw [does_seq, does_for]
    simp only [does_iSeq, does_fz, does_catL, does_lst, does_cons, does_k, does_nil, does_slL, does_var, List.map_cons, List.map_nil, List.singleton_append, List.getElem?_cons_zero, does_noPart, does_part, lstOf_lst]
    refine ⟨by simp, ?_⟩
    have cl : (cutD (ns.map .int) none (some k)).length ≤ 63 := Nat.le_trans cut_len (by rw [List.length_map]; exact hl)
    refine ⟨by simp only [List.length_cons, List.length_nil]; omega, ?_⟩
    refine forL_cut (fun ds ρ S' => (∀ d, d ∈ ds → ∃ c : Int, d = .int c) ∧ ∃ y xs', ρ = some (.lst (ns.map .int)) :: y :: xs' ∧ xs'.length = m) _ ⟨?_, none, List.replicate m none, rfl, List.length_replicate⟩ ?_ ?_
    · intro d hd
      rcases List.mem_cons.mp hd with rfl | hd
      · exact ⟨_, rfl⟩
      · obtain ⟨c, _, rfl⟩ := List.mem_map.mp (cut_mem hd)
        exact ⟨c, rfl⟩
    · rintro d r ρ S' ⟨hd, y, xs', rfl, hx⟩
      obtain ⟨c, rfl⟩ := hd d List.mem_cons_self
      refine ⟨_, rfl, fun M hM => ?_⟩
      refine (hb c _ xs' S' (by omega)).mono ?_ (fun _ _ h => h.elim) (fun _ _ h => h.elim) (fun _ _ h => h.elim)
      rintro ρ2 S2 ⟨y, xs2, rfl, h2⟩
      exact hM _ _ ⟨fun d h => hd d (List.mem_cons_of_mem _ h), y, xs2, rfl, by omega⟩
    · rintro ρ S' _
      rfl
  obtain ⟨d, S', e, rfl⟩ := main.eq
  exact ⟨S', e⟩
theorem rng_len {ds : List D} {t : Int} {n : Nat} (e : ds = rngD t n) : ds.length = n := by rw [e, rngD_length]
end Dm
-- text HmSame
namespace Dm
open PySem L2
/-- data that the law calls the same, of a depth -/
inductive Eqv (S : Sto) : Nat → D → D → Prop
  | non {n : Nat} : Eqv S n .non .non
  | int {n : Nat} {i : Int} : Eqv S n (.int i) (.int i)
  | bl {n : Nat} {b : Bool} : Eqv S n (.bl b) (.bl b)
  | str {n : Nat} {x : Str} : Eqv S n (.str x) (.str x)
  | tup {n : Nat} {ds es : List D} : ds.length = es.length → es.length ≤ 16777216 → (∀ (i : Nat) (d e : D), ds[i]? = some d → es[i]? = some e → Eqv S n d e) → Eqv S (n + 1) (.tup ds) (.tup es)
  | lst {n : Nat} {d e : D} {ds es : List D} : lstOf S d = some ds → lstOf S e = some es → ds.length = es.length → es.length ≤ 16777216 → (∀ (i : Nat) (d e : D), ds[i]? = some d → es[i]? = some e → Eqv S n d e) → Eqv S (n + 1) d e
section
variable {S : Sto}
theorem lstOf_ty {d : D} {ds : List D} (h : lstOf S d = some ds) : tyOf S d = some .lst := by
  cases d with
  | lst xs => rfl
  | cell n =>
    simp only [lstOf] at h
    cases e : S[n]? with
    | none => rw [e] at h; exact nomatch h
    | some c =>
      rw [e] at h
      cases c with
      | lst es => exact tyOf_cell e
      | _ => exact nomatch h
  | _ => exact nomatch h
theorem lstOf_len {d : D} {ds : List D} (h : lstOf S d = some ds) : gLen S [d] = some (.int ds.length) := by
  cases d with
  | lst xs => cases h; rfl
  | cell n =>
    show (lstOf S (.cell n)).map _ = _
    rw [h] <;> rfl
  | _ => exact nomatch h
theorem lstOf_ix {d : D} {ds : List D} {i : Int} (h : lstOf S d = some ds) : gIx S d (.int i) = atI ds i := by
  cases d with
  | lst xs => cases h; rfl
  | cell n =>
    show (lstOf S (.cell n)).bind _ = _
    rw [h] <;> rfl
  | _ => exact nomatch h
theorem bls_true {α : Type} : ∀ {l : List α}, blsOf (l.map fun _ => D.bl true) = some (l.map fun _ => true)
  | [] => rfl
  | a :: l => by
    rw [List.map_cons, blsOf, bls_true] <;> rfl
theorem all_true {α : Type} : ∀ {l : List α}, (l.map fun _ => true).all id = true
  | [] => rfl
  | a :: l => by rw [List.map_cons, List.all_cons, all_true] <;> rfl
theorem gAll_true {α : Type} {l : List α} : gAll S [.lst (l.map fun _ => D.bl true)] = some (.bl true) := by
  unfold gAll
  simp only [lstOf_lst, Option.bind_some, bls_true, Option.map_some, all_true]
theorem mem_rngD {n : Nat} {d : D} (h : d ∈ rngD 0 n) : ∃ i : Nat, d = .int i ∧ i < n := by
  unfold rngD at h
  obtain ⟨i, hi, rfl⟩ := List.mem_map.mp h
  exact ⟨i, by simp, List.mem_range.mp hi⟩
theorem same_pairs {n : Nat} {d e : D} {ds es : List D} {Q : D → Sto → Prop} (hl : ds.length = es.length) (h16 : es.length ≤ 16777216) (h1 : ∀ i, gIx S d (.int i) = atI ds i) (h2 : ∀ i, gIx S e (.int i) = atI es i) (l2 : gLen S [e] = some (.int es.length))
    (ih : ∀ (i : Nat) (d e : D), ds[i]? = some d → es[i]? = some e → m_law_same n [d, e] S = .ok (.bl true) S) (q : Q (.bl true) S) :
    (mCallB gAll (mCons (mFz (mLc (iRange1 (mCons (mCallB gLen (mCons (mVar 1) mNil)) mNil)) (tgN 2) mYes (mCall (m_law_same n) (mCons (mOp gIx (mVar 0) (mVar 2)) (mCons (mOp gIx (mVar 1) (mVar 2)) mNil))) [2])) mNil) [some d, some e, none] S).Does Q := by
  simp [l2]
  refine ⟨by omega, ?_⟩
  refine lcQ_map (fun _ => .bl true) ?_ ?_
  · intro x hx
    obtain ⟨i, rfl, hi⟩ := mem_rngD hx
    refine ⟨_, rfl, fun Q q => ?_⟩
    have w1 : i < ds.length := by omega
    have e1 : atI ds (i : Int) = some ds[i] := by
      rw [atI_of (by omega) (by omega)]
      exact List.getElem?_eq_getElem w1
    have e2 : atI es (i : Int) = some es[i] := by
      rw [atI_of (by omega) (by omega)]
      exact List.getElem?_eq_getElem hi
    simp [wipeD, h1, h2, e1, e2]
    rw [ih i _ _ (List.getElem?_eq_getElem w1) (List.getElem?_eq_getElem hi)]
    exact q
  · rw [gAll_true]
    exact q
theorem same_eqv : ∀ {n : Nat} {d e : D}, Eqv S n d e → m_law_same (n + 1) [d, e] S = .ok (.bl true) S := by
  intro n d e h
  refine pure_of fun Q q => ?_
  induction h generalizing Q with
  | non => unfold m_law_same; refine does_def rfl ?_; simpa [isTn] using q
  | int => rw [same_int]; simpa using q
  | bl => unfold m_law_same; refine does_def rfl ?_; simpa [isTn] using q
  | str => unfold m_law_same; refine does_def rfl ?_; simpa [isTn] using q
  | @tup n ds es hl h16 _ ih =>
    unfold m_law_same
    refine does_def rfl ?_
    rw [does_seq]
    rw [does_ifS]
    have go := same_pairs (n := n + 1) (Q := Q) (d := .tup ds) (e := .tup es) hl h16 (fun _ => rfl) (fun _ => rfl) rfl (fun i d e h1 h2 => pure_of fun Q q => ih i d e h1 h2 Q q) q
    simp [isTn, hl]
    simpa [isTn] using go
  | @lst n d e ds es hd he hl h16 _ ih =>
    unfold m_law_same
    refine does_def rfl ?_
    have go := same_pairs (n := n + 1) (Q := Q) hl h16 (fun _ => lstOf_ix hd) (fun _ => lstOf_ix he) (lstOf_len he) (fun i d e h1 h2 => pure_of fun Q q => ih i d e h1 h2 Q q) q
    simp [isTn, hl, lstOf_ty hd, lstOf_ty he, lstOf_len hd, lstOf_len he]
    simpa [isTn, lstOf_len he] using go
theorem Eqv.up {n m : Nat} {d e : D} (h : Eqv S n d e) (hm : n ≤ m) : Eqv S m d e := by
  induction h generalizing m with
  | non => exact .non
  | int => exact .int
  | bl => exact .bl
  | str => exact .str
  | tup hl h16 _ ih =>
    obtain ⟨k, rfl⟩ : ∃ k, m = k + 1 := ⟨m - 1, by omega⟩
    exact .tup hl h16 fun i d e a b => ih i d e a b (by omega)
  | lst hd he hl h16 _ ih =>
    obtain ⟨k, rfl⟩ : ∃ k, m = k + 1 := ⟨m - 1, by omega⟩
    exact .lst hd he hl h16 fun i d e a b => ih i d e a b (by omega)
theorem same30 {d e : D} {n : Nat} (h : Eqv S n d e) (hn : n ≤ 29) : m_law_same 30 [d, e] S = .ok (.bl true) S := same_eqv (h.up hn)
theorem eqv_ints {d e : D} {l : List Int} (hd : lstOf S d = some (l.map .int)) (he : lstOf S e = some (l.map .int)) (h : l.length ≤ 16777216) : Eqv S 1 d e := by
  refine .lst hd he rfl (by rw [List.length_map]; exact h) fun i d e a b => ?_
  rw [a] at b
  cases b
  rw [List.getElem?_map] at a
  cases c : l[i]? with
  | none => rw [c] at a; exact nomatch a
  | some v => rw [c] at a; cases a; exact .int
end
end Dm
-- text HmHours
namespace Dm
open PySem L2
theorem asc_ext : ∀ {l l' : List Int}, l.Pairwise (· < ·) → l'.Pairwise (· < ·) → (∀ x, x ∈ l ↔ x ∈ l') → l = l'
  | [], [], _, _, _ => rfl
  | [], a :: r, _, _, e => nomatch (e a).mpr List.mem_cons_self
  | a :: r, [], _, _, e => nomatch (e a).mp List.mem_cons_self
  | a :: r, b :: t, p, p', e => by
    obtain ⟨p1, p2⟩ := List.pairwise_cons.mp p
    obtain ⟨q1, q2⟩ := List.pairwise_cons.mp p'
    have ab : a = b := by
      rcases List.mem_cons.mp ((e a).mp List.mem_cons_self) with h | h
      · exact h
      · have h1 := q1 a h
        rcases List.mem_cons.mp ((e b).mpr List.mem_cons_self) with k | k
        · exact k.symm
        · have h2 := p1 b k
          omega
    subst ab
    congr 1
    refine asc_ext p2 q2 fun x => ⟨fun h => ?_, fun h => ?_⟩
    · rcases List.mem_cons.mp ((e x).mp (List.mem_cons_of_mem _ h)) with k | k
      · subst k; have := p1 x h; omega
      · exact k
    · rcases List.mem_cons.mp ((e x).mpr (List.mem_cons_of_mem _ h)) with k | k
      · subst k; have := q1 x h; omega
      · exact k
section
variable {S : Sto} {os : List Int} {s h m r : Int} {js : List (Int × Int)} {p : Nat}
theorem ZoneOK.asc (z : ZoneOK os s) : os.Pairwise (· < ·) := by cases z <;> simp <;> omega
theorem off_mem : ∀ {js : List (Int × Int)} {h : Int} {p : Option Int}, h ∈ os → Chain os s h p js → offAt h js m ∈ os
  | [], _, _, hh, _ => hh
  | (a, o) :: t, h, p, hh, ⟨c1, _, _, c4⟩ => by
    rw [offAt]
    split
    · exact hh
    · exact off_mem c1 c4
/-- the moments of a reading, by the offsets -/
def momsOf (os : List Int) (h : Int) (js : List (Int × Int)) (r : Int) : List Int := (os.reverse.filter fun o => offAt h js (r - o) == o).map fun o => r - o
theorem moms_mem (hm : ∀ m, offAt h js m ∈ os) : m ∈ momsOf os h js r ↔ offAt h js m = r - m := by
  unfold momsOf
  rw [List.mem_map]
  constructor
  · rintro ⟨o, ho, rfl⟩
    obtain ⟨_, h2⟩ := List.mem_filter.mp ho
    have h3 : offAt h js (r - o) = o := by simpa using h2
    omega
  · intro e
    refine ⟨r - m, List.mem_filter.mpr ⟨List.mem_reverse.mpr (e ▸ hm m), ?_⟩, by omega⟩
    have : r - (r - m) = m := by omega
    simp [this, e]
theorem moms_asc (z : os.Pairwise (· < ·)) : (momsOf os h js r).Pairwise (· < ·) := by
  unfold momsOf
  rw [List.pairwise_map]
  refine List.Pairwise.imp ?_ ((List.pairwise_reverse.mpr z).filter _)
  intro a b hab
  omega
/-- .. by the stretches between the jumps -/
def hrsOf : Option Int → Int → List (Int × Int) → Int → List Int
  | lo, h, [], r => if (∀ q, lo = some q → q ≤ r - h) then [r - h] else []
  | lo, h, (a, o) :: t, r => (if (∀ q, lo = some q → q ≤ r - h) ∧ r - h < a then [r - h] else []) ++ hrsOf (some a) o t r
theorem hrs_mem (hs : 0 < s) : ∀ {js : List (Int × Int)} {lo : Option Int} {h : Int}, Chain os s h lo js → (m ∈ hrsOf lo h js r ↔ (∀ q, lo = some q → q ≤ m) ∧ offAt h js m = r - m)
  | [], lo, h, _ => by
    rw [hrsOf, offAt]
    split
    · rename_i g
      rw [List.mem_singleton]
      constructor
      · rintro rfl; exact ⟨g, by omega⟩
      · rintro ⟨_, e⟩; omega
    · rename_i g
      constructor
      · intro h; nomatch h
      · rintro ⟨g', e⟩
        exact (g fun q hq => by have := g' q hq; omega).elim
  | (a, o) :: t, lo, h, ⟨_, _, c3, c4⟩ => by
    rw [hrsOf, List.mem_append, hrs_mem hs c4, offAt]
    by_cases hm : m < a
    · rw [if_pos hm]
      constructor
      · rintro (k | k)
        · split at k
          · rename_i g
            cases List.mem_singleton.mp k
            exact ⟨g.1, by omega⟩
          · nomatch k
        · have := k.1 a rfl; omega
      · rintro ⟨g, e⟩
        refine .inl ?_
        have e' : r - h = m := by omega
        rw [e', if_pos ⟨g, hm⟩]
        exact List.mem_singleton.mpr rfl
    · rw [if_neg hm]
      constructor
      · rintro (k | k)
        · split at k
          · rename_i g
            cases List.mem_singleton.mp k
            omega
          · nomatch k
        · exact ⟨fun q hq => by have := c3 q hq; omega, k.2⟩
      · rintro ⟨g, e⟩
        exact .inr ⟨fun q hq => by cases hq; omega, e⟩
theorem hrs_asc (hs : 0 < s) : ∀ {js : List (Int × Int)} {lo : Option Int} {h : Int}, Chain os s h lo js → (hrsOf lo h js r).Pairwise (· < ·)
  | [], lo, h, _ => by
    rw [hrsOf]
    split <;> simp
  | (a, o) :: t, lo, h, ⟨_, _, c3, c4⟩ => by
    rw [hrsOf, List.pairwise_append]
    refine ⟨by split <;> simp, hrs_asc hs c4, fun x hx y hy => ?_⟩
    have hy' := ((hrs_mem hs c4).mp hy).1 a rfl
    split at hx
    · rename_i g
      cases List.mem_singleton.mp hx
      omega
    · nomatch hx
theorem hrs_moms (z : ZoneOK os s) (t : TabOK os s h js) : hrsOf none h js r = momsOf os h js r :=
  asc_ext (hrs_asc z.sp.1 t.chain) (moms_asc z.asc) fun x => (hrs_mem z.sp.1 t.chain).trans (Iff.trans ⟨fun a => a.2, fun a => ⟨(fun _ h => nomatch h), a⟩⟩ (moms_mem fun m => off_mem t.held t.chain).symm)
theorem moms_len (z : ZoneOK os s) : (momsOf os h js r).length ≤ 3 := by
  unfold momsOf
  rw [List.length_map]
  refine Nat.le_trans (List.length_filter_le _ _) ?_
  rw [List.length_reverse]
  exact z.len.2
theorem set_new {c c' : Cell} : (S ++ [c]).set S.length c' = S ++ [c'] := by
  rw [List.set_append_right _ _ (Nat.le_refl _), Nat.sub_self] <;> rfl
theorem get_new {c : Cell} : (S ++ [c])[S.length]? = some c := by simp
theorem lcQ_filter {f : D → Rho → Option Rho} {mt me : ME} {ρ : Rho} {α : Type} {as : List α} {i : α → D} {S : Sto} {Q : List D → Sto → Prop} (t : α → Bool) (g : α → D) (h : ∀ a, a ∈ as → ∃ ρ1, f (i a) ρ = some ρ1 ∧ (∀ Q : D → Sto → Prop, Q (.bl (t a)) S → (mt ρ1 S).Does Q) ∧ ∀ Q : D → Sto → Prop, t a = true → Q (g a) S → (me ρ1 S).Does Q) (q : Q ((as.filter t).map g) S) : LcQ f mt me ρ (as.map i) S Q := by
  induction as generalizing Q with
  | nil => rw [List.map_nil, lcQ_nil]; exact q
  | cons a r ih =>
    obtain ⟨ρ1, e, k1, k2⟩ := h a List.mem_cons_self
    rw [List.map_cons, lcQ_cons, e]
    refine k1 _ ?_
    rw [blQ_bl]
    cases c : t a with
    | true =>
      rw [if_pos rfl]
      refine k2 _ c (ih (fun d hd => h d (List.mem_cons_of_mem _ hd)) ?_)
      rw [List.filter_cons, if_pos c] at q
      exact q
    | false =>
      rw [if_neg (by decide)]
      refine ih (fun d hd => h d (List.mem_cons_of_mem _ hd)) ?_
      rw [List.filter_cons, if_neg (by rw [c]; decide)] at q
      exact q
theorem moments_of_does {Q : D → Sto → Prop} (z : ZoneOK os s) (t : TabOK os s h js) (q : Q (.cell S.length) (S ++ [.lst ((momsOf os h js r).map .int)])) : (m_moments_of [zoneD os s, tabD h js, .int r] S).Does Q := by
  refine does_def rfl ?_
  simp [need_zone_ok z, need_table_ok z t, wipeD]
  rw [← List.map_reverse]
  refine lcQ_filter (fun o => offAt h js (r - o) == o) (fun o => .int (r - o)) ?_ ?_
  · intro o ho
    refine ⟨_, rfl, fun Q q => ?_, fun Q e q => ?_⟩
    · simpa [offset_in_ok] using q
    · simpa using q
  · unfold momsOf at q
    rw [List.map_map] at q
    exact q
theorem hours_of_does {Q : D → Sto → Prop} (hl : js.length < 1000000) (q : Q (.cell S.length) (S ++ [.lst ((hrsOf none h js r).map .int)])) : (m_law_hours_of [tabD h js, .int r] S).Does Q := by
  unfold m_law_hours_of
  refine does_def (ds := [tabD h js, .int r]) rfl ?_
  simp
  refine ⟨⟨by omega, by omega⟩, ?_⟩
  refine forL_cut (fun ds ρ S' => ∃ (h' : Int) (acc : List Int) (x5 x6 : Option D), ρ = [some (tabD h js), some (.int r), some (.tup (js.map jmpD)), some (.cell S.length), some (.int h'), x5, x6] ∧ S' = S ++ [.lst (acc.map .int)] ∧ acc.length + ds.length ≤ 1000001 ∧
    ((ds = [] ∧ acc = hrsOf none h js r) ∨ ∃ (pre suf : List (Int × Int)) (lo : Option Int), ds = rngD pre.length (suf.length + 1) ∧ js = pre ++ suf ∧ hrsOf none h js r = acc ++ hrsOf lo h' suf r ∧ (pre = [] → lo = none) ∧ (pre ≠ [] → ∃ a o, lo = some a ∧ atI (js.map jmpD) ((pre.length : Int) - 1) = some (jmpD (a, o))))) _
    ⟨h, [], none, none, rfl, rfl, ?_, .inr ⟨[], js, none, ?_, rfl, rfl, fun _ => rfl, fun e => (e rfl).elim⟩⟩ ?_ ?_
  · rw [rngD_length]; simp; omega
  · rfl
  · rintro d r' ρ S' ⟨h', acc, x5, x6, rfl, rfl, ln, hh⟩
    rcases hh with ⟨e, _⟩ | ⟨pre, suf, lo, e, ej, eh, l0, l1⟩
    · cases e
    rw [rngD_cons] at e
    injection e with e1 e2
    subst e1
    refine ⟨_, rfl, fun M hM => ?_⟩
    simp only [List.length_cons] at ln
    obtain ⟨b, hb⟩ : ∃ b, b = decide (∀ q, lo = some q → q ≤ r - h') := ⟨_, rfl⟩
    have hlo : ∀ Q : D → Sto → Prop, Q (.bl b) (S ++ [.lst (acc.map .int)]) →
      ((mOr (mOp gEq (mVar 5) (mK (.int 0))) (mOp gLe (mOp gIx (mOp gIx (mVar 2) (mOp gSub (mVar 5) (mK (.int 1)))) (mK (.int 0))) (mVar 6))) [some (tabD h js), some (.int r), some (.tup (js.map jmpD)), some (.cell S.length), some (.int h'), some (.int pre.length), some (.int (r - h'))] (S ++ [.lst (acc.map .int)])).Does Q := by
      intro Q q
      subst hb
      by_cases hp : pre = []
      · subst hp
        have := l0 rfl
        subst this
        simpa using q
      · obtain ⟨a, o, rfl, ea⟩ := l1 hp
        have hp' : ¬ ((pre.length : Int) = 0) := by
          have := List.length_pos_iff.mpr hp
          omega
        simp [hp, ea]
        simpa using q
    refine seq_cut (fun ρ S' => ρ = [some (tabD h js), some (.int r), some (.tup (js.map jmpD)), some (.cell S.length), some (.int h'), some (.int pre.length), some (.int (r - h'))] ∧ S' = S ++ [.lst (acc.map .int)]) (fun M hM => ?_) ?_
    · simp
      exact hM _ _ ⟨rfl, rfl⟩
    rintro ρ _ ⟨rfl, rfl⟩
    rw [does_seq, does_ifS, does_and]
    refine hlo _ ?_
    rw [blQ_bl]
    have lenS : (S ++ [Cell.lst (acc.map D.int)])[S.length]? = some (.lst (acc.map .int)) := get_new
    cases suf with
    | nil =>
      have e3 : js.length = pre.length := by rw [ej, List.append_nil]
      have fin : ∀ (b : Bool) (x : Option D), (b = decide (∀ q, lo = some q → q ≤ r - h')) → M [some (tabD h js), some (.int r), some (.tup (js.map jmpD)), some (.cell S.length), some (.int h'), some (.int pre.length), x] (S ++ [.lst ((if b then acc ++ [r - h'] else acc).map .int)]) := by
        intro b x hb
        refine hM _ _ ⟨h', _, _, _, rfl, rfl, ?_, .inl ⟨by rw [e2] <;> rfl, ?_⟩⟩
        · split
          · simp at ln ⊢; omega
          · omega
        · rw [eh, hrsOf]
          by_cases c : ∀ q, lo = some q → q ≤ r - h'
          · rw [if_pos c, hb, decide_eq_true c] <;> rfl
          · rw [if_neg c, hb, decide_eq_false c, List.append_nil] <;> rfl
      cases b with
      | true =>
        simp [e3, lenS]
        refine ⟨by omega, ?_⟩
        simpa [set_new] using fin true _ hb
      | false =>
        simp [e3]
        simpa using fin false _ hb
    | cons ao suf =>
      obtain ⟨a, o⟩ := ao
      have e3 : (js.length : Int) ≠ pre.length := by rw [ej]; simp; omega
      have e4 : (pre.length : Int) ≠ js.length := Ne.symm e3
      have e5 : (pre.length : Int) < js.length := by rw [ej]; simp; omega
      have e6 : ¬ pre.length = js.length := by omega
      have e7 : pre.length < js.length := by omega
      have at1 : atI (js.map jmpD) (pre.length : Int) = some (jmpD (a, o)) := by
        rw [atI_of (by omega) (by rw [List.length_map]; exact e5), ej]
        simp
      have fin : ∀ (b : Bool) (x : Option D), (b = decide ((∀ q, lo = some q → q ≤ r - h') ∧ r - h' < a)) → M [some (tabD h js), some (.int r), some (.tup (js.map jmpD)), some (.cell S.length), some (.int o), some (.int pre.length), x] (S ++ [.lst ((if b then acc ++ [r - h'] else acc).map .int)]) := by
        intro b x hb
        refine hM _ _ ⟨o, _, _, _, rfl, rfl, ?_, .inr ⟨pre ++ [(a, o)], suf, some a, ?_, ?_, ?_, ?_, ?_⟩⟩
        · split
          · simp at ln ⊢; omega
          · omega
        · rw [e2, List.length_append] <;> rfl
        · rw [ej, List.append_assoc] <;> rfl
        · rw [eh, hrsOf]
          by_cases c : (∀ q, lo = some q → q ≤ r - h') ∧ r - h' < a
          · rw [if_pos c, hb, decide_eq_true c] <;> simp
          · rw [if_neg c, hb, decide_eq_false c] <;> simp
        · intro e; simp at e
        · intro _
          refine ⟨a, o, rfl, ?_⟩
          rw [← at1]
          congr 1
          simp
      cases b with
      | true =>
        have c := of_decide_eq_true hb.symm
        by_cases c' : r - h' < a
        · simp [e4, e6, e7, at1, c', lenS]
          refine ⟨by omega, ?_⟩
          simpa [set_new] using fin true _ (decide_eq_true ⟨c, c'⟩).symm
        · simp [e4, e6, e7, at1, c']
          simpa using fin false _ (decide_eq_false fun k => c' k.2).symm
      | false =>
        simp [e4, e6, e7, at1]
        simpa using fin false _ (decide_eq_false fun k => (of_decide_eq_false hb.symm) k.1).symm
  · rintro ρ S' ⟨h', acc, x5, x6, rfl, rfl, ln, hh⟩
    rcases hh with ⟨e, ea⟩ | ⟨pre, suf, lo, e, ej, eh, l0, l1⟩
    · subst ea
      simpa using q
    · rw [rngD_cons] at e; cases e
end
end Dm
-- text HmLooks
namespace Dm
open PySem L2
/-- from S to S': the pots of P have turned, all else is as it was -/
structure GoS (P : Nat → Prop) (S S' : Sto) : Prop where
  len : S.length ≤ S'.length
  same : ∀ n, n < S.length → ¬ P n → S'[n]? = S[n]?
  pot : ∀ n, P n → Pot n S'
section
variable {P : Nat → Prop} {S S1 S2 : Sto} {p q n : Nat} {os : List Int} {s : Int}
theorem GoS.refl (h : ∀ n, P n → Pot n S) : GoS P S S := ⟨Nat.le_refl _, fun _ _ _ => rfl, h⟩
theorem GoS.trans (a : GoS P S S1) (b : GoS P S1 S2) : GoS P S S2 :=
  ⟨Nat.le_trans a.len b.len, fun n h hn => (b.same n (Nat.lt_of_lt_of_le h a.len) hn).trans (a.same n h hn), b.pot⟩
theorem Pot.push {c : Cell} (h : Pot p S) : Pot p (S ++ [c]) := by
  obtain ⟨k, e⟩ := h
  exact ⟨k, by rw [List.getElem?_append_left (List.getElem?_eq_some_iff.mp e).1]; exact e⟩
theorem GoS.push (a : GoS P S S1) (c : Cell) : GoS P S (S1 ++ [c]) :=
  ⟨by rw [List.length_append]; exact Nat.le_trans a.len (Nat.le_add_right _ _), fun n h hn => by
    rw [List.getElem?_append_left (Nat.lt_of_lt_of_le h a.len)]
    exact a.same n h hn, fun n hn => (a.pot n hn).push⟩
theorem GoS.setNew (h : ∀ n, P n → Pot n S) (a : GoS P S S1) (hn : S.length ≤ n) (c : Cell) : GoS P S (S1.set n c) :=
  ⟨by rw [List.length_set]; exact a.len, fun m hm hp => by
    rw [List.getElem?_set_ne (by omega)]
    exact a.same m hm hp, fun m hm => by
    have := (h m hm).lt
    exact (a.pot m hm).set (by omega)⟩
theorem GoS.get {c : Cell} (a : GoS P S S1) (h : S[n]? = some c) (hn : ¬ P n) : S1[n]? = some c := by
  rw [a.same n (List.getElem?_eq_some_iff.mp h).1 hn]
  exact h
theorem Go.all (g : Go q S S1) (hq : P q) (h : ∀ n, P n → Pot n S) : GoS P S S1 :=
  ⟨g.len, fun n hn hp => g.same n hn fun e => hp (e ▸ hq), fun n hn => by
    by_cases e : n = q
    · subst e; exact g.pot
    · obtain ⟨k, z⟩ := h n hn
      exact ⟨k, g.get z e⟩⟩
theorem GoS.one (g : GoS (· = p) S S1) : Go p S S1 := ⟨g.len, fun n hn e => g.same n hn e, g.pot p rfl⟩
theorem drawS {u : Int} {Q : D → Sto → Prop} (h : ∀ n, P n → Pot n S) (hq : P q) (h0 : 0 < u) (hb : u < 18446744073709551616) (k : ∀ r S', GoS P S S' → 0 ≤ r → r < u → Q (.int r) S') : (m_law_draw [.cell q, .int u] S).Does Q :=
  draw_does (h q hq) h0 hb fun r S' g a b => k r S' (g.all hq h) a b
theorem any_hourS {Q : D → Sto → Prop} (h : ∀ n, P n → Pot n S) (hq : P q) (k : ∀ r S', GoS P S S' → Q (.int r) S') : (m_law_any_hour [.cell q] S).Does Q :=
  any_hour_does (h q hq) fun r S' g _ _ => k r S' (g.all hq h)
/-- looks of a zone: offsets of it, the moments ascending -/
def Asc : List (Int × Int) → Prop := List.Pairwise fun a b => a.1 < b.1
structure LooksOK (os : List Int) (ls : List (Int × Int)) : Prop where
  mem : ∀ l, l ∈ ls → l.2 ∈ os
  asc : ls.Pairwise fun a b => a.1 < b.1
def looksD (ls : List (Int × Int)) : D := .tup (ls.map jmpD)
theorem at_some {α : Type} {xs : List α} {i : Int} (h0 : 0 ≤ i) (h : i < xs.length) : ∃ x, atI xs i = some x ∧ x ∈ xs := by
  have l : i.toNat < xs.length := by omega
  exact ⟨xs[i.toNat], by rw [atI_of h0 h]; exact List.getElem?_eq_getElem l, List.getElem_mem l⟩
theorem at_int {xs : List Int} {i : Int} (h0 : 0 ≤ i) (h : i < xs.length) : ∃ x, atI (xs.map D.int) i = some (.int x) := by
  obtain ⟨d, e, m⟩ := at_some (xs := xs.map D.int) h0 (by rw [List.length_map]; exact h)
  obtain ⟨x, _, rfl⟩ := List.mem_map.mp m
  exact ⟨x, e⟩

theorem make_sights_does {ps : List Nat} {Q : D → Sto → Prop} (hP : ∀ n, P n → Pot n S) (hp : P p) (hps : ∀ q, q ∈ ps → P q) (z : ZoneOK os s) (hl : ps.length ≤ 1000) (q : ∀ ls S', GoS P S S' → LooksOK os ls → ls.length = ps.length → Q (looksD ls) S') : (m_law_make_sights [.cell p, zoneD os s, .lst (ps.map .cell)] S).Does Q := by
  have hos := z.len
  have hs := z.sp
  refine does_def rfl ?_
  refine seq_cut (fun ρ S' => S = S' ∧ ρ = [some (.cell p), some (zoneD os s), some (.lst (ps.map .cell)), some (.tup (os.map .int)), some (.int s), none, none, none, none, none, none, none, none, none, none, none, none]) (fun M hM => ?_) ?_
  · simp
    exact hM _ _ ⟨rfl, rfl⟩
  rintro ρ _ ⟨rfl, rfl⟩
  refine seq_cut (fun ρ S' => ∃ hr, ρ = [some (.cell p), some (zoneD os s), some (.lst (ps.map .cell)), some (.tup (os.map .int)), some (.int s), some (.int hr), none, none, none, none, none, none, none, none, none, none, none] ∧ GoS P S S') (fun M hM => ?_) ?_
  · simp
    exact any_hourS hP hp fun r S1 g1 => hM _ _ ⟨_, rfl, g1⟩
  rintro ρ S1 ⟨hr, rfl, g1⟩
  refine seq_cut (fun ρ S' => ∃ br, ρ = [some (.cell p), some (zoneD os s), some (.lst (ps.map .cell)), some (.tup (os.map .int)), some (.int s), some (.int hr), some (.int br), none, none, none, none, none, none, none, none, none, none] ∧ S1 = S') (fun M hM => ?_) ?_
  · simp
    exact hM _ _ ⟨_, rfl, rfl⟩
  rintro ρ _ ⟨br, rfl, rfl⟩
  refine seq_cut (fun ρ S' => ∃ at', ρ = [some (.cell p), some (zoneD os s), some (.lst (ps.map .cell)), some (.tup (os.map .int)), some (.int s), some (.int hr), some (.int br), some (.int at'), none, none, none, none, none, none, none, none, none] ∧ GoS P S S' ∧ 0 ≤ at' ∧ at' < os.length) (fun M hM => ?_) ?_
  · simp
    exact drawS g1.pot hp (by omega) (by omega) fun r S2 g2 a0 a1 => hM _ _ ⟨_, rfl, g1.trans g2, a0, a1⟩
  rintro ρ S2 ⟨at', rfl, g2, a0, a1⟩
  refine seq_cut (fun ρ S' => ρ = [some (.cell p), some (zoneD os s), some (.lst (ps.map .cell)), some (.tup (os.map .int)), some (.int s), some (.int hr), some (.int br), some (.int at'), some (.cell S2.length), none, none, none, none, none, none, none, none] ∧ S' = S2 ++ [.lst []]) (fun M hM => ?_) ?_
  · simp
    exact hM _ _ ⟨rfl, rfl⟩
  rintro ρ _ ⟨rfl, rfl⟩
  have g3 := g2.push (.lst [])
  have cN : (S2 ++ [Cell.lst []])[S2.length]? = some (.lst []) := get_new
  have lN : S.length ≤ S2.length := g2.len
  generalize S2.length = N at cN lN
  generalize S2 ++ [Cell.lst []] = S3 at g3 cN
  have nP : ¬ P N := fun h => by have := (hP N h).lt; omega
  refine seq_cut (fun ρ S' => ρ = [some (.cell p), some (zoneD os s), some (.lst (ps.map .cell)), some (.tup (os.map .int)), some (.int s), some (.int hr), some (.int br), some (.int at'), some (.cell N), some (.int ps.length), none, none, none, none, none, none, none] ∧ S3 = S') (fun M hM => ?_) ?_
  · simp
    exact hM _ _ ⟨rfl, rfl⟩
  rintro ρ _ ⟨rfl, rfl⟩
  refine seq_cut (fun ρ S' => ∃ calm, ρ = [some (.cell p), some (zoneD os s), some (.lst (ps.map .cell)), some (.tup (os.map .int)), some (.int s), some (.int hr), some (.int br), some (.int at'), some (.cell N), some (.int ps.length), some (.int calm), none, none, none, none, none, none] ∧ GoS P S3 S') (fun M hM => ?_) ?_
  · simp
    refine drawS g3.pot hp (by omega) (by omega) fun r S4 g4 b0 b1 => ?_
    refine drawS g4.pot hp (by decide) (by decide) fun r2 S5 g5 b2 b3 => ?_
    obtain ⟨x, ex⟩ := at_int (xs := [(ps.length : Int), 0, r]) b2 b3
    simp at ex
    simp [ex]
    exact hM _ _ ⟨_, rfl, g4.trans g5⟩
  rintro ρ S4 ⟨calm, rfl, g4⟩
  have cN4 := g4.get cN nP
  have g5 := g3.trans g4
  clear g4 g3 cN
  refine seq_cut (fun ρ S' => ∃ ls hr br at' x11 x12 x13 x14 x15 x16, ρ = [some (.cell p), some (zoneD os s), some (.lst (ps.map .cell)), some (.tup (os.map .int)), some (.int s), some (.int hr), some (.int br), some (.int at'), some (.cell N), some (.int ps.length), some (.int calm), x11, x12, x13, x14, x15, x16] ∧ GoS P S S' ∧ S'[N]? = some (.lst (ls.map jmpD)) ∧ LooksOK os ls ∧ ls.length = ps.length) (fun M hM => ?_) ?_
  · simp
    refine ⟨by omega, ?_⟩
    refine forL_cut (fun ds ρ S' => ∃ (t n : Nat) (ls : List (Int × Int)) (hr br at' : Int) (x11 x12 x13 x14 x15 x16 : Option D), ds = rngD t n ∧ ρ = [some (.cell p), some (zoneD os s), some (.lst (ps.map .cell)), some (.tup (os.map .int)), some (.int s), some (.int hr), some (.int br), some (.int at'), some (.cell N), some (.int ps.length), some (.int calm), x11, x12, x13, x14, x15, x16] ∧ GoS P S S' ∧ S'[N]? = some (.lst (ls.map jmpD)) ∧ LooksOK os ls ∧ ls.length = t ∧ t + n = ps.length ∧ (∀ l, l ∈ ls → l.1 < hr) ∧ 0 ≤ at' ∧ at' < os.length) _
      ⟨0, ps.length, [], hr, br, at', _, _, _, _, _, _, rfl, rfl, g5, cN4, ⟨(fun _ h => nomatch h), .nil⟩, rfl, by omega, (fun _ h => nomatch h), a0, a1⟩ ?_ ?_
    · rintro d r ρ S6 ⟨t, n, ls, hr, br, at', x11, x12, x13, x14, x15, x16, e, rfl, g6, c6, lk, lt, tn, bd, q0, q1⟩
      cases n with
      | zero => cases e
      | succ n =>
        rw [rngD_cons] at e
        injection e with e1 e2
        subst e1
        refine ⟨_, rfl, fun M2 hM2 => ?_⟩
        clear a0 a1 cN4 g5 g1 g2 hM
        obtain ⟨o, ao, om, oi⟩ := z.at q0 q1
        obtain ⟨qd, aq, mq⟩ := at_some (xs := ps.map D.cell) (i := (t : Int)) (by omega) (by rw [List.length_map]; omega)
        obtain ⟨pq, mz, rfl⟩ := List.mem_map.mp mq
        have hq := hps pq mz
        refine seq_cut (fun ρ S' => ρ = [some (.cell p), some (zoneD os s), some (.lst (ps.map .cell)), some (.tup (os.map .int)), some (.int s), some (.int hr), some (.int br), some (.int at'), some (.cell N), some (.int ps.length), some (.int calm), some (.int t), some (.cell pq), x13, x14, x15, x16] ∧ S6 = S') (fun M hM => ?_) ?_
        · simp [aq]
          exact hM _ _ ⟨rfl, rfl⟩
        rintro ρ _ ⟨rfl, rfl⟩
        refine seq_cut (fun ρ S' => ρ = [some (.cell p), some (zoneD os s), some (.lst (ps.map .cell)), some (.tup (os.map .int)), some (.int s), some (.int hr), some (.int br), some (.int at'), some (.cell N), some (.int ps.length), some (.int calm), some (.int t), some (.cell pq), x13, x14, x15, x16] ∧ S' = S6.set N (.lst (ls.map jmpD ++ [.tup [.int hr, .int o]]))) (fun M hM => ?_) ?_
        · simp [c6, ao]
          exact ⟨by omega, hM _ _ ⟨rfl, rfl⟩⟩
        rintro ρ _ ⟨rfl, rfl⟩
        have g7 : GoS P S (S6.set N (.lst (ls.map jmpD ++ [.tup [.int hr, .int o]]))) := g6.setNew hP lN _
        have c7 : (S6.set N (.lst (ls.map jmpD ++ [.tup [.int hr, .int o]])))[N]? = some (.lst ((ls ++ [(hr, o)]).map jmpD)) := by
          rw [List.getElem?_set_self (List.getElem?_eq_some_iff.mp c6).1, List.map_append] <;> rfl
        generalize S6.set N (.lst (ls.map jmpD ++ [.tup [.int hr, .int o]])) = S7 at g7 c7
        refine seq_cut (fun ρ S' => ∃ lst, ρ = [some (.cell p), some (zoneD os s), some (.lst (ps.map .cell)), some (.tup (os.map .int)), some (.int s), some (.int hr), some (.int br), some (.int at'), some (.cell N), some (.int ps.length), some (.int calm), some (.int t), some (.cell pq), some (.int lst), x14, x15, x16] ∧ S7 = S') (fun M hM => ?_) ?_
        · simp
          exact hM _ _ ⟨_, rfl, rfl⟩
        rintro ρ _ ⟨lst, rfl, rfl⟩
        refine seq_cut (fun ρ S' => ∃ way, ρ = [some (.cell p), some (zoneD os s), some (.lst (ps.map .cell)), some (.tup (os.map .int)), some (.int s), some (.int hr), some (.int br), some (.int at'), some (.cell N), some (.int ps.length), some (.int calm), some (.int t), some (.cell pq), some (.int lst), some (.int way), x15, x16] ∧ GoS P S7 S' ∧ 0 ≤ way ∧ way < 9) (fun M hM => ?_) ?_
        · simp
          exact drawS g7.pot hq (by decide) (by decide) fun r S8 g8 b0 b1 => hM _ _ ⟨_, rfl, g8, b0, b1⟩
        rintro ρ S8 ⟨way, rfl, g8, w0, w1⟩
        refine seq_cut (fun ρ S' => ∃ (B : Nat) (is : List Int), ρ = [some (.cell p), some (zoneD os s), some (.lst (ps.map .cell)), some (.tup (os.map .int)), some (.int s), some (.int hr), some (.int br), some (.int at'), some (.cell N), some (.int ps.length), some (.int calm), some (.int t), some (.cell pq), some (.int lst), some (.int way), some (.cell B), x16] ∧ GoS P S7 S' ∧ S'[B]? = some (.lst (is.map .int)) ∧ is.length = 6 ∧ S7.length ≤ B) (fun M hM => ?_) ?_
        · simp
          refine drawS g8.pot hq (by decide) (by decide) fun r S9 g9 b0 b1 => ?_
          simp
          refine drawS g9.pot hq (by decide) (by decide) fun r2 S10 g10 b0 b1 => ?_
          simp
          exact hM _ _ ⟨S10.length, [lst, lst, lst - 1, hr + 1, hr + 1 + r, lst + r2], rfl, (g8.trans (g9.trans g10)).push _, get_new, rfl, (g8.trans (g9.trans g10)).len⟩
        rintro ρ S9 ⟨B, is, rfl, g9, cB, li, lB⟩
        clear g8 S8
        have nB : ¬ P B := fun h => by have := (g7.pot B h).lt; omega
        refine seq_cut (fun ρ S' => ∃ (B : Nat) (is : List Int), ρ = [some (.cell p), some (zoneD os s), some (.lst (ps.map .cell)), some (.tup (os.map .int)), some (.int s), some (.int hr), some (.int br), some (.int at'), some (.cell N), some (.int ps.length), some (.int calm), some (.int t), some (.cell pq), some (.int lst), some (.int way), some (.cell B), x16] ∧ GoS P S7 S' ∧ S'[B]? = some (.lst (is.map .int)) ∧ is.length = 8 ∧ S7.length ≤ B) (fun M hM => ?_) ?_
        · simp
          refine ⟨cmulw64 (by decide) (by omega), ?_⟩
          refine drawS g9.pot hq (by omega) (by omega) fun r S10 g10 b0 b1 => ?_
          simp
          refine drawS g10.pot hq (by omega) (by omega) fun r2 S11 g11 b0 b1 => ?_
          simp
          rw [(g10.trans g11).get cB nB]
          simp
          exact ⟨by omega, hM _ _ ⟨S11.length, is ++ [hr + 1 + r, lst + r2], rfl, (g9.trans (g10.trans g11)).push _, by rw [get_new, List.map_append] <;> rfl, by rw [List.length_append, li] <;> rfl, (g9.trans (g10.trans g11)).len⟩⟩
        rintro ρ S10 ⟨B2, is2, rfl, g10, cB2, li2, lB2⟩
        clear g9 cB nB li lB S9 B is
        have nB : ¬ P B2 := fun h => by have := (g7.pot B2 h).lt; omega
        refine seq_cut (fun ρ S' => ∃ (is : List Int), ρ = [some (.cell p), some (zoneD os s), some (.lst (ps.map .cell)), some (.tup (os.map .int)), some (.int s), some (.int hr), some (.int br), some (.int at'), some (.cell N), some (.int ps.length), some (.int calm), some (.int t), some (.cell pq), some (.int lst), some (.int way), some (.cell B2), x16] ∧ GoS P S7 S' ∧ S'[B2]? = some (.lst (is.map .int)) ∧ is.length = 9) (fun M hM => ?_) ?_
        · simp
          refine ⟨⟨_, cB2⟩, ?_⟩
          refine drawS g10.pot hq (by decide) (by decide) fun r S11 g11 b0 b1 => ?_
          simp
          refine ⟨_, g11.get cB2 nB, by simp; omega, ?_⟩
          exact hM _ _ ⟨is2 ++ [hr + 1 + r], rfl, (g10.trans g11).setNew g7.pot lB2 _, by rw [List.getElem?_set_self (List.getElem?_eq_some_iff.mp (g11.get cB2 nB)).1, List.map_append] <;> rfl, by rw [List.length_append, li2] <;> rfl⟩
        rintro ρ S11 ⟨is, rfl, g11, cB, li⟩
        clear g10 cB2 li2 S10 is2
        refine seq_cut (fun ρ S' => ∃ turn, ρ = [some (.cell p), some (zoneD os s), some (.lst (ps.map .cell)), some (.tup (os.map .int)), some (.int s), some (.int hr), some (.int br), some (.int at'), some (.cell N), some (.int ps.length), some (.int calm), some (.int t), some (.cell pq), some (.int lst), some (.int way), some (.cell B2), some (.int turn)] ∧ GoS P S7 S' ∧ S'[B2]? = some (.lst (is.map .int)) ∧ (0 < turn → 1 < os.length)) (fun M hM => ?_) ?_
        · simp
          refine drawS g11.pot hq (by decide) (by decide) fun r S12 g12 b0 b1 => ?_
          simp
          refine ⟨cmulw64 (by omega) (by split <;> omega), ?_⟩
          exact hM _ _ ⟨_, rfl, g11.trans g12, g12.get cB nB, fun h => by
            by_cases c : (1 : Int) < os.length
            · omega
            · simp [c] at h⟩
        rintro ρ S12 ⟨turn, rfl, g12, cB', tz⟩
        clear g11 cB S11
        refine seq_cut (fun ρ S' => ∃ hr2, ρ = [some (.cell p), some (zoneD os s), some (.lst (ps.map .cell)), some (.tup (os.map .int)), some (.int s), some (.int hr2), some (.int br), some (.int at'), some (.cell N), some (.int ps.length), some (.int calm), some (.int t), some (.cell pq), some (.int lst), some (.int way), some (.cell B2), some (.int turn)] ∧ S12 = S' ∧ hr < hr2) (fun M hM => ?_) ?_
        · obtain ⟨x, ex⟩ := at_int (xs := is) w0 (by omega)
          simp [gIx_cell cB', ex]
          exact hM _ _ ⟨_, rfl, rfl, by split <;> omega⟩
        rintro ρ _ ⟨hr2, rfl, rfl, h12⟩
        have lk2 : LooksOK os (ls ++ [(hr, o)]) := by
          refine ⟨fun l hl => ?_, List.pairwise_append.mpr ⟨lk.asc, by simp, fun a ha b hb => ?_⟩⟩
          · rcases List.mem_append.mp hl with hl | hl
            · exact lk.mem l hl
            · cases List.mem_singleton.mp hl; exact om
          · cases List.mem_singleton.mp hb; exact bd a ha
        have fin : ∀ (h b a : Int) S13, hr < h → 0 ≤ a → a < os.length → GoS P S7 S13 → M2 [some (.cell p), some (zoneD os s), some (.lst (ps.map .cell)), some (.tup (os.map .int)), some (.int s), some (.int h), some (.int b), some (.int a), some (.cell N), some (.int ps.length), some (.int calm), some (.int t), some (.cell pq), some (.int lst), some (.int way), some (.cell B2), some (.int turn)] S13 := by
          intro h b a S13 hh h0 h1 g13
          refine hM2 _ _ ⟨t + 1, n, ls ++ [(hr, o)], h, b, a, _, _, _, _, _, _, e2, rfl, g7.trans g13, g13.get c7 nP, lk2, by rw [List.length_append, lt] <;> rfl, by omega, fun l hl => ?_, h0, h1⟩
          rcases List.mem_append.mp hl with hl | hl
          · have := bd l hl; omega
          · cases List.mem_singleton.mp hl; exact hh
        by_cases c : 0 < turn
        · have two := tz c
          simp [c]
          refine drawS g12.pot hq (by omega) (by omega) fun r S13 g13 b0 b1 => ?_
          simp
          refine ⟨by omega, ?_⟩
          have m0 := Int.emod_nonneg (at' + 1 + r) (b := (os.length : Int)) (by omega)
          have m1 := Int.emod_lt_of_pos (at' + 1 + r) (b := (os.length : Int)) (by omega)
          by_cases c2 : (t : Int) < calm
          · simp [c2]
            exact fin _ _ _ _ (by split <;> omega) m0 m1 (g12.trans g13)
          · simp [c2]
            exact fin _ _ _ _ h12 m0 m1 (g12.trans g13)
        · simp [c]
          exact fin _ _ _ _ h12 q0 q1 g12
    · rintro ρ S6 ⟨t, n, ls, hr, br, at', x11, x12, x13, x14, x15, x16, e, rfl, g6, c6, lk, lt, tn, bd, q0, q1⟩
      cases n with
      | succ n => rw [rngD_cons] at e; cases e
      | zero => exact hM _ _ ⟨ls, hr, br, at', _, _, _, _, _, _, rfl, g6, c6, lk, by omega⟩
  rintro ρ S6 ⟨ls, hr, br, at', x11, x12, x13, x14, x15, x16, rfl, g6, c6, lk, ll⟩
  simp [gTuple_cell c6]
  exact q ls S6 g6 lk ll
end
end Dm
-- text HmCrowd
namespace Dm
open PySem L2
/-! ### looks by their places -/
def Hh (ls : List (Int × Int)) (i : Nat) : Int := (ls.getD i (0, 0)).1
def Oo (ls : List (Int × Int)) (i : Nat) : Int := (ls.getD i (0, 0)).2
def chg (ls : List (Int × Int)) (i : Nat) : Int := if Oo ls (i + 1) = Oo ls i then 0 else 1
def tal (ls : List (Int × Int)) : Nat → Int
  | 0 => 0
  | k + 1 => tal ls k + chg ls k
def cond (s : Int) (ls : List (Int × Int)) (i j : Nat) : Bool := decide (Hh ls j - Hh ls i - 1 < (tal ls j - tal ls i - 1) * s)
def crowAt (s : Int) (ls : List (Int × Int)) (j : Nat) : Option (Nat × Nat) := (List.range' 0 j).findSome? fun b => if cond s ls (j - 1 - b) j then some (j - 1 - b, j) else none
def crow (s : Int) (ls : List (Int × Int)) : Option (Nat × Nat) := (List.range' 0 ls.length).findSome? fun j => crowAt s ls j
def pairD : Option (Nat × Nat) → D
  | none => .non
  | some (i, j) => .tup [.int i, .int j]
section
variable {S : Sto} {os : List Int} {s : Int} {ls : List (Int × Int)} {n p : Nat}
theorem at_look {i : Nat} (h : i < ls.length) : atI (ls.map jmpD) (i : Int) = some (jmpD (Hh ls i, Oo ls i)) := by
  rw [atI_of (by omega) (by rw [List.length_map]; omega)]
  have e : ls.getD i (0, 0) = ls[i] := by simp [List.getD, List.getElem?_eq_getElem h]
  unfold Hh Oo
  rw [e]
  show (ls.map jmpD)[i]? = _
  rw [List.getElem?_map, List.getElem?_eq_getElem h] <;> rfl
theorem at_look' {i : Int} (h0 : 0 ≤ i) (h : i < ls.length) : atI (ls.map jmpD) i = some (jmpD (Hh ls i.toNat, Oo ls i.toNat)) := by
  have e : i = (i.toNat : Int) := by omega
  rw [e]
  exact at_look (by omega)
theorem mem_rng {lo : Int} {n : Nat} {d : D} (h : d ∈ rngD lo n) : ∃ i : Nat, d = .int (lo + i) ∧ i < n := by
  unfold rngD at h
  obtain ⟨i, hi, rfl⟩ := List.mem_map.mp h
  exact ⟨i, rfl, List.mem_range.mp hi⟩
theorem asc_get (h : ls.Pairwise fun a b => a.1 < b.1) {i j : Nat} (hij : i < j) (hj : j < ls.length) : Hh ls i < Hh ls j := by
  have q := List.pairwise_iff_getElem.mp h i j (by omega) hj hij
  unfold Hh
  simpa [List.getD, List.getElem?_eq_getElem hj, List.getElem?_eq_getElem (show i < ls.length by omega)] using q
@[simp] theorem ty_looks : tyOf S (looksD ls) = some .tup := rfl
@[simp] theorem len_looks : gLen S [looksD ls] = some (.int ls.length) := by simp [looksD]
@[simp] theorem ix_looks {i : Int} : gIx S (looksD ls) (.int i) = atI (ls.map jmpD) i := rfl
theorem is_looks_ok (z : ZoneOK os s) (l : LooksOK os ls) (hl : ls.length ≤ 1000) : m_is_looks [zoneD os s, looksD ls] S = .ok (.bl true) S := by
  refine pure_of fun Q q => ?_
  refine does_def rfl ?_
  simp [need_zone_ok z, isTn]
  show LcQ _ _ _ _ _ _ _
  simp only [looksD]
  refine lcQ_map (fun _ => .bl true) ?_ ?_
  · intro d hd
    obtain ⟨j, hj, rfl⟩ := List.mem_map.mp hd
    refine ⟨_, rfl, fun Q q => ?_⟩
    simp [wipeD, is_mark_jmp, l.mem j hj]
    exact q
  rw [gAll_true]
  simp
  refine ⟨by omega, ?_⟩
  refine lcQ_map (fun _ => .bl true) ?_ ?_
  · intro d hd
    obtain ⟨i, rfl, hi⟩ := mem_rng hd
    refine ⟨_, rfl, fun Q q => ?_⟩
    have h1 : (1 : Int) + i - 1 = (i : Nat) := by omega
    have h2 : (1 : Int) + i = ((i + 1 : Nat) : Int) := by omega
    have lt := asc_get l.asc (show i < i + 1 by omega) (show i + 1 < ls.length by omega)
    simp [wipeD]
    rw [h1, h2, at_look (by omega), at_look (by omega)]
    simp [lt]
    exact q
  · rw [gAll_true]
    exact q
theorem need_looks_ok (z : ZoneOK os s) (l : LooksOK os ls) (hl : ls.length ≤ 1000) : m_need_looks [zoneD os s, looksD ls] S = .ok .non S := by
  refine pure_of fun Q q => ?_
  refine does_def rfl ?_
  simp [is_looks_ok z l hl, q]
end
end Dm
-- text HmEarly
namespace Dm
open PySem L2
section
variable {S : Sto} {os : List Int} {s : Int} {ls : List (Int × Int)} {n p : Nat}
theorem fs_cons {α : Type} {f : Nat → Option α} {t n : Nat} : (List.range' t (n + 1)).findSome? f = (f t).or ((List.range' (t + 1) n).findSome? f) := by
  rw [List.range'_succ, List.findSome?_cons]
  cases f t <;> rfl
theorem tal_bound : ∀ i, 0 ≤ tal ls i ∧ tal ls i ≤ i
  | 0 => ⟨Int.le_refl _, Int.le_refl _⟩
  | i + 1 => by
    have := tal_bound i
    rw [tal, chg]
    split <;> constructor <;> omega
theorem crow_ok {Q : D → Sto → Prop} {b : Nat} {t n : Nat} (e : crow s ls = (List.range' t (n + 1)).findSome? fun j => crowAt s ls j) (h : crowAt s ls t = some (b, t)) : pairD (crow s ls) = .tup [.int b, .int t] := by
  rw [e, fs_cons, h] <;> rfl
theorem stretch_of_ok (hs : 0 < s ∧ s ≤ 1000000) (hl : ls.length ≤ 1000) : m_stretch_of [zoneD os s, looksD ls] S = .ok (pairD (crow s ls)) S := by
  refine pure_of fun Q q => ?_
  refine does_def rfl ?_
  simp
  refine ⟨by omega, ?_⟩
  refine forL_cut (fun ds ρ S' => S = S' ∧ ∃ (t n : Nat) (x2 x3 x4 x5 : Option D), ds = rngD t n ∧ ρ = [some (zoneD os s), some (looksD ls), x2, x3, x4, x5] ∧ (n = 0 ∨ t + n = ls.length) ∧ crow s ls = (List.range' t n).findSome? fun j => crowAt s ls j) _
    ⟨rfl, 1, ls.length - 1, none, none, none, none, rfl, rfl, by omega, ?_⟩ ?_ ?_
  · unfold crow
    cases e : ls.length with
    | zero => rfl
    | succ m =>
      rw [Nat.add_sub_cancel, fs_cons] <;> rfl
  · rintro d r ρ _ ⟨rfl, t, n, x2, x3, x4, x5, e, rfl, tn, cr⟩
    cases n with
    | zero => cases e
    | succ n =>
      rw [rngD_cons] at e
      injection e with e1 e2
      subst e1
      refine ⟨_, rfl, fun M hM => ?_⟩
      simp
      refine ⟨by omega, ?_⟩
      refine forL_cut (fun ds ρ S' => S = S' ∧ ∃ (u m : Nat) (x4 x5 : Option D), ds = rngD u m ∧ ρ = [some (zoneD os s), some (looksD ls), some (.int t), some (.int (tal ls t - tal ls (t - u))), x4, x5] ∧ u + m = t ∧
        crowAt s ls t = (List.range' u m).findSome? fun b => if cond s ls (t - 1 - b) t then some (t - 1 - b, t) else none) _
        ⟨rfl, 0, t, _, _, rfl, by rw [Nat.sub_zero, Int.sub_self], by omega, rfl⟩ ?_ ?_
      · rintro d r ρ _ ⟨rfl, u, m, x4, x5, e, rfl, um, ca⟩
        cases m with
        | zero => cases e
        | succ m =>
          rw [rngD_cons] at e
          injection e with e1 e2
          subst e1
          refine ⟨_, rfl, fun M2 hM2 => ?_⟩
          have h1 : (t : Int) - 1 - (u : Int) = ((t - 1 - u : Nat) : Int) := by omega
          have h2 : ((t - 1 - u : Nat) : Int) + 1 = ((t - u : Nat) : Int) := by omega
          have h3 : t - u = (t - 1 - u) + 1 := by omega
          have ht : t < ls.length := by omega
          have tb := tal_bound (ls := ls) t
          have tb2 := tal_bound (ls := ls) (t - 1 - u)
          have ec : tal ls (t - u) = tal ls (t - 1 - u) + chg ls (t - 1 - u) := by rw [h3, tal]
          refine seq_cut (fun ρ S' => S = S' ∧ ρ = [some (zoneD os s), some (looksD ls), some (.int t), some (.int (tal ls t - tal ls (t - u))), some (.int u), some (.int (t - 1 - u : Nat))]) (fun M hM => ?_) ?_
          · simp
            rw [h1]
            exact hM _ _ ⟨rfl, rfl⟩
          rintro ρ _ ⟨rfl, rfl⟩
          refine seq_cut (fun ρ S' => S = S' ∧ ρ = [some (zoneD os s), some (looksD ls), some (.int t), some (.int (tal ls t - tal ls (t - 1 - u))), some (.int u), some (.int (t - 1 - u : Nat))]) (fun M hM => ?_) ?_
          · simp
            rw [at_look (by omega), h2, at_look (by omega)]
            simp
            have cc : chg ls (t - 1 - u) = if Oo ls (t - u) = Oo ls (t - 1 - u) then 0 else 1 := by rw [chg, ← h3]
            by_cases c : Oo ls (t - 1 - u) = Oo ls (t - u)
            · rw [if_pos c.symm] at cc
              simp [c]
              exact hM _ _ ⟨rfl, by rw [ec, cc, Int.add_zero]⟩
            · rw [if_neg (fun x => c x.symm)] at cc
              simp [c]
              refine hM _ _ ⟨rfl, ?_⟩
              have : tal ls t - tal ls (t - u) + 1 = tal ls t - tal ls (t - 1 - u) := by omega
              rw [this]
          rintro ρ _ ⟨rfl, rfl⟩
          have cr2 := cr
          rw [fs_cons, ca, fs_cons] at cr2
          simp
          rw [at_look (by omega), at_look (by omega)]
          simp
          refine ⟨cmulw64 (by omega) (by omega), ?_⟩
          by_cases c : Hh ls t - Hh ls (t - 1 - u) - 1 < (tal ls t - tal ls (t - 1 - u) - 1) * s
          · have cd : cond s ls (t - 1 - u) t = true := decide_eq_true c
            rw [if_pos cd] at cr2
            simp [c]
            rw [cr2] at q
            exact q
          · have cd : ¬ cond s ls (t - 1 - u) t = true := fun x => c (of_decide_eq_true x)
            rw [fs_cons, if_neg cd] at ca
            simp [c]
            exact hM2 _ _ ⟨rfl, u + 1, m, _, _, e2, by rw [show t - (u + 1) = t - 1 - u by omega] <;> rfl, by omega, ca⟩
      · rintro ρ _ ⟨rfl, u, m, x4, x5, e, rfl, um, ca⟩
        cases m with
        | succ m => rw [rngD_cons] at e; cases e
        | zero =>
          rw [fs_cons, ca] at cr
          exact hM _ _ ⟨rfl, t + 1, n, _, _, _, _, e2, rfl, by omega, cr⟩
  · rintro ρ _ ⟨rfl, t, n, x2, x3, x4, x5, e, rfl, tn, cr⟩
    cases n with
    | succ n => rw [rngD_cons] at e; cases e
    | zero =>
      rw [cr] at q
      exact q
theorem crowd_does {Q : D → Sto → Prop} (hs : 0 < s ∧ s ≤ 1000000) (hl : ls.length ≤ 1000) (q : ∀ c, Q (pairD (crow s ls)) (S ++ [c])) : (m_law_crowd [zoneD os s, looksD ls] S).Does Q := by
  refine does_def rfl ?_
  refine seq_cut (fun ρ S' => ρ = [some (zoneD os s), some (looksD ls), some (.cell S.length), none, none, none, none, none] ∧ S' = S ++ [.lst [.int 0]]) (fun M hM => ?_) ?_
  · simp
    exact hM _ _ ⟨rfl, rfl⟩
  rintro ρ _ ⟨rfl, rfl⟩
  refine seq_cut (fun ρ S' => ∃ x3, ρ = [some (zoneD os s), some (looksD ls), some (.cell S.length), x3, none, none, none, none] ∧ ∃ ts : List D, S' = S ++ [.lst ts] ∧ ∀ i, i < ls.length → ts[i]? = some (.int (tal ls i))) (fun M hM => ?_) ?_
  · simp
    refine ⟨by omega, ?_⟩
    refine forL_cut (fun ds ρ S' => ∃ (t n : Nat) (x3 : Option D), ds = rngD t n ∧ ρ = [some (zoneD os s), some (looksD ls), some (.cell S.length), x3, none, none, none, none] ∧ (n = 0 ∨ t + n = ls.length) ∧ 0 < t ∧ ls.length ≤ t + n ∧ t ≤ 1000 ∧ S' = S ++ [.lst ((List.range t).map fun i => D.int (tal ls i))]) _
      ⟨1, ls.length - 1, none, rfl, rfl, by omega, by omega, by omega, by omega, rfl⟩ ?_ ?_
    · rintro d r ρ S' ⟨t, n, x3, e, rfl, tn, t0, tl, t1, rfl⟩
      cases n with
      | zero => cases e
      | succ n =>
        rw [rngD_cons] at e
        injection e with e1 e2
        subst e1
        refine ⟨_, rfl, fun M2 hM2 => ?_⟩
        have lst : atI ((List.range t).map fun i => D.int (tal ls i)) (-1) = some (.int (tal ls (t - 1))) := by
          obtain ⟨k, rfl⟩ : ∃ k, t = k + 1 := ⟨t - 1, by omega⟩
          simp [atI, ixN]
          rw [if_pos (by omega)]
          have : ((-1 : Int) + (k + 1)).toNat = k := by omega
          simp [this]
        have h1 : (t : Int) - 1 = ((t - 1 : Nat) : Int) := by omega
        simp [get_new, gIx_cell get_new, lst]
        rw [at_look (by omega), h1, at_look (by omega)]
        simp
        refine ⟨by omega, ?_⟩
        have fin : ∀ d : D, d = .int (tal ls t) → M2 [some (zoneD os s), some (looksD ls), some (.cell S.length), some (.int t), none, none, none, none] (S ++ [.lst (((List.range t).map fun i => D.int (tal ls i)) ++ [d])]) := by
          rintro _ rfl
          refine hM2 _ _ ⟨t + 1, n, _, e2, rfl, by omega, by omega, by omega, by omega, ?_⟩
          rw [List.range_succ, List.map_append] <;> rfl
        refine fin _ ?_
        congr 1
        obtain ⟨k, rfl⟩ : ∃ k, t = k + 1 := ⟨t - 1, by omega⟩
        rw [Nat.add_sub_cancel, tal, chg]
    · rintro ρ S' ⟨t, n, x3, e, rfl, tn, t0, tl, t1, rfl⟩
      cases n with
      | succ n => rw [rngD_cons] at e; cases e
      | zero =>
        refine hM _ _ ⟨_, rfl, _, rfl, fun i hi => ?_⟩
        rw [List.getElem?_map, List.getElem?_range (by omega)] <;> rfl
  rintro ρ _ ⟨x3, rfl, ts, rfl, ht⟩
  have q := q (.lst ts)
  have cT : (S ++ [Cell.lst ts])[S.length]? = some (.lst ts) := get_new
  have lT : ls.length ≤ ts.length := by
    cases e : ls.length with
    | zero => omega
    | succ m =>
      have := (List.getElem?_eq_some_iff.mp (ht m (by omega))).1
      omega
  generalize S.length = N at cT
  generalize S ++ [Cell.lst ts] = S1 at q cT
  have at_tal : ∀ i : Nat, i < ls.length → atI ts (i : Int) = some (.int (tal ls i)) := fun i hi => by
    rw [atI_of (by omega) (by omega)]
    exact ht i hi
  simp
  refine ⟨by omega, ?_⟩
  refine forL_cut (fun ds ρ S' => S1 = S' ∧ ∃ (t n : Nat) (x4 x5 x6 x7 : Option D), ds = rngD t n ∧ ρ = [some (zoneD os s), some (looksD ls), some (.cell N), x3, x4, x5, x6, x7] ∧ t + n = ls.length ∧ crow s ls = (List.range' t n).findSome? fun j => crowAt s ls j) _
    ⟨rfl, 0, ls.length, none, none, none, none, rfl, rfl, by omega, rfl⟩ ?_ ?_
  · rintro d r ρ _ ⟨rfl, t, n, x4, x5, x6, x7, e, rfl, tn, cr⟩
    cases n with
    | zero => cases e
    | succ n =>
      rw [rngD_cons] at e
      injection e with e1 e2
      subst e1
      refine ⟨_, rfl, fun M hM => ?_⟩
      simp
      refine ⟨by omega, ?_⟩
      refine forL_cut (fun ds ρ S' => S1 = S' ∧ ∃ (u m : Nat) (x5 x6 x7 : Option D), ds = rngD u m ∧ ρ = [some (zoneD os s), some (looksD ls), some (.cell N), x3, some (.int t), x5, x6, x7] ∧ u + m = t ∧
        crowAt s ls t = (List.range' u m).findSome? fun b => if cond s ls (t - 1 - b) t then some (t - 1 - b, t) else none) _
        ⟨rfl, 0, t, _, _, _, rfl, rfl, by omega, rfl⟩ ?_ ?_
      · rintro d r ρ _ ⟨rfl, u, m, x5, x6, x7, e, rfl, um, ca⟩
        cases m with
        | zero => cases e
        | succ m =>
          rw [rngD_cons] at e
          injection e with e1 e2
          subst e1
          refine ⟨_, rfl, fun M2 hM2 => ?_⟩
          have h1 : (t : Int) - 1 - (u : Int) = ((t - 1 - u : Nat) : Int) := by omega
          have tb := tal_bound (ls := ls) t
          have tb2 := tal_bound (ls := ls) (t - 1 - u)
          have cr2 := cr
          rw [fs_cons, ca, fs_cons] at cr2
          refine seq_cut (fun ρ S' => S1 = S' ∧ ρ = [some (zoneD os s), some (looksD ls), some (.cell N), x3, some (.int t), some (.int u), some (.int (t - 1 - u : Nat)), x7]) (fun M hM => ?_) ?_
          · simp
            rw [h1]
            exact hM _ _ ⟨rfl, rfl⟩
          rintro ρ _ ⟨rfl, rfl⟩
          simp [gIx_cell cT]
          rw [at_tal _ (by omega), at_tal _ (by omega)]
          simp
          rw [at_look (by omega), at_look (by omega)]
          simp
          refine ⟨cmulw64 (by omega) (by omega), ?_⟩
          by_cases c : Hh ls t - Hh ls (t - 1 - u) - 1 < (tal ls t - tal ls (t - 1 - u) - 1) * s
          · have cd : cond s ls (t - 1 - u) t = true := decide_eq_true c
            rw [if_pos cd] at cr2
            simp [c]
            rw [cr2] at q
            exact q
          · have cd : ¬ cond s ls (t - 1 - u) t = true := fun x => c (of_decide_eq_true x)
            rw [fs_cons, if_neg cd] at ca
            simp [c]
            exact hM2 _ _ ⟨rfl, u + 1, m, _, _, _, e2, rfl, by omega, ca⟩
      · rintro ρ _ ⟨rfl, u, m, x5, x6, x7, e, rfl, um, ca⟩
        cases m with
        | succ m => rw [rngD_cons] at e; cases e
        | zero =>
          rw [fs_cons, ca] at cr
          exact hM _ _ ⟨rfl, t + 1, n, _, _, _, _, e2, rfl, by omega, cr⟩
  · rintro ρ _ ⟨rfl, t, n, x4, x5, x6, x7, e, rfl, tn, cr⟩
    cases n with
    | succ n => rw [rngD_cons] at e; cases e
    | zero =>
      rw [cr] at q
      exact q
end
end Dm
-- text HmFit
namespace Dm
open PySem L2
/-- the earliest moment of the next jump -/
def bar (s : Int) (p : Option Int) (h : Int) : Int := match p with
  | none => h + 1
  | some q => if q + s > h + 1 then q + s else h + 1
def early (s : Int) : Option Int → Int × Int → List (Int × Int) → Option (List (Int × Int))
  | _, _, [] => some []
  | p, (h, o), (h', o') :: r => if o' = o then early s p (h', o') r else if bar s p h > h' then none else (early s (some (bar s p h)) (h', o') r).map ((bar s p h, o') :: ·)
def earlyT (os : List Int) (s : Int) : List (Int × Int) → Option (Int × List (Int × Int))
  | [] => some (os.headD 0, [])
  | l :: r => (early s none l r).map (l.2, ·)
def earlyD : Option (Int × List (Int × Int)) → D
  | none => .non
  | some (h, js) => tabD h js
section
variable {S : Sto} {os : List Int} {s : Int} {ls : List (Int × Int)} {n p : Nat}
/-! ### the bar by the places -/
def Bf (s : Int) (ls : List (Int × Int)) : Nat → Int
  | 0 => Hh ls 0 + 1
  | j + 1 => if Bf s ls j + chg ls j * s > Hh ls (j + 1) + 1 then Bf s ls j + chg ls j * s else Hh ls (j + 1) + 1
theorem tal_self (i : Nat) : (tal ls i - tal ls i) * s = 0 := by rw [Int.sub_self, Int.zero_mul]
theorem bf_max {x : Int} : ∀ {j : Nat}, x < Bf s ls j ↔ ∃ i, i ≤ j ∧ x < Hh ls i + 1 + (tal ls j - tal ls i) * s
  | 0 => by
    rw [Bf]
    constructor
    · intro h
      exact ⟨0, Nat.le_refl _, by rw [tal_self]; omega⟩
    · rintro ⟨i, hi, h⟩
      have e : i = 0 := by omega
      subst e
      rw [tal_self] at h
      omega
  | j + 1 => by
    have ih := bf_max (x := x - chg ls j * s) (j := j)
    have e : ∀ i, (tal ls (j + 1) - tal ls i) * s = (tal ls j - tal ls i) * s + chg ls j * s := fun i => by
      rw [tal, ← Int.add_mul]
      congr 1
      omega
    rw [Bf]
    constructor
    · intro h
      by_cases c : x < Bf s ls j + chg ls j * s
      · obtain ⟨i, hi, k⟩ := ih.mp (by omega)
        exact ⟨i, by omega, by rw [e]; omega⟩
      · refine ⟨j + 1, Nat.le_refl _, ?_⟩
        rw [tal_self]
        split at h <;> omega
    · rintro ⟨i, hi, k⟩
      by_cases c : i = j + 1
      · subst c
        rw [tal_self] at k
        split <;> omega
      · rw [e] at k
        have := ih.mpr ⟨i, by omega, by omega⟩
        split <;> omega
/-- no stretch that ends at place j + 1 is crowded -/
theorem free_at {j : Nat} : (∀ i, i < j + 1 → ¬ cond s ls i (j + 1) = true) ↔ Bf s ls j + (chg ls j - 1) * s ≤ Hh ls (j + 1) := by
  have key : ∀ i, cond s ls i (j + 1) = true ↔ Hh ls (j + 1) - (chg ls j - 1) * s < Hh ls i + 1 + (tal ls j - tal ls i) * s := fun i => by
    unfold cond
    rw [decide_eq_true_eq]
    have e : (tal ls (j + 1) - tal ls i - 1) * s = (tal ls j - tal ls i) * s + (chg ls j - 1) * s := by
      rw [tal, ← Int.add_mul]
      congr 1
      omega
    rw [e]
    omega
  have m := bf_max (s := s) (ls := ls) (x := Hh ls (j + 1) - (chg ls j - 1) * s) (j := j)
  constructor
  · intro h
    refine Int.not_lt.mp fun c => ?_
    obtain ⟨i, hi, k⟩ := m.mp (by omega)
    exact h i (by omega) ((key i).mpr k)
  · intro h i hi k
    have := m.mpr ⟨i, by omega, (key i).mp k⟩
    omega
theorem crowAt_none {j : Nat} : crowAt s ls j = none ↔ ∀ i, i < j → ¬ cond s ls i j = true := by
  unfold crowAt
  rw [List.findSome?_eq_none_iff]
  constructor
  · intro h i hi k
    have := h (j - 1 - i) (by rw [List.mem_range'_1]; omega)
    rw [show j - 1 - (j - 1 - i) = i by omega, if_pos k] at this
    cases this
  · intro h b hb
    rw [List.mem_range'_1] at hb
    rw [if_neg (h _ (by omega))]
theorem crow_none : crow s ls = none ↔ ∀ j, j + 1 < ls.length → Bf s ls j + (chg ls j - 1) * s ≤ Hh ls (j + 1) := by
  unfold crow
  rw [List.findSome?_eq_none_iff]
  constructor
  · intro h j hj
    exact free_at.mp (crowAt_none.mp (h (j + 1) (by rw [List.mem_range'_1]; omega)))
  · intro h j hj
    rw [List.mem_range'_1] at hj
    refine crowAt_none.mpr ?_
    cases j with
    | zero => exact fun i hi => by omega
    | succ j => exact free_at.mpr (h j (by omega))
theorem get_mid {pre suf : List (Int × Int)} {l : Int × Int} (e : ls = pre ++ l :: suf) : Hh ls pre.length = l.1 ∧ Oo ls pre.length = l.2 := by
  unfold Hh Oo
  rw [e]
  simp [List.getD]
theorem early_some (hs : 0 < s) (asc : ls.Pairwise fun a b => a.1 < b.1) : ∀ (suf : List (Int × Int)) (pre : List (Int × Int)) (p : Option Int) (l : Int × Int), ls = pre ++ l :: suf → Bf s ls pre.length = bar s p l.1 → (∀ q, p = some q → q ≤ l.1) →
    ((∃ js, early s p l suf = some js) ↔ ∀ i, pre.length ≤ i → i + 1 < ls.length → Bf s ls i + (chg ls i - 1) * s ≤ Hh ls (i + 1))
  | [], pre, p, l, e, hb, hq => by
    refine ⟨(fun _ i h1 h2 => ?_), (fun _ => ⟨[], rfl⟩)⟩
    rw [e] at h2
    simp at h2
    omega
  | (h', o') :: r, pre, p, (h, o), e, hb, hq => by
    obtain ⟨e1, e2⟩ := get_mid e
    have e' : ls = (pre ++ [(h, o)]) ++ (h', o') :: r := by rw [e, List.append_assoc] <;> rfl
    obtain ⟨e3, e4⟩ := get_mid e'
    rw [List.length_append, List.length_singleton] at e3 e4
    have len : pre.length + 1 < ls.length := by rw [e]; simp
    have lt : h < h' := by
      have := asc_get asc (show pre.length < pre.length + 1 by omega) len
      rw [e1, e3] at this
      exact this
    simp only at e1 e2 e3 e4 hb hq
    rw [early]
    by_cases c : o' = o
    · have d0 : chg ls pre.length = 0 := by rw [chg, e4, e2, if_pos c]
      have nb : Bf s ls (pre.length + 1) = bar s p h' := by
        rw [Bf, d0, hb, Int.zero_mul, Int.add_zero, e3]
        unfold bar
        cases p with
        | none => simp only; split <;> omega
        | some q => simp only; (repeat' split) <;> omega
      have ih := early_some hs asc r (pre ++ [(h, o)]) p (h', o') e' (by rw [List.length_append, List.length_singleton]; exact nb) (fun q z => by have := hq q z; simp only; omega)
      rw [if_pos c, ih, List.length_append, List.length_singleton]
      refine ⟨fun k i h1 h2 => ?_, fun k i h1 h2 => k i (by omega) h2⟩
      by_cases ci : i = pre.length
      · subst ci
        rw [d0, hb, e3, Int.zero_sub]
        unfold bar
        cases p with
        | none => simp only; omega
        | some q =>
          have := hq q rfl
          simp only
          split <;> omega
      · exact k i (by omega) h2
    · have d1 : chg ls pre.length = 1 := by rw [chg, e4, e2, if_neg c]
      rw [if_neg c]
      by_cases g : bar s p h > h'
      · rw [if_pos g]
        refine ⟨(fun ⟨js, z⟩ => nomatch z), (fun k => ?_)⟩
        have := k pre.length (Nat.le_refl _) len
        rw [d1, hb, e3, Int.sub_self, Int.zero_mul] at this
        omega
      · rw [if_neg g]
        have nb : Bf s ls (pre.length + 1) = bar s (some (bar s p h)) h' := by
          rw [Bf, d1, hb, Int.one_mul, e3]
          rfl
        have ih := early_some hs asc r (pre ++ [(h, o)]) (some (bar s p h)) (h', o') e' (by rw [List.length_append, List.length_singleton]; exact nb) (fun q z => by cases z; simp only; omega)
        rw [List.length_append, List.length_singleton] at ih
        have em : (∃ js, (early s (some (bar s p h)) (h', o') r).map ((bar s p h, o') :: ·) = some js) ↔ ∃ js, early s (some (bar s p h)) (h', o') r = some js := by
          cases early s (some (bar s p h)) (h', o') r <;> simp
        rw [em, ih]
        refine ⟨fun k i h1 h2 => ?_, fun k i h1 h2 => k i (by omega) h2⟩
        by_cases ci : i = pre.length
        · subst ci
          rw [d1, hb, e3, Int.sub_self, Int.zero_mul]
          omega
        · exact k i (by omega) h2
theorem fit_iff (hs : 0 < s) (asc : ls.Pairwise fun a b => a.1 < b.1) : (∃ t, earlyT os s ls = some t) ↔ crow s ls = none := by
  rw [crow_none]
  cases ls with
  | nil => exact ⟨(fun _ j hj => by simp at hj), (fun _ => ⟨_, rfl⟩)⟩
  | cons l r =>
    have k := early_some (ls := l :: r) hs asc r [] none l rfl (by rw [List.length_nil, Bf]; rfl) (fun _ h => nomatch h)
    rw [earlyT]
    have em : (∃ t, (early s none l r).map (l.2, ·) = some t) ↔ ∃ js, early s none l r = some js := by
      cases early s none l r <;> simp
    rw [em, k]
    exact ⟨fun k i h => k i (Nat.zero_le _) h, fun k i _ h => k i h⟩
theorem last_at {js : List (Int × Int)} (h : js ≠ []) : ∃ m o, atI (js.map jmpD) (-1) = some (jmpD (m, o)) ∧ endP none js = some m := by
  have e := (List.dropLast_concat_getLast h).symm
  generalize js.dropLast = d at e
  generalize js.getLast h = l at e
  obtain ⟨m, o⟩ := l
  subst e
  refine ⟨m, o, ?_, endP_snoc⟩
  simp [atI, ixN]
  rw [if_pos (by omega)]
  have : ((-1 : Int) + (d.length + 1)).toNat = d.length := by omega
  simp [this]
theorem early_of_does {Q : D → Sto → Prop} (z : ZoneOK os s) (hl : ls.length ≤ 1000) (q : ∀ c, Q (earlyD (earlyT os s ls)) (S ++ [c])) : (m_early_of [zoneD os s, looksD ls] S).Does Q := by
  refine does_def rfl ?_
  refine seq_cut (fun ρ S' => ρ = [some (zoneD os s), some (looksD ls), some (.cell S.length), none, none, none] ∧ S' = S ++ [.lst []]) (fun M hM => ?_) ?_
  · simp
    exact hM _ _ ⟨rfl, rfl⟩
  rintro ρ _ ⟨rfl, rfl⟩
  rw [does_seq]
  refine Out.Does.mono (N := fun ρ S' => ∃ (js : List (Int × Int)) (h : Int) (x3 x4 : Option D), ρ = [some (zoneD os s), some (looksD ls), some (.cell S.length), x3, x4, none] ∧ S' = S ++ [.lst (js.map jmpD)] ∧ earlyT os s ls = some (h, js)) (R := Q) (B := fun _ _ => False) (C := fun _ _ => False) ?_ ?_ (fun _ _ h => h) (fun _ _ h => h) (fun _ _ h => h)
  · rw [does_for]
    simp only [does_iRange2, does_cons, does_k, does_callB, does_var, does_nil, List.getElem?_cons_zero, List.getElem?_cons_succ, len_looks, optQ_some]
    refine ⟨by omega, ?_⟩
    by_cases hn : ls = []
    · subst hn
      exact ⟨[], _, none, none, rfl, rfl, rfl⟩
    · obtain ⟨l0, rest, hL⟩ : ∃ l0 rest, ls = l0 :: rest := by
        cases ls with
        | nil => exact absurd rfl hn
        | cons a r => exact ⟨a, r, rfl⟩
      have en : ((ls.length : Int) - 1).toNat = rest.length := by rw [hL]; simp
      rw [en]
      refine forL_cut (fun ds ρ S' => ∃ (pre : List (Int × Int)) (l : Int × Int) (suf js : List (Int × Int)) (x3 x4 : Option D), ds = rngD ((pre.length : Int) + 1) suf.length ∧ ρ = [some (zoneD os s), some (looksD ls), some (.cell S.length), x3, x4, none] ∧ ls = pre ++ l :: suf ∧ S' = S ++ [.lst (js.map jmpD)] ∧ js.length ≤ pre.length ∧
        early s none l0 rest = (early s (endP none js) l suf).map (js ++ ·)) _
        ⟨[], l0, rest, [], none, none, rfl, rfl, hL, rfl, Nat.le_refl _, by show _ = (early s none l0 rest).map _; cases early s none l0 rest <;> rfl⟩ ?_ ?_
      · rintro d r ρ S' ⟨pre, ⟨h, o⟩, suf, js, x3, x4, e, rfl, el, rfl, jl, ee⟩
        cases suf with
        | nil => cases e
        | cons l' suf =>
          obtain ⟨h', o'⟩ := l'
          rw [List.length_cons, rngD_cons] at e
          injection e with e1 e2
          subst e1
          refine ⟨_, rfl, fun M hM => ?_⟩
          obtain ⟨g1, g2⟩ := get_mid el
          have el' : ls = (pre ++ [(h, o)]) ++ (h', o') :: suf := by rw [el, List.append_assoc] <;> rfl
          obtain ⟨g3, g4⟩ := get_mid el'
          rw [List.length_append, List.length_singleton] at g3 g4
          have len : pre.length + 1 < ls.length := by rw [el]; simp
          have h1 : (pre.length : Int) + 1 - 1 = (pre.length : Nat) := by omega
          simp only at g1 g2 g3 g4
          rw [does_ifS]
          have e2' : r = rngD (((pre ++ [(h, o)]).length : Int) + 1) suf.length := by rw [e2, List.length_append] <;> rfl
          rw [early] at ee
          have l1 : atI (ls.map jmpD) ((pre.length : Int) + 1) = _ := at_look len
          have l2 := at_look (ls := ls) (i := pre.length) (by omega)
          rw [g3, g4] at l1
          rw [g1, g2] at l2
          by_cases c : o' = o
          · rw [if_pos c] at ee
            simp only [does_op, does_var, does_k, List.getElem?_cons_zero, List.getElem?_cons_succ, List.length_cons, List.length_nil, List.map_cons, List.map_nil, tgN_eq, List.set_cons_succ, List.set_cons_zero, ix_looks, gI_int, optQ_some, h1, l1, l2, ix_jmp1, gNe_int, blQ_bl]
            simp [c]
            exact hM _ _ ⟨pre ++ [(h, o)], (h', o'), suf, js, _, _, e2', rfl, el', rfl, by rw [List.length_append]; omega, ee⟩
          · rw [if_neg c] at ee
            simp only [does_op, does_var, does_k, List.getElem?_cons_zero, List.getElem?_cons_succ, List.length_cons, List.length_nil, List.map_cons, List.map_nil, tgN_eq, List.set_cons_succ, List.set_cons_zero, ix_looks, gI_int, optQ_some, h1, l1, l2, ix_jmp1, gNe_int, blQ_bl]
            have cb : (!(o' == o)) = true := by simp [c]
            rw [if_pos cb]
            refine seq_cut (fun ρ S' => ρ = [some (zoneD os s), some (looksD ls), some (.cell S.length), some (.int ((pre.length : Int) + 1)), some (.int (h + 1)), none] ∧ S' = S ++ [.lst (js.map jmpD)]) (fun M hM => ?_) ?_
            · simp only [does_asg, does_op, does_var, does_k, List.getElem?_cons_zero, List.getElem?_cons_succ, ix_looks, gI_int, optQ_some, h1, l2, ix_jmp0, gAdd_int]
              exact hM _ _ ⟨rfl, rfl⟩
            rintro ρ _ ⟨rfl, rfl⟩
            refine seq_cut (fun ρ S' => ρ = [some (zoneD os s), some (looksD ls), some (.cell S.length), some (.int ((pre.length : Int) + 1)), some (.int (bar s (endP none js) h)), none] ∧ S' = S ++ [.lst (js.map jmpD)]) (fun M hM => ?_) ?_
            · by_cases hj : js = []
              · subst hj
                simp [gLen_cell get_new]
                exact hM _ _ ⟨rfl, rfl⟩
              · obtain ⟨m, o2, a1, a2⟩ := last_at hj
                have := List.length_pos_iff.mpr hj
                simp [gLen_cell get_new, gIx_cell get_new, hj, List.length_pos_iff, a1]
                exact hM _ _ ⟨by rw [a2] <;> rfl, rfl⟩
            rintro ρ _ ⟨rfl, rfl⟩
            generalize bar s (endP none js) h = at' at ee ⊢
            by_cases g : at' > h'
            · rw [if_pos g] at ee
              simp only [does_seq, does_ifS, does_op, does_var, does_k, List.getElem?_cons_zero, List.getElem?_cons_succ, ix_looks, optQ_some, l1, ix_jmp0, gI_int, blQ_bl]
              rw [if_pos (by simpa using g)]
              simp only [does_ret, does_k]
              have ee' : earlyT os s ls = none := by rw [hL, earlyT, ee] <;> rfl
              have q := q (.lst (js.map jmpD))
              rw [ee'] at q
              exact q
            · rw [if_neg g] at ee
              simp only [does_seq, does_ifS, does_op, does_var, does_k, List.getElem?_cons_zero, List.getElem?_cons_succ, ix_looks, optQ_some, l1, ix_jmp0, ix_jmp1, gI_int, blQ_bl, does_nop, does_app, does_tup, does_cons, does_nil, get_new]
              rw [if_neg (by simpa using g)]
              refine ⟨_, rfl, by simp, _, rfl, by rw [List.length_map]; omega, ?_⟩
              rw [set_new]
              refine hM _ _ ⟨pre ++ [(h, o)], (h', o'), suf, js ++ [(at', o')], _, _, e2', rfl, el', by rw [List.map_append] <;> rfl, by rw [List.length_append, List.length_append]; simp; omega, ?_⟩
              rw [ee, endP_snoc, Option.map_map]
              congr 1
              funext x
              simp
      · rintro ρ S' ⟨pre, ⟨h, o⟩, suf, js, x3, x4, e, rfl, el, rfl, jl, ee⟩
        cases suf with
        | cons l' suf => rw [List.length_cons, rngD_cons] at e; cases e
        | nil =>
          refine ⟨js, l0.2, x3, x4, rfl, rfl, ?_⟩
          rw [hL, earlyT, ee, early]
          simp
  · rintro ρ S' ⟨js, h, x3, x4, rfl, rfl, ee⟩
    have q := q (.lst (js.map jmpD))
    rw [ee] at q
    cases ls with
    | nil =>
      cases z <;> cases ee <;> (simp [gTuple_cell get_new]; exact q)
    | cons l0 rest =>
      have hh : h = l0.2 := by
        rw [earlyT] at ee
        cases x : early s none l0 rest with
        | none => rw [x] at ee; cases ee
        | some y => rw [x] at ee; cases ee; rfl
      subst hh
      have n0 : ¬ (((rest.length + 1 : Nat) : Int) = 0) := by omega
      simp [gTuple_cell get_new]
      exact q
end
end Dm
namespace Dm
open PySem L2
/-- data without cells -/
inductive Plain : Nat → D → Prop
  | non {n : Nat} : Plain n .non
  | int {n : Nat} {i : Int} : Plain n (.int i)
  | bl {n : Nat} {b : Bool} : Plain n (.bl b)
  | str {n : Nat} {x : Str} : Plain n (.str x)
  | tup {n : Nat} {ds : List D} : ds.length ≤ 16777216 → (∀ d, d ∈ ds → Plain n d) → Plain (n + 1) (.tup ds)
theorem Plain.eqv {S : Sto} {n : Nat} {d : D} (h : Plain n d) : Eqv S n d d := by
  induction h with
  | non => exact .non
  | int => exact .int
  | bl => exact .bl
  | str => exact .str
  | tup hl _ ih => exact .tup rfl hl fun i d e a b => by rw [a] at b; cases b; exact ih d (List.mem_of_getElem? a)
theorem Plain.up {n m : Nat} {d : D} (h : Plain n d) (hm : n ≤ m) : Plain m d := by
  induction h generalizing m with
  | non => exact .non
  | int => exact .int
  | bl => exact .bl
  | str => exact .str
  | tup hl _ ih =>
    obtain ⟨k, rfl⟩ : ∃ k, m = k + 1 := ⟨m - 1, by omega⟩
    exact .tup hl fun d hd => ih d hd (by omega)
theorem plain_pair {o : Option (Nat × Nat)} : Plain 1 (pairD o) := by
  cases o with
  | none => exact .non
  | some p => exact .tup (by simp) fun d hd => by simp at hd; rcases hd with rfl | rfl <;> exact .int
theorem same_plain {S : Sto} {n : Nat} {d : D} (h : Plain n d) (hn : n ≤ 29) : m_law_same 30 [d, d] S = .ok (.bl true) S := same30 h.eqv hn
section
variable {S : Sto} {os : List Int} {s : Int} {ls : List (Int × Int)} {n p : Nat}
theorem isNon_early {t : Option (Int × List (Int × Int))} : isNon (earlyD t) = t.isNone := by cases t <;> rfl
theorem isNon_pair {t : Option (Nat × Nat)} : isNon (pairD t) = t.isNone := by cases t <;> rfl
theorem fit_crow (hs : 0 < s) (l : LooksOK os ls) : (earlyT os s ls).isNone = !(crow s ls).isNone := by
  have k := fit_iff (os := os) hs l.asc
  cases e : earlyT os s ls with
  | some t =>
    have := k.mp ⟨t, e⟩
    rw [this] <;> rfl
  | none =>
    cases c : crow s ls with
    | none =>
      obtain ⟨t, z⟩ := k.mpr c
      rw [e] at z; cases z
    | some _ => rfl
theorem looks_fit_does {Q : D → Sto → Prop} (z : ZoneOK os s) (l : LooksOK os ls) (hl : ls.length ≤ 1000) (q : ∀ c, Q (.bl (crow s ls).isNone) (S ++ [c])) : (m_looks_fit [zoneD os s, looksD ls] S).Does Q := by
  refine does_def rfl ?_
  simp
  refine early_of_does z hl fun c => ?_
  simp [isNon_early]
  have k := fit_crow z.sp.1 l
  have k2 : (earlyT os s ls).isSome = (crow s ls).isNone := by
    cases a : earlyT os s ls <;> cases b : crow s ls <;> rw [a, b] at k <;> first | rfl | cases k
  rw [k2]
  exact q c
theorem can_hold_does {Q : D → Sto → Prop} (z : ZoneOK os s) (l : LooksOK os ls) (hl : ls.length ≤ 1000) (q : ∀ c, Q (.bl (crow s ls).isNone) (S ++ [c])) : (m_can_hold [zoneD os s, looksD ls] S).Does Q := by
  refine does_def rfl ?_
  simp [need_zone_ok z, need_looks_ok z l hl]
  exact looks_fit_does z l hl q
theorem crowded_ok (z : ZoneOK os s) (l : LooksOK os ls) (hl : ls.length ≤ 1000) : m_crowded [zoneD os s, looksD ls] S = .ok (pairD (crow s ls)) S := by
  refine pure_of fun Q q => ?_
  refine does_def rfl ?_
  simp [need_zone_ok z, need_looks_ok z l hl, stretch_of_ok z.sp hl, q]
theorem early_table_does {Q : D → Sto → Prop} (z : ZoneOK os s) (l : LooksOK os ls) (hl : ls.length ≤ 1000) (q : ∀ c, Q (earlyD (earlyT os s ls)) (S ++ [c])) : (m_early_table [zoneD os s, looksD ls] S).Does Q := by
  refine does_def rfl ?_
  simp [need_zone_ok z, need_looks_ok z l hl]
  exact early_of_does z hl q
theorem rep_cell (k : Nat) : List.replicate k (D.cell p) = (List.replicate k p).map D.cell := by rw [List.map_replicate]
theorem some_sights_does {u : Int} {Q : D → Sto → Prop} (hp : Pot p S) (z : ZoneOK os s) (u0 : 0 ≤ u) (u1 : u ≤ 60) (q : ∀ ls S', Go p S S' → LooksOK os ls → ls.length ≤ 60 → Q (looksD ls) S') : (m_law_some_sights [.cell p, zoneD os s, .int u] S).Does Q := by
  refine does_def rfl ?_
  simp
  refine draw_does hp (by omega) (by omega) fun r S1 g1 r0 r1 => ?_
  simp
  refine ⟨by omega, ?_⟩
  rw [rep_cell]
  have hP : ∀ n, n = p → Pot n S1 := fun n e => e ▸ g1.pot
  refine make_sights_does (P := (· = p)) hP rfl (fun q hq => (List.mem_replicate.mp hq).2) z (by rw [List.length_replicate]; omega) fun ls S2 g2 l ll => ?_
  exact q ls S2 (g1.trans g2.one) l (by rw [ll, List.length_replicate]; omega)
end
/-- a drawn zone with drawn looks of it -/
structure SightsOK (d : D) : Prop where
  ex : ∃ os s ls, d = .tup [zoneD os s, looksD ls] ∧ ZoneOK os s ∧ LooksOK os ls ∧ ls.length ≤ 60
theorem at8 {r : Int} {a b c d e f g h : Int} (h0 : 0 ≤ r) (h1 : r < 8) : ∃ u, atI [D.int a, .int b, .int c, .int d, .int e, .int f, .int g, .int h] r = some (.int u) ∧ (u = a ∨ u = b ∨ u = c ∨ u = d ∨ u = e ∨ u = f ∨ u = g ∨ u = h) := by
  have e : r = 0 ∨ r = 1 ∨ r = 2 ∨ r = 3 ∨ r = 4 ∨ r = 5 ∨ r = 6 ∨ r = 7 := by omega
  rcases e with rfl | rfl | rfl | rfl | rfl | rfl | rfl | rfl
  · exact ⟨a, rfl, by simp⟩
  · exact ⟨b, rfl, by simp⟩
  · exact ⟨c, rfl, by simp⟩
  · exact ⟨d, rfl, by simp⟩
  · exact ⟨e, rfl, by simp⟩
  · exact ⟨f, rfl, by simp⟩
  · exact ⟨g, rfl, by simp⟩
  · exact ⟨h, rfl, by simp⟩
end Dm
-- text HmEtab
namespace Dm
open PySem L2
section
variable {S : Sto} {os : List Int} {s h : Int} {ls js : List (Int × Int)} {n p : Nat}
theorem bar_gt {q : Option Int} {x : Int} : x < bar s q x := by
  unfold bar
  cases q with
  | none => simp only; omega
  | some q => simp only; split <;> omega
theorem bar_ge {q x : Int} : q + s ≤ bar s (some q) x := by
  unfold bar
  simp only
  split <;> omega
theorem early_chain : ∀ {suf : List (Int × Int)} {p : Option Int} {l : Int × Int} {js : List (Int × Int)}, early s p l suf = some js → (∀ x, x ∈ suf → x.2 ∈ os) → Chain os s l.2 p js
  | [], p, l, js, e, _ => by cases e; trivial
  | (h', o') :: r, p, (h, o), js, e, m => by
    rw [early] at e
    by_cases c : o' = o
    · rw [if_pos c] at e
      have ih := early_chain e fun x hx => m x (List.mem_cons_of_mem _ hx)
      simp only at ih ⊢
      rw [← c]; exact ih
    · rw [if_neg c] at e
      by_cases g : bar s p h > h'
      · rw [if_pos g] at e; cases e
      · rw [if_neg g] at e
        cases w : early s (some (bar s p h)) (h', o') r with
        | none => rw [w] at e; cases e
        | some js' =>
          rw [w] at e
          cases e
          refine ⟨m _ List.mem_cons_self, c, fun q hq => ?_, early_chain w fun x hx => m x (List.mem_cons_of_mem _ hx)⟩
          subst hq
          exact bar_ge
theorem early_head : ∀ {suf : List (Int × Int)} {p : Option Int} {l : Int × Int} {js : List (Int × Int)}, early s p l suf = some js → (l :: suf).Pairwise (fun a b => a.1 < b.1) → ∀ j, js.head? = some j → l.1 < j.1
  | [], p, l, js, e, _, j, hj => by cases e; cases hj
  | (h', o') :: r, p, (h, o), js, e, asc, j, hj => by
    rw [early] at e
    obtain ⟨a1, a2⟩ := List.pairwise_cons.mp asc
    by_cases c : o' = o
    · rw [if_pos c] at e
      have := early_head e a2 j hj
      have := a1 _ List.mem_cons_self
      simp only at *
      omega
    · rw [if_neg c] at e
      by_cases g : bar s p h > h'
      · rw [if_pos g] at e; cases e
      · rw [if_neg g] at e
        cases w : early s (some (bar s p h)) (h', o') r with
        | none => rw [w] at e; cases e
        | some js' =>
          rw [w] at e
          cases e
          cases hj
          exact bar_gt
theorem early_holds : ∀ {suf : List (Int × Int)} {p : Option Int} {l : Int × Int} {js : List (Int × Int)}, early s p l suf = some js → (l :: suf).Pairwise (fun a b => a.1 < b.1) → ∀ x, x ∈ l :: suf → offAt l.2 js x.1 = x.2
  | suf, p, l, js, e, asc, x, hx => by
    have hd := early_head e asc
    rcases List.mem_cons.mp hx with rfl | hy
    · cases js with
      | nil => rfl
      | cons j t =>
        obtain ⟨a, o⟩ := j
        rw [offAt, if_pos (hd _ rfl)]
    · cases suf with
      | nil => cases hy
      | cons l' r =>
        obtain ⟨h', o'⟩ := l'
        obtain ⟨h, o⟩ := l
        rw [early] at e
        obtain ⟨a1, a2⟩ := List.pairwise_cons.mp asc
        by_cases c : o' = o
        · rw [if_pos c] at e
          have ih := early_holds e a2 x hy
          simp only at ih ⊢
          rw [← c]; exact ih
        · rw [if_neg c] at e
          by_cases g : bar s p h > h'
          · rw [if_pos g] at e; cases e
          · rw [if_neg g] at e
            cases w : early s (some (bar s p h)) (h', o') r with
            | none => rw [w] at e; cases e
            | some js' =>
              rw [w] at e
              cases e
              have hx' : h' ≤ x.1 := by
                rcases List.mem_cons.mp hy with rfl | hw
                · exact Int.le_refl _
                · have := (List.pairwise_cons.mp a2).1 x hw
                  simp only at this
                  omega
              show offAt o ((bar s p h, o') :: js') x.1 = x.2
              rw [offAt, if_neg (by omega)]
              exact early_holds w a2 x hy
theorem earlyT_tab (z : ZoneOK os s) (l : LooksOK os ls) (e : earlyT os s ls = some (h, js)) : TabOK os s h js := by
  cases ls with
  | nil => cases z <;> cases e <;> exact ⟨by simp, trivial⟩
  | cons a r =>
    rw [earlyT] at e
    cases w : early s none a r with
    | none => rw [w] at e; cases e
    | some js' =>
      rw [w] at e
      cases e
      exact ⟨l.mem _ List.mem_cons_self, early_chain w fun x hx => l.mem x (List.mem_cons_of_mem _ hx)⟩
theorem earlyT_holds (l : LooksOK os ls) (e : earlyT os s ls = some (h, js)) : ∀ x, x ∈ ls → offAt h js x.1 = x.2 := by
  cases ls with
  | nil => exact fun x hx => nomatch hx
  | cons a r =>
    rw [earlyT] at e
    cases w : early s none a r with
    | none => rw [w] at e; cases e
    | some js' =>
      rw [w] at e
      cases e
      exact early_holds w l.asc
theorem early_len : ∀ {suf : List (Int × Int)} {p : Option Int} {l : Int × Int} {js : List (Int × Int)}, early s p l suf = some js → js.length ≤ suf.length
  | [], p, l, js, e => by cases e; exact Nat.le_refl _
  | (h', o') :: r, p, (h, o), js, e => by
    rw [early] at e
    by_cases c : o' = o
    · rw [if_pos c] at e
      have := early_len e
      simp; omega
    · rw [if_neg c] at e
      by_cases g : bar s p h > h'
      · rw [if_pos g] at e; cases e
      · rw [if_neg g] at e
        cases w : early s (some (bar s p h)) (h', o') r with
        | none => rw [w] at e; cases e
        | some js' =>
          rw [w] at e
          cases e
          have := early_len w
          simp; omega
theorem earlyT_len (e : earlyT os s ls = some (h, js)) : js.length ≤ ls.length := by
  cases ls with
  | nil => cases e; exact Nat.le_refl _
  | cons a r =>
    rw [earlyT] at e
    cases w : early s none a r with
    | none => rw [w] at e; cases e
    | some js' =>
      rw [w] at e
      cases e
      have := early_len w
      simp; omega
theorem plain_jmp {j : Int × Int} : Plain 1 (jmpD j) := .tup (by simp) fun d hd => by simp at hd; rcases hd with rfl | rfl <;> exact .int
theorem plain_tab (hl : js.length ≤ 16777216) : Plain 3 (tabD h js) := by
  refine .tup (by simp) fun d hd => ?_
  simp at hd
  rcases hd with rfl | rfl
  · exact .int
  · refine .tup (by rw [List.length_map]; exact hl) fun d hd => ?_
    obtain ⟨j, _, rfl⟩ := List.mem_map.mp hd
    exact plain_jmp
theorem among_int {o : Int} : m_law_among [.int o, .tup (os.map .int)] S = .ok (.bl (decide (o ∈ os))) S := by
  refine pure_of fun Q q => ?_
  refine does_def rfl ?_
  simp [gIn_ints, q]
theorem is_chart_does {Q : D → Sto → Prop} (t : TabOK os s h js) (hl : js.length ≤ 1000) (q : ∀ c, Q (.bl true) (S ++ [c])) : (m_law_is_chart [zoneD os s, tabD h js] S).Does Q := by
  refine does_def rfl ?_
  simp [isTn, among_int, t.held]
  refine forL_cut (fun ds ρ S' => ∃ (h' : Int) (pm : Option Int) (suf : List (Int × Int)) (acc : List Int) (x6 : Option D), ds = suf.map jmpD ∧ ρ = [some (zoneD os s), some (tabD h js), some (.tup (os.map .int)), some (.int s), some (.int h'), some (.cell S.length), x6] ∧ S' = S ++ [.lst (acc.map .int)] ∧ Chain os s h' pm suf ∧ acc.length + suf.length ≤ 1000 ∧
    (acc ≠ [] → ∃ a, pm = some a ∧ atI (acc.map D.int) (-1) = some (.int a))) _ ⟨h, none, js, [], none, rfl, rfl, rfl, t.chain, by simpa using hl, fun h => (h rfl).elim⟩ ?_ ?_
  · rintro d r ρ S' ⟨h', pm, suf, acc, x6, e, rfl, rfl, ch, ln, la⟩
    cases suf with
    | nil => cases e
    | cons j suf =>
      obtain ⟨m, o⟩ := j
      injection e with e1 e2
      subst e1
      obtain ⟨c1, c2, c3, c4⟩ := ch
      refine ⟨_, rfl, fun M hM => ?_⟩
      have fin : ∀ (x : Option D), M [some (zoneD os s), some (tabD h js), some (.tup (os.map .int)), some (.int s), some (.int o), some (.cell S.length), x] (S ++ [.lst ((acc ++ [m]).map .int)]) := fun x =>
        hM _ _ ⟨o, some m, suf, acc ++ [m], x, e2, rfl, rfl, c4, by simp at ln ⊢; omega, fun _ => ⟨m, rfl, by
          simp [atI, ixN]
          rw [if_pos (by omega)]
          have : ((-1 : Int) + (acc.length + 1)).toNat = acc.length := by omega
          simp [this]⟩⟩
      simp [isTn, among_int, c1, c2, gLen_cell get_new, gIx_cell get_new]
      by_cases ha : acc = []
      · subst ha
        simpa [set_new] using fin _
      · obtain ⟨a, rfl, ea⟩ := la ha
        have c5 := c3 a rfl
        have c6 : ¬ m < a + s := by omega
        simp [ha, List.length_pos_iff, ea, c6, get_new, set_new]
        simp at ln
        exact ⟨by omega, by simpa using fin _⟩
  · rintro ρ S' ⟨h', pm, suf, acc, x6, e, rfl, rfl, ch, ln, la⟩
    exact q _
theorem early_chart_does {Q : D → Sto → Prop} {h0 : Int} {js0 : List (Int × Int)} (z : ZoneOK os s) (hl : ls.length ≤ 1000) (e0 : earlyT os s ls = some (h0, js0)) (q : ∀ c, Q (tabD h0 js0) (S ++ [c])) : (m_law_early_chart [zoneD os s, looksD ls] S).Does Q := by
  refine does_def rfl ?_
  refine seq_cut (fun ρ S' => ρ = [some (zoneD os s), some (looksD ls), some (.cell S.length), none, none] ∧ S' = S ++ [.lst []]) (fun M hM => ?_) ?_
  · simp
    exact hM _ _ ⟨rfl, rfl⟩
  rintro ρ _ ⟨rfl, rfl⟩
  rw [does_seq]
  refine Out.Does.mono (N := fun ρ S' => ∃ (js : List (Int × Int)) (h : Int) (x3 x4 : Option D), ρ = [some (zoneD os s), some (looksD ls), some (.cell S.length), x3, x4] ∧ S' = S ++ [.lst (js.map jmpD)] ∧ earlyT os s ls = some (h, js)) (R := Q) (B := fun _ _ => False) (C := fun _ _ => False) ?_ ?_ (fun _ _ h => h) (fun _ _ h => h) (fun _ _ h => h)
  · rw [does_for]
    simp only [does_iRange2, does_cons, does_k, does_callB, does_var, does_nil, List.getElem?_cons_zero, List.getElem?_cons_succ, len_looks, optQ_some]
    refine ⟨by omega, ?_⟩
    by_cases hn : ls = []
    · subst hn
      exact ⟨[], _, none, none, rfl, rfl, rfl⟩
    · obtain ⟨l0, rest, hL⟩ : ∃ l0 rest, ls = l0 :: rest := by
        cases ls with
        | nil => exact absurd rfl hn
        | cons a r => exact ⟨a, r, rfl⟩
      have en : ((ls.length : Int) - 1).toNat = rest.length := by rw [hL]; simp
      rw [en]
      refine forL_cut (fun ds ρ S' => ∃ (pre : List (Int × Int)) (l : Int × Int) (suf js : List (Int × Int)) (x3 x4 : Option D), ds = rngD ((pre.length : Int) + 1) suf.length ∧ ρ = [some (zoneD os s), some (looksD ls), some (.cell S.length), x3, x4] ∧ ls = pre ++ l :: suf ∧ S' = S ++ [.lst (js.map jmpD)] ∧ js.length ≤ pre.length ∧
        early s none l0 rest = (early s (endP none js) l suf).map (js ++ ·)) _
        ⟨[], l0, rest, [], none, none, rfl, rfl, hL, rfl, Nat.le_refl _, by show _ = (early s none l0 rest).map _; cases early s none l0 rest <;> rfl⟩ ?_ ?_
      · rintro d r ρ S' ⟨pre, ⟨h, o⟩, suf, js, x3, x4, e, rfl, el, rfl, jl, ee⟩
        cases suf with
        | nil => cases e
        | cons l' suf =>
          obtain ⟨h', o'⟩ := l'
          rw [List.length_cons, rngD_cons] at e
          injection e with e1 e2
          subst e1
          refine ⟨_, rfl, fun M hM => ?_⟩
          obtain ⟨g1, g2⟩ := get_mid el
          have el' : ls = (pre ++ [(h, o)]) ++ (h', o') :: suf := by rw [el, List.append_assoc] <;> rfl
          obtain ⟨g3, g4⟩ := get_mid el'
          rw [List.length_append, List.length_singleton] at g3 g4
          have len : pre.length + 1 < ls.length := by rw [el]; simp
          have h1 : (pre.length : Int) + 1 - 1 = (pre.length : Nat) := by omega
          simp only at g1 g2 g3 g4
          rw [does_ifS]
          have e2' : r = rngD (((pre ++ [(h, o)]).length : Int) + 1) suf.length := by rw [e2, List.length_append] <;> rfl
          rw [early] at ee
          have l1 : atI (ls.map jmpD) ((pre.length : Int) + 1) = _ := at_look len
          have l2 := at_look (ls := ls) (i := pre.length) (by omega)
          rw [g3, g4] at l1
          rw [g1, g2] at l2
          by_cases c : o' = o
          · rw [if_pos c] at ee
            simp only [does_op, does_var, does_k, List.getElem?_cons_zero, List.getElem?_cons_succ, List.length_cons, List.length_nil, List.map_cons, List.map_nil, tgN_eq, List.set_cons_succ, List.set_cons_zero, ix_looks, gI_int, optQ_some, h1, l1, l2, ix_jmp1, gNe_int, blQ_bl]
            simp [c]
            exact hM _ _ ⟨pre ++ [(h, o)], (h', o'), suf, js, _, _, e2', rfl, el', rfl, by rw [List.length_append]; omega, ee⟩
          · rw [if_neg c] at ee
            simp only [does_op, does_var, does_k, List.getElem?_cons_zero, List.getElem?_cons_succ, List.length_cons, List.length_nil, List.map_cons, List.map_nil, tgN_eq, List.set_cons_succ, List.set_cons_zero, ix_looks, gI_int, optQ_some, h1, l1, l2, ix_jmp1, gNe_int, blQ_bl]
            have cb : (!(o' == o)) = true := by simp [c]
            rw [if_pos cb]
            refine seq_cut (fun ρ S' => ρ = [some (zoneD os s), some (looksD ls), some (.cell S.length), some (.int ((pre.length : Int) + 1)), some (.int (h + 1))] ∧ S' = S ++ [.lst (js.map jmpD)]) (fun M hM => ?_) ?_
            · simp only [does_asg, does_op, does_var, does_k, List.getElem?_cons_zero, List.getElem?_cons_succ, ix_looks, gI_int, optQ_some, h1, l2, ix_jmp0, gAdd_int]
              exact hM _ _ ⟨rfl, rfl⟩
            rintro ρ _ ⟨rfl, rfl⟩
            refine seq_cut (fun ρ S' => ρ = [some (zoneD os s), some (looksD ls), some (.cell S.length), some (.int ((pre.length : Int) + 1)), some (.int (bar s (endP none js) h))] ∧ S' = S ++ [.lst (js.map jmpD)]) (fun M hM => ?_) ?_
            · by_cases hj : js = []
              · subst hj
                simp [gLen_cell get_new]
                exact hM _ _ ⟨rfl, rfl⟩
              · obtain ⟨m, o2, a1, a2⟩ := last_at hj
                have := List.length_pos_iff.mpr hj
                simp [gLen_cell get_new, gIx_cell get_new, hj, List.length_pos_iff, a1]
                exact hM _ _ ⟨by rw [a2] <;> rfl, rfl⟩
            rintro ρ _ ⟨rfl, rfl⟩
            generalize bar s (endP none js) h = at' at ee ⊢
            by_cases g : at' > h'
            · rw [if_pos g] at ee
              have ee' : earlyT os s ls = none := by rw [hL, earlyT, ee] <;> rfl
              rw [e0] at ee'
              cases ee'
            · rw [if_neg g] at ee
              simp only [does_seq, does_ifS, does_op, does_var, does_k, List.getElem?_cons_zero, List.getElem?_cons_succ, ix_looks, optQ_some, l1, ix_jmp0, ix_jmp1, gI_int, blQ_bl, does_nop, does_app, does_tup, does_cons, does_nil, get_new]
              refine ⟨_, rfl, by simp, _, rfl, by rw [List.length_map]; omega, ?_⟩
              rw [set_new]
              refine hM _ _ ⟨pre ++ [(h, o)], (h', o'), suf, js ++ [(at', o')], _, _, e2', rfl, el', by rw [List.map_append] <;> rfl, by rw [List.length_append, List.length_append]; simp; omega, ?_⟩
              rw [ee, endP_snoc, Option.map_map]
              congr 1
              funext x
              simp
      · rintro ρ S' ⟨pre, ⟨h, o⟩, suf, js, x3, x4, e, rfl, el, rfl, jl, ee⟩
        cases suf with
        | cons l' suf => rw [List.length_cons, rngD_cons] at e; cases e
        | nil =>
          refine ⟨js, l0.2, x3, x4, rfl, rfl, ?_⟩
          rw [hL, earlyT, ee, early]
          simp
  · rintro ρ S' ⟨js, h, x3, x4, rfl, rfl, ee⟩
    have q := q (.lst (js.map jmpD))
    rw [e0] at ee
    cases ee
    cases ls with
    | nil =>
      cases z <;> cases e0 <;> (simp; exact q)
    | cons l0 rest =>
      have hh : h0 = l0.2 := by
        rw [earlyT] at e0
        cases x : early s none l0 rest with
        | none => rw [x] at e0; cases e0
        | some y => rw [x] at e0; cases e0; rfl
      subst hh
      simp [gTuple_cell get_new]
      exact q
end
end Dm
-- text HmHold
namespace Dm
open PySem L2
/-! ### looks that some table has are not crowded -/
def aft : Int → List (Int × Int) → Int → Int × List (Int × Int)
  | o, [], _ => (o, [])
  | o, (a, b) :: r, t => if t < a then (o, (a, b) :: r) else aft b r t
section
variable {os : List Int} {s h : Int} {ls js : List (Int × Int)}
theorem aft_off {t x : Int} (hx : t ≤ x) : ∀ {o : Int} {jr : List (Int × Int)}, offAt (aft o jr t).1 (aft o jr t).2 x = offAt o jr x
  | o, [] => rfl
  | o, (a, b) :: r => by
    rw [aft]
    by_cases c : t < a
    · rw [if_pos c]
    · rw [if_neg c, aft_off hx, offAt, if_neg (by omega)]
theorem aft_held {t : Int} : ∀ {o : Int} {jr : List (Int × Int)}, (aft o jr t).1 = offAt o jr t
  | o, [] => rfl
  | o, (a, b) :: r => by
    rw [aft, offAt]
    by_cases c : t < a
    · rw [if_pos c, if_pos c]
    · rw [if_neg c, if_neg c, aft_held]
theorem aft_late {t : Int} : ∀ {o : Int} {jr : List (Int × Int)}, ∀ j, (aft o jr t).2.head? = some j → t < j.1
  | o, [], j, h => nomatch h
  | o, (a, b) :: r, j, h => by
    rw [aft] at h
    by_cases c : t < a
    · rw [if_pos c] at h; cases h; exact c
    · rw [if_neg c] at h; exact aft_late j h
theorem aft_chain {t : Int} (hs : 0 < s) : ∀ {o : Int} {p : Option Int} {jr : List (Int × Int)}, Chain os s o p jr → ∃ p', Chain os s (aft o jr t).1 p' (aft o jr t).2
  | o, p, [], h => ⟨p, h⟩
  | o, p, (a, b) :: r, h => by
    rw [aft]
    by_cases c : t < a
    · rw [if_pos c]; exact ⟨p, h⟩
    · rw [if_neg c]; exact aft_chain hs h.2.2.2
/-- the jump behind comes a spacing later -/
theorem aft_gap {t : Int} (hs : 0 < s) : ∀ {jr : List (Int × Int)} {o p : Int}, Chain os s o (some p) jr → ∀ j, (aft o jr t).2.head? = some j → p + s ≤ j.1
  | [], o, p, h, j, hj => nomatch hj
  | (a, b) :: r, o, p, h, j, hj => by
    have e := h.2.2.1 p rfl
    rw [aft] at hj
    by_cases c : t < a
    · rw [if_pos c] at hj; cases hj; exact e
    · rw [if_neg c] at hj
      have := aft_gap hs h.2.2.2 j hj
      omega
theorem held_early (hs : 0 < s) : ∀ {suf : List (Int × Int)} {p pr : Option Int} {l : Int × Int} {jr : List (Int × Int)}, (l :: suf).Pairwise (fun a b => a.1 < b.1) → Chain os s l.2 pr jr → (∀ j, jr.head? = some j → bar s p l.1 ≤ j.1) → (∀ x, x ∈ suf → offAt l.2 jr x.1 = x.2) → ∃ js, early s p l suf = some js
  | [], p, pr, l, jr, _, _, _, _ => ⟨[], rfl⟩
  | (h', o') :: r, p, pr, (h, o), jr, asc, ch, hb, hx => by
    obtain ⟨a1, a2⟩ := List.pairwise_cons.mp asc
    have lt : h < h' := a1 _ List.mem_cons_self
    have ho : offAt o jr h' = o' := hx _ List.mem_cons_self
    obtain ⟨p', ch'⟩ := aft_chain (t := h') hs ch
    have held : (aft o jr h').1 = o' := by rw [aft_held]; exact ho
    rw [held] at ch'
    have hx' : ∀ x, x ∈ r → offAt o' (aft o jr h').2 x.1 = x.2 := fun x hm => by
      have lx : h' ≤ x.1 := Int.le_of_lt ((List.pairwise_cons.mp a2).1 x hm)
      have := aft_off lx (o := o) (jr := jr)
      rw [held] at this
      rw [this]
      exact hx x (List.mem_cons_of_mem _ hm)
    have late := aft_late (t := h') (o := o) (jr := jr)
    rw [early]
    by_cases c : o' = o
    · rw [if_pos c]
      refine held_early hs (p := p) a2 ch' (fun j hj => ?_) hx'
      have l1 := late j hj
      simp only
      cases p with
      | none => unfold bar; simp only; omega
      | some pv =>
        have : pv + s ≤ j.1 := by
          cases jr with
          | nil => cases hj
          | cons q t =>
            obtain ⟨a, b⟩ := q
            have b1 := hb _ rfl
            have b2 : pv + s ≤ bar s (some pv) h := bar_ge
            rw [aft] at hj
            by_cases g : h' < a
            · rw [if_pos g] at hj; cases hj
              simp only at b1 ⊢
              omega
            · rw [if_neg g] at hj
              have := aft_gap hs ch.2.2.2 j hj
              simp only at b1
              omega
        unfold bar
        simp only
        split <;> omega
    · rw [if_neg c]
      cases jr with
      | nil => exact absurd ho.symm c
      | cons q t =>
        obtain ⟨a, b⟩ := q
        have b1 := hb _ rfl
        simp only at b1
        have g : ¬ h' < a := fun g => by
          rw [offAt, if_pos g] at ho
          exact c ho.symm
        rw [if_neg (by omega)]
        obtain ⟨js, e⟩ := held_early hs (p := some (bar s p h)) a2 ch' (fun j hj => by
          have l1 := late j hj
          have : bar s p h + s ≤ j.1 := by
            rw [aft, if_neg g] at hj
            have := aft_gap hs ch.2.2.2 j hj
            omega
          simp only
          generalize bar s p h = v at this
          unfold bar
          simp only
          split <;> omega) hx'
        exact ⟨_, by rw [e] <;> rfl⟩
theorem held_fit (hs : 0 < s) (asc : ls.Pairwise fun a b => a.1 < b.1) (t : TabOK os s h js) (hx : ∀ x, x ∈ ls → offAt h js x.1 = x.2) : ∃ t, earlyT os s ls = some t := by
  cases ls with
  | nil => exact ⟨_, rfl⟩
  | cons l r =>
    obtain ⟨p', ch⟩ := aft_chain (t := l.1) hs t.chain
    have held : (aft h js l.1).1 = l.2 := by rw [aft_held]; exact hx _ List.mem_cons_self
    rw [held] at ch
    obtain ⟨js', e⟩ := held_early hs (p := none) (jr := (aft h js l.1).2) asc ch (fun j hj => by
      have := aft_late j hj
      unfold bar
      simp only
      omega) fun x hm => by
      have lx : l.1 ≤ x.1 := Int.le_of_lt ((List.pairwise_cons.mp asc).1 x hm)
      have := aft_off lx (o := h) (jr := js)
      rw [held] at this
      rw [this]
      exact hx x (List.mem_cons_of_mem _ hm)
    exact ⟨_, by rw [earlyT, e] <;> rfl⟩
/-- looks among looks that can be can be -/
theorem crow_sub {ls' : List (Int × Int)} (z : ZoneOK os s) (l : LooksOK os ls) (asc : ls'.Pairwise fun a b => a.1 < b.1) (sub : ∀ x, x ∈ ls' → x ∈ ls) (h : crow s ls = none) : crow s ls' = none := by
  obtain ⟨⟨h0, js⟩, e⟩ := (fit_iff (os := os) z.sp.1 l.asc).mpr h
  refine (fit_iff (os := os) z.sp.1 asc).mp ?_
  exact held_fit z.sp.1 asc (earlyT_tab z l e) fun x hx => earlyT_holds l e x (sub x hx)
/-! ### the first crowded stretch -/
theorem crowAt_some {i j k : Nat} : crowAt s ls j = some (i, k) ↔ k = j ∧ i < j ∧ cond s ls i j = true ∧ ∀ i', i < i' → i' < j → ¬ cond s ls i' j = true := by
  have gen : ∀ (m u : Nat), u + m = j → ((List.range' u m).findSome? (fun b => if cond s ls (j - 1 - b) j then some (j - 1 - b, j) else none) = some (i, k) ↔ k = j ∧ i < m ∧ cond s ls i j = true ∧ ∀ i', i < i' → i' < m → ¬ cond s ls i' j = true) := by
    intro m
    induction m with
    | zero => intro u hu; simp
    | succ m ih =>
      intro u hu
      rw [fs_cons]
      have e : j - 1 - u = m := by omega
      rw [e]
      by_cases c : cond s ls m j = true
      · rw [if_pos c]
        simp only [Option.some_or, Option.some.injEq, Prod.mk.injEq]
        constructor
        · rintro ⟨rfl, rfl⟩
          exact ⟨rfl, by omega, c, fun i' h1 h2 => by omega⟩
        · rintro ⟨rfl, h1, h2, h3⟩
          refine ⟨?_, rfl⟩
          by_cases q : i = m
          · exact q.symm
          · exact absurd c (h3 m (by omega) (by omega))
      · rw [if_neg c, Option.none_or, ih (u + 1) (by omega)]
        constructor
        · rintro ⟨h0, h1, h2, h3⟩
          refine ⟨h0, by omega, h2, fun i' a b => ?_⟩
          by_cases q : i' = m
          · subst q; exact c
          · exact h3 i' a (by omega)
        · rintro ⟨h0, h1, h2, h3⟩
          refine ⟨h0, ?_, h2, fun i' a b => h3 i' a (by omega)⟩
          by_cases q : i = m
          · subst q; exact absurd h2 c
          · omega
  exact gen j 0 (by omega)
def First (s : Int) (ls : List (Int × Int)) (i j : Nat) : Prop := j < ls.length ∧ i < j ∧ cond s ls i j = true ∧ (∀ i', i < i' → i' < j → ¬ cond s ls i' j = true) ∧ ∀ j', j' < j → ∀ i', i' < j' → ¬ cond s ls i' j' = true
theorem crow_some {i j : Nat} : crow s ls = some (i, j) ↔ First s ls i j := by
  have gen : ∀ (m u : Nat), (List.range' u m).findSome? (fun j => crowAt s ls j) = some (i, j) ↔ u ≤ j ∧ j < u + m ∧ crowAt s ls j = some (i, j) ∧ ∀ j', u ≤ j' → j' < j → crowAt s ls j' = none := by
    intro m
    induction m with
    | zero => intro u; simp; omega
    | succ m ih =>
      intro u
      rw [fs_cons]
      cases c : crowAt s ls u with
      | some q =>
        obtain ⟨a, b⟩ := q
        have ck := (crowAt_some.mp c).1
        subst ck
        simp only [Option.some_or, Option.some.injEq, Prod.mk.injEq]
        constructor
        · rintro ⟨rfl, rfl⟩
          exact ⟨Nat.le_refl _, by omega, c, fun j' h1 h2 => by omega⟩
        · rintro ⟨h1, h2, h3, h4⟩
          by_cases q : j = b
          · subst q; rw [c] at h3; cases h3; exact ⟨rfl, rfl⟩
          · have := h4 b (Nat.le_refl _) (by omega)
            rw [c] at this; cases this
      | none =>
        rw [Option.none_or, ih (u + 1)]
        constructor
        · rintro ⟨h1, h2, h3, h4⟩
          refine ⟨by omega, by omega, h3, fun j' a b => ?_⟩
          by_cases q : j' = u
          · subst q; exact c
          · exact h4 j' (by omega) b
        · rintro ⟨h1, h2, h3, h4⟩
          refine ⟨?_, by omega, h3, fun j' a b => h4 j' (by omega) b⟩
          by_cases q : j = u
          · subst q; rw [c] at h3; cases h3
          · omega
  have k := gen ls.length 0
  unfold crow First
  rw [k]
  constructor
  · rintro ⟨_, h2, h3, h4⟩
    obtain ⟨_, a, b, c⟩ := crowAt_some.mp h3
    exact ⟨by omega, a, b, c, fun j' hj => crowAt_none.mp (h4 j' (Nat.zero_le _) hj)⟩
  · rintro ⟨h1, a, b, c, d⟩
    exact ⟨Nat.zero_le _, by omega, crowAt_some.mpr ⟨rfl, a, b, c⟩, fun j' _ hj => crowAt_none.mpr (d j' hj)⟩
theorem crow_free : crow s ls = none ↔ ∀ j, j < ls.length → ∀ i, i < j → ¬ cond s ls i j = true := by
  unfold crow
  rw [List.findSome?_eq_none_iff]
  constructor
  · intro h j hj
    exact crowAt_none.mp (h j (by rw [List.mem_range'_1]; omega))
  · intro h j hj
    rw [List.mem_range'_1] at hj
    exact crowAt_none.mpr (h j (by omega))
/-! ### parts of looks -/
theorem hh_drop {k i : Nat} : Hh (ls.drop k) i = Hh ls (k + i) := by
  unfold Hh
  simp [List.getD, List.getElem?_drop]
theorem oo_drop {k i : Nat} : Oo (ls.drop k) i = Oo ls (k + i) := by
  unfold Oo
  simp [List.getD, List.getElem?_drop]
theorem chg_drop {k i : Nat} : chg (ls.drop k) i = chg ls (k + i) := by
  unfold chg
  rw [oo_drop, oo_drop] <;> rfl
theorem tal_drop {k : Nat} : ∀ i, tal (ls.drop k) i = tal ls (k + i) - tal ls k
  | 0 => by rw [tal, Nat.add_zero, Int.sub_self]
  | i + 1 => by
    rw [tal, tal_drop i, chg_drop, show k + (i + 1) = (k + i) + 1 from rfl, tal]
    omega
theorem cond_drop {k i j : Nat} : cond s (ls.drop k) i j = cond s ls (k + i) (k + j) := by
  unfold cond
  rw [hh_drop, hh_drop, tal_drop, tal_drop]
  have : tal ls (k + j) - tal ls k - (tal ls (k + i) - tal ls k) - 1 = tal ls (k + j) - tal ls (k + i) - 1 := by omega
  rw [this]
theorem hh_take {m i : Nat} (h : i < m) : Hh (ls.take m) i = Hh ls i := by
  unfold Hh
  simp [List.getD, List.getElem?_take, h]
theorem oo_take {m i : Nat} (h : i < m) : Oo (ls.take m) i = Oo ls i := by
  unfold Oo
  simp [List.getD, List.getElem?_take, h]
theorem tal_take {m : Nat} : ∀ i, i < m → tal (ls.take m) i = tal ls i
  | 0, _ => rfl
  | i + 1, h => by
    rw [tal, tal, tal_take i (by omega)]
    unfold chg
    rw [oo_take h, oo_take (by omega)]
theorem cond_take {m i j : Nat} (hi : i < m) (hj : j < m) : cond s (ls.take m) i j = cond s ls i j := by
  unfold cond
  rw [hh_take hi, hh_take hj, tal_take j hj, tal_take i hi]
theorem first_drop {i j : Nat} (h : First s ls i j) : First s (ls.drop i) 0 (j - i) := by
  obtain ⟨h1, h2, h3, h4, h5⟩ := h
  refine ⟨by rw [List.length_drop]; omega, by omega, ?_, fun i' a b => ?_, fun j' a i' b => ?_⟩
  · rw [cond_drop, Nat.add_zero, show i + (j - i) = j by omega]; exact h3
  · rw [cond_drop, show i + (j - i) = j by omega]; exact h4 _ (by omega) (by omega)
  · rw [cond_drop]; exact h5 _ (by omega) _ (by omega)
theorem first_take {i j : Nat} (h : First s ls i j) : First s (ls.take (j + 1)) i j := by
  obtain ⟨h1, h2, h3, h4, h5⟩ := h
  refine ⟨by rw [List.length_take]; omega, h2, ?_, fun i' a b => ?_, fun j' a i' b => ?_⟩
  · rw [cond_take (by omega) (by omega)]; exact h3
  · rw [cond_take (by omega) (by omega)]; exact h4 _ a b
  · rw [cond_take (by omega) (by omega)]; exact h5 _ a _ b
theorem free_ahead {i j : Nat} (h : First s ls i j) : crow s (ls.take j) = none := by
  obtain ⟨h1, h2, h3, h4, h5⟩ := h
  refine crow_free.mpr fun j' a i' b => ?_
  rw [List.length_take] at a
  rw [cond_take (by omega) (by omega)]
  exact h5 _ (by omega) _ b
theorem free_behind {i j : Nat} (h : First s ls i j) : crow s ((ls.drop (i + 1)).take (j - i)) = none := by
  obtain ⟨h1, h2, h3, h4, h5⟩ := h
  refine crow_free.mpr fun j' a i' b => ?_
  rw [List.length_take, List.length_drop] at a
  rw [cond_take (by omega) (by omega), cond_drop]
  by_cases c : i + 1 + j' = j
  · rw [c]; exact h4 _ (by omega) (by omega)
  · exact h5 _ (by omega) _ (by omega)
end
end Dm
-- text HmLeft
namespace Dm
open PySem L2
theorem cut_take {ds : List D} {k : Int} (h : 0 ≤ k) : cutD ds none (some k) = ds.take k.toNat := by
  unfold cutD
  have e : k = (k.toNat : Int) := by omega
  rw [e, HT.sIx_nat, HT.sIx_none, List.drop_zero, Nat.sub_zero, Int.toNat_natCast]
  by_cases c : k.toNat ≤ ds.length
  · rw [Nat.min_eq_left c]
  · rw [Nat.min_eq_right (by omega), List.take_length, List.take_of_length_le (by omega)]
theorem cut_drop {ds : List D} {k : Int} (h : 0 ≤ k) : cutD ds (some k) none = ds.drop k.toNat := by
  unfold cutD
  have e : k = (k.toNat : Int) := by omega
  rw [e, HT.sIx_nat, HT.sIx_none, Int.toNat_natCast]
  by_cases c : k.toNat ≤ ds.length
  · rw [Nat.min_eq_left c, List.take_of_length_le (by rw [List.length_drop]; omega)]
  · rw [Nat.min_eq_right (by omega), List.drop_eq_nil_of_le (Nat.le_refl _), List.drop_eq_nil_of_le (by omega), List.take_nil]
theorem cut_mid {ds : List D} {k m : Int} (h : 0 ≤ k) (hk : k ≤ m) (hm : m ≤ ds.length) : cutD ds (some k) (some m) = (ds.drop k.toNat).take (m.toNat - k.toNat) := by
  unfold cutD
  have e : k = (k.toNat : Int) := by omega
  have e2 : m = (m.toNat : Int) := by omega
  rw [e, e2, HT.sIx_nat, HT.sIx_nat, Int.toNat_natCast, Int.toNat_natCast, Nat.min_eq_left (by omega), Nat.min_eq_left (by omega)]
/-! ### looks with one more -/
def seen (ls : List (Int × Int)) (m : Int) : Option Int := (ls.find? fun l => l.1 == m).map (·.2)
def seenD : Option Int → D
  | none => .non
  | some o => .int o
def ahead (ls : List (Int × Int)) (m : Int) : List (Int × Int) := ls.filter fun l => decide (l.1 < m)
def withL (ls : List (Int × Int)) (m o : Int) : List (Int × Int) := ahead ls m ++ (m, o) :: ls.drop (ahead ls m).length
section
variable {S : Sto} {os : List Int} {s m o : Int} {ls : List (Int × Int)} {n p : Nat}
theorem offset_seen_ok : m_offset_seen [looksD ls, .int m] S = .ok (seenD (seen ls m)) S := by
  refine pure_of fun Q q => ?_
  refine does_def rfl ?_
  simp
  show Out.Does (forL _ _ (ls.map jmpD) _ _) _ _
  refine forL_cut (fun ds ρ S' => S = S' ∧ ∃ (suf : List (Int × Int)) (x2 x3 : Option D), ds = suf.map jmpD ∧ ρ = [some (looksD ls), some (.int m), x2, x3] ∧ seen ls m = seen suf m) _ ⟨rfl, ls, none, none, rfl, rfl, rfl⟩ ?_ ?_
  · rintro d r ρ _ ⟨rfl, suf, x2, x3, e, rfl, es⟩
    cases suf with
    | nil => cases e
    | cons j suf =>
      obtain ⟨a, b⟩ := j
      injection e with e1 e2
      subst e1
      refine ⟨_, rfl, fun M hM => ?_⟩
      unfold seen at es
      rw [List.find?_cons] at es
      by_cases c : a = m
      · subst c
        simp
        have : seen ls a = some b := by unfold seen; simpa using es
        rw [this] at q
        exact q
      · have cb : (a == m) = false := by simp [c]
        simp only [cb] at es
        simp [c]
        exact hM _ _ ⟨rfl, suf, _, _, e2, rfl, es⟩
  · rintro ρ _ ⟨rfl, suf, x2, x3, e, rfl, es⟩
    cases suf with
    | cons j suf => cases e
    | nil =>
      rw [es] at q
      exact q
theorem ahead_len : (ahead ls m).length ≤ ls.length := List.length_filter_le _ _
theorem with_look_ok (hl : ls.length ≤ 1000) : m_with_look [looksD ls, .int m, .int o] S = .ok (looksD (withL ls m o)) S := by
  refine pure_of fun Q q => ?_
  refine does_def rfl ?_
  have al := ahead_len (ls := ls) (m := m)
  refine seq_cut (fun ρ S' => S = S' ∧ ρ = [some (looksD ls), some (.int m), some (.int o), some (looksD (ahead ls m)), none]) (fun M hM => ?_) ?_
  · simp
    show LcQ _ _ _ _ (ls.map jmpD) _ _
    refine lcQ_filter (fun l => decide (l.1 < m)) jmpD ?_ ?_
    · intro l hl
      refine ⟨_, rfl, fun Q q => ?_, fun Q e q => ?_⟩
      · simpa [wipeD] using q
      · simpa [wipeD] using q
    · exact hM _ _ ⟨rfl, rfl⟩
  rintro ρ _ ⟨rfl, rfl⟩
  simp [looksD]
  rw [cut_drop (by omega), Int.toNat_natCast]
  refine ⟨by omega, by simp; omega, ?_⟩
  have e : looksD (withL ls m o) = .tup (((ahead ls m).map jmpD ++ [.tup [.int m, .int o]]) ++ (ls.map jmpD).drop (ahead ls m).length) := by
    unfold looksD withL
    rw [List.map_append, List.map_cons, List.map_drop, List.append_assoc] <;> rfl
  rw [e] at q
  simpa using q
theorem ahead_split (asc : ls.Pairwise fun a b => a.1 < b.1) : ahead ls m ++ ls.drop (ahead ls m).length = ls ∧ ∀ x, x ∈ ls.drop (ahead ls m).length → m ≤ x.1 := by
  induction ls with
  | nil => exact ⟨rfl, fun x hx => nomatch hx⟩
  | cons l r ih =>
    obtain ⟨a1, a2⟩ := List.pairwise_cons.mp asc
    obtain ⟨i1, i2⟩ := ih a2
    unfold ahead at i1 i2 ⊢
    rw [List.filter_cons]
    by_cases c : l.1 < m
    · rw [if_pos (by simpa using c), List.length_cons, List.drop_succ_cons, List.cons_append, i1]
      exact ⟨rfl, i2⟩
    · rw [if_neg (by simpa using c)]
      have nil : r.filter (fun l => decide (l.1 < m)) = [] := List.filter_eq_nil_iff.mpr fun x hx => by
        have := a1 x hx
        simp; omega
      rw [nil]
      refine ⟨rfl, fun x hx => ?_⟩
      rcases List.mem_cons.mp hx with rfl | hx
      · omega
      · have := a1 x hx; omega
theorem withL_ok (l : LooksOK os ls) (ho : o ∈ os) (hn : seen ls m = none) : LooksOK os (withL ls m o) := by
  obtain ⟨e, late⟩ := ahead_split (m := m) l.asc
  have sub : ∀ x, x ∈ ls.drop (ahead ls m).length → x ∈ ls := fun x hx => List.mem_of_mem_drop hx
  have late' : ∀ x, x ∈ ls.drop (ahead ls m).length → m < x.1 := fun x hx => by
    have h1 := late x hx
    have h2 : x.1 ≠ m := fun z => by
      unfold seen at hn
      rw [Option.map_eq_none_iff, List.find?_eq_none] at hn
      exact hn x (sub x hx) (by simp [z])
    omega
  have early' : ∀ x, x ∈ ahead ls m → x.1 < m := fun x hx => by simpa using (List.mem_filter.mp hx).2
  have asc := l.asc
  rw [← e, List.pairwise_append] at asc
  obtain ⟨p1, p2, p3⟩ := asc
  refine ⟨fun x hx => ?_, ?_⟩
  · unfold withL at hx
    rcases List.mem_append.mp hx with hx | hx
    · exact l.mem x (List.mem_filter.mp hx).1
    · rcases List.mem_cons.mp hx with rfl | hx
      · exact ho
      · exact l.mem x (sub x hx)
  · unfold withL
    rw [List.pairwise_append, List.pairwise_cons]
    refine ⟨p1, ⟨late', p2⟩, fun a ha b hb => ?_⟩
    rcases List.mem_cons.mp hb with rfl | hb
    · exact early' a ha
    · exact p3 a ha b hb
theorem withL_sub (l : LooksOK os ls) : ∀ x, x ∈ ls → x ∈ withL ls m o := fun x hx => by
  obtain ⟨e, _⟩ := ahead_split (m := m) l.asc
  rw [← e] at hx
  unfold withL
  rcases List.mem_append.mp hx with hx | hx
  · exact List.mem_append.mpr (.inl hx)
  · exact List.mem_append.mpr (.inr (List.mem_cons_of_mem _ hx))
theorem withL_len (l : LooksOK os ls) : (withL ls m o).length = ls.length + 1 := by
  obtain ⟨e, _⟩ := ahead_split (m := m) l.asc
  have e2 := congrArg List.length e
  unfold withL
  rw [List.length_append] at e2
  rw [List.length_append, List.length_cons]
  omega
theorem seen_mem {l : LooksOK os ls} (h : seen ls m = some o) : o ∈ os := by
  unfold seen at h
  cases e : ls.find? fun l => l.1 == m with
  | none => rw [e] at h; cases h
  | some x =>
    rw [e] at h
    cases h
    exact l.mem x (List.mem_of_find?_eq_some e)
/-- the offsets that are left -/
def leftOf (os : List Int) (s : Int) (ls : List (Int × Int)) (m : Int) : List Int := match seen ls m with
  | some o => if (crow s ls).isNone then [o] else []
  | none => os.filter fun o => (crow s (withL ls m o)).isNone
/-- cells have come -/
def Grow (S S' : Sto) : Prop := ∃ cs, S' = S ++ cs
theorem Grow.refl : Grow S S := ⟨[], (List.append_nil _).symm⟩
theorem Grow.push {S' : Sto} (h : Grow S S') (c : Cell) : Grow S (S' ++ [c]) := by
  obtain ⟨cs, rfl⟩ := h
  exact ⟨cs ++ [c], by rw [List.append_assoc]⟩
theorem Grow.trans {S1 S2 : Sto} (h : Grow S S1) (h2 : Grow S1 S2) : Grow S S2 := by
  obtain ⟨cs, rfl⟩ := h
  obtain ⟨ds, rfl⟩ := h2
  exact ⟨cs ++ ds, by rw [List.append_assoc]⟩
theorem Grow.get {S' : Sto} {c : Cell} (h : Grow S S') (e : S[n]? = some c) : S'[n]? = some c := by
  obtain ⟨cs, rfl⟩ := h
  rw [List.getElem?_append_left (List.getElem?_eq_some_iff.mp e).1]
  exact e
theorem Grow.len {S' : Sto} (h : Grow S S') : S.length ≤ S'.length := by
  obtain ⟨cs, rfl⟩ := h
  rw [List.length_append]; omega
theorem Grow.go {S' : Sto} (h : Grow S S') (hp : Pot p S) : Go p S S' := by
  refine ⟨h.len, fun n hn _ => ?_, ?_⟩
  · obtain ⟨cs, rfl⟩ := h
    rw [List.getElem?_append_left hn]
  · obtain ⟨k, e⟩ := hp
    exact ⟨k, h.get e⟩
theorem lcQ_ext {f : D → Rho → Option Rho} {mt me : ME} {ρ : Rho} {α : Type} {i : α → D} {S0 : Sto} (t : α → Bool) (g : α → D) : ∀ {as : List α} {S : Sto} {Q : List D → Sto → Prop}, Grow S0 S →
    (∀ a, a ∈ as → ∀ S1, Grow S0 S1 → ∃ ρ1, f (i a) ρ = some ρ1 ∧ (mt ρ1 S1).Does (fun d S2 => d = .bl (t a) ∧ Grow S0 S2) ∧ ∀ S2, Grow S0 S2 → t a = true → (me ρ1 S2).Does (fun d S3 => d = g a ∧ Grow S0 S3)) →
    (∀ S', Grow S0 S' → Q ((as.filter t).map g) S') → LcQ f mt me ρ (as.map i) S Q
  | [], S, Q, hS, h, q => by rw [List.map_nil, lcQ_nil]; exact q S hS
  | a :: r, S, Q, hS, h, q => by
    obtain ⟨ρ1, e, k1, k2⟩ := h a List.mem_cons_self S hS
    rw [List.map_cons, lcQ_cons, e]
    refine k1.mono ?_
    rintro _ S1 ⟨rfl, h1⟩
    rw [blQ_bl]
    cases c : t a with
    | true =>
      rw [if_pos rfl]
      refine (k2 S1 h1 c).mono ?_
      rintro _ S2 ⟨rfl, h2⟩
      refine lcQ_ext t g h2 (fun d hd => h d (List.mem_cons_of_mem _ hd)) fun S' h' => ?_
      have := q S' h'
      rw [List.filter_cons, if_pos c] at this
      exact this
    | false =>
      rw [if_neg (by decide)]
      refine lcQ_ext t g h1 (fun d hd => h d (List.mem_cons_of_mem _ hd)) fun S' h' => ?_
      have := q S' h'
      rw [List.filter_cons, if_neg (by rw [c]; decide)] at this
      exact this
theorem choices_at_does {Q : D → Sto → Prop} (z : ZoneOK os s) (l : LooksOK os ls) (hl : ls.length ≤ 900) (q : ∀ n S', Grow S S' → S.length ≤ n → S'[n]? = some (.lst ((leftOf os s ls m).map .int)) → Q (.cell n) S') : (m_choices_at [zoneD os s, looksD ls, .int m] S).Does Q := by
  refine does_def rfl ?_
  simp [offset_seen_ok]
  unfold leftOf at q
  cases e : seen ls m with
  | some o =>
    rw [e] at q
    simp [seenD]
    refine looks_fit_does z l (by omega) fun c => ?_
    cases d : (crow s ls).isNone with
    | true =>
      simp only [d] at q
      simp
      refine q _ _ ⟨[c, .lst [.int o]], rfl⟩ (by simp) ?_
      simp
    | false =>
      simp only [d] at q
      simp
      refine q _ _ ⟨[c, .lst []], rfl⟩ (by simp) ?_
      simp
  | none =>
    rw [e] at q
    simp [seenD]
    refine lcQ_ext (S0 := S) (i := D.int) (fun o => (crow s (withL ls m o)).isNone) D.int .refl ?_ ?_
    · intro o ho S1 h1
      refine ⟨_, rfl, ?_, fun S2 h2 _ => ?_⟩
      · simp [wipeD, with_look_ok (show ls.length ≤ 1000 by omega)]
        refine looks_fit_does z (withL_ok l ho e) (by rw [withL_len l]; omega) fun c => ?_
        exact ⟨rfl, h1.push c⟩
      · simp [wipeD]
        exact h2
    · intro S' h'
      exact q _ _ (h'.push _) h'.len get_new
theorem offsets_left_does {Q : D → Sto → Prop} (z : ZoneOK os s) (l : LooksOK os ls) (hl : ls.length ≤ 900) (q : ∀ n S', Grow S S' → S.length ≤ n → S'[n]? = some (.lst ((leftOf os s ls m).map .int)) → Q (.cell n) S') : (m_offsets_left [zoneD os s, looksD ls, .int m] S).Does Q := by
  refine does_def rfl ?_
  simp [need_zone_ok z, need_looks_ok z l (show ls.length ≤ 1000 by omega)]
  exact choices_at_does z l hl q
theorem beside_does {Q : D → Sto → Prop} (hp : Pot p S) (z : ZoneOK os s) (hl : ls.length ≤ 1000) (q : ∀ i S', Go p S S' → Q (.int i) S') : (m_law_beside [.cell p, zoneD os s, looksD ls] S).Does Q := by
  have hs := z.sp
  refine does_def rfl ?_
  by_cases h0 : ls = []
  · subst h0
    simp
    exact any_hour_does hp fun i S1 g1 _ _ => q _ _ g1
  · have hlen : 0 < ls.length := List.length_pos_iff.mpr h0
    have hn : ¬ ((ls.length : Int) = 0) := by omega
    simp [hn, h0]
    refine draw_does hp (by decide) (by decide) fun c S1 g1 c0 c1 => ?_
    simp
    by_cases c7 : c = 7
    · simp [c7]
      exact any_hour_does g1.pot fun i S2 g2 _ _ => q _ _ (g1.trans g2)
    · simp [c7]
      refine draw_does g1.pot (by omega) (by omega) fun c S2 g2 d0 d1 => ?_
      obtain ⟨j, ej, hj⟩ := at_jmp d0 d1
      simp [ej]
      refine draw_does g2.pot (by decide) (by decide) fun c2 S3 g3 e0 e1 => ?_
      simp
      refine ⟨cmulw64 (by decide) (by omega), ?_⟩
      refine draw_does g3.pot (by omega) (by omega) fun c3 S4 g4 f0 f1 => ?_
      simp
      refine draw_does g4.pot (by decide) (by decide) fun c4 S5 g5 k0 k1 => ?_
      have e : ∃ u, atI [D.int (c2 - 10), D.int (c3 - s)] c4 = some (.int u) := by
        have e : c4 = 0 ∨ c4 = 1 := by omega
        rcases e with rfl | rfl <;> exact ⟨_, rfl⟩
      obtain ⟨u, eu⟩ := e
      simp [eu]
      refine draw_does g5.pot (by decide) (by decide) fun c5 S6 g6 l0 l1 => ?_
      obtain ⟨x, ex⟩ := at_int (xs := [0, 1, -1, s, -s, s + 1, -s - 1, u, u]) l0 l1
      simp at ex
      simp [ex]
      exact q _ _ ((g1.trans g2).trans ((g3.trans g4).trans (g5.trans g6)))
end
end Dm
-- text HmFind
namespace Dm
open PySem L2
section
variable {S : Sto} {os : List Int} {s h r : Int} {js : List (Int × Int)} {fold gap : Str}
/-! ### the law's gap -/
def gapL (r : Int) : Option (Int × Int) → Int → List (Int × Int) → Option (Int × Int)
  | acc, _, [] => acc
  | acc, h, (a, o) :: t => gapL r (if a ≤ r - h ∧ r - o < a then some (h, o) else acc) o t
theorem off_late {m p : Int} (hm : m < p + s) : ∀ {js : List (Int × Int)} {h : Int}, Chain os s h (some p) js → offAt h js m = h
  | [], _, _ => rfl
  | (a, o) :: t, h, ch => by
    have := ch.2.2.1 p rfl
    rw [offAt, if_pos (by omega)]
theorem gap_late {lo hi : Int} (hs : 0 < s) (hlo : ∀ o, o ∈ os → r - o ≤ hi) : ∀ {js : List (Int × Int)} {h p : Int} {acc : Option (Int × Int)}, h ∈ os → hi < p + s → Chain os s h (some p) js → gapL r acc h js = acc
  | [], _, _, _, _, _, _ => rfl
  | (a, o) :: t, h, p, acc, hh, hp, ch => by
    have h1 := ch.2.2.1 p rfl
    have h2 := hlo h hh
    rw [gapL, if_neg (by omega)]
    exact gap_late (lo := lo) hs hlo ch.1 (by omega) ch.2.2.2
theorem gap_one {lo hi : Int} (hs : 0 < s) (hw : hi - lo < s) (hhi : ∀ o, o ∈ os → r - o ≤ hi) (hlo : ∀ o, o ∈ os → lo ≤ r - o) : ∀ {js : List (Int × Int)} {h : Int} {p : Option Int}, h ∈ os → Chain os s h p js → (∀ o, o ∈ os → offAt h js (r - o) ≠ o) →
    gapL r none h js = some (offAt h js lo, offAt h js hi)
  | [], h, p, hh, ch, no => absurd rfl (no h hh)
  | (a, o) :: t, h, p, hh, ch, no => by
    obtain ⟨c1, c2, c3, c4⟩ := ch
    by_cases c : a ≤ lo
    · have h1 := hlo o c1
      rw [gapL, if_neg (by omega)]
      have e : ∀ m, a ≤ m → offAt h ((a, o) :: t) m = offAt o t m := fun m hm => by rw [offAt, if_neg (by omega)]
      have hl := hlo h hh
      have hh2 := hhi h hh
      rw [e lo c, e hi (by omega)]
      refine gap_one hs hw hhi hlo c1 c4 fun o' ho' => ?_
      have := no o' ho'
      rw [e _ (by have := hlo o' ho'; omega)] at this
      exact this
    · have n1 := no h hh
      have n2 := no o c1
      by_cases d : r - h < a
      · rw [offAt, if_pos d] at n1
        exact absurd rfl n1
      · have h1 := hhi h hh
        by_cases d2 : a ≤ r - o
        · rw [offAt, if_neg (by omega), off_late (p := a) (by have := hhi o c1; omega) c4] at n2
          exact absurd rfl n2
        · rw [gapL, if_pos (by omega), gap_late (lo := lo) hs hhi c1 (show hi < a + s by omega) c4]
          rw [offAt, if_pos (by omega), offAt, if_neg (by omega), off_late (p := a) (by omega) c4]
/-- three moments, no farther apart than jumps -/
theorem two_same {m1 m2 m3 : Int} (h12 : m1 < m2) (h23 : m2 ≤ m3) (hw : m3 - m1 < s) : ∀ {js : List (Int × Int)} {h : Int} {p : Option Int}, Chain os s h p js → offAt h js m1 ≠ offAt h js m2 → offAt h js m2 = offAt h js m3
  | [], _, _, _, ne => absurd rfl ne
  | (a, o) :: t, h, p, ch, ne => by
    by_cases c : m1 < a
    · rw [offAt, if_pos c] at ne
      by_cases d : m2 < a
      · rw [offAt, if_pos d] at ne; exact absurd rfl ne
      · rw [offAt, if_neg d, offAt, if_neg (by omega), off_late (p := a) (by omega) ch.2.2.2, off_late (p := a) (by omega) ch.2.2.2]
    · rw [offAt, if_neg c, offAt, if_neg (by omega)] at ne
      have := two_same h12 h23 hw ch.2.2.2 ne
      rw [offAt, if_neg (by omega), offAt, if_neg (by omega)]
      exact this
/-- the widest offsets -/
structure Ends2 (os : List Int) (s a b : Int) : Prop where
  lo : atI (os.map D.int) 0 = some (.int a)
  hi : atI (os.map D.int) (-1) = some (.int b)
  w : b - a < s
  mem : ∀ o, o ∈ os → a ≤ o ∧ o ≤ b
  ma : a ∈ os
  mb : b ∈ os
theorem ZoneOK.ends2 (z : ZoneOK os s) : ∃ a b, Ends2 os s a b := by
  cases z with
  | one a s => exact ⟨a, a, rfl, rfl, by omega, by simp, by simp, by simp⟩
  | two a b s => exact ⟨a, b, rfl, rfl, by omega, by simp; omega, by simp, by simp⟩
  | three a b c s => exact ⟨a, c, rfl, rfl, by omega, by simp; omega, by simp, by simp⟩
theorem moms_two (z : ZoneOK os s) (t : TabOK os s h js) : (momsOf os h js r).length ≤ 2 := by
  obtain ⟨a, b, E⟩ := z.ends2
  have asc := moms_asc (h := h) (js := js) (r := r) z.asc
  have mm : ∀ m, m ∈ momsOf os h js r → offAt h js m = r - m := fun m hm => (moms_mem (fun m => off_mem t.held t.chain)).mp hm
  match e : momsOf os h js r with
  | [] => simp
  | [_] => simp
  | [_, _] => simp
  | m1 :: m2 :: m3 :: _ =>
    rw [e] at asc mm
    have h1 := mm m1 (by simp)
    have h2 := mm m2 (by simp)
    have h3 := mm m3 (by simp)
    simp only [List.pairwise_cons, List.mem_cons] at asc
    have a1 : m1 < m2 := asc.1 m2 (.inl rfl)
    have a2 : m2 < m3 := asc.2.1 m3 (.inl rfl)
    have o1 := E.mem _ (off_mem (m := m1) t.held t.chain)
    have o3 := E.mem _ (off_mem (m := m3) t.held t.chain)
    have := two_same a1 (Int.le_of_lt a2) (by have := E.w; omega) t.chain (by omega)
    omega
theorem gap_both (z : ZoneOK os s) (t : TabOK os s h js) {a b : Int} (E : Ends2 os s a b) (e : momsOf os h js r = []) : gapL r none h js = some (offAt h js (r - b), offAt h js (r - a)) := by
  have hw := E.w
  refine gap_one z.sp.1 (by omega) (fun o ho => by have := E.mem o ho; omega) (fun o ho => by have := E.mem o ho; omega) t.held t.chain fun o ho hq => ?_
  have : r - o ∈ momsOf os h js r := (moms_mem (fun m => off_mem t.held t.chain)).mpr (by omega)
  rw [e] at this
  exact nomatch this
/-! ### what is found -/
@[simp] theorem gDIx_new {kvs : List (Key × D)} {y : D} : gDIx (S ++ [.dic kvs]) (.cell S.length) y = (keyD y).bind fun k => valD kvs k := gDIx_cell (by simp)
def RuleF (x : Str) : Prop := x = "early" ∨ x = "late" ∨ x = "refuse"
def RuleG (x : Str) : Prop := x = "ahead" ∨ x = "behind" ∨ x = "refuse"
def findO (ms : List Int) (g : Int × Int) (r : Int) (fold gap : Str) : D := match ms with
  | [m] => .int m
  | [m, m'] => if fold = "refuse" then .non else if fold = "early" then .int m else .int m'
  | _ => if gap = "refuse" then .non else if gap = "ahead" then .int (r - g.1) else .int (r - g.2)
theorem valD_put_same {kvs : List (Key × D)} {k : Key} {v : D} : valD (putD kvs k v) k = some v := by
  unfold putD
  split
  · next c =>
    unfold valD
    induction kvs with
    | nil => simp at c
    | cons p kvs ih =>
      rw [List.map_cons, List.find?_cons]
      by_cases e : p.1 = k
      · simp [e]
      · have c2 : (kvs.any fun kv => decide (kv.1 = k)) = true := by
          rw [List.any_cons] at c
          simpa [e] using c
        simp only [if_neg e, decide_eq_false e]
        exact ih c2
  · next c =>
    unfold valD
    have : kvs.find? (fun kv => decide (kv.1 = k)) = none := by
      rw [List.find?_eq_none]
      intro x hx hq
      exact c (List.any_eq_true.mpr ⟨x, hx, hq⟩)
    rw [List.find?_append, this]
    simp
theorem valD_put_other {kvs : List (Key × D)} {k k' : Key} {v : D} (hn : k' ≠ k) : valD (putD kvs k v) k' = valD kvs k' := by
  unfold putD
  split
  · next c =>
    clear c
    unfold valD
    induction kvs with
    | nil => rfl
    | cons p kvs ih =>
      rw [List.map_cons, List.find?_cons, List.find?_cons]
      by_cases e : p.1 = k
      · have e2 : ¬ p.1 = k' := fun q => hn (q.symm.trans e)
        simp only [if_pos e, decide_eq_false e2]
        exact ih
      · simp only [if_neg e]
        by_cases e2 : p.1 = k'
        · simp [e2]
        · simp only [decide_eq_false e2]
          exact ih
  · unfold valD
    rw [List.find?_append]
    have : ¬ k = k' := fun q => hn q.symm
    simp [this]
theorem valD_foldl {α : Type} {k : α → Key} {g : α → D} {a : α} : ∀ {as : List α} {acc : List (Key × D)}, (a ∈ as ∨ valD acc (k a) = some (g a)) → (∀ b, b ∈ as → k b = k a → g b = g a) → valD (as.foldl (fun acc a => putD acc (k a) (g a)) acc) (k a) = some (g a)
  | [], acc, h, _ => by
    rcases h with h | h
    · exact nomatch h
    · exact h
  | b :: as, acc, h, hk => by
    rw [List.foldl_cons]
    refine valD_foldl ?_ fun c hc => hk c (List.mem_cons_of_mem _ hc)
    by_cases e : k b = k a
    · refine .inr ?_
      rw [← e, valD_put_same, hk b List.mem_cons_self e]
    · rcases h with h | h
      · rcases List.mem_cons.mp h with rfl | h
        · exact absurd rfl e
        · exact .inl h
      · refine .inr ?_
        rw [valD_put_other (fun q => e q.symm)]
        exact h
@[simp] theorem flatD_str {x : Str} : flatD (.str x) = true := rfl
/-- by the rules -/
theorem need_rules_ok (hf : RuleF fold) (hg : RuleG gap) : m_need_rules [.str fold, .str gap] S = .ok .non S := by
  refine pure_of fun Q q => ?_
  refine does_def rfl ?_
  rcases hf with rfl | rfl | rfl <;> rcases hg with rfl | rfl | rfl <;> (simp [isTn, gIn, eqF]; exact q)
theorem held_dict {Q : D → Sto → Prop} (q : ∀ kvs, (∀ o, o ∈ os → valD kvs (.inl (r - o)) = some (.int (offAt h js (r - o)))) → Q (.cell S.length) (S ++ [.dic kvs])) {x3 x4 x5 x6 : Option D} :
    (mDcA (mOp gIx (mVar 0) (mK (.int 0))) (tgN 6) mYes (mOp gSub (mVar 2) (mVar 6)) (mCall m_offset_in (mCons (mVar 1) (mCons (mOp gSub (mVar 2) (mVar 6)) mNil))) [6] [some (zoneD os s), some (tabD h js), some (.int r), x3, x4, x5, x6] S).Does Q := by
  refine does_dcA (d := .tup (os.map .int)) (S1 := S) (S2 := S) (ds := os.map .int) (kvs := os.foldl (fun acc o => putD acc (.inl (r - o)) (.int (offAt h js (r - o)))) []) ?_ rfl ?_ ?_
  · rfl
  · rw [List.length_map]
    refine dcA_map (i := D.int) (k := fun o => .inl (r - o)) (g := fun o => .int (offAt h js (r - o))) (as := os) (pre := []) rfl ?_ rfl
    intro o ho
    refine ⟨_, .int (r - o), rfl, ?_, rfl, ?_⟩
    · simp [wipeD, mOp, Res.bind]
    · refine pure_of fun Q q => ?_
      simp [wipeD, offset_in_ok]
      exact q
  · refine q _ fun o ho => ?_
    refine valD_foldl (k := fun o : Int => Sum.inl (r - o)) (g := fun o => .int (offAt h js (r - o))) (.inl ho) fun b hb e => ?_
    have : r - b = r - o := by injection e
    rw [this]
theorem found_by_does {Q : D → Sto → Prop} {n : Nat} {kvs : List (Key × D)} (z : ZoneOK os s) (hn : S[n]? = some (.dic kvs)) (hk : ∀ o, o ∈ os → valD kvs (.inl (r - o)) = some (.int (offAt h js (r - o))))
    {a b : Int} (E : Ends2 os s a b) (hf : RuleF fold) (hg : RuleG gap) (q : Q (findO (momsOf os h js r) (offAt h js (r - b), offAt h js (r - a)) r fold gap) S) : (m_found_by [.tup (os.map .int), .cell n, .int r, .str fold, .str gap] S).Does Q := by
  refine does_def rfl ?_
  refine seq_cut (fun ρ S' => S = S' ∧ ∃ x6, ρ = [some (.tup (os.map .int)), some (.cell n), some (.int r), some (.str fold), some (.str gap), some (.lst ((momsOf os h js r).map .int)), x6]) (fun M hM => ?_) ?_
  · simp [wipeD]
    rw [← List.map_reverse, lcAQ_fix (.inl rfl) (by rw [List.length_map, List.length_reverse])]
    refine lcQ_filter (fun o : Int => offAt h js (r - o) == o) (fun o => .int (r - o)) ?_ ?_
    · intro o ho
      have ho' : o ∈ os := List.mem_reverse.mp ho
      refine ⟨_, rfl, fun Q q => ?_, fun Q e q => ?_⟩
      · simp [gDIx_cell hn, hk o ho']
        exact q
      · simp
        exact q
    · have := hM [some (.tup (os.map .int)), some (.cell n), some (.int r), some (.str fold), some (.str gap), some (.lst ((momsOf os h js r).map .int)), none] S ⟨rfl, _, rfl⟩
      have e : (momsOf os h js r).map D.int = (os.reverse.filter fun o => offAt h js (r - o) == o).map fun o => D.int (r - o) := by
        unfold momsOf
        rw [List.map_map] <;> rfl
      rw [e] at this
      exact this
  rintro ρ _ ⟨rfl, x6, rfl⟩
  have ha := hk a E.ma
  have hb := hk b E.mb
  simp [E.lo, E.hi, gDIx_cell hn, ha, hb]
  unfold findO at q
  match e : momsOf os h js r with
  | [] =>
    rw [e] at q
    rcases hg with rfl | rfl | rfl <;> (simp at q ⊢; exact q)
  | [m] =>
    rw [e] at q
    simp at q ⊢
    exact q
  | [m1, m2] =>
    rw [e] at q
    rcases hf with rfl | rfl | rfl <;> (simp at q ⊢; exact q)
  | m1 :: m2 :: m3 :: l =>
    rw [e] at q
    have n1 : ¬ ((l.length : Int) + 1 + 1 + 1 = 1) := by omega
    have n2 : ¬ ((l.length : Int) + 1 + 1 + 1 = 2) := by omega
    rcases hg with rfl | rfl | rfl <;> (simp [n1, n2] at q ⊢; exact q)
theorem find_moment_does {Q : D → Sto → Prop} (z : ZoneOK os s) (t : TabOK os s h js) {a b : Int} (E : Ends2 os s a b) (hf : RuleF fold) (hg : RuleG gap) (q : ∀ c, Q (findO (momsOf os h js r) (offAt h js (r - b), offAt h js (r - a)) r fold gap) (S ++ [c])) :
    (m_find_moment [zoneD os s, tabD h js, .int r, .str fold, .str gap] S).Does Q := by
  refine does_def rfl ?_
  simp [need_zone_ok z, need_table_ok z t, need_rules_ok hf hg]
  refine held_dict fun kvs hk => ?_
  exact found_by_does z (by simp) hk E hf hg (q _)
/-- the law's -/
theorem law_found_does {Q : D → Sto → Prop} (z : ZoneOK os s) (t : TabOK os s h js) (hl : js.length < 1000000) {a b : Int} (E : Ends2 os s a b) (hf : RuleF fold) (hg : RuleG gap) (q : ∀ S', Grow S S' → Q (findO (momsOf os h js r) (offAt h js (r - b), offAt h js (r - a)) r fold gap) S') :
    (m_law_found [tabD h js, .int r, .str fold, .str gap] S).Does Q := by
  refine does_def rfl ?_
  simp
  refine hours_of_does hl ?_
  rw [hrs_moms z t]
  have m2 := moms_two (r := r) z t
  obtain ⟨ms, hms⟩ : ∃ ms, momsOf os h js r = ms := ⟨_, rfl⟩
  rw [hms] at q m2 ⊢
  have cn : (S ++ [Cell.lst (ms.map .int)])[S.length]? = some (.lst (ms.map .int)) := by simp
  have gS : Grow S (S ++ [Cell.lst (ms.map .int)]) := ⟨_, rfl⟩
  generalize S ++ [Cell.lst (ms.map .int)] = S1 at cn gS ⊢
  generalize S.length = n at cn ⊢
  match ms, m2 with
  | [m], _ =>
    simp only [List.map_cons, List.map_nil] at cn
    simp [gLen_cell cn, gIx_cell cn]
    exact q _ gS
  | [m1, m2], _ =>
    simp only [List.map_cons, List.map_nil] at cn
    simp [gLen_cell cn, gIx_cell cn, keysD]
    have q1 := q _ (gS.push (.dic (mergeD [] [(.inr "early", .int m1), (.inr "late", .int m2), (.inr "refuse", .non)])))
    rcases hf with rfl | rfl | rfl <;> (simp [mergeD, putD, valD, findO] at q1 ⊢; exact q1)
  | [], _ =>
    simp only [List.map_nil] at cn
    simp [gLen_cell cn]
    have gb := gap_both (r := r) z t E hms
    refine forL_cut (fun ds ρ S' => ∃ (js' : List (Int × Int)) (h' : Int) (acc : Option (Int × Int)) (x7 x8 : Option D) (m : Nat) (kvs : List (Key × D)), ds = js'.map jmpD ∧ ρ = [some (tabD h js), some (.int r), some (.str fold), some (.str gap), some (.cell n), some (.int h'), some (.cell m), x7, x8] ∧ Grow S S' ∧ gapL r acc h' js' = some (offAt h js (r - b), offAt h js (r - a)) ∧
      S'[m]? = some (.dic kvs) ∧ (∀ g, acc = some g → kvs = mergeD [] [(.inr "ahead", .int (r - g.1)), (.inr "behind", .int (r - g.2)), (.inr "refuse", .non)])) _
      ⟨js, h, none, none, none, S1.length, [], rfl, rfl, gS.push _, gb, by simp, fun _ z => nomatch z⟩ ?_ ?_
    · rintro d r' ρ S2 ⟨js', h', acc, x7, x8, m, kvs, e, rfl, g2, gl, cm, ca⟩
      cases js' with
      | nil => cases e
      | cons j js' =>
        obtain ⟨hr, o⟩ := j
        rw [List.map_cons] at e
        injection e with e1 e2
        subst e1
        refine ⟨_, rfl, fun M hM => ?_⟩
        rw [gapL] at gl
        by_cases c1 : hr ≤ r - h'
        · by_cases c2 : r - o < hr
          · rw [if_pos ⟨c1, c2⟩] at gl
            simp [c1, c2, keysD]
            exact hM _ _ ⟨js', o, _, _, _, S2.length, mergeD [] [(.inr "ahead", .int (r - h')), (.inr "behind", .int (r - o)), (.inr "refuse", .non)], e2, rfl, g2.push _, gl, by simp, fun g hg => by cases hg; rfl⟩
          · rw [if_neg (fun h => c2 h.2)] at gl
            simp [c1, c2]
            exact hM _ _ ⟨js', o, _, _, _, m, kvs, e2, rfl, g2, gl, cm, ca⟩
        · rw [if_neg (fun h => c1 h.1)] at gl
          simp [c1]
          exact hM _ _ ⟨js', o, _, _, _, m, kvs, e2, rfl, g2, gl, cm, ca⟩
    · rintro ρ S2 ⟨js', h', acc, x7, x8, m, kvs, e, rfl, g2, gl, cm, ca⟩
      cases js' with
      | cons j js' => cases e
      | nil =>
        have gl : acc = _ := gl
        have := ca _ gl
        subst this
        simp [gDIx_cell cm]
        have q1 := q _ g2
        rcases hg with rfl | rfl | rfl <;> (simp [mergeD, putD, valD, findO] at q1 ⊢; exact q1)
  | m1 :: m2 :: m3 :: l, h => simp at h
end
end Dm
-- text HmProg
namespace Dm
open PySem L2
/-! ### programs of steps -/
inductive Kd where
  | mom | rdg | spn
  deriving DecidableEq
def Kd.s : Kd → Str
  | .mom => "moment"
  | .rdg => "reading"
  | .spn => "span"
def Kd.d (k : Kd) : D := .str k.s
inductive Stp where
  | read (i p : Nat) | find (i p : Nat) (f g : Str) | offset (i p : Nat) | edition (i p : Nat)
  | plus (i j : Nat) | less (i j : Nat) | add (i : Nat) (m : Int)
def Stp.d : Stp → D
  | .read i p => .tup [.str "read", .int i, .int p]
  | .find i p f g => .tup [.str "find", .int i, .int p, .str f, .str g]
  | .offset i p => .tup [.str "offset", .int i, .int p]
  | .edition i p => .tup [.str "edition", .int i, .int p]
  | .plus i j => .tup [.str "plus", .int i, .int j]
  | .less i j => .tup [.str "less", .int i, .int j]
  | .add i m => .tup [.str "add", .int i, .int m]
def Stp.kind (row : List Kd) : Stp → Kd
  | .read _ _ => .rdg
  | .find _ _ _ _ => .mom
  | .offset _ _ => .spn
  | .edition _ _ => .mom
  | .plus _ _ => .rdg
  | .less _ _ => .mom
  | .add i _ => row.getD i .mom
/-- a step behind values of these kinds, beside nz zones -/
def Stp.OK (nz : Nat) (row : List Kd) : Stp → Prop
  | .read i p => row[i]? = some .mom ∧ p < nz
  | .find i p f g => row[i]? = some .rdg ∧ p < nz ∧ RuleF f ∧ RuleG g
  | .offset i p => row[i]? = some .mom ∧ p < nz
  | .edition i p => row[i]? = some .mom ∧ p < nz
  | .plus i j => row[i]? = some .mom ∧ row[j]? = some .spn
  | .less i j => row[i]? = some .rdg ∧ row[j]? = some .spn
  | .add i m => (row[i]? = some .mom ∨ row[i]? = some .rdg) ∧ -100000 ≤ m ∧ m ≤ 100000
def Stp.isEd : Stp → Bool
  | .edition _ _ => true
  | _ => false
def kindsFrom (row : List Kd) : List Stp → List Kd
  | [] => row
  | t :: ts => kindsFrom (row ++ [t.kind row]) ts
def ProgFrom (nz : Nat) (row : List Kd) : List Stp → Prop
  | [] => True
  | t :: ts => t.OK nz row ∧ ProgFrom nz (row ++ [t.kind row]) ts
def progD (ts : List Stp) : D := .tup (ts.map Stp.d)
/-- a program beside nz zones -/
structure ProgOK (nz : Nat) (ts : List Stp) : Prop where
  len : ts.length ≤ 8
  steps : ProgFrom nz [.mom] ts
  eds : (ts.filter Stp.isEd).length < 2
theorem kindsFrom_snoc (row : List Kd) : ∀ (ts : List Stp) (t : Stp), kindsFrom row (ts ++ [t]) = kindsFrom row ts ++ [t.kind (kindsFrom row ts)]
  | [], t => rfl
  | u :: ts, t => by
    show kindsFrom (row ++ [u.kind row]) (ts ++ [t]) = _
    rw [kindsFrom_snoc]; rfl
theorem progFrom_snoc {nz : Nat} : ∀ {ts : List Stp} {row : List Kd} {t : Stp}, ProgFrom nz row ts → t.OK nz (kindsFrom row ts) → ProgFrom nz row (ts ++ [t])
  | [], _, _, _, h => ⟨h, trivial⟩
  | u :: ts, _, _, ⟨a, b⟩, h => ⟨a, progFrom_snoc b h⟩
theorem kindsFrom_length (row : List Kd) : ∀ ts : List Stp, (kindsFrom row ts).length = row.length + ts.length
  | [] => rfl
  | t :: ts => by
    show (kindsFrom (row ++ [t.kind row]) ts).length = _
    rw [kindsFrom_length]
    simp
    omega
/-! ### the parts of a step -/
section
variable {S : Sto} {zs : List D} {n m : Nat} {row : List Kd}
theorem row_at {i : Nat} {k : Kd} (hn : S[n]? = some (.lst (row.map Kd.d))) (h : row[i]? = some k) : gIx S (.cell n) (.int i) = some (.str k.s) ∧ gLen S [.cell n] = some (.int row.length) ∧ (i : Int) < row.length := by
  have hi := (List.getElem?_eq_some_iff.mp h).1
  refine ⟨?_, by rw [gLen_cell hn, List.length_map], by omega⟩
  rw [gIx_cell hn, atI_of (by omega) (by rw [List.length_map]; omega)]
  simp [h, Kd.d]
theorem part_kind {i : Nat} {k : Kd} (hn : S[n]? = some (.lst (row.map Kd.d))) (h : row[i]? = some k) : m_is_part [.tup zs, .cell n, .str k.s, .int i] S = .ok (.bl true) S := by
  refine pure_of fun Q q => ?_
  refine does_def rfl ?_
  obtain ⟨h1, h2, h3⟩ := row_at hn h
  cases k <;> (simp [h1, h2, h3, Kd.s]; exact q)
theorem part_point {i : Nat} {k : Kd} (hn : S[n]? = some (.lst (row.map Kd.d))) (h : row[i]? = some k) (hk : k ≠ .spn) : m_is_part [.tup zs, .cell n, .str "point", .int i] S = .ok (.bl true) S := by
  refine pure_of fun Q q => ?_
  refine does_def rfl ?_
  obtain ⟨h1, h2, h3⟩ := row_at hn h
  cases k with
  | spn => exact absurd rfl hk
  | mom => simp [h1, h2, h3, Kd.s]; exact q
  | rdg => simp [h1, h2, h3, Kd.s]; exact q
theorem part_place {p : Nat} (h : p < zs.length) : m_is_part [.tup zs, .cell n, .str "place", .int p] S = .ok (.bl true) S := by
  refine pure_of fun Q q => ?_
  refine does_def rfl ?_
  simp [h]; exact q
theorem part_minutes {m : Int} (h : -100000 ≤ m ∧ m ≤ 100000) : m_is_part [.tup zs, .cell n, .str "minutes", .int m] S = .ok (.bl true) S := by
  refine pure_of fun Q q => ?_
  refine does_def rfl ?_
  simp [h]; exact q
theorem part_fold {f : Str} (h : RuleF f) : m_is_part [.tup zs, .cell n, .str "fold", .str f] S = .ok (.bl true) S := by
  refine pure_of fun Q q => ?_
  refine does_def rfl ?_
  rcases h with rfl | rfl | rfl <;> (simp [isTn, gIn, eqF]; exact q)
theorem part_gap {f : Str} (h : RuleG f) : m_is_part [.tup zs, .cell n, .str "gap", .str f] S = .ok (.bl true) S := by
  refine pure_of fun Q q => ?_
  refine does_def rfl ?_
  rcases h with rfl | rfl | rfl <;> (simp [isTn, gIn, eqF]; exact q)
/-! ### steps -/
theorem is_step_ok {t : Stp} (hn : S[n]? = some (.lst (row.map Kd.d))) (h : t.OK zs.length row) : m_is_step [.tup zs, .cell n, t.d] S = .ok (.bl true) S := by
  refine pure_of fun Q q => ?_
  refine does_def rfl ?_
  cases t with
  | read i p =>
    have e1 := part_kind (zs := zs) hn h.1
    have e2 := part_place (S := S) (n := n) h.2
    simp only [Kd.s] at e1
    simp (decide := true) [Stp.d, isTn, tbLook, enumD, wipeD, e1, e2, gAll, lstOf, blsOf]
    exact q
  | offset i p =>
    have e1 := part_kind (zs := zs) hn h.1
    have e2 := part_place (S := S) (n := n) h.2
    simp only [Kd.s] at e1
    simp (decide := true) [Stp.d, isTn, tbLook, enumD, wipeD, e1, e2, gAll, lstOf, blsOf]
    exact q
  | edition i p =>
    have e1 := part_kind (zs := zs) hn h.1
    have e2 := part_place (S := S) (n := n) h.2
    simp only [Kd.s] at e1
    simp (decide := true) [Stp.d, isTn, tbLook, enumD, wipeD, e1, e2, gAll, lstOf, blsOf]
    exact q
  | find i p f g =>
    have e1 := part_kind (zs := zs) hn h.1
    have e2 := part_place (S := S) (n := n) h.2.1
    have e3 := part_fold (S := S) (n := n) (zs := zs) h.2.2.1
    have e4 := part_gap (S := S) (n := n) (zs := zs) h.2.2.2
    simp only [Kd.s] at e1
    simp (decide := true) [Stp.d, isTn, tbLook, enumD, wipeD, atI, ixN, e1, e2, e3, e4, gAll, lstOf, blsOf]
    exact q
  | plus i j =>
    have e1 := part_kind (zs := zs) hn h.1
    have e2 := part_kind (zs := zs) hn h.2
    simp only [Kd.s] at e1 e2
    simp (decide := true) [Stp.d, isTn, tbLook, enumD, wipeD, e1, e2, gAll, lstOf, blsOf]
    exact q
  | less i j =>
    have e1 := part_kind (zs := zs) hn h.1
    have e2 := part_kind (zs := zs) hn h.2
    simp only [Kd.s] at e1 e2
    simp (decide := true) [Stp.d, isTn, tbLook, enumD, wipeD, e1, e2, gAll, lstOf, blsOf]
    exact q
  | add i m =>
    have e2 := part_minutes (S := S) (n := n) (zs := zs) h.2
    have e1 : m_is_part [.tup zs, .cell n, .str "point", .int i] S = .ok (.bl true) S := by
      rcases h.1 with h | h
      · exact part_point hn h (by decide)
      · exact part_point hn h (by decide)
    simp (decide := true) [Stp.d, isTn, tbLook, enumD, wipeD, e1, e2, gAll, lstOf, blsOf]
    exact q
theorem kind_made_ok {t : Stp} (hn : S[n]? = some (.lst (row.map Kd.d))) (h : t.OK m row) : m_kind_made [.cell n, t.d] S = .ok (t.kind row).d S := by
  refine pure_of fun Q q => ?_
  refine does_def rfl ?_
  cases t with
  | add i m =>
    have e : ∃ k, row[i]? = some k := by rcases h.1 with h | h <;> exact ⟨_, h⟩
    obtain ⟨k, e⟩ := e
    obtain ⟨h1, h2, h3⟩ := row_at hn e
    simp [Stp.d, h1]
    simp [Stp.kind, e, Kd.d] at q
    exact q
  | _ => simp (decide := true) [Stp.d, tbLook]; exact q
theorem kinds_of_does {ts : List Stp} {Q : D → Sto → Prop} (h : ProgFrom m [.mom] ts) (hl : ts.length ≤ 60) (q : Q (.cell S.length) (S ++ [.lst ((kindsFrom [.mom] ts).map Kd.d)])) : (m_kinds_of [progD ts] S).Does Q := by
  refine does_def rfl ?_
  simp [progD]
  refine forL_cut (fun ds ρ S' => ∃ us row x2, ds = (us : List Stp).map Stp.d ∧ ρ = [some (.tup (ts.map Stp.d)), some (.cell S.length), x2] ∧ S' = S ++ [.lst (row.map Kd.d)] ∧ ProgFrom m row us ∧ kindsFrom row us = kindsFrom [.mom] ts ∧ row.length + us.length ≤ 61) _
    ⟨ts, [.mom], _, rfl, rfl, rfl, h, rfl, by simp; omega⟩ ?_ ?_
  · rintro d r ρ S1 ⟨us, row, x2, e, rfl, rfl, hp, hk, hl⟩
    cases us with
    | nil => cases e
    | cons u us =>
      simp at e
      obtain ⟨rfl, rfl⟩ := e
      refine ⟨_, rfl, fun M hM => ?_⟩
      have hn : (S ++ [.lst (row.map Kd.d)])[S.length]? = some (.lst (row.map Kd.d)) := by simp
      simp at hl
      simp [kind_made_ok hn hp.1]
      refine ⟨by omega, hM _ _ ⟨us, row ++ [u.kind row], _, rfl, rfl, by simp, hp.2, hk, by simp; omega⟩⟩
  · rintro ρ S1 ⟨us, row, x2, e, rfl, rfl, hp, hk, hl⟩
    cases us with
    | nil =>
      simp
      rw [← hk] at q
      exact q
    | cons u us => cases e
end
end Dm
-- text HmProg2
namespace Dm
open PySem L2
abbrev Zs := List (List Int × Int)
def zonesD (zs : Zs) : D := .tup (zs.map fun z => zoneD z.1 z.2)
/-- one or two zones -/
structure ZsOK (zs : Zs) : Prop where
  all : ∀ z, z ∈ zs → ZoneOK z.1 z.2
  len : zs.length = 1 ∨ zs.length = 2
section
variable {S : Sto} {zs : Zs} {ts : List Stp}
theorem is_zones_ok (z : ZsOK zs) : m_is_zones [zonesD zs] S = .ok (.bl true) S := by
  refine pure_of fun Q q => ?_
  refine does_def rfl ?_
  obtain ⟨h, l⟩ := z
  match zs, h, l with
  | [], _, l => simp at l
  | [a], h, _ =>
    have h1 := h a (by simp)
    simp [zonesD, isTn, wipeD]
    rw [lcAQ_fix (n := 1) (ds := [zoneD a.1 a.2]) (.inl rfl) rfl]
    simp [is_zone_ok h1, gAll, lstOf, blsOf]
    exact q
  | [a, b], h, _ =>
    have h1 := h a (by simp)
    have h2 := h b (by simp)
    simp [zonesD, isTn, wipeD]
    rw [lcAQ_fix (n := 2) (ds := [zoneD a.1 a.2, zoneD b.1 b.2]) (.inl rfl) rfl]
    simp [is_zone_ok h1, is_zone_ok h2, gAll, lstOf, blsOf]
    exact q
  | _ :: _ :: _ :: _, _, l => simp at l
theorem need_zones_ok (z : ZsOK zs) : m_need_zones [zonesD zs] S = .ok .non S := by
  refine pure_of fun Q q => ?_
  refine does_def rfl ?_
  simp [is_zones_ok z]
  exact q
theorem isEd_does {t : Stp} {ρ : Rho} {i : Nat} (hi : ρ[i]? = some (some t.d)) : ∀ Q : D → Sto → Prop, Q (.bl t.isEd) S → (mOp gEq (mOp gIx (mVar i) (mK (.int 0))) (mK (.str "edition")) ρ S).Does Q := by
  intro Q q
  cases t <;> (simp (decide := true) [hi, Stp.d]; exact q)
theorem is_program_does {Q : D → Sto → Prop} (z : ZsOK zs) (h : ProgOK zs.length ts) (q : Q (.bl true) (S ++ [.lst ((kindsFrom [.mom] ts).map Kd.d)])) : (m_is_program [zonesD zs, progD ts] S).Does Q := by
  have hl := h.len
  have he := h.eds
  refine does_def rfl ?_
  simp [need_zones_ok z, progD, isTn, hl]
  have hl' : ¬ (8 : Int) < ts.length := by omega
  simp [hl']
  refine forL_cut (fun ds ρ S' => ∃ us row x3, ds = (us : List Stp).map Stp.d ∧ ρ = [some (zonesD zs), some (.tup (ts.map Stp.d)), some (.cell S.length), x3] ∧ S' = S ++ [.lst (row.map Kd.d)] ∧ ProgFrom zs.length row us ∧ kindsFrom row us = kindsFrom [.mom] ts ∧ row.length + us.length ≤ 61) _
    ⟨ts, [.mom], _, rfl, rfl, rfl, h.steps, rfl, by simp; omega⟩ ?_ ?_
  · rintro d r ρ S1 ⟨us, row, x2, e, rfl, rfl, hp, hk, hl⟩
    cases us with
    | nil => cases e
    | cons u us =>
      simp at e
      obtain ⟨rfl, rfl⟩ := e
      refine ⟨_, rfl, fun M hM => ?_⟩
      have hn : (S ++ [.lst (row.map Kd.d)])[S.length]? = some (.lst (row.map Kd.d)) := by simp
      have hs := is_step_ok (zs := zs.map fun z => zoneD z.1 z.2) hn (t := u) (by rw [List.length_map]; exact hp.1)
      simp at hl
      simp [zonesD, hs, kind_made_ok hn hp.1]
      refine ⟨by omega, hM _ _ ⟨us, row ++ [u.kind row], _, rfl, rfl, by simp, hp.2, hk, by simp; omega⟩⟩
  · rintro ρ S1 ⟨us, row, x2, e, rfl, rfl, hp, hk, hl⟩
    cases us with
    | cons u us => cases e
    | nil =>
      simp [wipeD]
      rw [lcAQ_fix (.inl rfl) (by simp)]
      refine lcQ_filter (as := ts) (i := Stp.d) Stp.isEd Stp.d ?_ ?_
      · intro t _
        refine ⟨_, rfl, isEd_does rfl, fun Q _ q => ?_⟩
        simp
        exact q
      · simp
        have : ((ts.filter Stp.isEd).length : Int) < 2 := by omega
        simp [this]
        rw [← hk] at q
        exact q
theorem need_program_does {Q : D → Sto → Prop} (z : ZsOK zs) (h : ProgOK zs.length ts) (q : Q .non (S ++ [.lst ((kindsFrom [.mom] ts).map Kd.d)])) : (m_need_program [zonesD zs, progD ts] S).Does Q := by
  refine does_def rfl ?_
  simp
  refine is_program_does z h ?_
  simp
  exact q
theorem kinds_does {Q : D → Sto → Prop} (z : ZsOK zs) (h : ProgOK zs.length ts) (q : Q (.cell (S.length + 1)) (S ++ [.lst ((kindsFrom [.mom] ts).map Kd.d), .lst ((kindsFrom [.mom] ts).map Kd.d)])) : (m_kinds [zonesD zs, progD ts] S).Does Q := by
  refine does_def rfl ?_
  simp [need_zones_ok z]
  refine need_program_does z h ?_
  refine kinds_of_does h.steps (by have := h.len; omega) ?_
  simpa using q
end
end Dm
-- text HmDeed
namespace Dm
open PySem L2
theorem atI_lastL {α : Type} {l : List α} (h : l ≠ []) : ∃ x, x ∈ l ∧ atI l (-1) = some x := by
  have hp : 0 < l.length := List.length_pos_iff.mpr h
  have h1 : (0 : Int) ≤ -1 + (l.length : Int) := by omega
  have h2 : (-1 + (l.length : Int)).toNat = l.length - 1 := by omega
  refine ⟨l[l.length - 1]'(by omega), List.getElem_mem _, ?_⟩
  have h3 : (1 : Int) ≤ l.length := by omega
  simp [atI, ixN, h2, h3]
theorem atI_memL {α : Type} {l : List α} {r : Int} (h0 : 0 ≤ r) (h : r < l.length) : ∃ x, x ∈ l ∧ atI l r = some x := by
  rw [atI_of h0 h]
  have : r.toNat < l.length := by omega
  exact ⟨l[r.toNat], List.getElem_mem _, List.getElem?_eq_getElem this⟩
theorem kd_eq (a b : Kd) : (a.s == b.s) = decide (a = b) := by cases a <;> cases b <;> decide
theorem kd_point (k : Kd) : (k.s == ("point" : Str)) = false := by cases k <;> decide
section
variable {S : Sto} {p n r : Nat} {row : List Kd}
theorem spot_does {k : Kd} {Q : D → Sto → Prop} (hp : Bag p (n + 2) S) (hr : S[r]? = some (.lst (row.map Kd.d))) (hrp : r ≠ p) (hk : k ∈ row) (hl : row.length ≤ 60) (q : ∀ (i : Nat) S', Bag p n S' → GoB p S S' → row[i]? = some k → Q (.int i) S') :
    (m_law_spot [.cell p, .cell r, k.d] S).Does Q := by
  refine does_def rfl ?_
  refine seq_cut (fun ρ S' => S' = S ∧ ∃ l x4, ρ = [some (.cell p), some (.cell r), some k.d, some (.lst ((l : List Nat).map fun i : Nat => D.int i)), x4] ∧ l ≠ [] ∧ l.length ≤ 60 ∧ ∀ i, i ∈ l → row[i]? = some k) (fun M hM => ?_) ?_
  · simp [gLen_cell hr]
    refine ⟨by omega, ?_⟩
    unfold rngD
    refine lcQ_filter (as := List.range row.length) (i := fun i : Nat => D.int (0 + i)) (fun i => decide (row[i]? = some k)) (fun i : Nat => D.int i) ?_ ?_
    · intro i hi
      have hi' : i < row.length := List.mem_range.mp hi
      have e : row[i]? = some row[i] := List.getElem?_eq_getElem hi'
      obtain ⟨h1, h2, h3⟩ := row_at hr e
      refine ⟨_, rfl, fun Q q => ?_, fun Q _ q => ?_⟩
      · simp [wipeD, h1, Kd.d, kd_eq, kd_point]
        rw [e] at q
        by_cases c : row[i] = k
        · simp [c] at q ⊢
          exact q
        · simp [c] at q ⊢
          exact q
      · simp [wipeD]
        exact q
    · refine hM _ _ ⟨rfl, _, _, rfl, ?_, ?_, ?_⟩
      · obtain ⟨i, e⟩ := List.mem_iff_getElem?.mp hk
        exact List.ne_nil_of_mem (a := i) (List.mem_filter.mpr ⟨List.mem_range.mpr (List.getElem?_eq_some_iff.mp e).1, decide_eq_true e⟩)
      · exact Nat.le_trans (List.length_filter_le _ _) (by simpa using hl)
      · intro i hi
        exact of_decide_eq_true (List.mem_filter.mp hi).2
  rintro ρ _ ⟨rfl, l, x4, rfl, ne, ll, hi⟩
  have ne' : l.map (fun i : Nat => D.int i) ≠ [] := by simpa using ne
  simp
  refine pick_does (n := n + 1) hp (by decide) (by decide) fun c S1 b1 g1 r0 r1 => ?_
  by_cases hc : c = 0
  · simp [hc]
    obtain ⟨x, hx, e⟩ := atI_lastL ne'
    obtain ⟨i, hi', rfl⟩ := List.mem_map.mp hx
    rw [e]
    exact q i _ (b1.mono (by omega)) g1 (hi i hi')
  · simp [hc]
    have : 0 < l.length := List.length_pos_iff.mpr ne
    refine pick_does (n := n) b1 (by omega) (by omega) fun c2 S2 b2 g2 s0 s1 => ?_
    obtain ⟨x, hx, e⟩ := atI_memL (l := l.map fun i : Nat => D.int i) s0 (by simpa using s1)
    obtain ⟨i, hi', rfl⟩ := List.mem_map.mp hx
    simp [e]
    exact q i _ b2 (g1.trans g2) (hi i hi')
theorem rules_does {Q : D → Sto → Prop} (hp : Bag p (n + 2) S) (q : ∀ f g S', Bag p n S' → GoB p S S' → RuleF f → RuleG g → Q (.tup [.str f, .str g]) S') : (m_law_any_rules [.cell p] S).Does Q := by
  refine does_def rfl ?_
  simp
  refine pick_does (n := n + 1) hp (by decide) (by decide) fun c S1 b1 g1 r0 r1 => ?_
  have e1 : ∃ f, RuleF f ∧ atI [D.str "early", .str "late", .str "refuse"] c = some (.str f) := by
    have e : c = 0 ∨ c = 1 ∨ c = 2 := by omega
    rcases e with rfl | rfl | rfl
    · exact ⟨_, .inl rfl, by simp⟩
    · exact ⟨_, .inr (.inl rfl), by simp⟩
    · exact ⟨_, .inr (.inr rfl), by simp⟩
  obtain ⟨f, hf, ef⟩ := e1
  simp [ef]
  refine pick_does (n := n) b1 (by decide) (by decide) fun c2 S2 b2 g2 s0 s1 => ?_
  have e2 : ∃ g, RuleG g ∧ atI [D.str "ahead", .str "behind", .str "refuse"] c2 = some (.str g) := by
    have e : c2 = 0 ∨ c2 = 1 ∨ c2 = 2 := by omega
    rcases e with rfl | rfl | rfl
    · exact ⟨_, .inl rfl, by simp⟩
    · exact ⟨_, .inr (.inl rfl), by simp⟩
    · exact ⟨_, .inr (.inr rfl), by simp⟩
  obtain ⟨g, hg, eg⟩ := e2
  simp [eg]
  exact q f g _ b2 (g1.trans g2) hf hg
theorem in_row (hr : S[r]? = some (.lst (row.map Kd.d))) (k : Kd) : gIn false S (.str k.s) (.cell r) = some (.bl (decide (k ∈ row))) := by
  unfold gIn
  rw [seqOf_cell hr]
  have h1 : (row.map Kd.d).all flatD = true := by simp [Kd.d, flatD]
  have h2 : ((row.map Kd.d).any fun x => eqF x (.str k.s)) = decide (k ∈ row) := by
    rw [List.any_map]
    have : (fun x => eqF x (.str k.s)) ∘ Kd.d = fun a : Kd => decide (a = k) := by
      funext a
      show eqF (.str a.s) (.str k.s) = _
      show (a.s == k.s) = _
      exact kd_eq a k
    rw [this]
    by_cases c : k ∈ row
    · rw [decide_eq_true c, List.any_eq_true]
      exact ⟨k, c, decide_eq_true rfl⟩
    · rw [decide_eq_false c, List.any_eq_false]
      intro x hx
      simp only [decide_eq_true_eq]
      rintro rfl
      exact c hx
  simp only [h1, h2, flatD_str, and_self, if_true, Bool.false_eq_true, if_false]
theorem minutes_does {zs : Zs} {Q : D → Sto → Prop} (hp : Bag p (n + 5) S) (z : ZsOK zs) (q : ∀ m S', Bag p n S' → GoB p S S' → -100000 ≤ m ∧ m ≤ 100000 → Q (.int m) S') : (m_law_minutes [.cell p, zonesD zs, .int 0] S).Does Q := by
  refine does_def rfl ?_
  simp [zonesD]
  have hz : 0 < zs.length ∧ zs.length ≤ 2 := by rcases z.len with h | h <;> omega
  refine pick_does (n := n + 4) hp (by omega) (by omega) fun c S1 b1 g1 r0 r1 => ?_
  obtain ⟨x, hx, e⟩ := atI_memL (l := zs.map fun z => zoneD z.1 z.2) r0 (by simpa using r1)
  obtain ⟨⟨os, s⟩, hz', rfl⟩ := List.mem_map.mp hx
  have zo : ZoneOK os s := z.all _ hz'
  have hw : ∃ a b : Int, atI (os.map D.int) (-1) = some (.int b) ∧ atI (os.map D.int) 0 = some (.int a) ∧ 0 ≤ b - a ∧ b - a < s ∧ s ≤ 1000000 := by
    cases zo with
    | one a s h1 h2 h3 h4 => exact ⟨a, a, by simp, by simp, by omega, by omega, h4⟩
    | two a b s h1 h2 h3 h4 h5 => exact ⟨a, b, by simp, by simp, by omega, by omega, h5⟩
    | three a b c s h1 h2 h3 h4 h5 h6 => exact ⟨a, c, by simp, by simp, by omega, by omega, h6⟩
  obtain ⟨a, b, ea, eb, w0, w1, w2⟩ := hw
  rw [gIx_tup, e]
  simp [zoneD, ea, eb]
  refine pick_does (n := n + 3) b1 (by decide) (by decide) fun c2 S2 b2 g2 s0 s1 => ?_
  refine pick_does (n := n + 2) b2 (by decide) (by decide) fun c3 S3 b3 g3 t0 t1 => ?_
  have e3 : ∃ v : Int, 0 ≤ v ∧ atI [D.int 1, .int s, .int (b - a), .int 60, .int 100000, .int c2, .int 300, .int (s - (b - a)), .int (s + (b - a))] c3 = some (.int v) := by
    have e : c3 = 0 ∨ c3 = 1 ∨ c3 = 2 ∨ c3 = 3 ∨ c3 = 4 ∨ c3 = 5 ∨ c3 = 6 ∨ c3 = 7 ∨ c3 = 8 := by omega
    rcases e with e | e | e | e | e | e | e | e | e <;> subst e
    · exact ⟨1, by omega, by simp⟩
    · exact ⟨s, by omega, by simp⟩
    · exact ⟨b - a, by omega, by simp⟩
    · exact ⟨60, by omega, by simp [atI, ixN]⟩
    · exact ⟨100000, by omega, by simp [atI, ixN]⟩
    · exact ⟨c2, by omega, by simp [atI, ixN]⟩
    · exact ⟨300, by omega, by simp [atI, ixN]⟩
    · exact ⟨s - (b - a), by omega, by simp [atI, ixN]⟩
    · exact ⟨s + (b - a), by omega, by simp [atI, ixN]⟩
  obtain ⟨v, v0, ev⟩ := e3
  try rw [gIx_lst]
  rw [ev]
  simp
  refine pick_does (n := n + 1) b3 (by decide) (by decide) fun c4 S4 b4 g4 u0 u1 => ?_
  simp
  refine pick_does (n := n) b4 (by decide) (by decide) fun c5 S5 b5 g5 x0 x1 => ?_
  have hw : -1 ≤ (if v + c4 - 1 < 100000 then v + c4 - 1 else 100000) ∧ (if v + c4 - 1 < 100000 then v + c4 - 1 else 100000) ≤ 100000 := by split <;> omega
  generalize (if v + c4 - 1 < 100000 then v + c4 - 1 else 100000) = w at hw
  have k1 : CMulW 2 c5 := cmulw64 (by omega) (by omega)
  have k2 : CMulW w (1 - 2 * c5) := cmulw64 (by omega) (by omega)
  have g := g1.trans (g2.trans (g3.trans (g4.trans g5)))
  have e : c5 = 0 ∨ c5 = 1 := by omega
  rcases e with rfl | rfl
  · simp at k2
    simp [k1, k2]
    exact q _ _ b5 g (by omega)
  · simp at k2
    simp [k1, k2]
    exact q _ _ b5 g (by omega)
theorem stp_py {t : Stp} {nz : Nat} (h : t.OK nz row) : ∃ q, toPy t.d = some q ∧ q.canLay0 = true ∧ q.depth ≤ 1 := by
  cases t with
  | find i p f g =>
    obtain ⟨_, _, hf, hg⟩ := h
    refine ⟨_, rfl, ?_, by simp [PyData.depth, PyData.depthAll]⟩
    rcases hf with rfl | rfl | rfl <;> rcases hg with rfl | rfl | rfl <;> (simp [PyData.canLay0, PyData.canLayAll0]; decide +kernel)
  | _ => exact ⟨_, rfl, by simp [PyData.canLay0, PyData.canLayAll0]; decide +kernel, by simp [PyData.depth, PyData.depthAll]⟩
theorem stps_py {nz : Nat} : ∀ l : List Stp, (∀ t, t ∈ l → t.OK nz row) → ∃ qs, toPys (l.map Stp.d) = some qs ∧ PyData.canLayAll0 qs = true ∧ PyData.depthAll qs ≤ 1 ∧ qs.length = l.length
  | [], _ => ⟨[], rfl, rfl, Nat.zero_le _, rfl⟩
  | t :: l, h => by
    obtain ⟨q, e, h1, h2⟩ := stp_py (h t List.mem_cons_self)
    obtain ⟨qs, es, k1, k2, k3⟩ := stps_py l fun t ht => h t (List.mem_cons_of_mem _ ht)
    refine ⟨q :: qs, by simp [toPys, e, es], by simp [PyData.canLayAll0, h1, k1], by simp only [PyData.depthAll]; omega, by simp [k3]⟩
theorem gEq_steps_nil {q : Nat} (h : S[q]? = some (.lst (([] : List Stp).map Stp.d))) : gEq S (.cell q) (.lst []) = some (.bl true) := by
  have e1 : toPyS S (.cell q) = some (.list []) := by simp only [toPyS, h]; rfl
  have e2 : toPyS S (.lst []) = some (.list []) := rfl
  unfold gEq eqD
  simp only [e1, e2]
  simp [SeqAt.shaped, PyData.canLay0, PyData.canLayAll0, PyData.depth, PyData.depthAll, PyData.eqv]
  rfl
theorem gEq_steps_cons {q nz : Nat} {t : Stp} {l : List Stp} (hok : ∀ u, u ∈ t :: l → u.OK nz row) (h : S[q]? = some (.lst ((t :: l).map Stp.d))) : gEq S (.cell q) (.lst []) = some (.bl false) := by
  obtain ⟨qs, es, k1, k2, k3⟩ := stps_py (t :: l) hok
  have e1 : toPyS S (.cell q) = some (.list qs) := by simp only [toPyS, h, es]; rfl
  have e2 : toPyS S (.lst []) = some (.list []) := rfl
  cases qs with
  | nil => simp at k3
  | cons p ps =>
    unfold gEq eqD
    simp only [e1, e2]
    have k2' : PyData.depthAll (p :: ps) ≤ 1 := k2
    have z0 : PyData.depthAll [] = 0 := rfl
    simp [SeqAt.shaped, PyData.canLay0, k1, PyData.canLayAll0, PyData.depth, PyData.eqv]
    exact ⟨⟨⟨by simpa [PyData.canLayAll0] using k1, by omega⟩, by omega⟩, rfl⟩
/-- what is drawn for a kind -/
structure Good (nz : Nat) (row : List Kd) (k : Kd) (c : Int) (t : Stp) : Prop where
  ok : t.OK nz row
  kind : t.kind row = k
  ed : t.isEd = true → 0 < c
theorem kindAt {row : List Kd} {i : Nat} {k : Kd} (h : row[i]? = some k) : row.getD i .mom = k := by
  rw [List.getD_eq_getElem?_getD, h]; rfl
theorem deed_for_does {zs : Zs} {k : Kd} {a b c d : Int} {Q : D → Sto → Prop} (hp : Bag p (n + 100) S) (z : ZsOK zs) (hr : S[r]? = some (.lst (row.map Kd.d))) (hrp : r ≠ p) (hm : .mom ∈ row) (hl : row.length ≤ 60)
    (q0 : ∀ S', Bag p n S' → GoB p S S' → Q .non S') (q : ∀ t S', Bag p n S' → GoB p S S' → Good zs.length row k c t → Q t.d S') : (m_law_deed_for [.cell p, zonesD zs, .cell r, k.d, .lst [.int a, .int b, .int c, .int d]] S).Does Q := by
  refine does_def rfl ?_
  have hr0 : r < S.length := (List.getElem?_eq_some_iff.mp hr).1
  let I : Nat → Option D → Rho → Sto → Prop := fun m x6 ρ S' => ∃ l, ρ = [some (.cell p), some (zonesD zs), some (.cell r), some k.d, some (.lst [.int a, .int b, .int c, .int d]), some (.cell S.length), x6] ∧ Bag p (n + m) S' ∧ GoB p S S' ∧ S.length < S'.length ∧
    S'[S.length]? = some (.lst ((l : List Stp).map Stp.d)) ∧ (∀ t, t ∈ l → Good zs.length row k c t) ∧ l.length ≤ 100 - m
  have pl := hp.lt
  have addI : ∀ {m m' : Nat} {x6 : Option D} {l : List Stp} {S1 S2 : Sto} {t : Stp} {M : Rho → Sto → Prop}, (∀ ρ S, I m' x6 ρ S → M ρ S) → m' < m → m ≤ 100 → Bag p (n + m') S2 → GoB p S S1 → GoB p S1 S2 → S.length < S1.length → S1[S.length]? = some (.lst (l.map Stp.d)) → (∀ t, t ∈ l → Good zs.length row k c t) → l.length ≤ 100 - m → Good zs.length row k c t →
      ∃ ds, S2[S.length]? = some (.lst ds) ∧ ds.length < 16777216 ∧ M [some (.cell p), some (zonesD zs), some (.cell r), some k.d, some (.lst [.int a, .int b, .int c, .int d]), some (.cell S.length), x6] (S2.set S.length (.lst (ds ++ [t.d]))) := by
    intro m m' x6 l S1 S2 t M hM hmm hm1 b2 g1 g2 ls e1 hg hl' gt
    have e2 := g2.get e1 (by omega)
    refine ⟨_, e2, by rw [List.length_map]; omega, hM _ _ ⟨l ++ [t], rfl, b2.set (by omega) _, (g1.trans g2).setNew (Nat.le_refl _) _, by rw [List.length_set]; have := g2.len; omega, ?_, ?_, by simp; omega⟩⟩
    · rw [List.getElem?_set_self (by have := g2.len; omega)]
      simp
    · intro t' ht
      rcases List.mem_append.mp ht with ht | ht
      · exact hg t' ht
      · cases List.mem_singleton.mp ht
        exact gt
  refine seq_cut (I 100 none) (fun M hM => ?_) ?_
  · simp
    exact hM _ _ ⟨[], rfl, hp.push _, GoB.push _, by simp, by simp, (fun _ h => nomatch h), by simp⟩
  rintro ρ S1 ⟨l, rfl, b1, g1, ls1, e1, gd1, ll1⟩
  have keepI : ∀ {m m' : Nat} {x6 : Option D} {l : List Stp} {S1 : Sto}, m' ≤ m → m ≤ 100 → Bag p (n + m) S1 → GoB p S S1 → S.length < S1.length → S1[S.length]? = some (.lst (l.map Stp.d)) → (∀ t, t ∈ l → Good zs.length row k c t) → l.length ≤ 100 - m →
      I m' x6 [some (.cell p), some (zonesD zs), some (.cell r), some k.d, some (.lst [.int a, .int b, .int c, .int d]), some (.cell S.length), x6] S1 :=
    fun hmm hm1 b g ls e hg hl' => ⟨_, rfl, b.mono (by omega), g, ls, e, hg, by omega⟩
  -- add
  refine seq_cut (I 90 none) (fun M hM => ?_) ?_
  · have hir := in_row (g1.get hr hrp) k
    by_cases c1 : k = .spn
    · subst c1
      simp [Kd.d, Kd.s]
      exact hM _ _ (keepI (m := 100) (by omega) (by omega) b1 g1 ls1 e1 gd1 ll1)
    · have hk : (k.s == ("span" : Str)) = false := by cases k <;> first | decide | exact absurd rfl c1
      by_cases c2 : k ∈ row
      · simp [Kd.d, hk, hir, c2]
        refine ⟨⟨_, e1⟩, ?_⟩
        refine spot_does (n := n + 98) b1 (g1.get hr hrp) hrp c2 hl fun i S2 b2 g2 hi => ?_
        refine minutes_does (n := n + 93) b2 z fun m S3 b3 g3 hm' => ?_
        exact addI (t := .add i m) (m := 100) (m' := 90) hM (by omega) (by omega) (b3.mono (by omega)) g1 (g2.trans g3) ls1 e1 gd1 ll1 ⟨⟨by cases k <;> simp_all, hm'⟩, kindAt hi, fun h => nomatch h⟩
      · simp [Kd.d, hk, hir, c2]
        exact hM _ _ (keepI (m := 100) (by omega) (by omega) b1 g1 ls1 e1 gd1 ll1)
  rintro ρ S1 ⟨l, rfl, b1, g1, ls1, e1, gd1, ll1⟩
  -- plus
  refine seq_cut (I 80 none) (fun M hM => ?_) ?_
  · have hsp := in_row (g1.get hr hrp) .spn
    simp only [Kd.s] at hsp
    by_cases c1 : k = .rdg
    · subst c1
      by_cases c2 : Kd.spn ∈ row
      · simp [Kd.d, Kd.s, hsp, c2]
        refine ⟨⟨_, e1⟩, ?_⟩
        refine spot_does (n := n + 88) (k := .mom) b1 (g1.get hr hrp) hrp hm hl fun i S2 b2 g2 hi => ?_
        refine spot_does (n := n + 86) (k := .spn) b2 ((g1.trans g2).get hr hrp) hrp c2 hl fun j S3 b3 g3 hj => ?_
        exact addI (t := .plus i j) (m := 90) (m' := 80) hM (by omega) (by omega) (b3.mono (by omega)) g1 (g2.trans g3) ls1 e1 gd1 ll1 ⟨⟨hi, hj⟩, rfl, fun h => nomatch h⟩
      · simp [Kd.d, Kd.s, hsp, c2]
        exact hM _ _ (keepI (m := 90) (by omega) (by omega) b1 g1 ls1 e1 gd1 ll1)
    · have hk : (k.s == ("reading" : Str)) = false := by cases k <;> first | decide | exact absurd rfl c1
      simp [Kd.d, hk]
      exact hM _ _ (keepI (m := 90) (by omega) (by omega) b1 g1 ls1 e1 gd1 ll1)
  rintro ρ S1 ⟨l, rfl, b1, g1, ls1, e1, gd1, ll1⟩
  -- less
  refine seq_cut (I 70 none) (fun M hM => ?_) ?_
  · have hsp := in_row (g1.get hr hrp) .spn
    have hrd := in_row (g1.get hr hrp) .rdg
    simp only [Kd.s] at hsp hrd
    by_cases c1 : k = .mom
    · subst c1
      by_cases c2 : Kd.spn ∈ row
      · by_cases c3 : Kd.rdg ∈ row
        · simp [Kd.d, Kd.s, hsp, c2, hrd, c3]
          refine ⟨⟨_, e1⟩, ?_⟩
          refine spot_does (n := n + 78) (k := .rdg) b1 (g1.get hr hrp) hrp c3 hl fun i S2 b2 g2 hi => ?_
          refine spot_does (n := n + 76) (k := .spn) b2 ((g1.trans g2).get hr hrp) hrp c2 hl fun j S3 b3 g3 hj => ?_
          exact addI (t := .less i j) (m := 80) (m' := 70) hM (by omega) (by omega) (b3.mono (by omega)) g1 (g2.trans g3) ls1 e1 gd1 ll1 ⟨⟨hi, hj⟩, rfl, fun h => nomatch h⟩
        · simp [Kd.d, Kd.s, hsp, c2, hrd, c3]
          exact hM _ _ (keepI (m := 80) (by omega) (by omega) b1 g1 ls1 e1 gd1 ll1)
      · simp [Kd.d, Kd.s, hsp, c2]
        exact hM _ _ (keepI (m := 80) (by omega) (by omega) b1 g1 ls1 e1 gd1 ll1)
    · have hk : (k.s == ("moment" : Str)) = false := by cases k <;> first | decide | exact absurd rfl c1
      simp [Kd.d, hk]
      exact hM _ _ (keepI (m := 80) (by omega) (by omega) b1 g1 ls1 e1 gd1 ll1)
  rintro ρ S1 ⟨l, rfl, b1, g1, ls1, e1, gd1, ll1⟩
  -- the place
  refine seq_cut (fun ρ S' => ∃ v : Nat, v < zs.length ∧ I 60 (some (.int v)) ρ S') (fun M hM => ?_) ?_
  · have hz : 0 < zs.length ∧ zs.length ≤ 2 := by rcases z.len with h | h <;> omega
    simp [zonesD]
    refine pick_does (n := n + 69) b1 (by omega) (by omega) fun v S2 b2 g2 r0 r1 => ?_
    have ev : v = ((v.toNat : Nat) : Int) := by omega
    rw [ev]
    exact hM _ _ ⟨v.toNat, by omega, l, rfl, b2.mono (by omega), g1.trans g2, by have := g2.len; omega, g2.get e1 (by omega), gd1, by omega⟩
  rintro ρ S1 ⟨v, hv, l, rfl, b1, g1, ls1, e1, gd1, ll1⟩
  -- read
  refine seq_cut (I 50 (some (.int v))) (fun M hM => ?_) ?_
  · by_cases c1 : k = .rdg
    · subst c1
      by_cases c2 : 0 < a
      · simp [Kd.d, Kd.s, c2]
        refine ⟨⟨_, e1⟩, ?_⟩
        refine spot_does (n := n + 58) (k := .mom) b1 (g1.get hr hrp) hrp hm hl fun i S2 b2 g2 hi => ?_
        exact addI (t := .read i v) (m := 60) (m' := 50) hM (by omega) (by omega) (b2.mono (by omega)) g1 g2 ls1 e1 gd1 ll1 ⟨⟨hi, hv⟩, rfl, fun h => nomatch h⟩
      · simp [Kd.d, Kd.s, c2]
        exact hM _ _ (keepI (m := 60) (by omega) (by omega) b1 g1 ls1 e1 gd1 ll1)
    · have hk : (k.s == ("reading" : Str)) = false := by cases k <;> first | decide | exact absurd rfl c1
      simp [Kd.d, hk]
      exact hM _ _ (keepI (m := 60) (by omega) (by omega) b1 g1 ls1 e1 gd1 ll1)
  rintro ρ S1 ⟨l, rfl, b1, g1, ls1, e1, gd1, ll1⟩
  -- offset
  refine seq_cut (I 40 (some (.int v))) (fun M hM => ?_) ?_
  · by_cases c1 : k = .spn
    · subst c1
      by_cases c2 : 0 < a
      · simp [Kd.d, Kd.s, c2]
        refine ⟨⟨_, e1⟩, ?_⟩
        refine spot_does (n := n + 48) (k := .mom) b1 (g1.get hr hrp) hrp hm hl fun i S2 b2 g2 hi => ?_
        exact addI (t := .offset i v) (m := 50) (m' := 40) hM (by omega) (by omega) (b2.mono (by omega)) g1 g2 ls1 e1 gd1 ll1 ⟨⟨hi, hv⟩, rfl, fun h => nomatch h⟩
      · simp [Kd.d, Kd.s, c2]
        exact hM _ _ (keepI (m := 50) (by omega) (by omega) b1 g1 ls1 e1 gd1 ll1)
    · have hk : (k.s == ("span" : Str)) = false := by cases k <;> first | decide | exact absurd rfl c1
      simp [Kd.d, hk]
      exact hM _ _ (keepI (m := 50) (by omega) (by omega) b1 g1 ls1 e1 gd1 ll1)
  rintro ρ S1 ⟨l, rfl, b1, g1, ls1, e1, gd1, ll1⟩
  -- find
  refine seq_cut (I 30 (some (.int v))) (fun M hM => ?_) ?_
  · have hrd := in_row (g1.get hr hrp) .rdg
    simp only [Kd.s] at hrd
    by_cases c1 : k = .mom
    · subst c1
      by_cases c3 : Kd.rdg ∈ row
      · by_cases c2 : 0 < (if b < a then b else a)
        · simp [Kd.d, Kd.s, hrd, c3, c2]
          refine ⟨⟨_, e1⟩, ?_⟩
          refine spot_does (n := n + 38) (k := .rdg) b1 (g1.get hr hrp) hrp c3 hl fun i S2 b2 g2 hi => ?_
          refine rules_does (n := n + 36) b2 fun f g S3 b3 g3 hf hg => ?_
          simp
          exact addI (t := .find i v f g) (m := 40) (m' := 30) hM (by omega) (by omega) (b3.mono (by omega)) g1 (g2.trans g3) ls1 e1 gd1 ll1 ⟨⟨hi, hv, hf, hg⟩, rfl, fun h => nomatch h⟩
        · simp [Kd.d, Kd.s, hrd, c3, c2]
          exact hM _ _ (keepI (m := 40) (by omega) (by omega) b1 g1 ls1 e1 gd1 ll1)
      · simp [Kd.d, Kd.s, hrd, c3]
        exact hM _ _ (keepI (m := 40) (by omega) (by omega) b1 g1 ls1 e1 gd1 ll1)
    · have hk : (k.s == ("moment" : Str)) = false := by cases k <;> first | decide | exact absurd rfl c1
      simp [Kd.d, hk]
      exact hM _ _ (keepI (m := 40) (by omega) (by omega) b1 g1 ls1 e1 gd1 ll1)
  rintro ρ S1 ⟨l, rfl, b1, g1, ls1, e1, gd1, ll1⟩
  -- edition
  refine seq_cut (I 20 (some (.int v))) (fun M hM => ?_) ?_
  · by_cases c1 : k = .mom
    · subst c1
      by_cases c2 : 0 < (if c < a then c else a)
      · simp [Kd.d, Kd.s, c2]
        refine ⟨⟨_, e1⟩, ?_⟩
        refine spot_does (n := n + 28) (k := .mom) b1 (g1.get hr hrp) hrp hm hl fun i S2 b2 g2 hi => ?_
        exact addI (t := .edition i v) (m := 30) (m' := 20) hM (by omega) (by omega) (b2.mono (by omega)) g1 g2 ls1 e1 gd1 ll1 ⟨⟨hi, hv⟩, rfl, fun _ => by split at c2 <;> omega⟩
      · simp [Kd.d, Kd.s, c2]
        exact hM _ _ (keepI (m := 30) (by omega) (by omega) b1 g1 ls1 e1 gd1 ll1)
    · have hk : (k.s == ("moment" : Str)) = false := by cases k <;> first | decide | exact absurd rfl c1
      simp [Kd.d, hk]
      exact hM _ _ (keepI (m := 30) (by omega) (by omega) b1 g1 ls1 e1 gd1 ll1)
  rintro ρ S1 ⟨l, rfl, b1, g1, ls1, e1, gd1, ll1⟩
  cases l with
  | nil =>
    simp [gEq_steps_nil e1]
    exact q0 _ (b1.mono (by omega)) g1
  | cons t l =>
    simp [gEq_steps_cons (fun u hu => (gd1 u hu).ok) e1, gLen_cell e1]
    refine pick_does (n := n + 19) b1 (by omega) (by simp at ll1; omega) fun v S2 b2 g2 r0 r1 => ?_
    obtain ⟨x, hx, e⟩ := atI_memL (l := (t :: l).map Stp.d) r0 (by simpa using r1)
    obtain ⟨u, hu, rfl⟩ := List.mem_map.mp hx
    rw [gIx_cell (g2.get e1 (by omega)), e]
    exact q u _ (b2.mono (by omega)) (g1.trans g2) (gd1 u hu)
end
end Dm
-- text HmWanted
namespace Dm
open PySem L2
section
variable {S : Sto} {p n r : Nat} {row : List Kd}
theorem less_room_does {t : Stp} {a b c d : Int} {Q : D → Sto → Prop} (q : ∀ a' b', Q (.lst [.int a', .int b', .int (c - if t.isEd then 1 else 0), .int d]) S) : (m_law_less_room [.lst [.int a, .int b, .int c, .int d], t.d] S).Does Q := by
  refine does_def rfl ?_
  cases t <;> (simp [Stp.isEd] at q; simp (decide := true) [Stp.d, gIn, eqF, atI, ixN]; exact q _ _)
theorem kindsFrom_mem {k : Kd} : ∀ {ts : List Stp} {row : List Kd}, k ∈ row → k ∈ kindsFrom row ts
  | [], _, h => h
  | t :: ts, row, h => kindsFrom_mem (ts := ts) (List.mem_append_left _ h)
theorem wanted_does {zs : Zs} {Q : D → Sto → Prop} (hp : Bag p (n + 1000) S) (z : ZsOK zs) (q : ∀ ts S', Bag p n S' → GoB p S S' → S.length < S'.length → S'[S.length]? = some (.lst ((kindsFrom [.mom] ts).map Kd.d)) → ProgOK zs.length ts → Q (.tup [progD ts, .cell S.length]) S') :
    (m_law_wanted [.cell p, zonesD zs] S).Does Q := by
  have pl := hp.lt
  refine does_def rfl ?_
  refine seq_cut (fun ρ S' => ∃ a b : Int, ρ = [some (.cell p), some (zonesD zs), some (progD []), some (.cell S.length), some (.lst [.int a, .int b, .int 1, .int 0]), none, none, none] ∧ Bag p (n + 999) S' ∧ GoB p S S' ∧ S.length < S'.length ∧ S'[S.length]? = some (.lst (([.mom] : List Kd).map Kd.d))) (fun M hM => ?_) ?_
  · simp
    refine pick_does (n := n + 999) (hp.push _) (by decide) (by decide) fun c S1 b1 g1 r0 r1 => ?_
    have e1 : S1[S.length]? = some (.lst (([.mom] : List Kd).map Kd.d)) := g1.get (by rw [List.getElem?_append_right (Nat.le_refl _), Nat.sub_self]; rfl) (by omega)
    have ll : S.length < S1.length := (List.getElem?_eq_some_iff.mp e1).1
    have e : c = 0 ∨ c = 1 := by omega
    rcases e with rfl | rfl
    · simp
      exact hM _ _ ⟨_, _, rfl, b1, (GoB.push _).trans g1, ll, e1⟩
    · simp
      exact hM _ _ ⟨_, _, rfl, b1, (GoB.push _).trans g1, ll, e1⟩
  rintro ρ S1 ⟨a, b, rfl, b1, g1, ll1, e1⟩
  simp
  refine pick_does (n := n + 998) b1 (by decide) (by decide) fun c S2 b2 g2 r0 r1 => ?_
  refine pick_does (n := n + 997) b2 (by decide) (by decide) fun c' S3 b3 g3 r0' r1' => ?_
  have hk : ∃ k : Nat, (if c < c' then c' else c) = (k : Int) ∧ k ≤ 8 := ⟨(if c < c' then c' else c).toNat, by split <;> omega, by split <;> omega⟩
  obtain ⟨k, ek, k8⟩ := hk
  simp [ek]
  refine ⟨by omega, ?_⟩
  have g := g1.trans (g2.trans g3)
  have e3 := g3.get (g2.get e1 (by omega)) (by omega)
  have ll3 : S.length < S3.length := (List.getElem?_eq_some_iff.mp e3).1
  refine forL_cut (fun ds ρ S' => ∃ (ts : List Stp) (a b c : Int) (x5 x6 x7 : Option D), ρ = [some (.cell p), some (zonesD zs), some (progD ts), some (.cell S.length), some (.lst [.int a, .int b, .int c, .int 0]), x5, x6, x7] ∧ Bag p (n + 110 * ds.length) S' ∧ GoB p S S' ∧ S.length < S'.length ∧
      S'[S.length]? = some (.lst ((kindsFrom [.mom] ts).map Kd.d)) ∧ ProgFrom zs.length [.mom] ts ∧ ts.length + ds.length ≤ 8 ∧ 0 ≤ c ∧ ((ts.filter Stp.isEd).length : Int) + c ≤ 1) _
    ⟨[], a, b, 1, _, _, _, rfl, b3.mono (by rw [rngD_length]; omega), g, ll3, e3, trivial, by rw [rngD_length]; simpa using k8, by decide, by simp⟩ ?_ ?_
  · rintro d ds ρ S4 ⟨ts, a, b, c, x5, x6, x7, rfl, b4, g4, ll4, e4, hp4, hl4, c0, c1⟩
    refine ⟨_, rfl, fun M hM => ?_⟩
    have hb : Bag p (n + 110 * ds.length + 110) S4 := b4.mono (by simp; omega)
    refine seq_cut (fun ρ S' => ∃ k : Kd, ρ = [some (.cell p), some (zonesD zs), some (progD ts), some (.cell S.length), some (.lst [.int a, .int b, .int c, .int 0]), some d, some k.d, x7] ∧ Bag p (n + 110 * ds.length + 109) S' ∧ GoB p S4 S') (fun M hM => ?_) ?_
    · simp
      refine pick_does (n := n + 110 * ds.length + 109) hb (by decide) (by decide) fun v S5 b5 g5 r0 r1 => ?_
      have e : v = 0 ∨ v = 1 ∨ v = 2 := by omega
      rcases e with rfl | rfl | rfl
      · simp; exact hM _ _ ⟨.mom, rfl, b5, g5⟩
      · simp; exact hM _ _ ⟨.rdg, rfl, b5, g5⟩
      · simp; exact hM _ _ ⟨.spn, rfl, b5, g5⟩
    rintro ρ S5 ⟨k, rfl, b5, g5⟩
    have e5 := g5.get e4 (by omega)
    have g5' := g4.trans g5
    have hl5 := kindsFrom_length [.mom] ts
    simp at hl4 hl5
    have hmom : Kd.mom ∈ kindsFrom [.mom] ts := kindsFrom_mem List.mem_cons_self
    simp
    refine deed_for_does (n := n + 110 * ds.length) (b5.mono (by omega)) z e5 (by omega) hmom (by omega) (fun S6 b6 g6 => ?_) (fun t S6 b6 g6 gd => ?_)
    · simp
      exact hM _ _ ⟨ts, a, b, c, _, _, _, rfl, b6, g5'.trans g6, by have := g5.len; have := g6.len; omega, g6.get e5 (by omega), hp4, by omega, c0, c1⟩
    · have hn : isNon t.d = false := by cases t <;> rfl
      have e6 := g6.get e5 (by omega)
      simp [hn, progD]
      refine ⟨by omega, ?_⟩
      simp [e6]
      refine ⟨by omega, ?_⟩
      refine less_room_does fun a' b' => ?_
      have ll6 : S.length < S6.length := (List.getElem?_eq_some_iff.mp e6).1
      refine hM _ _ ⟨ts ++ [t], a', b', c - (if t.isEd then 1 else 0), some d, some k.d, some t.d, by simp [progD], b6.set (by omega) _, (g5'.trans g6).setNew (Nat.le_refl _) _, by rw [List.length_set]; exact ll6, ?_, progFrom_snoc hp4 gd.ok, by simp; omega, ?_, ?_⟩
      · rw [List.getElem?_set_self ll6, kindsFrom_snoc, gd.kind]
        simp
      · split
        · rename_i h; have := gd.ed h; omega
        · omega
      · rw [List.filter_append]
        by_cases h : t.isEd = true
        · have := gd.ed h
          simp [h]; omega
        · simp [h]; omega
  · rintro ρ S4 ⟨ts, a, b, c, x5, x6, x7, rfl, b4, g4, ll4, e4, hp4, hl4, c0, c1⟩
    simp at hl4
    simp
    exact q ts _ (b4.mono (by omega)) g4 ll4 e4 ⟨hl4, hp4, by omega⟩
end
end Dm
-- text M_k20
namespace Dm
open PySem L2
/-! ### rows of kinds as texts -/
theorem kinds_py : ∀ row : List Kd, toPys (row.map Kd.d) = some (row.map fun k => PyData.str k.s)
  | [] => rfl
  | k :: row => by
    have ih := kinds_py row
    simp only [List.map_cons, toPys, ih, Kd.d, toPy, Option.bind_some, Option.map_some]
theorem kd_len (k : Kd) : (reprText k.s).length ≤ 12 := by cases k <;> decide +kernel
theorem kinds_shown : ∀ row : List Kd, PyData.shownAll (row.map fun k => PyData.str k.s) = row.map fun k => reprText k.s
  | [] => rfl
  | k :: row => by
    have ih := kinds_shown row
    simp only [List.map_cons, PyData.shownAll, ih, PyData.shown]
theorem kinds_show : ∀ row : List Kd, PyData.showableAll (row.map fun k => PyData.str k.s) = true
  | [] => rfl
  | k :: row => by
    have ih := kinds_show row
    simp only [List.map_cons, PyData.showableAll, ih, PyData.showable, Bool.and_self]
theorem kinds_dict : ∀ row : List Kd, PyData.hasDictAll (row.map fun k => PyData.str k.s) = false
  | [] => rfl
  | k :: row => by
    have ih := kinds_dict row
    simp only [List.map_cons, PyData.hasDictAll, ih, PyData.hasDict, Bool.or_self]
theorem kinds_depth : ∀ row : List Kd, PyData.depthAll (row.map fun k => PyData.str k.s) = 0
  | [] => rfl
  | k :: row => by
    have ih := kinds_depth row
    simp only [List.map_cons, PyData.depthAll, ih, PyData.depth]
    rfl
theorem kinds_sum : ∀ row : List Kd, ((row.map fun k => reprText k.s).map (·.length)).sum ≤ 12 * row.length
  | [] => Nat.le_refl _
  | k :: row => by
    have ih := kinds_sum row
    have := kd_len k
    simp only [List.map_cons, List.sum_cons, List.length_cons]
    omega
theorem kinds_repr {row : List Kd} (hl : row.length ≤ 1000) : reprOk (.list (row.map fun k => PyData.str k.s)) := by
  refine ⟨?_, ?_, ?_, ?_⟩
  · simp only [PyData.showable]; exact kinds_show row
  · simp only [PyData.hasDict]; exact kinds_dict row
  · simp only [PyData.shown, kinds_shown]
    have h1 := listText_len_le (row.map fun k => reprText k.s)
    have h2 := kinds_sum row
    rw [List.length_map] at h1
    have h3 : sizeLine = 16777216 := rfl
    omega
  · simp only [PyData.depth, kinds_depth]
    decide
section
variable {S : Sto}
theorem same_kinds {a b : Nat} {row : List Kd} (ha : S[a]? = some (.lst (row.map Kd.d))) (hb : S[b]? = some (.lst (row.map Kd.d))) (hl : row.length ≤ 1000) : m_law_same_v2 [.cell a, .cell b] S = .ok (.bl true) S := by
  have e : ∀ c, S[c]? = some (.lst (row.map Kd.d)) → gRepr S [.cell c] = some (.str (PyData.list (row.map fun k => PyData.str k.s)).shown) := by
    intro c hc
    have e1 : toPyS S (.cell c) = some (.list (row.map fun k => PyData.str k.s)) := by simp only [toPyS, hc, kinds_py]; rfl
    unfold gRepr
    simp only [e1, if_pos (kinds_repr hl)]
  refine pure_of fun Q q => ?_
  refine does_def rfl ?_
  simp [e a ha, e b hb]
  exact q
theorem app_at {S : Sto} {i : Nat} {c : Cell} (l : List Cell) (h : S[i]? = some c) : (S ++ l)[i]? = some c := by
  rw [List.getElem?_append_left (List.getElem?_eq_some_iff.mp h).1]
  exact h
end
theorem law_k20_kinds_of_values_true : LawTrue m_law_k20_kinds_of_values := by
  refine law_loop (by decide) fun c L xs S hx => ?_
  obtain ⟨x2, x3, x4, x5, x6, x7, x8, rfl⟩ : ∃ x2 x3 x4 x5 x6 x7 x8, xs = [x2, x3, x4, x5, x6, x7, x8] := match xs, hx with
    | [_, _, _, _, _, _, _], _ => ⟨_, _, _, _, _, _, _, rfl⟩
  refine seq_cut (fun ρ S' => ∃ p, ρ = [some L, some (.int c), some (.cell p), x3, x4, x5, x6, x7, x8] ∧ Bag p 9223372036854775808 S') (fun M hM => ?_) ?_
  · simp
    refine bag_of_does fun S1 b1 g1 => ?_
    exact hM _ _ ⟨_, rfl, b1⟩
  rintro ρ S1 ⟨p, rfl, b1⟩
  refine seq_cut (fun ρ S' => ∃ zs, ρ = [some L, some (.int c), some (.cell p), some (zonesD zs), x4, x5, x6, x7, x8] ∧ ZsOK zs ∧ Bag p 100000 S') (fun M hM => ?_) ?_
  · simp
    refine any_belts_does (n := 100000) (b1.mono (by omega)) fun zs S2 b2 g2 h1 h2 => ?_
    exact hM _ _ ⟨zs, rfl, ⟨h1, h2⟩, b2⟩
  rintro ρ S2 ⟨zs, rfl, z, b2⟩
  refine seq_cut (fun ρ S' => ∃ ts r, ρ = [some L, some (.int c), some (.cell p), some (zonesD zs), some (progD ts), some (.cell r), x6, x7, x8] ∧ Bag p 90000 S' ∧ r ≠ p ∧ S'[r]? = some (.lst ((kindsFrom [.mom] ts).map Kd.d)) ∧ ProgOK zs.length ts) (fun M hM => ?_) ?_
  · simp
    refine wanted_does (n := 90000) (b2.mono (by omega)) z fun ts S3 b3 g3 l3 e3 ok => ?_
    simp
    have := b2.lt
    exact hM _ _ ⟨ts, _, rfl, b3, by omega, e3, ok⟩
  rintro ρ S3 ⟨ts, r, rfl, b3, rp, e3, ok⟩
  refine seq_cut (fun ρ S' => ∃ us r', ρ = [some L, some (.int c), some (.cell p), some (zonesD zs), some (progD ts), some (.cell r), some (progD us), some (.cell r'), x8] ∧ r ≠ r' ∧ S'[r]? = some (.lst ((kindsFrom [.mom] ts).map Kd.d)) ∧ S'[r']? = some (.lst ((kindsFrom [.mom] us).map Kd.d)) ∧ ProgOK zs.length us) (fun M hM => ?_) ?_
  · simp
    refine wanted_does (n := 80000) (b3.mono (by omega)) z fun us S4 b4 g4 l4 e4 ok' => ?_
    simp
    have := (List.getElem?_eq_some_iff.mp e3).1
    exact hM _ _ ⟨us, _, rfl, by omega, g4.get e3 rp, e4, ok'⟩
  rintro ρ S4 ⟨us, r', rfl, rr, e4, f4, ok'⟩
  have hr := (List.getElem?_eq_some_iff.mp e4).1
  have hr' := (List.getElem?_eq_some_iff.mp f4).1
  have lt : (kindsFrom [.mom] ts).length ≤ 1000 := by rw [kindsFrom_length]; have := ok.len; simp; omega
  have lu : (kindsFrom [.mom] us).length ≤ 1000 := by rw [kindsFrom_length]; have := ok'.len; simp; omega
  refine seq_cut (fun ρ S' => ∃ q, ρ = [some L, some (.int c), some (.cell p), some (zonesD zs), some (progD ts), some (.cell r), some (progD us), some (.cell r'), some (.cell q)] ∧ q ≠ r ∧ q ≠ r' ∧ S'[r]? = some (.lst ((kindsFrom [.mom] ts).map Kd.d)) ∧ S'[r']? = some (.lst ((kindsFrom [.mom] us).map Kd.d)) ∧ S'[q]? = some (.lst ((kindsFrom [.mom] ts).map Kd.d))) (fun M hM => ?_) ?_
  · simp
    refine kinds_does z ok ?_
    exact hM _ _ ⟨_, rfl, by omega, by omega, app_at _ e4, app_at _ f4, by rw [List.getElem?_append_right (by omega)]; simp⟩
  rintro ρ S5 ⟨q, rfl, qr, qr', e5, f5, h5⟩
  refine seq_cut (fun ρ S' => ρ = [some L, some (.int c), some (.cell p), some (zonesD zs), some (progD ts), some (.cell r), some (progD us), some (.cell r'), some (.cell q)] ∧ S'[r]? = some (.lst ((kindsFrom [.mom] ts).map Kd.d)) ∧ S'[r']? = some (.lst ((kindsFrom [.mom] us).map Kd.d)) ∧ S'[q]? = some (.lst ((kindsFrom [.mom] ts).map Kd.d))) (fun M hM => ?_) ?_
  · simp [same_kinds h5 e5 lt]
    refine is_program_does z ok ?_
    simp
    exact hM _ _ ⟨rfl, app_at _ e5, app_at _ f5, app_at _ h5⟩
  rintro ρ S6 ⟨rfl, e6, f6, h6⟩
  refine seq_cut (fun ρ S' => ρ = [some L, some (.int c), some (.cell p), some (zonesD zs), some (progD ts), some (.cell r), some (progD us), some (.cell r'), some (.cell q)] ∧ S'[r]? = some (.lst ((kindsFrom [.mom] ts).map Kd.d)) ∧ S'[r']? = some (.lst ((kindsFrom [.mom] us).map Kd.d)) ∧ ∃ d ds, S'[q]? = some (.lst (d :: ds))) (fun M hM => ?_) ?_
  · simp [h6]
    refine ⟨by omega, hM _ _ ⟨rfl, by rw [List.getElem?_set_ne qr]; exact e6, by rw [List.getElem?_set_ne qr']; exact f6, ?_⟩⟩
    rw [List.getElem?_set_self (List.getElem?_eq_some_iff.mp h6).1]
    cases e : (kindsFrom [.mom] ts).map Kd.d with
    | nil => exact ⟨_, _, rfl⟩
    | cons a l => exact ⟨_, _, rfl⟩
  rintro ρ S7 ⟨rfl, e7, f7, d, ds, h7⟩
  refine seq_cut (fun ρ S' => ρ = [some L, some (.int c), some (.cell p), some (zonesD zs), some (progD ts), some (.cell r), some (progD us), some (.cell r'), some (.cell q)] ∧ S'[r]? = some (.lst ((kindsFrom [.mom] ts).map Kd.d)) ∧ S'[r']? = some (.lst ((kindsFrom [.mom] us).map Kd.d))) (fun M hM => ?_) ?_
  · simp [h7]
    refine ⟨0, by simp [ixN], hM _ _ ⟨rfl, by rw [List.getElem?_set_ne qr]; exact e7, by rw [List.getElem?_set_ne qr']; exact f7⟩⟩
  rintro ρ S8 ⟨rfl, e8, f8⟩
  simp
  refine kinds_does z ok' ?_
  have k9 : (S8 ++ [.lst ((kindsFrom [.mom] us).map Kd.d), .lst ((kindsFrom [.mom] us).map Kd.d)])[S8.length + 1]? = some (.lst ((kindsFrom [.mom] us).map Kd.d)) := by rw [List.getElem?_append_right (by omega)]; simp
  have f9 := app_at [.lst ((kindsFrom [.mom] us).map Kd.d), .lst ((kindsFrom [.mom] us).map Kd.d)] f8
  have e9 := app_at [.lst ((kindsFrom [.mom] us).map Kd.d), .lst ((kindsFrom [.mom] us).map Kd.d)] e8
  simp [same_kinds k9 f9 lu]
  generalize S8 ++ [.lst ((kindsFrom [.mom] us).map Kd.d), .lst ((kindsFrom [.mom] us).map Kd.d)] = S9 at e9
  refine kinds_does z ok ?_
  have k10 : (S9 ++ [.lst ((kindsFrom [.mom] ts).map Kd.d), .lst ((kindsFrom [.mom] ts).map Kd.d)])[S9.length + 1]? = some (.lst ((kindsFrom [.mom] ts).map Kd.d)) := by rw [List.getElem?_append_right (by omega)]; simp
  simp [same_kinds k10 (app_at _ e9) lt]
  exact ⟨_, _, ⟨rfl, rfl⟩, rfl⟩
end Dm
-- text E_k20
open PySem PySem.W PyProof.Rows in
set_option maxRecDepth 100000 in
set_option maxHeartbeats 0 in
theorem PySem.Challenge.cw_hoursmeant_k20_kinds_of_values_holds : PySem.Challenge.rw_hoursmeant_k20_kinds_of_values.Holds := by
  w_on; o_law; k_head; (case hw => w_witness2)
  k_fill
  refine V.walk (l := PySem.Challenge.rw_hoursmeant_k20_kinds_of_values) rfl rfl (fun w h Y => PySem.W.kIn_of Y) ?F
  case F =>
    intro w mg fa h KX G hmg
    refine' V.all_mk Dm.law_k20_kinds_of_values_true KX G hmg ?a0 ?l0 ?c0 ?k0 ?a1 ?l1 ?c1 ?k1 ?a2 ?l2 ?c2 ?k2 ?a3 ?l3 ?c3 ?k3 ?a4 ?l4 ?c4 ?k4 ?a5 ?l5 ?c5 ?k5 ?a6 ?l6 ?c6 ?k6 ?a7 ?l7 ?c7 ?k7 ?a8 ?l8 ?c8 ?k8 ?a9 ?l9 ?c9 ?k9 ?a10 ?l10 ?c10 ?k10 ?a11 ?l11 ?c11 ?k11 ?a12 ?l12 ?c12 ?k12 ?a13 ?l13 ?c13 ?k13 ?a14 ?l14 ?c14 ?k14 ?a15 ?l15 ?c15 ?k15 ?a16 ?l16 ?c16 ?k16 ?a17 ?l17 ?c17 ?k17 ?a18 ?l18 ?c18 ?k18 ?a19 ?l19 ?c19 ?k19 ?a20 ?l20 ?c20 ?k20 ?a21 ?l21 ?c21 ?k21 ?a22 ?l22 ?c22 ?k22 ?z0 ?z1 ?z2 ?z3 ?z4 ?z5 ?z6 ?z7 ?z8 ?z9 ?z10 ?z11 ?z12 ?v0 ?q0_1 ?v1 ?q1_1 ?v2 ?tb2 ?hs2_0 ?hs2_1 ?hs2_2 ?hs2_3 ?hs2_4 ?hs2_5 ?lw2 ?v3 ?v4 ?v5 ?v6 ?v7 ?tb7 ?hs7_0 ?hs7_1 ?hs7_2 ?hs7_3 ?hs7_4 ?hs7_5 ?hs7_6 ?lw7 ?q7_1 ?q7_4 ?q7_9 ?q7_12 ?q7_15 ?q7_18 ?q7_21 ?xa0 ?xq0 ?xk0 ?xb0 ?xt0 ?xa1 ?xq1 ?xk1 ?xb1 ?xt1
    (case a0 => k_is)
    (case l0 => k_is)
    (case c0 => k_is)
    (case k0 => k_is)
    (case a1 => k_is)
    (case l1 => k_is)
    (case c1 => k_is)
    (case k1 => k_is)
    (case a2 => k_is)
    (case l2 => k_is)
    (case c2 => k_is)
    (case k2 => k_is)
    (case a3 => k_is)
    (case l3 => k_is)
    (case c3 => k_is)
    (case k3 => k_is)
    (case a4 => k_is)
    (case l4 => k_is)
    (case c4 => k_is)
    (case k4 => k_is)
    (case a5 => k_is)
    (case l5 => k_is)
    (case c5 => k_is)
    (case k5 => k_is)
    (case a6 => k_is)
    (case l6 => k_is)
    (case c6 => k_is)
    (case k6 => k_is)
    (case a7 => k_is)
    (case l7 => k_is)
    (case c7 => k_is)
    (case k7 => k_is)
    (case a8 => k_is)
    (case l8 => k_is)
    (case c8 => k_is)
    (case k8 => k_is)
    (case a9 => k_is)
    (case l9 => k_is)
    (case c9 => k_is)
    (case k9 => k_is)
    (case a10 => k_is)
    (case l10 => k_is)
    (case c10 => k_is)
    (case k10 => k_is)
    (case a11 => k_is)
    (case l11 => k_is)
    (case c11 => k_is)
    (case k11 => k_is)
    (case a12 => k_is)
    (case l12 => k_is)
    (case c12 => k_is)
    (case k12 => k_is)
    (case a13 => k_is)
    (case l13 => k_is)
    (case c13 => k_is)
    (case k13 => k_is)
    (case a14 => k_is)
    (case l14 => k_is)
    (case c14 => k_is)
    (case k14 => k_is)
    (case a15 => k_is)
    (case l15 => k_is)
    (case c15 => k_is)
    (case k15 => k_is)
    (case a16 => k_is)
    (case l16 => k_is)
    (case c16 => k_is)
    (case k16 => k_is)
    (case a17 => k_is)
    (case l17 => k_is)
    (case c17 => k_is)
    (case k17 => k_is)
    (case a18 => k_is)
    (case l18 => k_is)
    (case c18 => k_is)
    (case k18 => k_is)
    (case a19 => k_is)
    (case l19 => k_is)
    (case c19 => k_is)
    (case k19 => k_is)
    (case a20 => k_is)
    (case l20 => k_is)
    (case c20 => k_is)
    (case k20 => k_is)
    (case a21 => k_is)
    (case l21 => k_is)
    (case c21 => k_is)
    (case k21 => k_is)
    (case a22 => k_is)
    (case l22 => k_is)
    (case c22 => k_is)
    (case k22 => k_is)
    (case z0 => k_is)
    (case z1 => k_is)
    (case z2 => k_is)
    (case z3 => k_is)
    (case z4 => k_is)
    (case z5 => k_is)
    (case z6 => k_is)
    (case z7 => k_is)
    (case z8 => k_is)
    (case z9 => k_is)
    (case z10 => k_is)
    (case z11 => k_is)
    (case z12 => k_is)
    (case v0 => k_is)
    (case q0_1 => k_is)
    (case v1 => k_is)
    (case q1_1 => k_is)
    (case v2 => k_is)
    (case tb2 => k_is)
    (case hs2_0 => rfl)
    (case hs2_1 => rfl)
    (case hs2_2 => rfl)
    (case hs2_3 => rfl)
    (case hs2_4 => rfl)
    (case hs2_5 => rfl)
    (case lw2 => rfl)
    (case v3 => k_is)
    (case v4 => k_is)
    (case v5 => k_is)
    (case v6 => k_is)
    (case v7 => k_is)
    (case tb7 => k_is)
    (case hs7_0 => rfl)
    (case hs7_1 => rfl)
    (case hs7_2 => rfl)
    (case hs7_3 => rfl)
    (case hs7_4 => rfl)
    (case hs7_5 => rfl)
    (case hs7_6 => rfl)
    (case lw7 => rfl)
    (case q7_1 => k_is)
    (case q7_4 => k_is)
    (case q7_9 => k_is)
    (case q7_12 => k_is)
    (case q7_15 => k_is)
    (case q7_18 => k_is)
    (case q7_21 => k_is)
    (case xa0 => k_is)
    (case xq0 => k_exc)
    (case xk0 => k_is)
    (case xb0 => k_is)
    (case xt0 => k_is)
    (case xa1 => k_is)
    (case xq1 => k_exc)
    (case xk1 => k_is)
    (case xb1 => k_is)
    (case xt1 => k_is)
