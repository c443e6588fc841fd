import PyProof.Rows.All
import Wide.All
import OpenK.AllK
import Wide.FinOn
import HandS.ForMost
import HandS.ForExc
import HandS.Wide
import HandS.IsInst
import HandS.Flow
import HandS.CallSlots
import HandS.TupAny
import HandS.Conv
import HandS.Deep
import KE.GoesEnum
import HandS.Style
import HandS.Ends
import HandS.SortRule
import HandS.SortInts
import HandS.Dict
import HandS.DictComp
import HandS.Defaults
import HandS.MakeKwOnly
import HandS.TryOnly
import HandS.SetFor
import HandS.Strs
import PyProof.P3In
import HandS.More
import PyProof.ReprRoads
import HandS.TryMany
import HandS.ExcField
import HandS.ExcIs
import HandS.ExcInit
import HandS.ClsMeth
import PySem.Challenge.RW_hoursmeant_k13_whole_all_tables
set_option Elab.async false
set_option linter.all false
set_option maxRecDepth 100000
set_option maxHeartbeats 4000000
-- text DmCore
/-! Plain data in place of the heap: values D, a store of cells, programs as Lean functions of both. -/
namespace Dm
open PySem L2
open PySem.W (Frag)
inductive D where
  | non | bl (b : Bool) | int (i : Int) | str (x : Str)
  | tup (xs : List D) | lst (xs : List D)
  | cell (n : Nat) | glo (x : Str)
  | exn (c : Str) (fs : List (Str × Int))
inductive Cell where
  | lst (xs : List D)
  | obj (c : Str) (fs : List (Str × D))
  | exc (c : Str) (fs : List (Str × D))
  | dic (kvs : List (Key × D))
  | set (xs : List Int)
abbrev Sto := List Cell
inductive Res (α : Type) where
  | ok (a : α) (S : Sto)
  | exc (c : Str) (fs : List (Str × D)) (S : Sto)
  | bad
def Res.bind {α β : Type} (r : Res α) (f : α → Sto → Res β) : Res β := match r with
  | .ok a S => f a S
  | .exc c fs S => .exc c fs S
  | .bad => .bad
abbrev Rho := List (Option D)
abbrev ME := Rho → Sto → Res D
abbrev MA := Rho → Sto → Res (List D)
inductive Out where
  | nx (ρ : Rho) (S : Sto) | rt (d : D) (S : Sto) | bk (ρ : Rho) (S : Sto) | ct (ρ : Rho) (S : Sto)
  | exc (c : Str) (fs : List (Str × D)) (ρ : Rho) (S : Sto) | bad
abbrev MS := Rho → Sto → Out
/-! ### what stands for what -/
def KT (K : Frag) (a : Addr) (xs : List V) : Prop := ∃ (o : Obj) (its : Array Value) (n : Nat), K.lookup a = some o ∧ o.cls = .type "tuple" ∧ o.data = .seq its n ∧ its.size ≤ sizeLine ∧ Vals xs its.toList
def KL (K : Frag) (a : Addr) (xs : List V) : Prop := ∃ (o : Obj) (its : Array Value) (n : Nat), K.lookup a = some o ∧ o.cls = .type "list" ∧ o.dict = none ∧ o.data = .seq its n ∧ its.size ≤ sizeLine ∧ Vals xs its.toList
/-- what is fixed: the written part, the module's names, the addresses of lists that are being made -/
structure Fx where
  K : Frag
  mg : Str → Option Value
  ξ : List Addr
abbrev fx (X : Cx) (ξ : List Addr) : Fx := ⟨X.K, X.mg, ξ⟩
def FzT (F : Fx) (μ : List Addr) (H : Hp) (a : Addr) (xs : List V) : Prop := (Rd H a (.tup xs) ∧ a ∉ μ ∧ a ∉ F.ξ) ∨ KT F.K a xs
def FzL (F : Fx) (μ : List Addr) (H : Hp) (a : Addr) (xs : List V) : Prop := (Rd H a (.lst xs) ∧ a ∉ μ ∧ a ∉ F.ξ) ∨ KL F.K a xs
theorem FzT.sq {F : Fx} {μ : List Addr} {H : Hp} {a : Addr} {xs : List V} (h : FzT F μ H a xs) : SqT F.K H a xs := h.imp (·.1) id
theorem FzL.sq {F : Fx} {μ : List Addr} {H : Hp} {a : Addr} {xs : List V} (h : FzL F μ H a xs) : SqL F.K H a xs := h.imp (·.1) id
/-- at a: an exception that was raised once, of the class cls, its dict -/
def ExV (cls : Value) (d : Option Addr) (a : Addr) : HO := .ext fun h => ∃ (oe : Obj) (vs : Array Value), h.get? a = some oe ∧ Zc cls d oe ∧ oe.data = .fields vs
def intFs (ns : List (Str × Int)) : List (Str × V) := ns.map fun p => (p.1, .int p.2)
/-- an exception as a value -/
def FzX (F : Fx) (μ : List Addr) (H : Hp) (a : Addr) (c : Str) (ns : List (Str × Int)) : Prop := ∃ cls dd, F.mg c = some cls ∧ (H a = some (ExV cls dd a) ∧ a ∉ μ ∧ a ∉ F.ξ) ∧ ((ns = [] ∧ dd = none) ∨ ∃ d, dd = some d ∧ H d = some (.xd (intFs ns)) ∧ d ∉ μ ∧ d ∉ F.ξ)
mutual
inductive RD (F : Fx) (μ : List Addr) (H : Hp) : V → D → Prop
  | non : RD F μ H .non .non
  | bl (b : Bool) : RD F μ H (.bl b) (.bl b)
  | int (i : Int) : RD F μ H (.int i) (.int i)
  | str (x : Str) : RD F μ H (.str x) (.str x)
  | tup {a : Addr} {xs : List V} {ds : List D} : FzT F μ H a xs → RDs F μ H xs ds → RD F μ H (.ref a) (.tup ds)
  | lst {a : Addr} {xs : List V} {ds : List D} : FzL F μ H a xs → RDs F μ H xs ds → RD F μ H (.ref a) (.lst ds)
  | cell {a : Addr} {n : Nat} : μ[n]? = some a → RD F μ H (.ref a) (.cell n)
  | glo {a : Addr} {x : Str} : F.mg x = some (.ref a) → RD F μ H (.ref a) (.glo x)
  | exn {a : Addr} {c : Str} {ns : List (Str × Int)} : FzX F μ H a c ns → RD F μ H (.ref a) (.exn c ns)
inductive RDs (F : Fx) (μ : List Addr) (H : Hp) : List V → List D → Prop
  | nil : RDs F μ H [] []
  | cons {v : V} {vs : List V} {d : D} {ds : List D} : RD F μ H v d → RDs F μ H vs ds → RDs F μ H (v :: vs) (d :: ds)
end
/-- what has gone on: new cells behind the old ones, all but the cells is as it was -/
structure Up (μ : List Addr) (H : Hp) (μ' : List Addr) (H' : Hp) : Prop where
  pre : ∃ ν, μ' = μ ++ ν
  new : ∀ a, a ∈ μ' → a ∉ μ → H a = none
  keep : ∀ a o, H a = some o → a ∉ μ → H' a = some o
section
variable {F : Fx} {μ μ' μ1 μ2 : List Addr} {H H' H1 H2 : Hp}
theorem Up.refl : Up μ H μ H := ⟨⟨[], (List.append_nil _).symm⟩, fun _ h n => absurd h n, fun _ _ h _ => h⟩
theorem Up.notin (u : Up μ H μ' H') {a : Addr} {o : HO} (h : H a = some o) (n : a ∉ μ) : a ∉ μ' := fun z => by
  have q := u.new a z n
  rw [h] at q; cases q
theorem Up.trans (u : Up μ H μ1 H1) (v : Up μ1 H1 μ2 H2) : Up μ H μ2 H2 := by
  obtain ⟨ν, e⟩ := u.pre
  obtain ⟨ν', e'⟩ := v.pre
  refine ⟨⟨ν ++ ν', by rw [e', e, List.append_assoc]⟩, fun a h n => ?_, fun a o h n => v.keep a o (u.keep a o h n) (u.notin h n)⟩
  by_cases h1 : a ∈ μ1
  · exact u.new a h1 n
  · have q := v.new a h h1
    cases z : H a with
    | none => rfl
    | some o =>
      rw [u.keep a o z n] at q; cases q
theorem Up.back (u : Up μ H μ' H') {p : Addr} (h : H' p = none) (n : p ∉ μ := by assumption) : H p = none := by
  cases z : H p with
  | none => rfl
  | some o =>
    rw [u.keep p o z n] at h; cases h
theorem Up.mem (u : Up μ H μ' H') {a : Addr} (h : a ∈ μ) : a ∈ μ' := by
  obtain ⟨ν, e⟩ := u.pre
  rw [e]
  exact List.mem_append_left _ h
theorem Up.get (u : Up μ H μ' H') {n : Nat} {a : Addr} (h : μ[n]? = some a) : μ'[n]? = some a := by
  obtain ⟨ν, e⟩ := u.pre
  rw [e, List.getElem?_append_left (List.getElem?_eq_some_iff.mp h).1]
  exact h
theorem FzT.up (u : Up μ H μ' H') {a : Addr} {xs : List V} (h : FzT F μ H a xs) : FzT F μ' H' a xs := by
  rcases h with ⟨h, n, nx⟩ | h
  · rcases h with h | ⟨o, h⟩
    · exact .inl ⟨.inl (u.keep _ _ h n), u.notin h n, nx⟩
    · exact .inl ⟨.inr ⟨o, u.keep _ _ h n⟩, u.notin h n, nx⟩
  · exact .inr h
theorem FzL.up (u : Up μ H μ' H') {a : Addr} {xs : List V} (h : FzL F μ H a xs) : FzL F μ' H' a xs := by
  rcases h with ⟨h, n, nx⟩ | h
  · rcases h with h | ⟨o, h⟩
    · exact .inl ⟨.inl (u.keep _ _ h n), u.notin h n, nx⟩
    · exact .inl ⟨.inr ⟨o, u.keep _ _ h n⟩, u.notin h n, nx⟩
  · exact .inr h
theorem FzX.up (u : Up μ H μ' H') {a : Addr} {c : Str} {ns : List (Str × Int)} (h : FzX F μ H a c ns) : FzX F μ' H' a c ns := by
  obtain ⟨cls, dd, e, ⟨h1, h2, h3⟩, h4⟩ := h
  refine ⟨cls, dd, e, ⟨u.keep _ _ h1 h2, u.notin h1 h2, h3⟩, h4.imp id ?_⟩
  rintro ⟨d, e2, h5, h6, h7⟩
  exact ⟨d, e2, u.keep _ _ h5 h6, u.notin h5 h6, h7⟩
mutual
theorem RD.up (u : Up μ H μ' H') : ∀ {v : V} (d : D), RD F μ H v d → RD F μ' H' v d
  | _, .non, h => by cases h; exact .non
  | _, .bl b, h => by cases h; exact .bl b
  | _, .int i, h => by cases h; exact .int i
  | _, .str x, h => by cases h; exact .str x
  | _, .tup ds, h => by
    cases h with
    | tup f r => exact .tup (f.up u) (RDs.up u ds r)
  | _, .lst ds, h => by
    cases h with
    | lst f r => exact .lst (f.up u) (RDs.up u ds r)
  | _, .cell n, h => by
    cases h with
    | cell e => exact .cell (u.get e)
  | _, .glo x, h => by
    cases h with
    | glo e => exact .glo e
  | _, .exn c ns, h => by
    cases h with
    | exn f => exact .exn (f.up u)
theorem RDs.up (u : Up μ H μ' H') : ∀ {vs : List V} (ds : List D), RDs F μ H vs ds → RDs F μ' H' vs ds
  | _, [], h => by cases h; exact .nil
  | _, d :: ds, h => by
    cases h with
    | cons a b => exact .cons (RD.up u d a) (RDs.up u ds b)
end
theorem RDs.length : ∀ {vs : List V} {ds : List D}, RDs F μ H vs ds → vs.length = ds.length
  | _, [], h => by cases h; rfl
  | _, d :: ds, h => by
    cases h with
    | cons a b => rw [List.length_cons, List.length_cons, RDs.length b]
theorem RDs.get : ∀ {vs : List V} {ds : List D}, RDs F μ H vs ds → ∀ {i : Nat} {d : D}, ds[i]? = some d → ∃ v, vs[i]? = some v ∧ RD F μ H v d
  | _, [], _, i, d, e => by simp at e
  | _, d0 :: ds, h, 0, d, e => by
    cases h with
    | cons a b =>
      simp at e; subst e
      exact ⟨_, rfl, a⟩
  | _, d0 :: ds, h, i + 1, d, e => by
    cases h with
    | cons a b =>
      obtain ⟨v, h1, h2⟩ := RDs.get b (i := i) (d := d) (by simpa using e)
      exact ⟨v, by simpa using h1, h2⟩
theorem RDs.append : ∀ {vs ws : List V} {ds es : List D}, RDs F μ H vs ds → RDs F μ H ws es → RDs F μ H (vs ++ ws) (ds ++ es)
  | _, _, [], _, h, k => by cases h; exact k
  | _, _, d :: ds, _, h, k => by
    cases h with
    | cons a b => exact .cons a (RDs.append b k)
theorem RDs.take : ∀ {vs : List V} {ds : List D} (n : Nat), RDs F μ H vs ds → RDs F μ H (vs.take n) (ds.take n)
  | _, _, 0, _ => .nil
  | _, [], _ + 1, h => by cases h; exact .nil
  | _, d :: ds, n + 1, h => by
    cases h with
    | cons a b => exact .cons a (RDs.take n b)
theorem RDs.drop : ∀ {vs : List V} {ds : List D} (n : Nat), RDs F μ H vs ds → RDs F μ H (vs.drop n) (ds.drop n)
  | _, _, 0, h => h
  | _, [], _ + 1, h => by cases h; exact .nil
  | _, d :: ds, n + 1, h => by
    cases h with
    | cons a b => exact RDs.drop n b
theorem RDs.reverse : ∀ {vs : List V} {ds : List D}, RDs F μ H vs ds → RDs F μ H vs.reverse ds.reverse
  | _, [], h => by cases h; exact .nil
  | _, d :: ds, h => by
    cases h with
    | cons a b =>
      rw [List.reverse_cons, List.reverse_cons]
      exact RDs.append (RDs.reverse b) (.cons a .nil)
theorem RDs.set : ∀ {vs : List V} {ds : List D} (n : Nat) {v : V} {d : D}, RDs F μ H vs ds → RD F μ H v d → RDs F μ H (vs.set n v) (ds.set n d)
  | _, [], n, _, _, h, _ => by cases h; exact .nil
  | _, d0 :: ds, 0, _, _, h, k => by
    cases h with
    | cons a b => exact .cons k b
  | _, d0 :: ds, n + 1, _, _, h, k => by
    cases h with
    | cons a b => exact .cons a (RDs.set n b k)
end
/-- fields by name -/
def FsR (F : Fx) (μ : List Addr) (H : Hp) (vfs : List (Str × V)) (fs : List (Str × D)) : Prop := Paired (fun p q => p.1 = q.1 ∧ RD F μ H p.2 q.2) vfs fs
def KvR (F : Fx) (μ : List Addr) (H : Hp) (vk : List (Key × V)) (kvs : List (Key × D)) : Prop := Paired (fun p q => p.1 = q.1 ∧ RD F μ H p.2 q.2) vk kvs
theorem FsR.up {F : Fx} {μ μ' : List Addr} {H H' : Hp} (u : Up μ H μ' H') {vfs : List (Str × V)} {fs : List (Str × D)} (h : FsR F μ H vfs fs) : FsR F μ' H' vfs fs :=
  Paired.mapP h fun _ _ z => ⟨z.1, z.2.up u⟩
theorem KvR.up {F : Fx} {μ μ' : List Addr} {H H' : Hp} (u : Up μ H μ' H') {vfs : List (Key × V)} {fs : List (Key × D)} (h : KvR F μ H vfs fs) : KvR F μ' H' vfs fs :=
  Paired.mapP h fun _ _ z => ⟨z.1, z.2.up u⟩
/-- a cell at its address -/
def CellOk (F : Fx) (μ : List Addr) (H : Hp) (a : Addr) : Cell → Prop
  | .lst ds => ∃ xs, H a = some (.lst xs) ∧ RDs F μ H xs ds
  | .obj c fs => ∃ C dx vfs, H a = some (.ins C dx vfs) ∧ F.mg c = some (.ref C) ∧ FsR F μ H vfs fs
  | .dic kvs => ∃ vk, H a = some (.dK vk) ∧ KvR F μ H vk kvs
  | .exc _ _ => False
  | .set _ => False
structure RS (F : Fx) (μ : List Addr) (H : Hp) (S : Sto) : Prop where
  len : μ.length = S.length
  nd : μ.Nodup
  at_ : ∀ (n : Nat) (a : Addr) (c : Cell), μ[n]? = some a → S[n]? = some c → CellOk F μ H a c
  xi : ∀ a, a ∈ F.ξ → a ∉ μ ∧ ∃ o, H a = some o
/-- the slots -/
structure RG (F : Fx) (μ : List Addr) (H : Hp) (σ : St) (ρ : Rho) : Prop where
  len : σ.length = ρ.length
  at_ : ∀ (i : Nat) (d : D), ρ[i]? = some (some d) → ∃ v, σ[i]? = some (some v) ∧ RD F μ H v d
/-- an exception in the air -/
def XR (F : Fx) (μ : List Addr) (H : Hp) (cls : Value) (dd : Option Addr) (c : Str) (fs : List (Str × D)) : Prop :=
  F.mg c = some cls ∧ ((fs = [] ∧ dd = none) ∨ ∃ d vfs, dd = some d ∧ H d = some (.xd vfs) ∧ d ∉ μ ∧ d ∉ F.ξ ∧ FsR F μ H vfs fs)
section
variable {F : Fx} {μ μ' μ1 : List Addr} {H H' H1 : Hp} {S S' S1 : Sto} {σ : St} {ρ : Rho}
theorem RG.up (u : Up μ H μ' H') (g : RG F μ H σ ρ) : RG F μ' H' σ ρ := ⟨g.len, fun i d e => by
  obtain ⟨v, h, r⟩ := g.at_ i d e
  exact ⟨v, h, r.up u⟩⟩
theorem RG.set {v : V} {d : D} (i : Nat) (g : RG F μ H σ ρ) (r : RD F μ H v d) : RG F μ H (σ.set i (some v)) (ρ.set i (some d)) := ⟨by rw [List.length_set, List.length_set, g.len], fun j d' e => by
  by_cases hj : i = j
  · subst hj
    by_cases hl : i < ρ.length
    · rw [List.getElem?_set_self hl] at e; cases e
      exact ⟨v, List.getElem?_set_self (by rw [g.len]; exact hl), r⟩
    · rw [List.getElem?_eq_none (by simpa using hl)] at e; cases e
  · rw [List.getElem?_set_ne hj] at e
    obtain ⟨w, h, r'⟩ := g.at_ j d' e
    exact ⟨w, by rw [List.getElem?_set_ne hj]; exact h, r'⟩⟩
theorem RG.forget {σ' : St} (i : Nat) (g : RG F μ H σ ρ) : RG F μ H (σ.set i none) (ρ.set i none) := ⟨by rw [List.length_set, List.length_set, g.len], fun j d' e => by
  by_cases hj : i = j
  · subst hj
    by_cases hl : i < ρ.length
    · rw [List.getElem?_set_self hl] at e; cases e
    · rw [List.getElem?_eq_none (by simpa using hl)] at e; cases e
  · rw [List.getElem?_set_ne hj] at e
    obtain ⟨w, h, r'⟩ := g.at_ j d' e
    exact ⟨w, by rw [List.getElem?_set_ne hj]; exact h, r'⟩⟩
/-- a new object beside the cells -/
theorem Up.fresh {p : Addr} {o : HO} (h : H p = none) : Up μ H μ (upd H p o) := ⟨⟨[], (List.append_nil _).symm⟩, fun _ h n => absurd h n, fun a u e _ => by rw [upd_ne (ne_of_none e h)]; exact e⟩
theorem CellOk.up (u : Up μ H μ' H') {a : Addr} {c : Cell} (e : H' a = H a) (h : CellOk F μ H a c) : CellOk F μ' H' a c := by
  cases c with
  | lst ds =>
    obtain ⟨xs, h1, h2⟩ := h
    exact ⟨xs, e.trans h1, h2.up u⟩
  | obj c fs =>
    obtain ⟨C, dx, vfs, h1, h2, h3⟩ := h
    exact ⟨C, dx, vfs, e.trans h1, h2, h3.up u⟩
  | dic kvs =>
    obtain ⟨vk, h1, h2⟩ := h
    exact ⟨vk, e.trans h1, h2.up u⟩
  | exc _ _ => exact h.elim
  | set _ => exact h.elim
theorem CellOk.hasO {a : Addr} {c : Cell} (h : CellOk F μ H a c) : ∃ o, H a = some o := by
  cases c with
  | lst ds =>
    obtain ⟨xs, h1, h2⟩ := h
    exact ⟨_, h1⟩
  | obj c fs =>
    obtain ⟨C, dx, vfs, h1, _⟩ := h
    exact ⟨_, h1⟩
  | dic kvs =>
    obtain ⟨vk, h1, h2⟩ := h
    exact ⟨_, h1⟩
  | exc _ _ => exact h.elim
  | set _ => exact h.elim
theorem RS.there (r : RS F μ H S) {n : Nat} {a : Addr} (h : μ[n]? = some a) : ∃ c, S[n]? = some c := by
  have hn := (List.getElem?_eq_some_iff.mp h).1
  rw [r.len] at hn
  exact ⟨S[n], List.getElem?_eq_getElem hn⟩
theorem RS.hasO (r : RS F μ H S) {a : Addr} (h : a ∈ μ) : ∃ o, H a = some o := by
  obtain ⟨n, e⟩ := List.getElem?_of_mem h
  obtain ⟨c, hc⟩ := r.there e
  exact (r.at_ n a c e hc).hasO
theorem RS.out (r : RS F μ H S) {p : Addr} (h : H p = none) : p ∉ μ := fun z => by
  obtain ⟨o, e⟩ := r.hasO z
  rw [h] at e; cases e
theorem RS.outX (r : RS F μ H S) {p : Addr} (h : H p = none) : p ∉ F.ξ := fun z => by
  obtain ⟨_, o, e⟩ := r.xi p z
  rw [h] at e; cases e
theorem RS.fresh (r : RS F μ H S) {p : Addr} {o : HO} (h : H p = none) : RS F μ (upd H p o) S := ⟨r.len, r.nd, fun n a c e1 e2 => by
  have q := r.at_ n a c e1 e2
  refine q.up (.fresh h) (upd_ne ?_)
  intro z
  subst z
  obtain ⟨o', e⟩ := q.hasO
  rw [h] at e; exact (nomatch e), fun a ha => ⟨(r.xi a ha).1, by
    obtain ⟨o', e⟩ := (r.xi a ha).2
    exact ⟨o', by rw [upd_ne (ne_of_none e h)]; exact e⟩⟩⟩
theorem alloc_at {p : Addr} : (μ ++ [p])[μ.length]? = some p := by rw [List.getElem?_append_right (Nat.le_refl _), Nat.sub_self]; rfl
/-- a cell is written -/
theorem Up.write {n : Nat} {a : Addr} {o : HO} (h : μ[n]? = some a) : Up μ H μ (upd H a o) := ⟨⟨[], (List.append_nil _).symm⟩, fun _ h n => absurd h n, fun b u e nb => by
  rw [upd_ne]
  · exact e
  · rintro rfl
    exact nb (List.mem_of_getElem? h)⟩
theorem RS.write (r : RS F μ H S) {n : Nat} {a : Addr} {o : HO} {c : Cell} (h : μ[n]? = some a) (hc : CellOk F μ (upd H a o) a c) : RS F μ (upd H a o) (S.set n c) := by
  refine ⟨by rw [List.length_set, r.len], r.nd, fun m b c' e1 e2 => ?_, fun b hb => ⟨(r.xi b hb).1, by
    obtain ⟨o', e⟩ := (r.xi b hb).2
    refine ⟨o', ?_⟩
    rw [upd_ne]
    · exact e
    · rintro rfl
      exact (r.xi b hb).1 (List.mem_of_getElem? h)⟩⟩
  by_cases hm : n = m
  · subst hm
    rw [h] at e1; cases e1
    have hl : n < S.length := by rw [← r.len]; exact (List.getElem?_eq_some_iff.mp h).1
    rw [List.getElem?_set_self hl] at e2; cases e2
    exact hc
  · rw [List.getElem?_set_ne hm] at e2
    refine (r.at_ m b c' e1 e2).up (.write h) (upd_ne ?_)
    rintro rfl
    have h1 := (List.getElem?_eq_some_iff.mp h)
    have h2 := (List.getElem?_eq_some_iff.mp e1)
    exact hm ((List.getElem_inj r.nd).mp (h1.2.trans h2.2.symm))
/-- a list that is being made: reserved, then let go -/
def Fx.hold (F : Fx) (p : Addr) : Fx := ⟨F.K, F.mg, p :: F.ξ⟩
theorem FzT.free {p a : Addr} {xs : List V} (h : FzT (F.hold p) μ H a xs) : FzT F μ H a xs := h.imp (fun z => ⟨z.1, z.2.1, fun q => z.2.2 (List.mem_cons_of_mem _ q)⟩) id
theorem FzL.free {p a : Addr} {xs : List V} (h : FzL (F.hold p) μ H a xs) : FzL F μ H a xs := h.imp (fun z => ⟨z.1, z.2.1, fun q => z.2.2 (List.mem_cons_of_mem _ q)⟩) id
theorem FzX.free {p a : Addr} {c : Str} {ns : List (Str × Int)} (h : FzX (F.hold p) μ H a c ns) : FzX F μ H a c ns := by
  obtain ⟨cls, dd, e, ⟨h1, h2, h3⟩, h4⟩ := h
  refine ⟨cls, dd, e, ⟨h1, h2, fun q => h3 (List.mem_cons_of_mem _ q)⟩, h4.imp id ?_⟩
  rintro ⟨d, e2, h5, h6, h7⟩
  exact ⟨d, e2, h5, h6, fun q => h7 (List.mem_cons_of_mem _ q)⟩
mutual
theorem RD.free {p : Addr} : ∀ {v : V} (d : D), RD (F.hold p) μ H v d → RD F μ H v d
  | _, .non, h => by cases h; exact .non
  | _, .bl b, h => by cases h; exact .bl b
  | _, .int i, h => by cases h; exact .int i
  | _, .str x, h => by cases h; exact .str x
  | _, .tup ds, h => by
    cases h with
    | tup f r => exact .tup f.free (RDs.free ds r)
  | _, .lst ds, h => by
    cases h with
    | lst f r => exact .lst f.free (RDs.free ds r)
  | _, .cell n, h => by
    cases h with
    | cell e => exact .cell e
  | _, .glo x, h => by
    cases h with
    | glo e => exact .glo e
  | _, .exn c ns, h => by
    cases h with
    | exn f => exact .exn f.free
theorem RDs.free {p : Addr} : ∀ {vs : List V} (ds : List D), RDs (F.hold p) μ H vs ds → RDs F μ H vs ds
  | _, [], h => by cases h; exact .nil
  | _, d :: ds, h => by
    cases h with
    | cons a b => exact .cons (RD.free d a) (RDs.free ds b)
end
/-- .. reserved at its making, .. written while it is reserved -/
theorem FzT.holds {p a : Addr} {o : HO} {xs : List V} (hp : H p = none) (h : FzT F μ H a xs) : FzT (F.hold p) μ (upd H p o) a xs := by
  rcases h with ⟨h, n, nx⟩ | h
  · have hne : a ≠ p := by
      rcases h with h | ⟨o, h⟩ <;> exact ne_of_none h hp
    refine .inl ⟨?_, n, fun q => (List.mem_cons.mp q).elim hne nx⟩
    rcases h with h | ⟨o, h⟩
    · exact .inl (by rw [upd_ne hne]; exact h)
    · exact .inr ⟨o, by rw [upd_ne hne]; exact h⟩
  · exact .inr h
theorem FzL.holds {p a : Addr} {o : HO} {xs : List V} (hp : H p = none) (h : FzL F μ H a xs) : FzL (F.hold p) μ (upd H p o) a xs := by
  rcases h with ⟨h, n, nx⟩ | h
  · have hne : a ≠ p := by
      rcases h with h | ⟨o, h⟩ <;> exact ne_of_none h hp
    refine .inl ⟨?_, n, fun q => (List.mem_cons.mp q).elim hne nx⟩
    rcases h with h | ⟨o, h⟩
    · exact .inl (by rw [upd_ne hne]; exact h)
    · exact .inr ⟨o, by rw [upd_ne hne]; exact h⟩
  · exact .inr h
theorem FzT.wr {p a : Addr} {o : HO} {xs : List V} (h : FzT (F.hold p) μ H a xs) : FzT (F.hold p) μ (upd H p o) a xs := by
  rcases h with ⟨h, n, nx⟩ | h
  · have hne : a ≠ p := fun z => nx (z ▸ List.mem_cons_self)
    refine .inl ⟨?_, n, nx⟩
    rcases h with h | ⟨o, h⟩
    · exact .inl (by rw [upd_ne hne]; exact h)
    · exact .inr ⟨o, by rw [upd_ne hne]; exact h⟩
  · exact .inr h
theorem FzL.wr {p a : Addr} {o : HO} {xs : List V} (h : FzL (F.hold p) μ H a xs) : FzL (F.hold p) μ (upd H p o) a xs := by
  rcases h with ⟨h, n, nx⟩ | h
  · have hne : a ≠ p := fun z => nx (z ▸ List.mem_cons_self)
    refine .inl ⟨?_, n, nx⟩
    rcases h with h | ⟨o, h⟩
    · exact .inl (by rw [upd_ne hne]; exact h)
    · exact .inr ⟨o, by rw [upd_ne hne]; exact h⟩
  · exact .inr h
theorem FzX.upHold {p a : Addr} {c : Str} {ns : List (Str × Int)} (u : Up μ H μ' H') (hp : H p = none) (h : FzX F μ H a c ns) : FzX (F.hold p) μ' H' a c ns := by
  obtain ⟨cls, dd, e, ⟨h1, h2, h3⟩, h4⟩ := h
  refine ⟨cls, dd, e, ⟨u.keep _ _ h1 h2, u.notin h1 h2, fun q => (List.mem_cons.mp q).elim (ne_of_none h1 hp) h3⟩, h4.imp id ?_⟩
  rintro ⟨d, e2, h5, h6, h7⟩
  exact ⟨d, e2, u.keep _ _ h5 h6, u.notin h5 h6, fun q => (List.mem_cons.mp q).elim (ne_of_none h5 hp) h7⟩
theorem FzX.holds {p a : Addr} {o : HO} {c : Str} {ns : List (Str × Int)} (hp : H p = none) (h : FzX F μ H a c ns) : FzX (F.hold p) μ (upd H p o) a c ns := by
  obtain ⟨cls, dd, e, ⟨h1, h2, h3⟩, h4⟩ := h
  refine ⟨cls, dd, e, ⟨by rw [upd_ne (ne_of_none h1 hp)]; exact h1, h2, fun q => (List.mem_cons.mp q).elim (ne_of_none h1 hp) h3⟩, h4.imp id ?_⟩
  rintro ⟨d, e2, h5, h6, h7⟩
  exact ⟨d, e2, by rw [upd_ne (ne_of_none h5 hp)]; exact h5, h6, fun q => (List.mem_cons.mp q).elim (ne_of_none h5 hp) h7⟩
theorem FzX.wr {p a : Addr} {o : HO} {c : Str} {ns : List (Str × Int)} (h : FzX (F.hold p) μ H a c ns) : FzX (F.hold p) μ (upd H p o) a c ns := by
  obtain ⟨cls, dd, e, ⟨h1, h2, h3⟩, h4⟩ := h
  have ne : ∀ {b : Addr}, b ∉ (F.hold p).ξ → b ≠ p := fun n z => n (by rw [z]; exact List.mem_cons_self)
  refine ⟨cls, dd, e, ⟨by rw [upd_ne (ne h3)]; exact h1, h2, h3⟩, h4.imp id ?_⟩
  rintro ⟨d, e2, h5, h6, h7⟩
  exact ⟨d, e2, by rw [upd_ne (ne h7)]; exact h5, h6, h7⟩
theorem FzX.asCell {p a : Addr} {c : Str} {ns : List (Str × Int)} (h : FzX (F.hold p) μ H a c ns) : FzX F (μ ++ [p]) H a c ns := by
  have no : ∀ {b : Addr}, b ∉ μ → b ∉ (F.hold p).ξ → b ∉ μ ++ [p] := fun h1 h2 q => (List.mem_append.mp q).elim h1 fun q => h2 (by rw [List.mem_singleton.mp q]; exact List.mem_cons_self)
  obtain ⟨cls, dd, e, ⟨h1, h2, h3⟩, h4⟩ := h
  refine ⟨cls, dd, e, ⟨h1, no h2 h3, fun q => h3 (List.mem_cons_of_mem _ q)⟩, h4.imp id ?_⟩
  rintro ⟨d, e2, h5, h6, h7⟩
  exact ⟨d, e2, h5, no h6 h7, fun q => h7 (List.mem_cons_of_mem _ q)⟩
/-- .. as a cell -/
theorem FzT.asCell {p a : Addr} {xs : List V} (h : FzT (F.hold p) μ H a xs) : FzT F (μ ++ [p]) H a xs :=
  h.imp (fun z => ⟨z.1, fun q => (List.mem_append.mp q).elim z.2.1 fun q => z.2.2 (by rw [List.mem_singleton.mp q]; exact List.mem_cons_self), fun q => z.2.2 (List.mem_cons_of_mem _ q)⟩) id
theorem FzL.asCell {p a : Addr} {xs : List V} (h : FzL (F.hold p) μ H a xs) : FzL F (μ ++ [p]) H a xs :=
  h.imp (fun z => ⟨z.1, fun q => (List.mem_append.mp q).elim z.2.1 fun q => z.2.2 (by rw [List.mem_singleton.mp q]; exact List.mem_cons_self), fun q => z.2.2 (List.mem_cons_of_mem _ q)⟩) id
theorem getl {n : Nat} {a p : Addr} (h : μ[n]? = some a) : (μ ++ [p])[n]? = some a := by
  rw [List.getElem?_append_left (List.getElem?_eq_some_iff.mp h).1]
  exact h
/-- a map of what stands for what -/
structure Mv (F : Fx) (μ : List Addr) (H : Hp) (F' : Fx) (μ' : List Addr) (H' : Hp) : Prop where
  t : ∀ {a : Addr} {xs : List V}, FzT F μ H a xs → FzT F' μ' H' a xs
  l : ∀ {a : Addr} {xs : List V}, FzL F μ H a xs → FzL F' μ' H' a xs
  c : ∀ {n : Nat} {a : Addr}, μ[n]? = some a → μ'[n]? = some a
  g : F'.mg = F.mg
  x : ∀ {a : Addr} {c : Str} {ns : List (Str × Int)}, FzX F μ H a c ns → FzX F' μ' H' a c ns
mutual
theorem RD.mv {F' : Fx} (m : Mv F μ H F' μ' H') : ∀ {v : V} (d : D), RD F μ H v d → RD F' μ' H' v d
  | _, .non, h => by cases h; exact .non
  | _, .bl b, h => by cases h; exact .bl b
  | _, .int i, h => by cases h; exact .int i
  | _, .str x, h => by cases h; exact .str x
  | _, .tup ds, h => by
    cases h with
    | tup f r => exact .tup (m.t f) (RDs.mv m ds r)
  | _, .lst ds, h => by
    cases h with
    | lst f r => exact .lst (m.l f) (RDs.mv m ds r)
  | _, .cell n, h => by
    cases h with
    | cell e => exact .cell (m.c e)
  | _, .glo x, h => by
    cases h with
    | glo e => exact .glo (by rw [m.g]; exact e)
  | _, .exn c ns, h => by
    cases h with
    | exn f => exact .exn (m.x f)
theorem RDs.mv {F' : Fx} (m : Mv F μ H F' μ' H') : ∀ {vs : List V} (ds : List D), RDs F μ H vs ds → RDs F' μ' H' vs ds
  | _, [], h => by cases h; exact .nil
  | _, d :: ds, h => by
    cases h with
    | cons a b => exact .cons (RD.mv m d a) (RDs.mv m ds b)
end
theorem Mv.holds {p : Addr} {o : HO} (hp : H p = none) : Mv F μ H (F.hold p) μ (upd H p o) := ⟨fun h => h.holds hp, fun h => h.holds hp, fun h => h, rfl, fun h => h.holds hp⟩
theorem Mv.wr {p : Addr} {o : HO} : Mv (F.hold p) μ H (F.hold p) μ (upd H p o) := ⟨fun h => h.wr, fun h => h.wr, fun h => h, rfl, fun h => h.wr⟩
theorem Mv.asCell {p : Addr} : Mv (F.hold p) μ H F (μ ++ [p]) H := ⟨fun h => h.asCell, fun h => h.asCell, fun h => getl h, rfl, fun h => h.asCell⟩
theorem Mv.free {p : Addr} : Mv (F.hold p) μ H F μ H := ⟨fun h => h.free, fun h => h.free, fun h => h, rfl, fun h => h.free⟩
theorem CellOk.mv {F' : Fx} (m : Mv F μ H F' μ' H') {a : Addr} {c : Cell} (e : H' a = H a) (h : CellOk F μ H a c) : CellOk F' μ' H' a c := by
  cases c with
  | lst ds =>
    obtain ⟨xs, h1, h2⟩ := h
    exact ⟨xs, e.trans h1, h2.mv m⟩
  | obj c fs =>
    obtain ⟨C, dx, vfs, h1, h2, h3⟩ := h
    exact ⟨C, dx, vfs, e.trans h1, by rw [m.g]; exact h2, Paired.mapP h3 fun _ _ z => ⟨z.1, z.2.mv m⟩⟩
  | dic kvs =>
    obtain ⟨vk, h1, h2⟩ := h
    exact ⟨vk, e.trans h1, Paired.mapP h2 fun _ _ z => ⟨z.1, z.2.mv m⟩⟩
  | exc _ _ => exact h.elim
  | set _ => exact h.elim
theorem RG.mv {F' : Fx} (m : Mv F μ H F' μ' H') (g : RG F μ H σ ρ) : RG F' μ' H' σ ρ := ⟨g.len, fun i d e => by
  obtain ⟨v, h, r⟩ := g.at_ i d e
  exact ⟨v, h, r.mv m⟩⟩
theorem RS.holds (r : RS F μ H S) {p : Addr} {o : HO} (hp : H p = none) : RS (F.hold p) μ (upd H p o) S := ⟨r.len, r.nd, fun n a c e1 e2 => by
  have q := r.at_ n a c e1 e2
  refine q.mv (.holds hp) (upd_ne ?_)
  rintro rfl
  obtain ⟨o', e⟩ := q.hasO
  rw [hp] at e; exact (nomatch e), fun a ha => by
  rcases List.mem_cons.mp ha with z | z
  · rw [z]; exact ⟨r.out hp, o, upd_same⟩
  · obtain ⟨h1, o', e⟩ := r.xi a z
    exact ⟨h1, o', by rw [upd_ne (ne_of_none e hp)]; exact e⟩⟩
theorem RS.wr {p : Addr} {o : HO} (r : RS (F.hold p) μ H S) : RS (F.hold p) μ (upd H p o) S := ⟨r.len, r.nd, fun n a c e1 e2 => by
  have q := r.at_ n a c e1 e2
  refine q.mv .wr (upd_ne fun z => ?_)
  rw [z] at e1
  exact (r.xi p List.mem_cons_self).1 (List.mem_of_getElem? e1), fun a ha => by
  obtain ⟨h1, o', e⟩ := r.xi a ha
  by_cases z : a = p
  · rw [z] at h1 ⊢; exact ⟨h1, o, upd_same⟩
  · exact ⟨h1, o', by rw [upd_ne z]; exact e⟩⟩
theorem RS.free {p : Addr} (r : RS (F.hold p) μ H S) : RS F μ H S := ⟨r.len, r.nd, fun n a c e1 e2 => (r.at_ n a c e1 e2).mv .free rfl, fun a ha => r.xi a (List.mem_cons_of_mem _ ha)⟩
theorem RS.asCell {p : Addr} {ds : List D} {xs : List V} (r : RS (F.hold p) μ H S) (hx : p ∉ F.ξ) (h : H p = some (.lst xs)) (q : RDs (F.hold p) μ H xs ds) : RS F (μ ++ [p]) H (S ++ [.lst ds]) := by
  have np := (r.xi p List.mem_cons_self).1
  refine ⟨by rw [List.length_append, List.length_append, r.len] <;> rfl, ?_, fun n a c' e1 e2 => ?_, fun a ha => ⟨fun z => ?_, (r.xi a (List.mem_cons_of_mem _ ha)).2⟩⟩
  · refine List.nodup_append.mpr ⟨r.nd, by simp, fun a ha b hb => ?_⟩
    rw [List.mem_singleton.mp hb]
    rintro rfl
    exact np ha
  · by_cases hn : n < μ.length
    · rw [List.getElem?_append_left hn] at e1
      rw [List.getElem?_append_left (by rw [← r.len]; exact hn)] at e2
      exact (r.at_ n a c' e1 e2).mv .asCell rfl
    · have hn' : n = μ.length := by
        have q := (List.getElem?_eq_some_iff.mp e1).1
        rw [List.length_append, List.length_singleton] at q
        omega
      subst hn'
      rw [List.getElem?_append_right (Nat.le_refl _), Nat.sub_self] at e1
      rw [List.getElem?_append_right (by rw [r.len]; exact Nat.le_refl _), r.len, Nat.sub_self] at e2
      cases e1; cases e2
      exact ⟨xs, h, q.mv .asCell⟩
  · rcases List.mem_append.mp z with z | z
    · exact (r.xi a (List.mem_cons_of_mem _ ha)).1 z
    · rw [List.mem_singleton.mp z] at ha
      exact hx ha
theorem XR.up (u : Up μ H μ' H') {cls : Value} {dd : Option Addr} {c : Str} {fs : List (Str × D)} (h : XR F μ H cls dd c fs) : XR F μ' H' cls dd c fs := by
  obtain ⟨h1, h2⟩ := h
  refine ⟨h1, h2.imp id ?_⟩
  rintro ⟨d, vfs, e, h3, h4, h6, h5⟩
  exact ⟨d, vfs, e, u.keep _ _ h3 h4, u.notin h3 h4, h6, h5.up u⟩
end
/-! ### what is wanted of a run -/
def WR {α β : Type} (F : Fx) (rel : List Addr → Hp → β → α → Prop) (r : Res α) (Q : β → Hp → Prop) (Wx : Value → Option Addr → Hp → Prop) (μ : List Addr) (H : Hp) : Prop := match r with
  | .ok d S' => ∀ v μ' H', Up μ H μ' H' → RS F μ' H' S' → rel μ' H' v d → Q v H'
  | .exc c fs S' => ∀ cls dd μ' H', Up μ H μ' H' → RS F μ' H' S' → XR F μ' H' cls dd c fs → Wx cls dd H'
  | .bad => False
abbrev WE' (F : Fx) := WR F (fun μ H v d => RD F μ H v d)
abbrev WA' (F : Fx) := WR F (fun μ H v d => RDs F μ H v d)
/-- a fresh list: reserved yet -/
def WL' (F : Fx) (r : Res (List D)) (Q : VK) (Wx : Value → Option Addr → Hp → Prop) (μ : List Addr) (H : Hp) : Prop := match r with
  | .ok ds S' => ∀ p xs μ' H', Up μ H μ' H' → H p = none → RS (F.hold p) μ' H' S' → RDs (F.hold p) μ' H' xs ds → H' p = some (.lst xs) → Q (.ref p) H'
  | .exc c fs S' => ∀ cls dd μ' H', Up μ H μ' H' → RS F μ' H' S' → XR F μ' H' cls dd c fs → Wx cls dd H'
  | .bad => False
/-- a truth value -/
def WT' (F : Fx) (r : Res D) (Q : Bool → Hp → Prop) (Wx : Value → Option Addr → Hp → Prop) (μ : List Addr) (H : Hp) : Prop := match r with
  | .ok (.bl b) S' => ∀ μ' H', Up μ H μ' H' → RS F μ' H' S' → Q b H'
  | .exc c fs S' => ∀ cls dd μ' H', Up μ H μ' H' → RS F μ' H' S' → XR F μ' H' cls dd c fs → Wx cls dd H'
  | _ => False
def WS' (F : Fx) (r : Out) (E : Ends) (W : WX) (μ : List Addr) (H : Hp) : Prop := match r with
  | .nx ρ S => ∀ σ μ' H', Up μ H μ' H' → RS F μ' H' S → RG F μ' H' σ ρ → E.nx σ H'
  | .rt d S => ∀ v μ' H', Up μ H μ' H' → RS F μ' H' S → RD F μ' H' v d → E.rt v H'
  | .bk ρ S => ∀ σ μ' H', Up μ H μ' H' → RS F μ' H' S → RG F μ' H' σ ρ → E.bk σ H'
  | .ct ρ S => ∀ σ μ' H', Up μ H μ' H' → RS F μ' H' S → RG F μ' H' σ ρ → E.ct σ H'
  | .exc c fs ρ S => ∀ cls dd σ μ' H', Up μ H μ' H' → RS F μ' H' S → RG F μ' H' σ ρ → XR F μ' H' cls dd c fs → W cls dd σ H'
  | .bad => False
section
variable {F : Fx} {α β γ δ : Type} {rel : List Addr → Hp → β → α → Prop} {rel' : List Addr → Hp → δ → γ → Prop} {μ μ1 : List Addr} {H H1 : Hp} {Q : β → Hp → Prop} {Wx : Value → Option Addr → Hp → Prop}
theorem WR.shift {r : Res α} (u : Up μ H μ1 H1) (h : WR F rel r Q Wx μ H) : WR F rel r Q Wx μ1 H1 := by
  cases r with
  | ok d S => exact fun v μ' H' u' => h v μ' H' (u.trans u')
  | exc c fs S => exact fun cls dd μ' H' u' => h cls dd μ' H' (u.trans u')
  | bad => exact h
theorem WS'.shift {r : Out} {E : Ends} {W : WX} (u : Up μ H μ1 H1) (h : WS' F r E W μ H) : WS' F r E W μ1 H1 := by
  cases r with
  | nx ρ S => exact fun σ μ' H' u' => h σ μ' H' (u.trans u')
  | rt d S => exact fun v μ' H' u' => h v μ' H' (u.trans u')
  | bk ρ S => exact fun σ μ' H' u' => h σ μ' H' (u.trans u')
  | ct ρ S => exact fun σ μ' H' u' => h σ μ' H' (u.trans u')
  | exc c fs ρ S => exact fun cls dd σ μ' H' u' => h cls dd σ μ' H' (u.trans u')
  | bad => exact h
/-- first r, then f -/
theorem WR.bind {r : Res γ} {f : γ → Sto → Res α} {Q1 : δ → Hp → Prop} (h : WR F rel (r.bind f) Q Wx μ H)
    (k : ∀ x S1 v μ1 H1, Up μ H μ1 H1 → RS F μ1 H1 S1 → rel' μ1 H1 v x → WR F rel (f x S1) Q Wx μ1 H1 → Q1 v H1) : WR F rel' r Q1 Wx μ H := by
  cases r with
  | ok x S1 => exact fun v μ1 H1 u1 s1 r1 => k x S1 v μ1 H1 u1 s1 r1 (WR.shift u1 h)
  | exc c fs S => exact h
  | bad => exact h
theorem WL'.shift {r : Res (List D)} {Q : VK} (u : Up μ H μ1 H1) (h : WL' F r Q Wx μ H) : WL' F r Q Wx μ1 H1 := by
  cases r with
  | ok d S =>
    intro p xs μ' H' u' hp s' r' e'
    have np : p ∉ μ := fun z => (s'.xi p List.mem_cons_self).1 (u'.mem (u.mem z))
    exact h p xs μ' H' (u.trans u') (u.back hp np) s' r' e'
  | exc c fs S => exact fun cls dd μ' H' u' => h cls dd μ' H' (u.trans u')
  | bad => exact h
theorem WL'.bind {r : Res γ} {f : γ → Sto → Res (List D)} {Q : VK} {Q1 : δ → Hp → Prop} (h : WL' F (r.bind f) Q Wx μ H)
    (k : ∀ x S1 v μ1 H1, Up μ H μ1 H1 → RS F μ1 H1 S1 → rel' μ1 H1 v x → WL' F (f x S1) Q Wx μ1 H1 → Q1 v H1) : WR F rel' r Q1 Wx μ H := by
  cases r with
  | ok x S1 => exact fun v μ1 H1 u1 s1 r1 => k x S1 v μ1 H1 u1 s1 r1 (WL'.shift u1 h)
  | exc c fs S => exact h
  | bad => exact h
theorem WT'.shift {r : Res D} {Q : Bool → Hp → Prop} (u : Up μ H μ1 H1) (h : WT' F r Q Wx μ H) : WT' F r Q Wx μ1 H1 := by
  cases r with
  | ok d S =>
    cases d with
    | bl b => exact fun μ' H' u' => h μ' H' (u.trans u')
    | _ => exact h
  | exc c fs S => exact fun cls dd μ' H' u' => h cls dd μ' H' (u.trans u')
  | bad => exact h
/-- first r, then f, whose answer is a truth value -/
theorem WT'.bind {r : Res γ} {f : γ → Sto → Res D} {Q : Bool → Hp → Prop} {Q1 : δ → Hp → Prop} (h : WT' F (r.bind f) Q Wx μ H)
    (k : ∀ x S1 v μ1 H1, Up μ H μ1 H1 → RS F μ1 H1 S1 → rel' μ1 H1 v x → WT' F (f x S1) Q Wx μ1 H1 → Q1 v H1) : WR F rel' r Q1 Wx μ H := by
  cases r with
  | ok x S1 => exact fun v μ1 H1 u1 s1 r1 => k x S1 v μ1 H1 u1 s1 r1 (WT'.shift u1 h)
  | exc c fs S => exact h
  | bad => exact h
/-- first a test, then f -/
theorem WR.bindT {r : Res D} {f : D → Sto → Res α} {Q1 : Bool → Hp → Prop} (h : WR F rel (r.bind f) Q Wx μ H) (hb : ∀ d S, (∀ b, d ≠ .bl b) → f d S = .bad)
    (k : ∀ b S1 μ1 H1, Up μ H μ1 H1 → RS F μ1 H1 S1 → WR F rel (f (.bl b) S1) Q Wx μ1 H1 → Q1 b H1) : WT' F r Q1 Wx μ H := by
  cases r with
  | ok d S =>
    have h : WR F rel (f d S) Q Wx μ H := h
    cases d with
    | bl b => exact fun μ1 H1 u1 s1 => k b S μ1 H1 u1 s1 (WR.shift u1 h)
    | _ =>
      rw [hb _ _ (by intro b e; cases e)] at h
      exact h
  | exc c fs S => exact h
  | bad => exact h
theorem WT'.bindT {r : Res D} {f : D → Sto → Res D} {Q Q1 : Bool → Hp → Prop} (h : WT' F (r.bind f) Q Wx μ H) (hb : ∀ d S, (∀ b, d ≠ .bl b) → f d S = .bad)
    (k : ∀ b S1 μ1 H1, Up μ H μ1 H1 → RS F μ1 H1 S1 → WT' F (f (.bl b) S1) Q Wx μ1 H1 → Q1 b H1) : WT' F r Q1 Wx μ H := by
  cases r with
  | ok d S =>
    have h : WT' F (f d S) Q Wx μ H := h
    cases d with
    | bl b => exact fun μ1 H1 u1 s1 => k b S μ1 H1 u1 s1 (WT'.shift u1 h)
    | _ =>
      rw [hb _ _ (by intro b e; cases e)] at h
      exact h
  | exc c fs S => exact h
  | bad => exact h
/-- as a value -/
theorem WT'.val {r : Res D} {Q : Bool → Hp → Prop} (h : WT' F r Q Wx μ H) : WE' F r (fun x H' => ∃ k, x = .bl k ∧ Q k H') Wx μ H := by
  cases r with
  | ok d S =>
    cases d with
    | bl b =>
      intro v μ' H' u' s' r'
      cases r'
      exact ⟨b, rfl, h μ' H' u' s'⟩
    | _ => exact h.elim
  | exc c fs S => exact h
  | bad => exact h
end
end Dm
-- text DmRules
namespace Dm
open PySem L2
open PySem.W (Frag)
structure DE (X : Cx) (W : WX) (e : Expr) (m : ME) : Prop where
  ex : ∃ te, PE X e te ∧ ∀ ξ μ σ H ρ S Q, RG (fx X ξ) μ H σ ρ → RS (fx X ξ) μ H S → WE' (fx X ξ) (m ρ S) Q (fun cls dd H' => W cls dd σ H') μ H → te σ H Q
structure DT (X : Cx) (W : WX) (e : Expr) (m : ME) : Prop where
  ex : ∃ te, PT X e te ∧ ∀ ξ μ σ H ρ S Q, RG (fx X ξ) μ H σ ρ → RS (fx X ξ) μ H S → WT' (fx X ξ) (m ρ S) Q (fun cls dd H' => W cls dd σ H') μ H → te σ H Q
structure DW (X : Cx) (W : WX) (e : Expr) (m : ME) : Prop where
  ex : ∃ te, PW X e te ∧ ∀ ξ μ σ H ρ S Q, RG (fx X ξ) μ H σ ρ → RS (fx X ξ) μ H S → WT' (fx X ξ) (m ρ S) Q (fun cls dd H' => W cls dd σ H') μ H → te σ H Q
structure DA (X : Cx) (W : WX) (es : List Expr) (m : MA) : Prop where
  ex : ∃ te, PA X es te ∧ ∀ ξ μ σ H ρ S Q, RG (fx X ξ) μ H σ ρ → RS (fx X ξ) μ H S → WA' (fx X ξ) (m ρ S) Q (fun cls dd H' => W cls dd σ H') μ H → te σ H Q
/-- a fresh list, its items -/
structure DL (X : Cx) (W : WX) (e : Expr) (m : MA) : Prop where
  ex : ∃ te, PE X e te ∧ ∀ ξ μ σ H ρ S Q, RG (fx X ξ) μ H σ ρ → RS (fx X ξ) μ H S →
    WL' (fx X ξ) (m ρ S) Q (fun cls dd H' => W cls dd σ H') μ H → te σ H Q
structure DS (X : Cx) (W : WX) (st : Stmt) (m : MS) : Prop where
  ex : ∃ ts, PS X st ts ∧ ∀ ξ μ σ H ρ S D, RG (fx X ξ) μ H σ ρ → RS (fx X ξ) μ H S → WS' (fx X ξ) (m ρ S) D W μ H → ts D σ H
structure DSs (X : Cx) (W : WX) (st : List Stmt) (m : MS) : Prop where
  ex : ∃ ts, PSs X st ts ∧ ∀ ξ μ σ H ρ S D, RG (fx X ξ) μ H σ ρ → RS (fx X ξ) μ H S → WS' (fx X ξ) (m ρ S) D W μ H → ts D σ H
/-! ### the words -/
def mVar (i : Nat) : ME := fun ρ S => match ρ[i]? with
  | some (some d) => .ok d S
  | _ => .bad
def mK (d : D) : ME := fun _ S => .ok d S
def mOp (g : Sto → D → D → Option D) (a b : ME) : ME := fun ρ S => (a ρ S).bind fun x S1 => (b ρ S1).bind fun y S2 => match g S2 x y with
  | some z => .ok z S2
  | none => .bad
def mUn (g : Sto → D → Option D) (a : ME) : ME := fun ρ S => (a ρ S).bind fun x S1 => match g S1 x with
  | some z => .ok z S1
  | none => .bad
def mAnd (a b : ME) : ME := fun ρ S => (a ρ S).bind fun x S1 => match x with
  | .bl true => b ρ S1
  | .bl false => .ok (.bl false) S1
  | _ => .bad
def mOr (a b : ME) : ME := fun ρ S => (a ρ S).bind fun x S1 => match x with
  | .bl true => .ok (.bl true) S1
  | .bl false => b ρ S1
  | _ => .bad
def mNot (a : ME) : ME := fun ρ S => (a ρ S).bind fun x S1 => match x with
  | .bl c => .ok (.bl (!c)) S1
  | _ => .bad
def mIf (c a b : ME) : ME := fun ρ S => (c ρ S).bind fun x S1 => match x with
  | .bl true => a ρ S1
  | .bl false => b ρ S1
  | _ => .bad
def mNil : MA := fun _ S => .ok [] S
def mCons (a : ME) (r : MA) : MA := fun ρ S => (a ρ S).bind fun x S1 => (r ρ S1).bind fun xs S2 => .ok (x :: xs) S2
def mTup (a : MA) : ME := fun ρ S => (a ρ S).bind fun xs S1 => if xs.length ≤ 16777216 then .ok (.tup xs) S1 else .bad
def mLst (a : MA) : MA := fun ρ S => (a ρ S).bind fun xs S1 => if xs.length ≤ 16777216 then .ok xs S1 else .bad
def mCall (f : List D → Sto → Res D) (a : MA) : ME := fun ρ S => (a ρ S).bind fun xs S1 => f xs S1
/-- a fresh list as plain data; as a cell -/
def mFz (a : MA) : ME := fun ρ S => (a ρ S).bind fun xs S1 => .ok (.lst xs) S1
def mNew (a : MA) : ME := fun ρ S => (a ρ S).bind fun xs S1 => .ok (.cell S1.length) (S1 ++ [.lst xs])
section
variable {X : Cx} {W : WX} {e a b c : Expr} {es : List Expr} {ma mb mc m : ME} {mr : MA} {pos : Pos}
/-- weakening by what a rule asks -/
theorem d_var (i : Nat) {x : Str} (hN : X.N[i]? = some x := by rfl) (hv : Vis X.env.scope x := by first | exact Or.inl rfl | exact Or.inr (Or.inl rfl) | exact Or.inr (Or.inr rfl)) (hd : (x == ("__debug__" : Str)) = false := by decide)
    (hcd : (x == ("__classdict__" : Str)) = false := by decide) : DE X W (.Name x pos) (mVar i) :=
  ⟨_, pe_var hN hv hd hcd, fun ξ μ σ H ρ S Q g s h => by
    unfold mVar at h
    cases e : ρ[i]? with
    | none => rw [e] at h; exact h.elim
    | some o =>
      cases o with
      | none => rw [e] at h; exact h.elim
      | some d =>
        rw [e] at h
        obtain ⟨v, hv, r⟩ := g.at_ i d e
        exact ⟨v, hv, h v μ H .refl s r⟩⟩
theorem d_k {te : TE} {v : V} {d : D} (hp : PE X e te) (ht : te = tC v) (hr : ∀ ξ μ H, RD (fx X ξ) μ H v d) : DE X W e (mK d) :=
  ⟨te, hp, fun ξ μ σ H ρ S Q g s h => by subst ht; exact h v μ H .refl s (hr ξ μ H)⟩
theorem d_int {i : Int} {j} : DE X W (.Constant (.int i) j pos) (mK (.int i)) := d_k pe_int rfl fun _ _ _ => .int i
theorem d_bl {i : Bool} {j} : DE X W (.Constant (.bool i) j pos) (mK (.bl i)) := d_k pe_bl rfl fun _ _ _ => .bl i
theorem d_non {j} : DE X W (.Constant .none j pos) (mK .non) := d_k pe_non rfl fun _ _ _ => .non
/-- a constant of the module -/
def GlD (X : Cx) (x : Str) (d : D) : Prop := ∃ u v, X.mg x = some u ∧ RelV v u ∧ ∀ ξ μ H, RD (fx X ξ) μ H v d
theorem d_glob {x : Str} {d : D} (hg : Gl X x) (hm : GlD X x d) (hd : (x == ("__debug__" : Str)) = false := by decide) : DE X W (.Name x pos) (mK d) := by
  obtain ⟨u, v, h1, h2, h3⟩ := hm
  exact d_k (pe_glob hg h1 h2 hd) rfl h3
/-! operators -/
def OpD (X : Cx) (r : R2) (g : Sto → D → D → Option D) : Prop :=
  ∀ ξ μ H S x y v u z Q, RS (fx X ξ) μ H S → RD (fx X ξ) μ H v x → RD (fx X ξ) μ H u y → g S x y = some z → (∀ w μ' H', Up μ H μ' H' → RS (fx X ξ) μ' H' S → RD (fx X ξ) μ' H' w z → Q w H') → r v u H Q
theorem op2 {r : R2} {g : Sto → D → D → Option D} {ta tb : TE} {μ ξ : List Addr} {σ : St} {H : Hp} {ρ : Rho} {S : Sto} {Q : VK} (hd : OpD X r g)
    (ka : ∀ ξ μ σ H ρ S Q, RG (fx X ξ) μ H σ ρ → RS (fx X ξ) μ H S → WE' (fx X ξ) (ma ρ S) Q (fun cls dd H' => W cls dd σ H') μ H → ta σ H Q)
    (kb : ∀ ξ μ σ H ρ S Q, RG (fx X ξ) μ H σ ρ → RS (fx X ξ) μ H S → WE' (fx X ξ) (mb ρ S) Q (fun cls dd H' => W cls dd σ H') μ H → tb σ H Q)
    (g0 : RG (fx X ξ) μ H σ ρ) (s : RS (fx X ξ) μ H S) (h : WE' (fx X ξ) (mOp g ma mb ρ S) Q (fun cls dd H' => W cls dd σ H') μ H) : tOp r ta tb σ H Q := by
  refine ka ξ μ σ H ρ S _ g0 s (WR.bind h fun x S1 v μ1 H1 u1 s1 r1 h1 => ?_)
  refine kb ξ μ1 σ H1 ρ S1 _ (g0.up u1) s1 (WR.bind h1 fun y S2 v2 μ2 H2 u2 s2 r2 h2 => ?_)
  cases e : g S2 x y with
  | none => rw [e] at h2; exact h2.elim
  | some z =>
    rw [e] at h2
    exact hd ξ μ2 H2 S2 x y v v2 z Q s2 (r1.up u2) r2 e fun w μ' H' u' s' r' => h2 w μ' H' u' s' r'
theorem d_op {op : Operator} {r : R2} {g : Sto → D → D → Option D} (ho : OpR X (binaryOp op) r) (hd : OpD X r g) (ha : DE X W a ma) (hb : DE X W b mb) : DE X W (.BinOp a op b pos) (mOp g ma mb) := by
  obtain ⟨ta, pa, ka⟩ := ha
  obtain ⟨tb, pb, kb⟩ := hb
  exact ⟨_, pe_op ho pa pb, fun ξ μ σ H ρ S Q g0 s h => op2 (ξ := ξ) hd ka kb g0 s h⟩
theorem d_cmp {op : CmpOp} {r : R2} {g : Sto → D → D → Option D} (ho : OpR X (compareOp op) r) (hd : OpD X r g) (ha : DE X W a ma) (hb : DE X W b mb) (hm : behindInMarks op b = false := by first | exact nomark _ | rfl) : DE X W (.Compare a [op] [b] pos) (mOp g ma mb) := by
  obtain ⟨ta, pa, ka⟩ := ha
  obtain ⟨tb, pb, kb⟩ := hb
  exact ⟨_, pe_cmpR ho pa pb hm, fun ξ μ σ H ρ S Q g0 s h => op2 (ξ := ξ) hd ka kb g0 s h⟩
theorem dt_val (h : DE X W e m) (he : ∀ whole, isTrue e X.env whole = (do let v ← whole; standAt e.pos; holding [v] (truthy v)) := by intro _; rfl) : DT X W e m := by
  obtain ⟨te, p, k⟩ := h
  exact ⟨_, pt_val p he, fun ξ μ σ H ρ S Q g s h => k ξ μ σ H ρ S _ g s (WT'.val h)⟩
theorem dt_cmp {op : CmpOp} {r : R2} {g : Sto → D → D → Option D} (ho : OpR X (compareOp op) r) (hd : OpD X r g) (ha : DE X W a ma) (hb : DE X W b mb) (hm : behindInMarks op b = false := by first | exact nomark _ | rfl) : DT X W (.Compare a [op] [b] pos) (mOp g ma mb) := by
  obtain ⟨ta, pa, ka⟩ := ha
  obtain ⟨tb, pb, kb⟩ := hb
  exact ⟨_, pt_cmpR ho pa pb hm, fun ξ μ σ H ρ S Q g0 s h => op2 (ξ := ξ) hd ka kb g0 s (WT'.val h)⟩
theorem DT.w (h : DW X W e m) : DT X W e m := let ⟨t, p, k⟩ := h; ⟨t, p.pt, k⟩
theorem notb2 {α : Type} {k l : Sto → Res α} : ∀ (d : D) (S : Sto), (∀ b, d ≠ .bl b) → (match d with | .bl true => k S | .bl false => l S | _ => Res.bad) = Res.bad := fun d S h => by
  cases d with
  | bl b => exact absurd rfl (h b)
  | _ => rfl
theorem dw_or1 (ha : DT X W a ma) : DW X W (.BoolOp .Or [a] pos) ma := let ⟨_, p, k⟩ := ha; ⟨_, pw_or1 p, k⟩
theorem dw_or {rest : List Expr} (ha : DT X W a ma) (hb : DW X W (.BoolOp .Or (b :: rest) pos) mb) : DW X W (.BoolOp .Or (a :: b :: rest) pos) (mOr ma mb) := by
  obtain ⟨ta, pa, ka⟩ := ha
  obtain ⟨tb, pb, kb⟩ := hb
  refine ⟨_, pw_or pa pb, fun ξ μ σ H ρ S Q g s h => ?_⟩
  refine ka ξ μ σ H ρ S _ g s (WT'.bindT h (fun d S h => notb2 d S h) fun c S1 μ1 H1 u1 s1 h1 => ?_)
  cases c with
  | false => exact kb ξ μ1 σ H1 ρ S1 Q (g.up u1) s1 h1
  | true => exact h1 μ1 H1 .refl s1
theorem dt_not (ha : DT X W a ma) : DT X W (.UnaryOp .Not a pos) (mNot ma) := by
  obtain ⟨ta, pa, ka⟩ := ha
  refine ⟨_, pt_not pa, fun ξ μ σ H ρ S Q g s h => ?_⟩
  refine ka ξ μ σ H ρ S _ g s (WT'.bindT h (fun d S h => by cases d <;> first | rfl | exact absurd rfl (h _)) fun c S1 μ1 H1 u1 s1 h1 => ?_)
  exact h1 μ1 H1 .refl s1
/-- and, or, not as values -/
theorem d_one {op} (h : DE X W a m) : DE X W (.BoolOp op [a] pos) m := let ⟨_, p, k⟩ := h; ⟨_, pe_one p, k⟩
theorem WE'.boolv {r : Res D} {f : D → Sto → Res D} {Q Q1 : VK} {Wx : Value → Option Addr → Hp → Prop} {μ ξ : List Addr} {H : Hp} (h : WE' (fx X ξ) (r.bind f) Q Wx μ H) (hb : ∀ d S, (∀ b, d ≠ .bl b) → f d S = .bad)
    (k : ∀ b S1 μ1 H1, Up μ H μ1 H1 → RS (fx X ξ) μ1 H1 S1 → WE' (fx X ξ) (f (.bl b) S1) Q Wx μ1 H1 → Q1 (.bl b) H1) : WE' (fx X ξ) r Q1 Wx μ H := by
  refine WR.bind h fun x S1 v μ1 H1 u1 s1 r1 h1 => ?_
  cases r1 with
  | bl b => exact k b S1 μ1 H1 u1 s1 h1
  | _ =>
    rw [hb _ _ (by intro b e; cases e)] at h1
    exact h1.elim
theorem d_and {rest : List Expr} (ha : DE X W a ma) (hb : DE X W (.BoolOp .And (b :: rest) pos) mb) : DE X W (.BoolOp .And (a :: b :: rest) pos) (mAnd ma mb) := by
  obtain ⟨ta, pa, ka⟩ := ha
  obtain ⟨tb, pb, kb⟩ := hb
  refine ⟨_, pe_and pa pb, fun ξ μ σ H ρ S Q g s h => ?_⟩
  refine ka ξ μ σ H ρ S _ g s (WE'.boolv h (fun d S h => notb2 d S h) fun c S1 μ1 H1 u1 s1 h1 => ⟨c, rfl, ?_⟩)
  cases c with
  | true => exact kb ξ μ1 σ H1 ρ S1 Q (g.up u1) s1 h1
  | false => exact h1 _ μ1 H1 .refl s1 (.bl _)
theorem d_not (ha : DE X W a ma) : DE X W (.UnaryOp .Not a pos) (mNot ma) := by
  obtain ⟨ta, pa, ka⟩ := ha
  refine ⟨_, pe_not pa, fun ξ μ σ H ρ S Q g s h => ?_⟩
  exact ka ξ μ σ H ρ S _ g s (WE'.boolv h (fun d S h => by cases d <;> first | rfl | exact absurd rfl (h _)) fun c S1 μ1 H1 u1 s1 h1 => ⟨c, rfl, h1 _ μ1 H1 .refl s1 (.bl _)⟩)
theorem d_ifExp (hc : DT X W c mc) (ha : DE X W a ma) (hb : DE X W b mb) : DE X W (.IfExp c a b pos) (mIf mc ma mb) := by
  obtain ⟨tc, pc, kc⟩ := hc
  obtain ⟨ta, pa, ka⟩ := ha
  obtain ⟨tb, pb, kb⟩ := hb
  refine ⟨_, pe_ifExp pc pa pb, fun ξ μ σ H ρ S Q g s h => ?_⟩
  refine kc ξ μ σ H ρ S _ g s (WR.bindT h (fun d S h => notb2 d S h) fun c S1 μ1 H1 u1 s1 h1 => ?_)
  cases c with
  | true => exact ka ξ μ1 σ H1 ρ S1 Q (g.up u1) s1 h1
  | false => exact kb ξ μ1 σ H1 ρ S1 Q (g.up u1) s1 h1
/-- one-place operators -/
def UnD (X : Cx) (r : V → Hp → VK → Prop) (g : Sto → D → Option D) : Prop :=
  ∀ ξ μ H S x v z Q, RS (fx X ξ) μ H S → RD (fx X ξ) μ H v x → g S x = some z → (∀ w μ' H', Up μ H μ' H' → RS (fx X ξ) μ' H' S → RD (fx X ξ) μ' H' w z → Q w H') → r v H Q
theorem d_un {op : UnaryOp} {r : V → Hp → VK → Prop} {g : Sto → D → Option D} (ho : UnR X (unaryOp op) r) (hd : UnD X r g) (ha : DE X W a ma) : DE X W (.UnaryOp op a pos) (mUn g ma) := by
  obtain ⟨ta, pa, ka⟩ := ha
  refine ⟨_, pe_un ho pa, fun ξ μ σ H ρ S Q g0 s h => ka ξ μ σ H ρ S _ g0 s (WR.bind h fun x S1 v μ1 H1 u1 s1 r1 h1 => ?_)⟩
  cases e : g S1 x with
  | none => rw [e] at h1; exact h1.elim
  | some z =>
    rw [e] at h1
    exact hd ξ μ1 H1 S1 x v z Q s1 r1 e h1
/-- arguments -/
theorem da_nil : DA X W [] mNil := ⟨_, pa_nil, fun ξ μ σ H ρ S Q g s h => h [] μ H .refl s .nil⟩
theorem da_cons (ha : DE X W e ma) (hr : DA X W es mr) (hs : starEach (e :: es) X.env = (false, eval e X.env) :: starEach es X.env := by rfl) : DA X W (e :: es) (mCons ma mr) := by
  obtain ⟨ta, pa, ka⟩ := ha
  obtain ⟨tr, pr, kr⟩ := hr
  refine ⟨_, pa_cons pa pr hs, fun ξ μ σ H ρ S Q g s h => ka ξ μ σ H ρ S _ g s (WR.bind h fun x S1 v μ1 H1 u1 s1 r1 h1 => ?_)⟩
  refine kr ξ μ1 σ H1 ρ S1 _ (g.up u1) s1 (WR.bind h1 fun xs S2 vs μ2 H2 u2 s2 r2 h2 => ?_)
  exact h2 _ μ2 H2 .refl s2 (.cons (r1.up u2) r2)
theorem d_tup {x1} (h : DA X W es mr) : DE X W (.Tuple es x1 pos) (mTup mr) := by
  obtain ⟨ta, pa, ka⟩ := h
  refine ⟨_, pe_tup pa, fun ξ μ σ H ρ S Q g s h => ka ξ μ σ H ρ S _ g s (WR.bind h fun xs S1 vs μ1 H1 u1 s1 r1 h1 => ?_)⟩
  by_cases hz : xs.length ≤ 16777216
  · rw [if_pos hz] at h1
    refine ⟨by rw [r1.length, sizeLine_eq]; exact hz, fun p hp => ?_⟩
    exact h1 _ μ1 _ (.fresh hp) (s1.fresh hp) (.tup (.inl ⟨.inl upd_same, s1.out hp, s1.outX hp⟩) (r1.up (.fresh hp)))
  · rw [if_neg hz] at h1; exact h1.elim
theorem dl_lst (h : DA X W es mr) : DL X W (.List es pos) (mLst mr) := by
  obtain ⟨ta, pa, ka⟩ := h
  refine ⟨_, pe_lst pa, fun ξ μ σ H ρ S Q g s h => ka ξ μ σ H ρ S _ g s (WL'.bind h fun xs S1 vs μ1 H1 u1 s1 r1 h1 => ?_)⟩
  by_cases hz : xs.length ≤ 16777216
  · rw [if_pos hz] at h1
    exact ⟨by rw [r1.length, sizeLine_eq]; exact hz, fun p hp => h1 p vs μ1 _ (.fresh hp) hp (s1.holds hp) (r1.mv (.holds hp)) upd_same⟩
  · rw [if_neg hz] at h1; exact h1.elim
/-- a fresh list as data, as a cell -/
theorem d_fz (h : DL X W e mr) : DE X W e (mFz mr) := by
  obtain ⟨te, p, k⟩ := h
  refine ⟨_, p, fun ξ μ σ H ρ S Q g s h => k ξ μ σ H ρ S Q g s ?_⟩
  unfold mFz at h
  cases e : mr ρ S with
  | bad => rw [e] at h; exact h.elim
  | exc c fs S' => rw [e] at h; exact h
  | ok ds S' =>
    rw [e] at h
    intro q xs μ' H' u' hq s' r' e'
    exact h _ μ' H' u' s'.free (.lst (.inl ⟨.inl e', (s'.xi q List.mem_cons_self).1, s.outX hq⟩) (r'.mv .free))
theorem d_new (h : DL X W e mr) : DE X W e (mNew mr) := by
  obtain ⟨te, p, k⟩ := h
  refine ⟨_, p, fun ξ μ σ H ρ S Q g s h => k ξ μ σ H ρ S Q g s ?_⟩
  unfold mNew at h
  cases e : mr ρ S with
  | bad => rw [e] at h; exact h.elim
  | exc c fs S' => rw [e] at h; exact h
  | ok ds S' =>
    rw [e] at h
    intro q xs μ' H' u' hq s' r' e'
    have l : S'.length = μ'.length := s'.len.symm
    refine h (.ref q) (μ' ++ [q]) H' ⟨?_, fun a ha n => ?_, u'.keep⟩ (s'.asCell (s.outX hq) e' r') (.cell (by rw [l]; exact alloc_at))
    · obtain ⟨ν, z⟩ := u'.pre
      exact ⟨ν ++ [q], by rw [z, List.append_assoc]⟩
    · rcases List.mem_append.mp ha with z | z
      · exact u'.new a z n
      · rw [List.mem_singleton.mp z]; exact hq
end
end Dm
-- text DmOps
namespace Dm
open PySem L2
open PySem.W (Frag)
/-! ### the items of a tuple, a list -/
def lstOf (S : Sto) : D → Option (List D)
  | .lst ds => some ds
  | .cell n => match S[n]? with
    | some (.lst ds) => some ds
    | _ => none
  | _ => none
def seqOf (S : Sto) : D → Option (List D)
  | .tup ds => some ds
  | d => lstOf S d
section
variable {F : Fx} {μ : List Addr} {H : Hp} {S : Sto} {v : V} {d : D} {ds : List D}
theorem RD.lstS (s : RS F μ H S) (r : RD F μ H v d) (h : lstOf S d = some ds) : ∃ a xs, v = .ref a ∧ SqL F.K H a xs ∧ RDs F μ H xs ds := by
  cases r with
  | lst f r =>
    cases h
    exact ⟨_, _, rfl, f.sq, r⟩
  | @cell a n e =>
    simp only [lstOf] at h
    cases q : S[n]? with
    | none => rw [q] at h; exact nomatch h
    | some c =>
      rw [q] at h
      cases c with
      | lst es =>
        cases h
        obtain ⟨xs, h1, h2⟩ := s.at_ n a _ e q
        exact ⟨a, xs, rfl, SqL.of h1, h2⟩
      | _ => exact nomatch h
  | _ => exact nomatch h
theorem RD.seqS (s : RS F μ H S) (r : RD F μ H v d) (h : seqOf S d = some ds) : ∃ a xs, v = .ref a ∧ (SqL F.K H a xs ∨ SqT F.K H a xs) ∧ RDs F μ H xs ds := by
  cases r with
  | tup f r =>
    cases h
    exact ⟨_, _, rfl, .inr f.sq, r⟩
  | lst f r =>
    obtain ⟨a, xs, e, q, z⟩ := RD.lstS s (.lst f r) h
    exact ⟨a, xs, e, .inl q, z⟩
  | cell e =>
    obtain ⟨a, xs, e, q, z⟩ := RD.lstS s (.cell e) h
    exact ⟨a, xs, e, .inl q, z⟩
  | _ => exact nomatch h
theorem RDs.atI {vs : List V} {i : Int} (r : RDs F μ H vs ds) (h : atI ds i = some d) : ∃ v, L2.atI vs i = some v ∧ RD F μ H v d := by
  unfold L2.atI at h ⊢
  rw [r.length]
  cases e : ixN ds.length i with
  | none => rw [e] at h; exact nomatch h
  | some j =>
    rw [e] at h
    exact r.get h
end
/-! ### whole numbers -/
def gI (f : Int → Int → D) : Sto → D → D → Option D := fun _ x y => match x, y with
  | .int i, .int j => some (f i j)
  | _, _ => none
def gIC (C : Int → Int → Prop) [∀ i j, Decidable (C i j)] (f : Int → Int → D) : Sto → D → D → Option D := fun _ x y => match x, y with
  | .int i, .int j => if C i j then some (f i j) else none
  | _, _ => none
section
variable {X : Cx}
theorem opd_I0 {fv : Int → Int → V} {fd : Int → Int → D} (h : ∀ i j ξ μ H, RD (fx X ξ) μ H (fv i j) (fd i j)) : OpD X (rI0 fv) (gI fd) := by
  intro ξ μ H S x y v u z Q s rx ry e k
  cases rx with
  | int i =>
    cases ry with
    | int j =>
      cases e
      exact ⟨i, j, rfl, rfl, k _ μ H .refl s (h i j ξ μ H)⟩
    | _ => exact nomatch e
  | _ => exact nomatch e
theorem opd_I {C : Int → Int → Prop} [∀ i j, Decidable (C i j)] {fv : Int → Int → V} {fd : Int → Int → D} (h : ∀ i j ξ μ H, RD (fx X ξ) μ H (fv i j) (fd i j)) : OpD X (rI C fv) (gIC C fd) := by
  intro ξ μ H S x y v u z Q s rx ry e k
  cases rx with
  | int i =>
    cases ry with
    | int j =>
      unfold gIC at e
      by_cases c : C i j
      · simp only [if_pos c] at e
        cases e
        exact ⟨i, j, rfl, rfl, c, k _ μ H .refl s (h i j ξ μ H)⟩
      · simp only [if_neg c] at e
        exact nomatch e
    | _ => exact nomatch e
  | _ => exact nomatch e
theorem OpD.or {r r' : R2} {g g' : Sto → D → D → Option D} (h : OpD X r g) (h' : OpD X r' g') : OpD X (fun x y H Q => r x y H Q ∨ r' x y H Q) (fun S x y => (g S x y).or (g' S x y)) := by
  intro ξ μ H S x y v u z Q s rx ry e k
  have e : (g S x y).or (g' S x y) = some z := e
  cases q : g S x y with
  | some w =>
    rw [q] at e
    cases e
    exact .inl (h ξ μ H S x y v u _ Q s rx ry q k)
  | none =>
    rw [q] at e
    exact .inr (h' ξ μ H S x y v u z Q s rx ry e k)
abbrev gSub := gI fun i j => .int (i - j)
abbrev gLt := gI fun i j => .bl (decide (i < j))
abbrev gLe := gI fun i j => .bl (decide (i ≤ j))
abbrev gGt := gI fun i j => .bl (decide (j < i))
abbrev gGe := gI fun i j => .bl (decide (j ≤ i))
instance : ∀ i j, Decidable (CMulW i j) := fun i j => inferInstanceAs (Decidable (_ < _))
instance : ∀ i j, Decidable (CDivW i j) := fun i j => inferInstanceAs (Decidable (_ ∧ _))
instance : ∀ i j, Decidable (CPow i j) := fun i j => inferInstanceAs (Decidable (_ ∧ _ ∧ _))
abbrev gMul := gIC CMulW fun i j => .int (i * j)
abbrev gFdiv := gIC CDivW fun i j => .int (i / j)
abbrev gMod := gIC (fun _ j => 0 < j) fun i j => .int (i % j)
abbrev gPow := gIC CPow fun i j => .int (i ^ j.toNat)
theorem o_sub : OpD X (rI0 fun i j => .int (i - j)) gSub := opd_I0 fun _ _ _ _ _ => .int _
theorem o_lt : OpD X (rI0 fun i j => .bl (decide (i < j))) gLt := opd_I0 fun _ _ _ _ _ => .bl _
theorem o_le : OpD X (rI0 fun i j => .bl (decide (i ≤ j))) gLe := opd_I0 fun _ _ _ _ _ => .bl _
theorem o_gt : OpD X (rI0 fun i j => .bl (decide (j < i))) gGt := opd_I0 fun _ _ _ _ _ => .bl _
theorem o_ge : OpD X (rI0 fun i j => .bl (decide (j ≤ i))) gGe := opd_I0 fun _ _ _ _ _ => .bl _
theorem o_mul : OpD X (rI CMulW fun i j => .int (i * j)) gMul := opd_I fun _ _ _ _ _ => .int _
theorem o_fdiv : OpD X (rI CDivW fun i j => .int (i / j)) gFdiv := opd_I fun _ _ _ _ _ => .int _
theorem o_mod : OpD X (rI (fun _ j => 0 < j) fun i j => .int (i % j)) gMod := opd_I fun _ _ _ _ _ => .int _
theorem o_pow : OpD X (rI CPow fun i j => .int (i ^ j.toNat)) gPow := opd_I fun _ _ _ _ _ => .int _
/-- + of ints, of tuples -/
def gCatT : Sto → D → D → Option D := fun _ x y => match x, y with
  | .tup a, .tup b => if a.length + b.length ≤ 16777216 then some (.tup (a ++ b)) else none
  | _, _ => none
def gAdd : Sto → D → D → Option D := fun S x y => (gI (fun i j => .int (i + j)) S x y).or (gCatT S x y)
theorem o_catT : OpD X (rCatA X.K) gCatT := by
  intro ξ μ H S x y v u z Q s rx ry e k
  cases rx with
  | @tup a xs ds f r =>
    cases ry with
    | @tup b ys es f' r' =>
      unfold gCatT at e
      by_cases c : ds.length + es.length ≤ 16777216
      · simp only [if_pos c] at e
        cases e
        refine ⟨a, b, xs, ys, rfl, rfl, f.sq, f'.sq, by rw [r.length, r'.length, sizeLine_eq]; exact c, fun e => ?_, fun _ e => ?_, fun _ _ p hp => ?_⟩
        · subst e
          have e' : ds = [] := List.eq_nil_of_length_eq_zero r.length.symm
          subst e'
          exact k _ μ H .refl s (.tup f' r')
        · subst e
          have e' : es = [] := List.eq_nil_of_length_eq_zero r'.length.symm
          subst e'
          rw [List.append_nil] at k
          exact k _ μ H .refl s (.tup f r)
        · exact k _ μ _ (.fresh hp) (s.fresh hp) (.tup (.inl ⟨.inl upd_same, s.out hp, s.outX hp⟩) ((r.append r').up (.fresh hp)))
      · simp only [if_neg c] at e
        exact nomatch e
    | _ => exact nomatch e
  | _ => exact nomatch e
theorem op_addD : OpR X (binaryOp .Add) (fun x y H Q => rI0 (fun i j => .int (i + j)) x y H Q ∨ rCatA X.K x y H Q) := op_add.or op_catA
theorem o_add : OpD X (fun x y H Q => rI0 (fun i j => .int (i + j)) x y H Q ∨ rCatA X.K x y H Q) gAdd := (opd_I0 fun _ _ _ _ _ => .int _).or o_catT
/-- -i -/
def gNeg : Sto → D → Option D := fun _ x => match x with
  | .int i => some (.int (-i))
  | _ => none
theorem o_neg : UnD X (rU fun i => .int (-i)) gNeg := by
  intro ξ μ H S x v z Q s rx e k
  cases rx with
  | int i =>
    cases e
    exact ⟨i, rfl, k _ μ H .refl s (.int _)⟩
  | _ => exact nomatch e
/-! ### == -/
mutual
def toPy : D → Option PyData
  | .non => some .none
  | .bl b => some (.bool b)
  | .int i => some (.int i)
  | .str x => some (.str x)
  | .tup ds => (toPys ds).map .tuple
  | .lst ds => (toPys ds).map .list
  | .cell _ => none
  | .glo _ => none
  | .exn _ _ => none
def toPys : List D → Option (List PyData)
  | [] => some []
  | d :: ds => (toPy d).bind fun p => (toPys ds).map fun ps => p :: ps
end
/-- a cell's list, its items plain -/
def toPyS (S : Sto) (d : D) : Option PyData := match d with
  | .cell n => match S[n]? with
    | some (.lst ds) => (toPys ds).map .list
    | _ => none
  | d => toPy d
section
variable {F : Fx} {μ : List Addr} {H : Hp} {S : Sto}
mutual
theorem dp_of : ∀ {v : V} (d : D) {p : PyData}, RD F μ H v d → toPy d = some p → Dp F.K H v p
  | _, .non, p, r, e => by cases r; cases e; exact .non
  | _, .bl b, p, r, e => by cases r; cases e; exact .bl b
  | _, .int i, p, r, e => by cases r; cases e; exact .int i
  | _, .str x, p, r, e => by cases r; cases e; exact .str x
  | _, .tup ds, p, r, e => by
    cases r with
    | tup f r =>
      unfold toPy at e
      cases q : toPys ds with
      | none => rw [q] at e; exact nomatch e
      | some ps =>
        rw [q] at e; cases e
        exact .tup f.sq (dps_of ds r q)
  | _, .lst ds, p, r, e => by
    cases r with
    | lst f r =>
      unfold toPy at e
      cases q : toPys ds with
      | none => rw [q] at e; exact nomatch e
      | some ps =>
        rw [q] at e; cases e
        exact .lst f.sq (dps_of ds r q)
  | _, .cell _, p, r, e => nomatch e
  | _, .glo _, p, r, e => nomatch e
  | _, .exn _ _, p, r, e => nomatch e
theorem dps_of : ∀ {vs : List V} (ds : List D) {ps : List PyData}, RDs F μ H vs ds → toPys ds = some ps → DpAll F.K H vs ps
  | _, [], ps, r, e => by cases r; cases e; exact .nil
  | _, d :: ds, ps, r, e => by
    cases r with
    | cons a b =>
      unfold toPys at e
      cases q : toPy d with
      | none => rw [q] at e; exact nomatch e
      | some p =>
        rw [q] at e
        cases q' : toPys ds with
        | none => rw [q'] at e; exact nomatch e
        | some ps' =>
          rw [q'] at e; cases e
          exact .cons (dp_of d a q) (dps_of ds b q')
end
theorem dpS_of {v : V} {d : D} {p : PyData} (s : RS F μ H S) (r : RD F μ H v d) (e : toPyS S d = some p) : Dp F.K H v p := by
  cases d with
  | cell n =>
    unfold toPyS at e
    cases r with
    | @cell a _ ea =>
      cases q : S[n]? with
      | none => simp only [q] at e; exact nomatch e
      | some c =>
        simp only [q] at e
        cases c with
        | lst ds =>
          cases q' : toPys ds with
          | none => simp only [q'] at e; exact nomatch e
          | some ps =>
            simp only [q'] at e; cases e
            obtain ⟨xs, h1, h2⟩ := s.at_ n a _ ea q
            exact .lst (SqL.of h1) (dps_of ds h2 q')
        | _ => exact nomatch e
  | _ => exact dp_of _ r e
end
/-- == of two values; none: no rule -/
def eqD (S : Sto) (x y : D) : Option Bool := match x, y with
  | .int i, .int j => some (i == j)
  | .str i, .str j => some (i == j)
  | x, y => match toPyS S x, toPyS S y with
    | some p, some q => if SeqAt.shaped p = true ∧ SeqAt.shaped q = true then some (PyData.eqv p q) else none
    | _, _ => none
theorem eqD_cases {S : Sto} {x y : D} {b : Bool} (h : eqD S x y = some b) : (∃ i j, x = .int i ∧ y = .int j ∧ b = (i == j)) ∨ (∃ i j, x = .str i ∧ y = .str j ∧ b = (i == j)) ∨
    ∃ p q, toPyS S x = some p ∧ toPyS S y = some q ∧ SeqAt.shaped p = true ∧ SeqAt.shaped q = true ∧ b = PyData.eqv p q := by
  unfold eqD at h
  split at h
  · cases h; exact .inl ⟨_, _, rfl, rfl, rfl⟩
  · cases h; exact .inr (.inl ⟨_, _, rfl, rfl, rfl⟩)
  · split at h
    · rename_i p q hp hq
      split at h
      · rename_i hs
        cases h
        exact .inr (.inr ⟨p, q, hp, hq, hs.1, hs.2, rfl⟩)
      · exact nomatch h
    · exact nomatch h
def gEq : Sto → D → D → Option D := fun S x y => (eqD S x y).map .bl
def gNe : Sto → D → D → Option D := fun S x y => (eqD S x y).map fun b => .bl (!b)
def rEqA (K : Frag) : R2 := fun x y H Q => rEq x y H Q ∨ rEqD K x y H Q
def rNeA (K : Frag) : R2 := fun x y H Q => rNe x y H Q ∨ rNeD K x y H Q
theorem op_eqA (hu : X.A.units + 64 < cLine) : OpR X (compareOp .Eq) (rEqA X.K) := op_eq.or (op_eqD hu)
theorem op_neA (hu : X.A.units + 64 < cLine) : OpR X (compareOp .NotEq) (rNeA X.K) := op_ne.or (op_neD hu)
theorem o_eq : OpD X (rEqA X.K) gEq := by
  intro ξ μ H S x y v u z Q s rx ry e k
  unfold gEq at e
  cases q : eqD S x y with
  | none => rw [q] at e; exact nomatch e
  | some b =>
    rw [q] at e; cases e
    rcases eqD_cases q with ⟨i, j, rfl, rfl, rfl⟩ | ⟨i, j, rfl, rfl, rfl⟩ | ⟨p, q', h1, h2, h3, h4, rfl⟩
    · cases rx; cases ry
      exact .inl ⟨rfl, by rw [dec_int]; exact k _ μ H .refl s (.bl _)⟩
    · cases rx; cases ry
      exact .inl ⟨rfl, by rw [dec_str]; exact k _ μ H .refl s (.bl _)⟩
    · exact .inr ⟨p, q', dpS_of s rx h1, dpS_of s ry h2, h3, h4, k _ μ H .refl s (.bl _)⟩
theorem o_ne : OpD X (rNeA X.K) gNe := by
  intro ξ μ H S x y v u z Q s rx ry e k
  unfold gNe at e
  cases q : eqD S x y with
  | none => rw [q] at e; exact nomatch e
  | some b =>
    rw [q] at e; cases e
    rcases eqD_cases q with ⟨i, j, rfl, rfl, rfl⟩ | ⟨i, j, rfl, rfl, rfl⟩ | ⟨p, q', h1, h2, h3, h4, rfl⟩
    · cases rx; cases ry
      exact .inl ⟨rfl, by rw [dec_int]; exact k _ μ H .refl s (.bl _)⟩
    · cases rx; cases ry
      exact .inl ⟨rfl, by rw [dec_str]; exact k _ μ H .refl s (.bl _)⟩
    · exact .inr ⟨p, q', dpS_of s rx h1, dpS_of s ry h2, h3, h4, k _ μ H .refl s (.bl _)⟩
/-! ### in -/
def flatD : D → Bool
  | .non => true
  | .bl _ => true
  | .int _ => true
  | .str _ => true
  | _ => false
def eqF : D → D → Bool
  | .non, .non => true
  | .bl a, .bl b => a == b
  | .bl a, .int b => (if a then 1 else 0) == b
  | .int a, .bl b => a == (if b then 1 else 0)
  | .int a, .int b => a == b
  | .str a, .str b => a == b
  | _, _ => false
theorem flat_of {F : Fx} {μ : List Addr} {H : Hp} {v : V} {d : D} (r : RD F μ H v d) : flatV v = flatD d := by cases r <;> rfl
theorem eqF_of {F : Fx} {μ : List Addr} {H : Hp} {v u : V} {d e : D} (r : RD F μ H v d) (r' : RD F μ H u e) : eqV v u = eqF d e := by cases r <;> cases r' <;> rfl
theorem flats_of {F : Fx} {μ : List Addr} {H : Hp} : ∀ {vs : List V} {ds : List D}, RDs F μ H vs ds → vs.all flatV = ds.all flatD
  | _, [], r => by cases r; rfl
  | _, d :: ds, r => by
    cases r with
    | cons a b => rw [List.all_cons, List.all_cons, flat_of a, flats_of b]
theorem anyF_of {F : Fx} {μ : List Addr} {H : Hp} {u : V} {e : D} (r' : RD F μ H u e) : ∀ {vs : List V} {ds : List D}, RDs F μ H vs ds → inV u vs = ds.any (eqF · e)
  | _, [], r => by cases r; rfl
  | _, d :: ds, r => by
    cases r with
    | cons a b =>
      have q := anyF_of r' b
      unfold inV at q ⊢
      rw [List.any_cons, List.any_cons, eqF_of a r', q]
def gIn (neg : Bool) : Sto → D → D → Option D := fun S x y => match seqOf S y with
  | some ds => if flatD x = true ∧ ds.all flatD = true then some (.bl (if neg then !ds.any (eqF · x) else ds.any (eqF · x))) else none
  | none => none
theorem o_in {neg : Bool} : OpD X (rIn X.K neg) (gIn neg) := by
  intro ξ μ H S x y v u z Q s rx ry e k
  unfold gIn at e
  cases q : seqOf S y with
  | none => rw [q] at e; exact nomatch e
  | some ds =>
    rw [q] at e
    by_cases c : flatD x = true ∧ ds.all flatD = true
    · simp only [if_pos c] at e
      cases e
      obtain ⟨a, xs, rfl, h1, h2⟩ := RD.seqS s ry q
      refine ⟨a, xs, rfl, h1, by rw [flat_of rx]; exact c.1, by rw [flats_of h2]; exact c.2, ?_⟩
      rw [anyF_of rx h2]
      exact k _ μ H .refl s (.bl _)
    · simp only [if_neg c] at e
      exact nomatch e
/-! ### is None -/
def isNon : D → Bool
  | .non => true
  | _ => false
def gIsN (neg : Bool) : Sto → D → D → Option D := fun _ x y => match y with
  | .non => some (.bl (if neg then !isNon x else isNon x))
  | _ => none
theorem isNon_of {F : Fx} {μ : List Addr} {H : Hp} {v : V} {d : D} (r : RD F μ H v d) : decide (v = .non) = isNon d := by cases r <;> rfl
theorem o_isN : OpD X (fun x y H Q => y = .non ∧ Q (.bl (decide (x = .non))) H) (gIsN false) := by
  intro ξ μ H S x y v u z Q s rx ry e k
  cases ry with
  | non =>
    cases e
    exact ⟨rfl, by rw [isNon_of rx]; exact k _ μ H .refl s (.bl _)⟩
  | _ => exact nomatch e
theorem o_notN : OpD X (fun x y H Q => y = .non ∧ Q (.bl (!decide (x = .non))) H) (gIsN true) := by
  intro ξ μ H S x y v u z Q s rx ry e k
  cases ry with
  | non =>
    cases e
    exact ⟨rfl, by rw [isNon_of rx]; exact k _ μ H .refl s (.bl _)⟩
  | _ => exact nomatch e
end
/-! ### chains -/
def mChain (g g' : Sto → D → D → Option D) (a b c : ME) : ME := fun ρ S => (a ρ S).bind fun x S1 => (b ρ S1).bind fun y S2 => match g S2 x y with
  | some (.bl true) => (c ρ S2).bind fun z S3 => match g' S3 y z with
    | some w => .ok w S3
    | none => .bad
  | some (.bl false) => .ok (.bl false) S2
  | _ => .bad
section
variable {X : Cx} {W : WX} {e a b c : Expr} {es : List Expr} {ma mb mc m : ME} {mr : MA} {pos : Pos}
theorem chain2 {r r' : R2} {g g' : Sto → D → D → Option D} {ta tb tc : TE} {ξ μ : List Addr} {σ : St} {H : Hp} {ρ : Rho} {S : Sto} {Q : VK} (hd : OpD X r g) (hd' : OpD X r' g')
    (ka : ∀ ξ μ σ H ρ S Q, RG (fx X ξ) μ H σ ρ → RS (fx X ξ) μ H S → WE' (fx X ξ) (ma ρ S) Q (fun cls dd H' => W cls dd σ H') μ H → ta σ H Q)
    (kb : ∀ ξ μ σ H ρ S Q, RG (fx X ξ) μ H σ ρ → RS (fx X ξ) μ H S → WE' (fx X ξ) (mb ρ S) Q (fun cls dd H' => W cls dd σ H') μ H → tb σ H Q)
    (kc : ∀ ξ μ σ H ρ S Q, RG (fx X ξ) μ H σ ρ → RS (fx X ξ) μ H S → WE' (fx X ξ) (mc ρ S) Q (fun cls dd H' => W cls dd σ H') μ H → tc σ H Q)
    (g0 : RG (fx X ξ) μ H σ ρ) (s : RS (fx X ξ) μ H S) (h : WE' (fx X ξ) (mChain g g' ma mb mc ρ S) Q (fun cls dd H' => W cls dd σ H') μ H) : tChain r r' ta tb tc σ H Q := by
  refine ka ξ μ σ H ρ S _ g0 s (WR.bind h fun x S1 v μ1 H1 u1 s1 r1 h1 => ?_)
  refine kb ξ μ1 σ H1 ρ S1 _ (g0.up u1) s1 (WR.bind h1 fun y S2 v2 μ2 H2 u2 s2 r2 h2 => ?_)
  cases e : g S2 x y with
  | none => rw [e] at h2; exact h2.elim
  | some z =>
    rw [e] at h2
    refine hd ξ μ2 H2 S2 x y v v2 z _ s2 (r1.up u2) r2 e fun w μ' H' u' s' r' => ?_
    cases r' with
    | bl k =>
      refine ⟨k, rfl, ?_⟩
      cases k with
      | false => exact h2 _ μ' H' u' s' (.bl false)
      | true =>
        refine kc ξ μ' σ H' ρ S2 _ (g0.up (u1.trans (u2.trans u'))) s' (WR.bind (WR.shift u' h2) fun z S3 v3 μ3 H3 u3 s3 r3 h3 => ?_)
        cases e3 : g' S3 y z with
        | none => rw [e3] at h3; exact h3.elim
        | some w =>
          rw [e3] at h3
          exact hd' ξ μ3 H3 S3 y z v2 v3 w Q s3 (r2.up (u'.trans u3)) r3 e3 h3
    | _ => exact h2.elim
theorem d_chain {op op' : CmpOp} {r r' : R2} {g g' : Sto → D → D → Option D} (ho : OpR X (compareOp op) r) (ho' : OpR X (compareOp op') r') (hd : OpD X r g) (hd' : OpD X r' g') (ha : DE X W a ma) (hb : DE X W b mb) (hc : DE X W c mc)
    (hm : lastMarks [op, op'] [b, c] = false := by with_unfolding_all rfl) : DE X W (.Compare a [op, op'] [b, c] pos) (mChain g g' ma mb mc) := by
  obtain ⟨ta, pa, ka⟩ := ha
  obtain ⟨tb, pb, kb⟩ := hb
  obtain ⟨tc, pc, kc⟩ := hc
  exact ⟨_, pe_chain ho ho' pa pb pc hm, fun ξ μ σ H ρ S Q g0 s h => chain2 hd hd' ka kb kc g0 s h⟩
theorem dt_chain {op op' : CmpOp} {r r' : R2} {g g' : Sto → D → D → Option D} (ho : OpR X (compareOp op) r) (ho' : OpR X (compareOp op') r') (hd : OpD X r g) (hd' : OpD X r' g') (ha : DE X W a ma) (hb : DE X W b mb) (hc : DE X W c mc)
    (hm : lastMarks [op, op'] [b, c] = false := by with_unfolding_all rfl) : DT X W (.Compare a [op, op'] [b, c] pos) (mChain g g' ma mb mc) := by
  obtain ⟨ta, pa, ka⟩ := ha
  obtain ⟨tb, pb, kb⟩ := hb
  obtain ⟨tc, pc, kc⟩ := hc
  exact ⟨_, pt_chain ho ho' pa pb pc hm, fun ξ μ σ H ρ S Q g0 s h => chain2 hd hd' ka kb kc g0 s (WT'.val h)⟩
/-! ### subscripts -/
def gIx : Sto → D → D → Option D := fun S x i => match i with
  | .int k => match x with
    | .str z => if z.length ≤ 16777216 then (atI z.cps.toList k).map fun c => .str ⟨#[c]⟩ else none
    | x => (seqOf S x).bind fun ds => atI ds k
  | _ => none
theorem o_ix : OpD X (rIx X.K) gIx := by
  intro ξ μ H S x y v u z Q s rx ry e k
  unfold gIx at e
  cases ry with
  | int i =>
    have main : ∀ ds, seqOf S x = some ds → atI ds i = some z → rIx X.K v (.int i) H Q := fun ds h1 h2 => by
      obtain ⟨a, xs, rfl, h3, h4⟩ := RD.seqS s rx h1
      obtain ⟨w, h5, h6⟩ := h4.atI h2
      rcases h3 with h3 | h3
      · exact .inl ⟨a, xs, i, w, rfl, rfl, h3, h5, k w μ H .refl s h6⟩
      · exact .inr (.inl ⟨a, xs, i, w, rfl, rfl, h3, h5, k w μ H .refl s h6⟩)
    cases rx with
    | str z =>
      simp only at e
      by_cases c : z.length ≤ 16777216
      · rw [if_pos c] at e
        cases q : atI z.cps.toList i with
        | none => rw [q] at e; exact nomatch e
        | some w =>
          rw [q] at e; cases e
          exact .inr (.inr ⟨z, i, w, rfl, rfl, by rw [sizeLine_eq]; exact c, q, k _ μ H .refl s (.str _)⟩)
      · rw [if_neg c] at e; exact nomatch e
    | tup f r =>
      exact main _ rfl e
    | @lst _ _ ds f r => exact main ds rfl e
    | @cell a n ea =>
      simp only at e
      cases q : seqOf S (.cell n) with
      | none => rw [q] at e; exact nomatch e
      | some ds => rw [q] at e; exact main ds q e
    | _ => exact nomatch e
  | _ => exact nomatch e
theorem d_ix {r : R2} {g : Sto → D → D → Option D} (hr : IxR X r) (hd : OpD X r g) (ha : DE X W a ma) (hb : DE X W b mb) (hs : PlainIx b := by exact fun _ _ => rfl) : DE X W (.Subscript a b pos) (mOp g ma mb) := by
  obtain ⟨ta, pa, ka⟩ := ha
  obtain ⟨tb, pb, kb⟩ := hb
  exact ⟨_, pe_ix hr pa pb hs, fun ξ μ σ H ρ S Q g0 s h => op2 (ξ := ξ) hd ka kb g0 s h⟩
/-- slices -/
abbrev MO := Rho → Sto → Res (Option Int)
structure DO (X : Cx) (W : WX) (e : Option Expr) (m : MO) : Prop where
  ex : ∃ te, PO X e te ∧ ∀ ξ μ σ H ρ S Q, RG (fx X ξ) μ H σ ρ → RS (fx X ξ) μ H S → WR (fx X ξ) (fun _ _ (o : Option Int) o' => o = o') (m ρ S) Q (fun cls dd H' => W cls dd σ H') μ H → te σ H Q
def mPart (m : ME) : MO := fun ρ S => (m ρ S).bind fun x S1 => match x with
  | .int i => .ok (some i) S1
  | _ => .bad
def mNoPart : MO := fun _ S => .ok none S
theorem do_none : DO X W none mNoPart := ⟨_, po_none, fun ξ μ σ H ρ S Q g s h => h none μ H .refl s rfl⟩
theorem do_some (h : DE X W e m) : DO X W (some e) (mPart m) := by
  obtain ⟨te, p, k⟩ := h
  refine ⟨_, po_some p, fun ξ μ σ H ρ S Q g s h => k ξ μ σ H ρ S _ g s (WR.bind h fun x S1 v μ1 H1 u1 s1 r1 h1 => ?_)⟩
  cases r1 with
  | int i => exact ⟨i, rfl, h1 _ μ1 H1 .refl s1 rfl⟩
  | _ => exact h1.elim
def cutD (ds : List D) (lo hi : Option Int) : List D := (ds.drop (HT.sIx ds.length 0 lo)).take (HT.sIx ds.length ds.length hi - HT.sIx ds.length 0 lo)
theorem cut_of {F : Fx} {μ : List Addr} {H : Hp} {vs : List V} {ds : List D} {lo hi : Option Int} (r : RDs F μ H vs ds) : RDs F μ H (cutV vs lo hi) (cutD ds lo hi) := by
  unfold cutV cutD
  rw [r.length]
  exact (r.drop _).take _
def mSlT (a : ME) (lo hi : MO) : ME := fun ρ S => (a ρ S).bind fun x S1 => (lo ρ S1).bind fun l S2 => (hi ρ S2).bind fun h S3 => match x with
  | .tup ds => .ok (.tup (cutD ds l h)) S3
  | _ => .bad
def mSlL (a : ME) (lo hi : MO) : MA := fun ρ S => (a ρ S).bind fun x S1 => (lo ρ S1).bind fun l S2 => (hi ρ S2).bind fun h S3 => match lstOf S3 x with
  | some ds => .ok (cutD ds l h) S3
  | none => .bad
variable {lo hi : Option Expr} {ml mh : MO} {p2 : Pos}
theorem cut_whole {ds : List D} {lo hi : Option Int} (h : HT.sIx ds.length 0 lo = 0 ∧ HT.sIx ds.length ds.length hi = ds.length) : cutD ds lo hi = ds := by
  unfold cutD
  rw [h.1, h.2, List.drop_zero, Nat.sub_zero, List.take_length]
theorem d_slT (ha : DE X W a ma) (hl : DO X W lo ml) (hh : DO X W hi mh) : DE X W (.Subscript a (.Slice lo hi none p2) pos) (mSlT ma ml mh) := by
  obtain ⟨ta, pa, ka⟩ := ha
  obtain ⟨tl, pl, kl⟩ := hl
  obtain ⟨th, ph, kh⟩ := hh
  refine ⟨_, pe_slice sl_tupA pa pl ph, fun ξ μ σ H ρ S Q g s h => ka ξ μ σ H ρ S _ g s (WR.bind h fun x S1 v μ1 H1 u1 s1 r1 h1 => ?_)⟩
  refine kl ξ μ1 σ H1 ρ S1 _ (g.up u1) s1 (WR.bind h1 fun l S2 l' μ2 H2 u2 s2 r2 h2 => ?_)
  subst r2
  refine kh ξ μ2 σ H2 ρ S2 _ (g.up (u1.trans u2)) s2 (WR.bind h2 fun u S3 u' μ3 H3 u3 s3 r3 h3 => ?_)
  subst r3
  have rx := r1.up (u2.trans u3)
  cases rx with
  | @tup a xs ds f r =>
    refine ⟨a, xs, rfl, f.sq, fun hw => ?_, fun _ p hp => ?_⟩
    · rw [r.length] at hw
      have e := cut_whole hw
      exact h3 _ μ3 H3 .refl s3 (by rw [e]; exact .tup f r)
    · exact h3 _ μ3 _ (.fresh hp) (s3.fresh hp) (.tup (.inl ⟨.inl upd_same, s3.out hp, s3.outX hp⟩) ((cut_of r).up (.fresh hp)))
  | _ => exact h3.elim
theorem dl_slL (ha : DE X W a ma) (hl : DO X W lo ml) (hh : DO X W hi mh) : DL X W (.Subscript a (.Slice lo hi none p2) pos) (mSlL ma ml mh) := by
  obtain ⟨ta, pa, ka⟩ := ha
  obtain ⟨tl, pl, kl⟩ := hl
  obtain ⟨th, ph, kh⟩ := hh
  refine ⟨_, pe_slice sl_list pa pl ph, fun ξ μ σ H ρ S Q g s h => ka ξ μ σ H ρ S _ g s (WL'.bind h fun x S1 v μ1 H1 u1 s1 r1 h1 => ?_)⟩
  refine kl ξ μ1 σ H1 ρ S1 _ (g.up u1) s1 (WL'.bind h1 fun l S2 l' μ2 H2 u2 s2 r2 h2 => ?_)
  subst r2
  refine kh ξ μ2 σ H2 ρ S2 _ (g.up (u1.trans u2)) s2 (WL'.bind h2 fun u S3 u' μ3 H3 u3 s3 r3 h3 => ?_)
  subst r3
  have rx := r1.up (u2.trans u3)
  cases e : lstOf S3 x with
  | none => rw [e] at h3; exact h3.elim
  | some ds =>
    rw [e] at h3
    obtain ⟨a, xs, rfl, h4, h5⟩ := RD.lstS s3 rx e
    exact ⟨a, xs, rfl, h4, fun p hp => h3 p _ μ3 _ (.fresh hp) hp (s3.holds hp) ((cut_of h5).mv (.holds hp)) upd_same⟩
end
end Dm
-- text DmStm
namespace Dm
open PySem L2
open PySem.W (Frag)
/-! ### isinstance -/
inductive Tn where | non | bl | int | str | tup | lst | dic
  deriving DecidableEq
def tnName : Tn → String
  | .non => "NoneType" | .bl => "bool" | .int => "int" | .str => "str" | .tup => "tuple" | .lst => "list" | .dic => "dict"
def isTn : Tn → Tn → Bool
  | .bl, .int => true
  | a, b => decide (a = b)
theorem kit_tn (a b : Tn) (h : b ≠ .non) : kitB (tnName a) (tnName b) = some (isTn a b) := by
  cases b <;> first | exact absurd rfl h | (cases a <;> decide +kernel)
def tyOf (S : Sto) : D → Option Tn
  | .non => some .non
  | .bl _ => some .bl
  | .int _ => some .int
  | .str _ => some .str
  | .tup _ => some .tup
  | .lst _ => some .lst
  | .cell n => match S[n]? with
    | some (.lst _) => some .lst
    | some (.dic _) => some .dic
    | _ => none
  | .glo _ => none
  | .exn _ _ => none
theorem tyX_of {F : Fx} {μ : List Addr} {H : Hp} {S : Sto} {v : V} {d : D} {t : Tn} (s : RS F μ H S) (r : RD F μ H v d) (e : tyOf S d = some t) : TyX F.K H v (.type (tnName t)) := by
  cases r with
  | non => cases e; exact .base .non
  | bl b => cases e; exact .base (.bl b)
  | int i => cases e; exact .base (.int i)
  | str x => cases e; exact .base (.str x)
  | tup f r =>
    cases e
    rcases f with ⟨h | ⟨o, h⟩, _⟩ | ⟨o, its, n, h1, h2, _⟩
    · exact .base (.tup h)
    · exact .fTuple h
    · exact .kTuple h1 h2
  | lst f r =>
    cases e
    rcases f with ⟨h | ⟨o, h⟩, _⟩ | ⟨o, its, n, h1, h2, _⟩
    · exact .base (.lst h)
    · exact .base (.frz h)
    · exact .kList h1 h2
  | @cell a n ea =>
    simp only [tyOf] at e
    cases q : S[n]? with
    | none => rw [q] at e; exact nomatch e
    | some c =>
      rw [q] at e
      cases c with
      | lst ds =>
        cases e
        obtain ⟨xs, h1, _⟩ := s.at_ n a _ ea q
        exact .base (.lst h1)
      | dic kvs =>
        cases e
        obtain ⟨xs, h1, _⟩ := s.at_ n a _ ea q
        exact .base (.dK h1)
      | _ => exact nomatch e
  | glo _ => exact nomatch e
  | exn f => cases e
def mIsi (T : Tn) (m : ME) : ME := mUn (fun S d => (tyOf S d).map fun t => .bl (isTn t T)) m
def mIsiT (Ts : List Tn) (m : ME) : ME := mUn (fun S d => (tyOf S d).map fun t => .bl (Ts.any (isTn t ·))) m
section
variable {X : Cx} {W : WX} {e a b c : Expr} {es : List Expr} {ma mb mc m : ME} {mr : MA} {pos p p1 p2 p3 : Pos}
theorem d_isi (T : Tn) {x : Str} (h : DE X W e m) (hm : X.mg "isinstance" = none) (hx : X.mg x = none) (hv : bootBuiltins x = some (.type (tnName T)) := by decide +kernel) (hT : T ≠ .non := by decide) (hg : Gl X "isinstance" := by rfl) (hgx : Gl X x := by rfl)
    (hn : x ≠ "__name__" := by decide) (hd : (x == ("__debug__" : Str)) = false := by decide)
    (he : starEach [e, .Name x p1] X.env = (false, eval e X.env) :: starEach [.Name x p1] X.env := by rfl) (hpl : (backTo pos (starEach [.Name x p1] X.env)).any (·.1) = false := by rfl)
    (hs2 : starEach [.Name x p1] X.env = (false, eval (.Name x p1) X.env) :: starEach [] X.env := by rfl) :
    DE X W (.Call (.Name "isinstance" p) [e, .Name x p1] [] pos) (mIsi T m) := by
  obtain ⟨te, pe, k⟩ := h
  refine ⟨_, pe_callB call_isi hg hm (by decide +kernel) (pa_cons pe (pa_cons (pe_bltn (v := .ty (tnName T)) hgx hx hv rfl hn hd) pa_nil hs2) he) (he := he) (hpl := hpl), fun ξ μ σ H ρ S Q g s h => k ξ μ σ H ρ S _ g s (WR.bind h fun x S1 v μ1 H1 u1 s1 r1 h1 => ?_)⟩
  cases q : tyOf S1 x with
  | none => simp only [q] at h1; exact h1.elim
  | some t =>
    simp only [q] at h1
    exact ⟨v, .ty (tnName T), _, _, _, rfl, .ty _, tyX_of s1 r1 q, kit_ty (kit_tn t T hT), h1 _ μ1 H1 .refl s1 (.bl _)⟩
theorem kitAny_tn {K : Frag} (t : Tn) : ∀ Ts : List Tn, (∀ T ∈ Ts, T ≠ .non) → PySem.W.kitAny K (.type (tnName t)) (Ts.map fun T => .type (tnName T)) = some (Ts.any (isTn t ·))
  | [], _ => kitAny_nil
  | T :: Ts, h => kitAny_cons (b := isTn t T) (kit_ty (kit_tn t T (h T List.mem_cons_self))) (fun e => by rw [List.any_cons, e, Bool.false_or]; exact kitAny_tn t Ts fun T' h' => h T' (List.mem_cons_of_mem _ h')) fun e => by rw [List.any_cons, e, Bool.true_or]
theorem clsV_all : ∀ Ts : List Tn, Paired ClsV (Ts.map fun T => V.ty (tnName T)) (Ts.map fun T => Value.type (tnName T))
  | [] => .nil
  | T :: Ts => .cons (.ty _) (clsV_all Ts)
/-- isinstance(x, (T, ..)); ht: the classes' names as arguments -/
theorem d_isiT (Ts : List Tn) {ts : List Expr} {tt : TA} {k1} (h : DE X W e m) (ht : PA X ts tt) (htt : ∀ σ H Q, tt σ H Q = Q (Ts.map fun T => V.ty (tnName T)) H) (hm : X.mg "isinstance" = none) (hT : ∀ T ∈ Ts, T ≠ .non := by decide) (hl : Ts.length ≤ 100 := by decide) (hg : Gl X "isinstance" := by rfl)
    (he : starEach [e, .Tuple ts k1 p1] X.env = (false, eval e X.env) :: starEach [.Tuple ts k1 p1] X.env := by rfl) (hpl : (backTo pos (starEach [.Tuple ts k1 p1] X.env)).any (·.1) = false := by rfl)
    (hs2 : starEach [.Tuple ts k1 p1] X.env = (false, eval (.Tuple ts k1 p1) X.env) :: starEach [] X.env := by rfl) :
    DE X W (.Call (.Name "isinstance" p) [e, .Tuple ts k1 p1] [] pos) (mIsiT Ts m) := by
  obtain ⟨te, pe, k⟩ := h
  refine ⟨_, pe_callB call_isiT hg hm (by decide +kernel) (pa_cons pe (pa_cons (pe_tup ht) pa_nil hs2) he) (he := he) (hpl := hpl), fun ξ μ σ H ρ S Q g s h => k ξ μ σ H ρ S _ g s (WR.bind h fun x S1 v μ1 H1 u1 s1 r1 h1 => ?_)⟩
  cases q : tyOf S1 x with
  | none => simp only [q] at h1; exact h1.elim
  | some t =>
    simp only [q] at h1
    unfold tCons tTup
    rw [htt]
    refine ⟨by rw [List.length_map, sizeLine_eq]; omega, fun p hp => ?_⟩
    have s2 := s1.fresh (o := .tup (Ts.map fun T => V.ty (tnName T))) hp
    exact ⟨v, p, _, _, _, _, rfl, upd_same, clsV_all Ts, tyX_of s2 (r1.up (.fresh hp)) q, kitAny_tn t Ts hT, h1 _ μ1 _ (.fresh hp) s2 (.bl _)⟩
/-! ### built-in functions and types called -/
def CallD (X : Cx) (r : List V → Hp → VK → Prop) (g : Sto → List D → Option D) : Prop :=
  ∀ ξ μ H S ds vs z Q, RS (fx X ξ) μ H S → RDs (fx X ξ) μ H vs ds → g S ds = some z → (∀ w μ' H', Up μ H μ' H' → RS (fx X ξ) μ' H' S → RD (fx X ξ) μ' H' w z → Q w H') → r vs H Q
def mCallB (g : Sto → List D → Option D) (a : MA) : ME := fun ρ S => (a ρ S).bind fun xs S1 => match g S1 xs with
  | some z => .ok z S1
  | none => .bad
theorem d_callB {id : String} {x : Str} {r : List V → Hp → VK → Prop} {g : Sto → List D → Option D} (hc : CallR X (.builtin id) r) (hd : CallD X r g) (hm : X.mg x = none) (ha : DA X W (e :: es) mr) (hv : bootBuiltins x = some (.builtin id) := by decide +kernel) (hg : Gl X x := by rfl)
    (hn : x ≠ "__name__" := by decide) (hdb : (x == ("__debug__" : Str)) = false := by decide)
    (he : starEach (e :: es) X.env = (false, eval e X.env) :: starEach es X.env := by rfl) (hpl : (backTo pos (starEach es X.env)).any (·.1) = false := by rfl) : DE X W (.Call (.Name x p) (e :: es) [] pos) (mCallB g mr) := by
  obtain ⟨ta, pa, ka⟩ := ha
  refine ⟨_, pe_callB hc hg hm hv pa hn hdb he hpl, fun ξ μ σ H ρ S Q g0 s h => ka ξ μ σ H ρ S _ g0 s (WR.bind h fun xs S1 vs μ1 H1 u1 s1 r1 h1 => ?_)⟩
  cases q : g S1 xs with
  | none => rw [q] at h1; exact h1.elim
  | some z =>
    rw [q] at h1
    exact hd ξ μ1 H1 S1 xs vs z Q s1 r1 q h1
theorem d_callTy {T : String} {x : Str} {r : List V → Hp → VK → Prop} {g : Sto → List D → Option D} (hc : CallR X (.type T) r) (hd : CallD X r g) (hm : X.mg x = none) (ha : DA X W (e :: es) mr) (hv : bootBuiltins x = some (.type T) := by decide +kernel) (hg : Gl X x := by rfl)
    (hn : x ≠ "__name__" := by decide) (hdb : (x == ("__debug__" : Str)) = false := by decide)
    (he : starEach (e :: es) X.env = (false, eval e X.env) :: starEach es X.env := by rfl) (hpl : (backTo pos (starEach es X.env)).any (·.1) = false := by rfl) : DE X W (.Call (.Name x p) (e :: es) [] pos) (mCallB g mr) := by
  obtain ⟨ta, pa, ka⟩ := ha
  refine ⟨_, pe_callTy hc hg hm hv pa hn hdb he hpl, fun ξ μ σ H ρ S Q g0 s h => ka ξ μ σ H ρ S _ g0 s (WR.bind h fun xs S1 vs μ1 H1 u1 s1 r1 h1 => ?_)⟩
  cases q : g S1 xs with
  | none => rw [q] at h1; exact h1.elim
  | some z =>
    rw [q] at h1
    exact hd ξ μ1 H1 S1 xs vs z Q s1 r1 q h1
def gLen : Sto → List D → Option D := fun S ds => match ds with
  | [.str z] => if z.length ≤ 16777216 then some (.int z.length) else none
  | [d] => (seqOf S d).map fun ds => .int ds.length
  | _ => none
theorem c_len : CallD X (fun xs H Q => ∃ x n, xs = [x] ∧ LenV X.K x H n ∧ Q (.int n) H) gLen := by
  intro ξ μ H S ds vs z Q s r e k
  unfold gLen at e
  cases r with
  | nil => exact nomatch e
  | @cons v vs d ds r rr =>
    cases rr with
    | cons _ _ => cases d <;> exact nomatch e
    | nil =>
      have main : ∀ es, seqOf S d = some es → D.int es.length = z → ∃ x n, [v] = [x] ∧ LenV X.K x H n ∧ Q (.int n) H := fun es h1 h2 => by
        obtain ⟨a, xs, rfl, h3, h4⟩ := RD.seqS s r h1
        refine ⟨.ref a, xs.length, rfl, h3.imp (fun z => ⟨xs, z, rfl⟩) fun z => ⟨xs, z, rfl⟩, ?_⟩
        rw [h4.length]
        subst h2
        exact k _ μ H .refl s (.int _)
      cases r with
      | str x =>
        simp only at e
        by_cases c : x.length ≤ 16777216
        · rw [if_pos c] at e; cases e
          exact ⟨_, _, rfl, ⟨by rw [sizeLine_eq]; exact c, rfl⟩, k _ μ H .refl s (.int _)⟩
        · rw [if_neg c] at e; exact nomatch e
      | tup f r => exact main _ rfl (Option.some.inj e)
      | lst f r => exact main _ rfl (Option.some.inj e)
      | @cell a n ea =>
        simp only at e
        cases q : seqOf S (.cell n) with
        | none => rw [q] at e; exact nomatch e
        | some es => rw [q] at e; exact main es q (Option.some.inj e)
      | _ => exact nomatch e
def gInt1 : Sto → List D → Option D := fun _ ds => match ds with
  | [.int i] => some (.int i)
  | [.bl b] => some (.int (if b then 1 else 0))
  | _ => none
theorem c_int1 : CallD X (fun xs H Q => (∃ i, xs = [.int i] ∧ Q (.int i) H) ∨ ∃ k, xs = [.bl k] ∧ Q (.int (if k then 1 else 0)) H) gInt1 := by
  intro ξ μ H S ds vs z Q s r e k
  unfold gInt1 at e
  cases r with
  | nil => exact nomatch e
  | @cons v vs d ds r rr =>
    cases rr with
    | cons _ _ => cases d <;> exact nomatch e
    | nil =>
      cases r with
      | int i => cases e; exact .inl ⟨i, rfl, k _ μ H .refl s (.int _)⟩
      | bl b => cases e; exact .inr ⟨b, rfl, k _ μ H .refl s (.int _)⟩
      | _ => exact nomatch e
def gII (f : Int → Int → Int) : Sto → List D → Option D := fun _ ds => match ds with
  | [.int i, .int j] => some (.int (f i j))
  | _ => none
theorem c_II {f : Int → Int → Int} : CallD X (fun xs H Q => ∃ i j, xs = [.int i, .int j] ∧ Q (.int (f i j)) H) (gII f) := by
  intro ξ μ H S ds vs z Q s r e k
  unfold gII at e
  cases r with
  | nil => exact nomatch e
  | @cons v vs d ds r rr =>
    cases rr with
    | nil => cases d <;> exact nomatch e
    | @cons v2 vs2 d2 ds2 r2 rr2 =>
      cases rr2 with
      | cons _ _ => cases d <;> cases d2 <;> exact nomatch e
      | nil =>
        cases r with
        | int i =>
          cases r2 with
          | int j => cases e; exact ⟨i, j, rfl, k _ μ H .refl s (.int _)⟩
          | _ => exact nomatch e
        | _ => exact nomatch e
abbrev gMax2 := gII fun i j => if j > i then j else i
def gTuple : Sto → List D → Option D := fun S ds => match ds with
  | [d] => (seqOf S d).map .tup
  | _ => none
theorem c_tuple : CallD X (fun xs H Q => ∃ p ys, xs = [.ref p] ∧ ((SqL X.K H p ys ∧ ∀ l, H l = none → Q (.ref l) (upd H l (.tup ys))) ∨ (SqT X.K H p ys ∧ Q (.ref p) H))) gTuple := by
  intro ξ μ H S ds vs z Q s r e k
  unfold gTuple at e
  cases r with
  | nil => exact nomatch e
  | @cons v vs d ds r rr =>
    cases rr with
    | cons _ _ => exact nomatch e
    | nil =>
      simp only at e
      have lst : ∀ es, lstOf S d = some es → D.tup es = z → ∃ p ys, [v] = [.ref p] ∧ ((SqL X.K H p ys ∧ ∀ l, H l = none → Q (.ref l) (upd H l (.tup ys))) ∨ (SqT X.K H p ys ∧ Q (.ref p) H)) := fun es h1 h2 => by
        obtain ⟨a, xs, rfl, h3, h4⟩ := RD.lstS s r h1
        subst h2
        exact ⟨a, xs, rfl, .inl ⟨h3, fun l hl => k _ μ _ (.fresh hl) (s.fresh hl) (.tup (.inl ⟨.inl upd_same, s.out hl, s.outX hl⟩) (h4.up (.fresh hl)))⟩⟩
      cases r with
      | tup f r =>
        cases Option.some.inj e
        exact ⟨_, _, rfl, .inr ⟨f.sq, k _ μ H .refl s (.tup f r)⟩⟩
      | lst f r => exact lst _ rfl (Option.some.inj e)
      | @cell a n ea =>
        cases q : lstOf S (.cell n) with
        | none =>
          have e : (lstOf S (.cell n)).map D.tup = some z := e
          rw [q] at e; exact nomatch e
        | some es =>
          have e : (lstOf S (.cell n)).map D.tup = some z := e
          rw [q] at e; exact lst es q (Option.some.inj e)
      | _ => exact nomatch e
def blsOf : List D → Option (List Bool)
  | [] => some []
  | .bl b :: ds => (blsOf ds).map (b :: ·)
  | _ :: _ => none
theorem bls_of {F : Fx} {μ : List Addr} {H : Hp} : ∀ {vs : List V} {ds : List D} {bs : List Bool}, RDs F μ H vs ds → blsOf ds = some bs → vs = bs.map V.bl
  | _, [], bs, r, e => by cases r; cases e; rfl
  | _, d :: ds, bs, r, e => by
    cases r with
    | cons a b =>
      cases a with
      | bl x =>
        have e : (blsOf ds).map (x :: ·) = some bs := e
        cases q : blsOf ds with
        | none => rw [q] at e; exact nomatch e
        | some cs =>
          rw [q] at e; cases e
          rw [bls_of b q] <;> rfl
      | _ => exact nomatch e
def gAll : Sto → List D → Option D := fun S ds => match ds with
  | [d] => (lstOf S d).bind fun es => (blsOf es).map fun bs => .bl (bs.all id)
  | _ => none
theorem c_all : CallD X (rAll X.K) gAll := by
  intro ξ μ H S ds vs z Q s r e k
  unfold gAll at e
  cases r with
  | nil => exact nomatch e
  | @cons v vs d ds r rr =>
    cases rr with
    | cons _ _ => exact nomatch e
    | nil =>
      simp only at e
      cases q : lstOf S d with
      | none => rw [q] at e; exact nomatch e
      | some es =>
        rw [q] at e
        have e : (blsOf es).map (fun bs => D.bl (bs.all id)) = some z := e
        cases q' : blsOf es with
        | none => rw [q'] at e; exact nomatch e
        | some bs =>
          rw [q'] at e; cases e
          obtain ⟨a, xs, rfl, h1, h2⟩ := RD.lstS s r q
          have e := bls_of h2 q'
          subst e
          exact ⟨a, bs, rfl, h1, k _ μ H .refl s (.bl _)⟩
/-! ### lists put together -/
def mCatL (a b : MA) : MA := fun ρ S => (a ρ S).bind fun xs S1 => (b ρ S1).bind fun ys S2 => if xs.length + ys.length ≤ 16777216 then .ok (xs ++ ys) S2 else .bad
theorem WL'.bindL {F : Fx} {Q : VK} {Q1 : VK} {Wx : Value → Option Addr → Hp → Prop} {μ : List Addr} {H : Hp} {r : Res (List D)} {f : List D → Sto → Res (List D)} (h : WL' F (r.bind f) Q Wx μ H)
    (k : ∀ ds S1 p xs μ1 H1, Up μ H μ1 H1 → H p = none → RS (F.hold p) μ1 H1 S1 → RDs (F.hold p) μ1 H1 xs ds → H1 p = some (.lst xs) → WL' F (f ds S1) Q Wx μ1 H1 → Q1 (.ref p) H1) : WL' F r Q1 Wx μ H := by
  cases r with
  | ok x S1 => exact fun p xs μ1 H1 u1 hp s1 r1 e1 => k x S1 p xs μ1 H1 u1 hp s1 r1 e1 (WL'.shift u1 h)
  | exc c fs S => exact h
  | bad => exact h
theorem XR.hold {F : Fx} {μ : List Addr} {H : Hp} {cls : Value} {dd : Option Addr} {c : Str} {fs : List (Str × D)} {p : Addr} (h : XR (F.hold p) μ H cls dd c fs) : XR F μ H cls dd c fs := by
  obtain ⟨h1, h2⟩ := h
  refine ⟨h1, h2.imp id ?_⟩
  rintro ⟨d, vfs, e, h3, h4, h6, h5⟩
  exact ⟨d, vfs, e, h3, h4, fun q => h6 (List.mem_cons_of_mem _ q), Paired.mapP h5 fun _ _ z => ⟨z.1, z.2.mv .free⟩⟩
theorem dl_cat {na nb : MA} (ha : DL X W a na) (hb : DL X W b nb) : DL X W (.BinOp a .Add b pos) (mCatL na nb) := by
  obtain ⟨ta, pa, ka⟩ := ha
  obtain ⟨tb, pb, kb⟩ := hb
  refine ⟨_, pe_op op_cat pa pb, fun ξ μ σ H ρ S Q g s h => ka ξ μ σ H ρ S _ g s (WL'.bindL h fun ds S1 p xs μ1 H1 u1 hp s1 r1 e1 h1 => ?_)⟩
  refine kb (p :: ξ) μ1 σ H1 ρ S1 _ ?_ s1 ?_
  · exact ⟨g.len, fun i d e => by
      obtain ⟨v, h, r⟩ := (g.up u1).at_ i d e
      obtain ⟨v', h', r'⟩ := g.at_ i d e
      rw [h] at h'; cases h'
      have m : Mv (fx X ξ) μ H ((fx X ξ).hold p) μ1 H1 := ⟨fun {a xs} q => by
        rcases q.up u1 with ⟨z, n, nx⟩ | z
        · rcases q with ⟨z0, _⟩ | z0
          · refine .inl ⟨z, n, fun m => (List.mem_cons.mp m).elim (fun e => ?_) nx⟩
            subst e
            rcases z0 with z0 | ⟨o, z0⟩ <;> (rw [hp] at z0; cases z0)
          · exact .inr z0
        · exact .inr z, fun {a xs} q => by
        rcases q.up u1 with ⟨z, n, nx⟩ | z
        · rcases q with ⟨z0, _⟩ | z0
          · refine .inl ⟨z, n, fun m => (List.mem_cons.mp m).elim (fun e => ?_) nx⟩
            subst e
            rcases z0 with z0 | ⟨o, z0⟩ <;> (rw [hp] at z0; cases z0)
          · exact .inr z0
        · exact .inr z, fun q => u1.get q, rfl, fun q => q.upHold u1 hp⟩
      exact ⟨v, h, r'.mv m⟩⟩
  cases e : nb ρ S1 with
  | bad => rw [e] at h1; exact h1.elim
  | exc c fs S2 =>
    rw [e] at h1
    exact fun cls dd μ' H' u' s' x' => h1 cls dd μ' H' u' (RS.free (F := fx X ξ) (p := p) s') (XR.hold (F := fx X ξ) (p := p) x')
  | ok es S2 =>
    rw [e] at h1
    intro q ys μ2 H2 u2 hq s2 r2 e2
    have hpq : p ∉ μ1 := (s1.xi p List.mem_cons_self).1
    have ep := u2.keep _ _ e1 hpq
    by_cases c : ds.length + es.length ≤ 16777216
    · have h1 : WL' (fx X ξ) (if ds.length + es.length ≤ 16777216 then Res.ok (ds ++ es) S2 else .bad) Q (fun cls dd H' => W cls dd σ H') μ1 H1 := h1
      rw [if_pos c] at h1
      refine ⟨p, q, xs, ys, rfl, rfl, ep, e2, by rw [r1.length, r2.length, sizeLine_eq]; exact c, fun r hr => ?_⟩
      have rr : RDs (fx X ξ) μ2 H2 (xs ++ ys) (ds ++ es) := RDs.append ((r1.mv .free).up u2) ((RDs.free (F := fx X ξ) (p := p) es (RDs.free (F := fx X (p :: ξ)) (p := q) es r2)))
      have ss : RS (fx X ξ) μ2 H2 S2 := RS.free (F := fx X ξ) (p := p) (RS.free (F := fx X (p :: ξ)) (p := q) s2)
      have nr : r ∉ μ1 := fun z => ss.out hr (u2.mem z)
      exact h1 r _ μ2 _ (u2.trans (.fresh hr)) (u2.back hr nr) (ss.holds hr) (rr.mv (.holds hr)) upd_same
    · have h1 : WL' (fx X ξ) (if ds.length + es.length ≤ 16777216 then Res.ok (ds ++ es) S2 else .bad) Q (fun cls dd H' => W cls dd σ H') μ1 H1 := h1
      rw [if_neg c] at h1
      exact h1.elim
end
/-! ### statements -/
def mNop : MS := fun ρ S => .nx ρ S
def mSeq (a b : MS) : MS := fun ρ S => match a ρ S with
  | .nx ρ1 S1 => b ρ1 S1
  | o => o
def ofRes {α : Type} (r : Res α) (ρ : Rho) (k : α → Sto → Out) : Out := match r with
  | .ok a S => k a S
  | .exc c fs S => .exc c fs ρ S
  | .bad => .bad
def mAsg (i : Nat) (m : ME) : MS := fun ρ S => ofRes (m ρ S) ρ fun d S1 => .nx (ρ.set i (some d)) S1
def mRet (m : ME) : MS := fun ρ S => ofRes (m ρ S) ρ fun d S1 => .rt d S1
def mRetN : MS := fun _ S => .rt .non S
def mDrop (m : ME) : MS := fun ρ S => ofRes (m ρ S) ρ fun _ S1 => .nx ρ S1
def mIfS (c : ME) (a b : MS) : MS := fun ρ S => ofRes (c ρ S) ρ fun d S1 => match d with
  | .bl true => a ρ S1
  | .bl false => b ρ S1
  | _ => .bad
def mBrk : MS := fun ρ S => .bk ρ S
def mCont : MS := fun ρ S => .ct ρ S
section
variable {F : Fx} {α β : Type} {rel : List Addr → Hp → β → α → Prop} {μ : List Addr} {H : Hp} {E : Ends} {W : WX} {σ : St} {ρ : Rho}
/-- first r, then the statement's rest -/
theorem WS'.bind {r : Res α} {f : α → Sto → Out} {Q1 : β → Hp → Prop} (g : RG F μ H σ ρ) (h : WS' F (ofRes r ρ f) E W μ H)
    (k : ∀ x S1 v μ1 H1, Up μ H μ1 H1 → RS F μ1 H1 S1 → rel μ1 H1 v x → WS' F (f x S1) E W μ1 H1 → Q1 v H1) : WR F rel r Q1 (fun cls dd H' => W cls dd σ H') μ H := by
  cases r with
  | ok x S1 => exact fun v μ1 H1 u1 s1 r1 => k x S1 v μ1 H1 u1 s1 r1 (WS'.shift u1 h)
  | exc c fs S => exact fun cls dd μ' H' u' s' x' => h cls dd σ μ' H' u' s' (g.up u') x'
  | bad => exact h
theorem WS'.bindT {r : Res D} {f : D → Sto → Out} {Q1 : Bool → Hp → Prop} (g : RG F μ H σ ρ) (h : WS' F (ofRes r ρ f) E W μ H) (hb : ∀ d S, (∀ b, d ≠ .bl b) → f d S = .bad)
    (k : ∀ b S1 μ1 H1, Up μ H μ1 H1 → RS F μ1 H1 S1 → WS' F (f (.bl b) S1) E W μ1 H1 → Q1 b H1) : WT' F r Q1 (fun cls dd H' => W cls dd σ H') μ H := by
  cases r with
  | ok d S1 =>
    have h : WS' F (f d S1) E W μ H := h
    cases d with
    | bl b => exact fun μ1 H1 u1 s1 => k b S1 μ1 H1 u1 s1 (WS'.shift u1 h)
    | _ =>
      rw [hb _ _ (by intro b e; cases e)] at h
      exact h
  | exc c fs S => exact fun cls dd μ' H' u' s' x' => h cls dd σ μ' H' u' s' (g.up u') x'
  | bad => exact h
end
section
variable {X : Cx} {W : WX} {e a b c : Expr} {es : List Expr} {st : Stmt} {sts ts : List Stmt} {ma mb mc m : ME} {mr : MA} {m1 m2 : MS} {pos p p1 p2 p3 : Pos}
theorem dss_nil : DSs X W [] mNop := ⟨_, pss_nil, fun ξ μ σ H ρ S D g s h => h σ μ H .refl s g⟩
theorem WS'.seq {F : Fx} {μ : List Addr} {H : Hp} {D : Ends} {W : WX} {o : Out} {k : Rho → Sto → Out} {u : TS} (h : WS' F (match o with | .nx ρ1 S1 => k ρ1 S1 | o => o) D W μ H)
    (hu : ∀ σ ρ1 S1 μ1 H1, Up μ H μ1 H1 → RS F μ1 H1 S1 → RG F μ1 H1 σ ρ1 → WS' F (k ρ1 S1) D W μ1 H1 → u D σ H1) : WS' F o { D with nx := u D } W μ H := by
  cases o with
  | nx ρ1 S1 => exact fun σ μ1 H1 u1 s1 g1 => hu σ ρ1 S1 μ1 H1 u1 s1 g1 (WS'.shift u1 h)
  | _ => exact h
theorem dss_cons (h1 : DS X W st m1) (h2 : DSs X W sts m2) : DSs X W (st :: sts) (mSeq m1 m2) := by
  obtain ⟨ta, pa, ka⟩ := h1
  obtain ⟨tb, pb, kb⟩ := h2
  exact ⟨_, pss_cons pa pb, fun ξ μ σ H ρ S D g s h => ka ξ μ σ H ρ S _ g s (WS'.seq h fun σ' ρ1 S1 μ1 H1 u1 s1 g1 h1 => kb ξ μ1 σ' H1 ρ1 S1 D g1 s1 h1)⟩
theorem dss_one (h1 : DS X W st m1) : DSs X W [st] m1 := let ⟨_, p, k⟩ := h1; ⟨_, pss_one p, k⟩
theorem ds_set (i : Nat) {x : Str} {pos' : Pos} (hN : X.N.Nodup) (he : DE X W e m) (hi : X.N[i]? = some x := by rfl) (hx : Loc X.env.scope x := by first | exact Or.inl rfl | exact Or.inr rfl) (hs : swapsWith e (some (.Name x pos')) pos.line X.env = pure false := by rfl)
    (hf : X.fn x = true ∨ X.env.scope.names.lookup x = some .local := by first | exact .inl rfl | exact .inr rfl) : DS X W (.Assign [.Name x pos'] e pos) (mAsg i m) := by
  obtain ⟨te, p, k⟩ := he
  refine ⟨_, ps_set hN hi hx p hs hf, fun ξ μ σ H ρ S D g s h => k ξ μ σ H ρ S _ g s (WS'.bind g h fun x S1 v μ1 H1 u1 s1 r1 h1 => ?_)⟩
  exact h1 _ μ1 H1 .refl s1 ((g.up u1).set i r1)
theorem ds_ret (he : DE X W e m) : DS X W (.Return (some e) pos) (mRet m) := by
  obtain ⟨te, p, k⟩ := he
  exact ⟨_, ps_ret p, fun ξ μ σ H ρ S D g s h => k ξ μ σ H ρ S _ g s (WS'.bind g h fun x S1 v μ1 H1 u1 s1 r1 h1 => h1 _ μ1 H1 .refl s1 r1)⟩
theorem ds_expr (he : DE X W e m) (hs : swapsWith e none pos.line X.env = pure false := by rfl) : DS X W (.Expr e pos) (mDrop m) := by
  obtain ⟨te, p, k⟩ := he
  exact ⟨_, ps_expr p hs, fun ξ μ σ H ρ S D g s h => k ξ μ σ H ρ S _ g s (WS'.bind g h fun x S1 v μ1 H1 u1 s1 r1 h1 => h1 _ μ1 H1 .refl s1 (g.up u1))⟩
theorem ds_if (hc : DT X W c mc) (ha : DSs X W sts m1) (hb : DSs X W ts m2) : DS X W (.If c sts ts pos) (mIfS mc m1 m2) := by
  obtain ⟨tc, pc, kc⟩ := hc
  obtain ⟨ta, pa, ka⟩ := ha
  obtain ⟨tb, pb, kb⟩ := hb
  refine ⟨_, ps_if pc pa pb, fun ξ μ σ H ρ S D g s h => kc ξ μ σ H ρ S _ g s (WS'.bindT g h (fun d S h => by cases d <;> first | rfl | exact absurd rfl (h _)) fun c S1 μ1 H1 u1 s1 h1 => ?_)⟩
  cases c with
  | true => exact ka ξ μ1 σ H1 ρ S1 D (g.up u1) s1 h1
  | false => exact kb ξ μ1 σ H1 ρ S1 D (g.up u1) s1 h1
/-! ### targets -/
structure DG (X : Cx) (tg : Expr) (f : D → Rho → Option Rho) (is : List Nat) : Prop where
  ex : ∃ t, PG X tg t ∧ ∀ ξ μ σ H ρ v d ρ' (Q : St → Hp → Prop), RG (fx X ξ) μ H σ ρ → RD (fx X ξ) μ H v d → f d ρ = some ρ' →
    (∀ σ', RG (fx X ξ) μ H σ' ρ' → (∀ js : List Nat, (∀ i ∈ is, i ∈ js) → wipe σ' js = wipe σ js) → Q σ' H) → t v σ H Q
structure DGs (X : Cx) (tg : List Expr) (f : List D → Rho → Option Rho) (is : List Nat) : Prop where
  ex : ∃ t, PGs X tg t ∧ ∀ ξ μ σ H ρ vs ds ρ' (Q : St → Hp → Prop), RG (fx X ξ) μ H σ ρ → RDs (fx X ξ) μ H vs ds → f ds ρ = some ρ' →
    (∀ σ', RG (fx X ξ) μ H σ' ρ' → (∀ js : List Nat, (∀ i ∈ is, i ∈ js) → wipe σ' js = wipe σ js) → Q σ' H) → t vs σ H Q
theorem wipe_get (σ : St) (i : Nat) : ∀ js : List Nat, (wipe σ js)[i]? = if i ∈ js ∧ i < σ.length then some none else σ[i]?
  | [] => by simp [wipe]
  | j :: js => by
    unfold wipe
    have ih := wipe_get σ i js
    by_cases hj : j = i
    · subst hj
      by_cases hl : j < σ.length
      · rw [List.getElem?_set_self (by rw [wipe_length]; exact hl), if_pos ⟨List.mem_cons_self, hl⟩]
      · rw [List.getElem?_eq_none (by rw [List.length_set, wipe_length]; omega), if_neg (fun z => hl z.2), List.getElem?_eq_none (by omega)]
    · rw [List.getElem?_set_ne hj, ih]
      have e : (i ∈ j :: js ∧ i < σ.length) ↔ (i ∈ js ∧ i < σ.length) := by
        constructor
        · rintro ⟨z, l⟩
          exact ⟨(List.mem_cons.mp z).resolve_left fun q => hj q.symm, l⟩
        · rintro ⟨z, l⟩
          exact ⟨List.mem_cons_of_mem _ z, l⟩
      by_cases q : i ∈ js ∧ i < σ.length
      · rw [if_pos q, if_pos (e.mpr q)]
      · rw [if_neg q, if_neg fun z => q (e.mp z)]
theorem wipe_set {σ : St} {i : Nat} {o : Option V} {js : List Nat} (h : i ∈ js) : wipe (σ.set i o) js = wipe σ js := by
  refine List.ext_getElem? fun k => ?_
  rw [wipe_get, wipe_get, List.length_set]
  by_cases q : k ∈ js ∧ k < σ.length
  · rw [if_pos q, if_pos q]
  · rw [if_neg q, if_neg q]
    by_cases e : i = k
    · subst e
      have l : ¬ i < σ.length := fun l => q ⟨h, l⟩
      rw [List.getElem?_eq_none (by rw [List.length_set]; omega), List.getElem?_eq_none (by omega)]
    · rw [List.getElem?_set_ne e]
def tgN (i : Nat) : D → Rho → Option Rho := fun d ρ => some (ρ.set i (some d))
theorem dg_name (i : Nat) {x : Str} (hN : X.N.Nodup) (hi : X.N[i]? = some x := by rfl) (hx : Loc X.env.scope x := by first | exact Or.inl rfl | exact Or.inr rfl) (hf : X.fn x = true ∨ X.env.scope.names.lookup x = some .local := by first | exact .inl rfl | exact .inr rfl) : DG X (.Name x pos) (tgN i) [i] :=
  ⟨_, pg_name hN hi hx hf, fun ξ μ σ H ρ v d ρ' Q g r e k => by
    cases e
    exact k _ (g.set i r) fun js h => wipe_set (h i List.mem_cons_self)⟩
def tgNil : List D → Rho → Option Rho := fun ds ρ => match ds with
  | [] => some ρ
  | _ => none
def tgCons (f : D → Rho → Option Rho) (g : List D → Rho → Option Rho) : List D → Rho → Option Rho := fun ds ρ => match ds with
  | d :: ds => (f d ρ).bind fun ρ1 => g ds ρ1
  | [] => none
theorem dgs_nil : DGs X [] tgNil [] := ⟨_, pgs_nil, fun ξ μ σ H ρ vs ds ρ' Q g r e k => by
  cases r with
  | nil => cases e; exact ⟨rfl, k σ g fun _ _ => rfl⟩
  | cons _ _ => exact nomatch e⟩
theorem dgs_cons {f : D → Rho → Option Rho} {fs : List D → Rho → Option Rho} {is js : List Nat} (h1 : DG X e f is) (h2 : DGs X es fs js) (hs : (assignEach (e :: es) X.env).map (·.2) = assign e X.env :: (assignEach es X.env).map (·.2) := by rfl) : DGs X (e :: es) (tgCons f fs) (is ++ js) := by
  obtain ⟨t1, p1, k1⟩ := h1
  obtain ⟨t2, p2, k2⟩ := h2
  refine ⟨_, pgs_cons p1 p2 hs, fun ξ μ σ H ρ vs ds ρ' Q g r e k => ?_⟩
  cases r with
  | nil => exact nomatch e
  | @cons v vs d ds r rr =>
    have e : (f d ρ).bind (fun ρ1 => fs ds ρ1) = some ρ' := e
    cases q : f d ρ with
    | none => rw [q] at e; exact nomatch e
    | some ρ1 =>
      rw [q] at e
      refine ⟨v, vs, rfl, k1 ξ μ σ H ρ v d ρ1 _ g r q fun σ1 g1 w1 => ?_⟩
      refine k2 ξ μ σ1 H ρ1 vs ds ρ' Q g1 rr e fun σ2 g2 w2 => k σ2 g2 fun ks hk => ?_
      rw [w2 ks fun i hi => hk i (List.mem_append_right _ hi), w1 ks fun i hi => hk i (List.mem_append_left _ hi)]
def tgT (n : Nat) (f : List D → Rho → Option Rho) : D → Rho → Option Rho := fun d ρ => match d with
  | .tup ds => if ds.length = n then f ds ρ else none
  | _ => none
theorem dg_tup {k n : Nat} {f : List D → Rho → Option Rho} {is : List Nat} {tp : Pos} (hc : X.calm = true) (h : DGs X es f is) (hn : (assignEach es X.env).length = n := by rfl) (hst : (assignEach es X.env).findIdx? (·.1) = none := by rfl) : DG X (.Tuple es k tp) (tgT n f) is := by
  obtain ⟨t, p, k⟩ := h
  refine ⟨_, pg_tup hc p hn hst, fun ξ μ σ H ρ v d ρ' Q g r e kk => ?_⟩
  cases r with
  | @tup a xs ds fz r =>
    unfold tgT at e
    by_cases c : ds.length = n
    · simp only [if_pos c] at e
      exact ⟨a, xs, rfl, fz.sq, by rw [r.length]; exact c, k ξ μ σ H ρ xs ds ρ' Q g r e kk⟩
    · simp only [if_neg c] at e
      exact nomatch e
  | _ => exact nomatch e
/-- target = e -/
def mAsgG (f : D → Rho → Option Rho) (m : ME) : MS := fun ρ S => ofRes (m ρ S) ρ fun d S1 => match f d ρ with
  | some ρ1 => .nx ρ1 S1
  | none => .bad
theorem ds_asg {tg : Expr} {f : D → Rho → Option Rho} {is : List Nat} (he : DE X W e m) (hg : DG X tg f is) (hs : swapsWithSole [tg] e pos.line X.env = pure false := by rfl) (hw : swappedStores [tg] e X.env = pure none := by rfl) (h1 : (assignEach [tg] X.env).map (·.2) = [assign tg X.env] := by rfl) : DS X W (.Assign [tg] e pos) (mAsgG f m) := by
  obtain ⟨te, p, k⟩ := he
  obtain ⟨tg, pg, kg⟩ := hg
  refine ⟨_, ps_asg p pg hs hw h1, fun ξ μ σ H ρ S D g s h => k ξ μ σ H ρ S _ g s (WS'.bind g h fun x S1 v μ1 H1 u1 s1 r1 h1 => ?_)⟩
  cases q : f x ρ with
  | none => rw [q] at h1; exact h1.elim
  | some ρ1 =>
    rw [q] at h1
    exact kg ξ μ1 σ H1 ρ v x ρ1 _ (g.up u1) r1 q fun σ' g' _ => h1 σ' μ1 H1 .refl s1 g'
/-- o[i] = e, o a list's cell -/
def mSetIx (m o i : ME) : MS := fun ρ S => ofRes (m ρ S) ρ fun d S1 => ofRes (o ρ S1) ρ fun x S2 => ofRes (i ρ S2) ρ fun y S3 => match x, y with
  | .cell n, .int j => match S3[n]? with
    | some (.lst ds) => match ixN ds.length j with
      | some k => .nx ρ (S3.set n (.lst (ds.set k d)))
      | none => .bad
    | _ => .bad
  | _, _ => .bad
theorem ds_setIx {o i : Expr} {mo mi : ME} (he : DE X W e m) (ho : DE X W o mo) (hi : DE X W i mi)
    (ha : ∀ v, assign (.Subscript o i p) X.env v = (do
      let ov ← holding [v] (eval o X.env)
      let iv ← holding [v, ov] (eval i X.env)
      standAt p
      holding [v, ov, iv] (setItem ov iv v)
      release [v, ov, iv] []) := by intro _; rfl) (hs : swapsWithSole [.Subscript o i p] e pos.line X.env = pure false := by rfl) (hw : swappedStores [.Subscript o i p] e X.env = pure none := by rfl) : DS X W (.Assign [.Subscript o i p] e pos) (mSetIx m mo mi) := by
  obtain ⟨te, pe, ke⟩ := he
  obtain ⟨to, po, ko⟩ := ho
  obtain ⟨ti, pi, ki⟩ := hi
  refine ⟨_, ps_asg pe (pg_sub po pi set_list ha) hs hw, fun ξ μ σ H ρ S D g s h => ke ξ μ σ H ρ S _ g s (WS'.bind g h fun d S1 v μ1 H1 u1 s1 r1 h1 => ?_)⟩
  refine ko ξ μ1 σ H1 ρ S1 _ (g.up u1) s1 (WS'.bind (g.up u1) h1 fun x S2 v2 μ2 H2 u2 s2 r2 h2 => ?_)
  refine ki ξ μ2 σ H2 ρ S2 _ (g.up (u1.trans u2)) s2 (WS'.bind (g.up (u1.trans u2)) h2 fun y S3 v3 μ3 H3 u3 s3 r3 h3 => ?_)
  have rd := r1.up (u2.trans u3)
  have rx := r2.up u3
  cases rx with
  | @cell a n ea =>
    cases r3 with
    | int j =>
      simp only at h3
      cases q : S3[n]? with
      | none => rw [q] at h3; exact h3.elim
      | some c =>
        rw [q] at h3
        cases c with
        | lst ds =>
          simp only at h3
          cases q2 : ixN ds.length j with
          | none => rw [q2] at h3; exact h3.elim
          | some k =>
            rw [q2] at h3
            obtain ⟨xs, e1, e2⟩ := s3.at_ n a _ ea q
            refine ⟨a, xs, j, k, rfl, rfl, e1, by rw [e2.length]; exact q2, ?_⟩
            exact h3 σ μ3 _ (.write ea) (s3.write ea ⟨_, upd_same, ((e2.set k rd).up (.write ea))⟩) (g.up (u1.trans (u2.trans (u3.trans (.write ea)))))
        | _ => exact h3.elim
    | _ => exact h3.elim
  | _ => exact h3.elim
/-- o.append(e), o a list's cell -/
def mApp (o m : ME) : MS := fun ρ S => ofRes (o ρ S) ρ fun x S1 => match x with
  | .cell n => match S1[n]? with
    | some (.lst _) => ofRes (m ρ S1) ρ fun d S2 => match S2[n]? with
      | some (.lst ds) => if ds.length < 16777216 then .nx ρ (S2.set n (.lst (ds ++ [d]))) else .bad
      | _ => .bad
    | _ => .bad
  | _ => .bad
theorem ds_app {o : Expr} {mo : ME} (ho : DE X W o mo) (he : DE X W e m) (hp : ∀ {to te : TE}, PE X o to → PE X e te → PS X st (tDrop (tBM X.K "list" rAppend to (tCons te tNil)))) : DS X W st (mApp mo m) := by
  obtain ⟨to, po, ko⟩ := ho
  obtain ⟨te, pe, ke⟩ := he
  refine ⟨_, hp po pe, fun ξ μ σ H ρ S D g s h => ?_⟩
  refine ko ξ μ σ H ρ S _ g s (WS'.bind g h fun x S1 v μ1 H1 u1 s1 r1 h1 => ?_)
  cases r1 with
  | @cell a n ea =>
    simp only at h1
    cases q : S1[n]? with
    | none => rw [q] at h1; exact h1.elim
    | some c =>
      rw [q] at h1
      cases c with
      | lst ds0 =>
        simp only at h1
        obtain ⟨xs0, e1, _⟩ := s1.at_ n a _ ea q
        refine ⟨.inl ⟨rfl, _, SqL.of e1⟩, ?_⟩
        refine ke ξ μ1 σ H1 ρ S1 _ (g.up u1) s1 (WS'.bind (g.up u1) h1 fun d S2 v2 μ2 H2 u2 s2 r2 h2 => ?_)
        cases q2 : S2[n]? with
        | none => simp only [q2] at h2; exact h2.elim
        | some c2 =>
          simp only [q2] at h2
          cases c2 with
          | lst ds =>
            simp only at h2
            by_cases l : ds.length < 16777216
            · rw [if_pos l] at h2
              have ea2 := u2.get ea
              obtain ⟨xs, e2, e3⟩ := s2.at_ n a _ ea2 q2
              refine ⟨a, xs, v2, rfl, rfl, e2, by rw [e3.length, sizeLine_eq]; exact l, ?_⟩
              exact h2 σ μ2 _ (.write ea2) (s2.write ea2 ⟨_, upd_same, (e3.append (.cons r2 .nil)).up (.write ea2)⟩) (g.up (u1.trans (u2.trans (.write ea2))))
            · rw [if_neg l] at h2; exact h2.elim
          | _ => exact h2.elim
      | _ => exact h1.elim
  | _ => exact h1.elim
end
end Dm
-- text DmLoop
namespace Dm
open PySem L2
open PySem.W (Frag)
/-- more may be reserved later -/
structure Ext (F F' : Fx) (H : Hp) : Prop where
  k : F'.K = F.K
  g : F'.mg = F.mg
  x : ∀ a, a ∈ F'.ξ → a ∈ F.ξ ∨ H a = none
theorem Ext.refl {F : Fx} {H : Hp} : Ext F F H := ⟨rfl, rfl, fun _ h => .inl h⟩
theorem Mv.ext {F F' : Fx} {μ μ' : List Addr} {H H' : Hp} (e : Ext F F' H) (u : Up μ H μ' H') : Mv F μ H F' μ' H' := ⟨fun {a xs} q => by
    rcases q.up u with ⟨z, n, nx⟩ | z
    · rcases q with ⟨z0, _⟩ | z0
      · refine .inl ⟨z, n, fun m => ?_⟩
        rcases e.x _ m with q | q
        · exact nx q
        · rcases z0 with z0 | ⟨o, z0⟩ <;> (rw [q] at z0; cases z0)
      · exact .inr (by rw [e.k]; exact z0)
    · exact .inr (by rw [e.k]; exact z), fun {a xs} q => by
    rcases q.up u with ⟨z, n, nx⟩ | z
    · rcases q with ⟨z0, _⟩ | z0
      · refine .inl ⟨z, n, fun m => ?_⟩
        rcases e.x _ m with q | q
        · exact nx q
        · rcases z0 with z0 | ⟨o, z0⟩ <;> (rw [q] at z0; cases z0)
      · exact .inr (by rw [e.k]; exact z0)
    · exact .inr (by rw [e.k]; exact z), fun q => u.get q, e.g, fun {a c ns} h => by
    obtain ⟨cls, dd, e0, ⟨h1, h2, h3⟩, h4⟩ := h
    have no : ∀ {b : Addr} {o : HO}, H b = some o → b ∉ F.ξ → b ∉ F'.ξ := fun {b o} hb n m => (e.x b m).elim n fun q => by
      rw [q] at hb; cases hb
    refine ⟨cls, dd, by rw [e.g]; exact e0, ⟨u.keep _ _ h1 h2, u.notin h1 h2, no h1 h3⟩, h4.imp id ?_⟩
    rintro ⟨d, e2, h5, h6, h7⟩
    exact ⟨d, e2, u.keep _ _ h5 h6, u.notin h5 h6, no h5 h7⟩⟩
/-- an iterator gives these items -/
def ItOk (F : Fx) (μ : List Addr) (H : Hp) (J : It) (ds : List D) : Prop := ds.length ≤ 16777216 ∧
  ∀ (F' : Fx) (μ' : List Addr) (H' : Hp) (S' : Sto) (i : Nat), Ext F F' H → Up μ H μ' H' → RS F' μ' H' S' → i ≤ ds.length →
    (∀ d, ds[i]? = some d → J.go i H' ∧ ∀ x H'', J.yld i H' x H'' → Up μ' H' μ' H'' ∧ RS F' μ' H'' S' ∧ RD F' μ' H'' x d) ∧ (i = ds.length → J.stop i H')
structure DI (X : Cx) (W : WX) (tg iter : Expr) (m : MA) : Prop where
  ex : ∃ wi, PI X tg iter wi ∧ ∀ ξ μ σ H ρ S R, RG (fx X ξ) μ H σ ρ → RS (fx X ξ) μ H S → WR (fx X ξ) (fun μ H (J : It) (ds : List D) => ItOk (fx X ξ) μ H J ds) (m ρ S) R (fun cls dd H' => W cls dd σ H') μ H → wi σ H R
section
variable {X : Cx} {W : WX} {tg e a b c : Expr} {es : List Expr} {st : Stmt} {sts ts : List Stmt} {ma mb mc m : ME} {mr : MA} {m1 m2 : MS} {pos p p1 p2 p3 : Pos}
def Sized (K : Frag) (H : Hp) : Prop := ∀ a xs, SqL K H a xs ∨ SqT K H a xs → xs.length ≤ 16777216
theorem sized_of {pins : List (Addr × Obj)} {σ : St} {H : Hp} {s : Shared} (I : Inv X pins σ H s) : Sized X.K H := fun a xs h => by
  rcases h with h | h
  · obtain ⟨_, _, _, z⟩ := I.list h
    rw [sizeLine_eq] at z; exact z
  · obtain ⟨_, _, _, z⟩ := I.tuple h
    rw [sizeLine_eq] at z; exact z
theorem piSized {wi : TI} (h : PI X tg e wi) : PI X tg e (fun σ H R => wi σ H fun J H1 => Sized X.K H1 → R J H1) := ⟨fun pins s σ H R I hw =>
  thn (h.run pins s σ H _ I hw) fun v s1 h1 => thn h1 fun itv s2 ⟨it, fp, tn, J, H', a1, a2, a3, a4, a5, a6⟩ => ⟨it, fp, tn, J, H', a1, a2, a3, a4, a5, a6 (sized_of a2)⟩⟩
theorem piOr {wi wj : TI} (h : PI X tg e wi) (h' : PI X tg e wj) : PI X tg e (fun σ H R => wi σ H R ∨ wj σ H R) := ⟨fun pins s σ H R I hw =>
  hw.elim (h.run pins s σ H R I) (h'.run pins s σ H R I)⟩
theorem itt_ok {F : Fx} {μ : List Addr} {H : Hp} {a : Addr} {xs : List V} {ds : List D} (f : FzT F μ H a xs) (r : RDs F μ H xs ds) (z : Sized F.K H) : ItOk F μ H (Itt F.K a) ds := by
  refine ⟨by rw [← r.length]; exact z a xs (.inr f.sq), fun F' μ' H' S' i e u s hi => ⟨fun d hd => ?_, fun hi => ?_⟩⟩
  · obtain ⟨v, h1, h2⟩ := r.get hd
    refine ⟨⟨xs, v, (f.up u).sq, h1⟩, fun x H'' y => ?_⟩
    obtain ⟨e1, y⟩ := y
    subst e1
    have q := y xs (f.up u).sq
    rw [h1] at q; cases q
    exact ⟨.refl, s, h2.mv (.ext e u)⟩
  · exact ⟨xs, (f.up u).sq, by rw [r.length, hi]; exact Nat.le_refl _⟩
theorem itl_ok {F : Fx} {μ : List Addr} {H : Hp} {a : Addr} {xs : List V} {ds : List D} (f : FzL F μ H a xs) (r : RDs F μ H xs ds) (z : Sized F.K H) : ItOk F μ H (Itl F.K a) ds := by
  refine ⟨by rw [← r.length]; exact z a xs (.inl f.sq), fun F' μ' H' S' i e u s hi => ⟨fun d hd => ?_, fun hi => ?_⟩⟩
  · obtain ⟨v, h1, h2⟩ := r.get hd
    refine ⟨⟨xs, v, (f.up u).sq, h1⟩, fun x H'' y => ?_⟩
    obtain ⟨e1, y⟩ := y
    subst e1
    have q := y xs (f.up u).sq
    rw [h1] at q; cases q
    exact ⟨.refl, s, h2.mv (.ext e u)⟩
  · exact ⟨xs, (f.up u).sq, by rw [r.length, hi]; exact Nat.le_refl _⟩
/-- over a tuple, a list that stands still -/
def iSeq (m : ME) : MA := fun ρ S => (m ρ S).bind fun d S1 => match d with
  | .tup ds => .ok ds S1
  | .lst ds => .ok ds S1
  | _ => .bad
theorem di_seq (h : DE X W e m) : DI X W tg e (iSeq m) := by
  obtain ⟨te, pe, k⟩ := h
  refine ⟨_, piOr (piSized (pi_tup pe)) (piSized (pi_list pe)), fun ξ μ σ H ρ S R g s h => ?_⟩
  cases e1 : m ρ S with
  | bad => unfold iSeq at h; rw [e1] at h; exact h.elim
  | exc c fs S1 =>
    unfold iSeq at h; rw [e1] at h
    refine .inl (k ξ μ σ H ρ S _ g s ?_)
    rw [e1]; exact h
  | ok d S1 =>
    cases d with
    | tup ds =>
      refine .inl (k ξ μ σ H ρ S _ g s ?_)
      unfold iSeq at h
      rw [e1] at h ⊢
      intro v μ1 H1 u1 s1 r1
      cases r1 with
      | @tup a xs _ f r => exact ⟨a, rfl, ⟨xs, f.sq⟩, fun z => h _ μ1 H1 u1 s1 (itt_ok f r z)⟩
    | lst ds =>
      refine .inr (k ξ μ σ H ρ S _ g s ?_)
      unfold iSeq at h
      rw [e1] at h ⊢
      intro v μ1 H1 u1 s1 r1
      cases r1 with
      | @lst a xs _ f r => exact ⟨a, rfl, ⟨xs, f.sq⟩, fun z => h _ μ1 H1 u1 s1 (itl_ok f r z)⟩
    | _ => unfold iSeq at h; rw [e1] at h; exact h.elim
/-- over range(n), range(a, n) -/
def rngD (lo : Int) (n : Nat) : List D := (List.range n).map fun (i : Nat) => D.int (lo + i)
theorem rngD_length {lo : Int} {n : Nat} : (rngD lo n).length = n := by unfold rngD; rw [List.length_map, List.length_range]
theorem itr_ok {F : Fx} {μ : List Addr} {H : Hp} {lo : Int} {n : Nat} (hn : n ≤ 16777216) : ItOk F μ H (Itr lo n) (rngD lo n) := by
  refine ⟨by rw [rngD_length]; exact hn, fun F' μ' H' S' i e u s hi => ⟨fun d hd => ?_, fun hi => ?_⟩⟩
  · have hl : i < n := by
      have q := (List.getElem?_eq_some_iff.mp hd).1
      rw [rngD_length] at q; exact q
    refine ⟨hl, fun x H'' y => ?_⟩
    obtain ⟨e1, y⟩ := y
    subst e1
    subst y
    have e2 : d = .int (lo + i) := by
      unfold rngD at hd
      rw [List.getElem?_map, List.getElem?_range hl] at hd
      exact (Option.some.inj hd).symm
    subst e2
    exact ⟨.refl, s, .int _⟩
  · rw [rngD_length] at hi
    exact Nat.le_of_eq hi.symm
noncomputable def iRange1 (a : MA) : MA := fun ρ S => (a ρ S).bind fun ds S1 => match ds with
  | [.int j] => @ite _ (j ≤ 16777216 ∧ -4611686018427387904 ≤ j) (Classical.propDecidable _) (.ok (rngD 0 j.toNat) S1) .bad
  | _ => .bad
theorem di_range1 (ha : DA X W [a] mr) (hm : X.mg "range" = none) (hg : Gl X "range" := by rfl) (hs : starEach [a] X.env = [(false, eval a X.env)] := by rfl) : DI X W tg (.Call (.Name "range" p) [a] [] pos) (iRange1 mr) := by
  obtain ⟨ta, pa, ka⟩ := ha
  refine ⟨_, pi_range1 hg hm pa hs, fun ξ μ σ H ρ S R g s h => ka ξ μ σ H ρ S _ g s (WR.bind h fun ds S1 vs μ1 H1 u1 s1 r1 h1 => ?_)⟩
  cases r1 with
  | nil => exact h1.elim
  | @cons v vs d ds r rr =>
    cases rr with
    | cons _ _ => cases d <;> exact h1.elim
    | nil =>
      cases r with
      | int j =>
        simp only at h1
        by_cases c : j ≤ 16777216 ∧ -4611686018427387904 ≤ j
        · rw [if_pos c] at h1
          exact ⟨j, rfl, by omega, by omega, h1 _ μ1 H1 .refl s1 (itr_ok (by omega))⟩
        · rw [if_neg c] at h1; exact h1.elim
      | _ => exact h1.elim
noncomputable def iRange2 (a : MA) : MA := fun ρ S => (a ρ S).bind fun ds S1 => match ds with
  | [.int i, .int j] => @ite _ (-1000000000000 ≤ i ∧ i ≤ 1000000000000 ∧ -1000000000000 ≤ j ∧ j ≤ 1000000000000 ∧ j - i ≤ 16777216) (Classical.propDecidable _) (.ok (rngD i (j - i).toNat) S1) .bad
  | _ => .bad
theorem di_range2 (ha : DA X W [a, b] mr) (hm : X.mg "range" = none) (hg : Gl X "range" := by rfl) (hs : starEach [a, b] X.env = [(false, eval a X.env), (false, eval b X.env)] := by rfl) (hs2 : starEach [b] X.env = [(false, eval b X.env)] := by rfl) :
    DI X W tg (.Call (.Name "range" p) [a, b] [] pos) (iRange2 mr) := by
  obtain ⟨ta, pa, ka⟩ := ha
  refine ⟨_, pi_range2 hg hm pa hs hs2, fun ξ μ σ H ρ S R g s h => ka ξ μ σ H ρ S _ g s (WR.bind h fun ds S1 vs μ1 H1 u1 s1 r1 h1 => ?_)⟩
  cases r1 with
  | nil => exact h1.elim
  | @cons v vs d ds r rr =>
    cases rr with
    | nil => cases d <;> exact h1.elim
    | @cons v2 vs2 d2 ds2 r2 rr2 =>
      cases rr2 with
      | cons _ _ => cases d <;> cases d2 <;> exact h1.elim
      | nil =>
        cases r with
        | int i =>
          cases r2 with
          | int j =>
            simp only at h1
            by_cases c : -1000000000000 ≤ i ∧ i ≤ 1000000000000 ∧ -1000000000000 ≤ j ∧ j ≤ 1000000000000 ∧ j - i ≤ 16777216
            · rw [if_pos c] at h1
              exact ⟨i, j, rfl, ⟨by omega, by omega, by omega, by omega⟩, h1 _ μ1 H1 .refl s1 (itr_ok (by omega))⟩
            · rw [if_neg c] at h1; exact h1.elim
          | _ => exact h1.elim
        | _ => exact h1.elim
/-! ### for -/
def forL (f : D → Rho → Option Rho) (mb : MS) : List D → Rho → Sto → Out
  | [], ρ, S => .nx ρ S
  | d :: r, ρ, S => match f d ρ with
    | none => .bad
    | some ρ1 => match mb ρ1 S with
      | .nx ρ2 S2 => forL f mb r ρ2 S2
      | .ct ρ2 S2 => forL f mb r ρ2 S2
      | .bk ρ2 S2 => .nx ρ2 S2
      | .rt d S2 => .rt d S2
      | .exc c fs ρ2 S2 => .exc c fs ρ2 S2
      | .bad => .bad
def mFor (mi : MA) (f : D → Rho → Option Rho) (mb : MS) : MS := fun ρ S => ofRes (mi ρ S) ρ fun ds S1 => forL f mb ds ρ S1
theorem ds_for {f : D → Rho → Option Rho} {is : List Nat} {mb : MS} (hp : PassesOwn (model X.prog X.w) X.A X.env X.xe) (hc : X.calm = true) (hi : DI X W tg e mr) (hg : DG X tg f is) (hb : DSs X W sts mb)
    (hs : ∀ x, foldedSetIterable e X.env x = pure x := by intro _; rfl) : DS X W (.For tg e sts [] pos) (mFor mr f mb) := by
  obtain ⟨wi, pi, ki⟩ := hi
  obtain ⟨tg', pg, kg⟩ := hg
  obtain ⟨tb, pb, kb⟩ := hb
  refine ⟨_, ps_for hp hc pi pg pb hs, fun ξ μ σ H ρ S D g s h => ki ξ μ σ H ρ S _ g s (WS'.bind g h fun ds S1 J μ1 H1 u1 s1 r1 h1 => ?_)⟩
  refine ⟨fun i m σ' H' => ∃ μ' ρ' S', Up μ1 H1 μ' H' ∧ RS (fx X ξ) μ' H' S' ∧ RG (fx X ξ) μ' H' σ' ρ' ∧ i ≤ ds.length ∧ m = ds.length - i ∧ WS' (fx X ξ) (forL f mb (ds.drop i) ρ' S') D W μ' H',
    ⟨_, μ1, ρ, S1, .refl, s1, g.up u1, Nat.zero_le _, rfl, by rw [List.drop_zero]; exact h1⟩, ?_⟩
  rintro i m σ' H' ⟨μ', ρ', S', u', s', g', hi, rfl, w⟩
  obtain ⟨t1, t2⟩ := r1.2 (fx X ξ) μ' H' S' i .refl u' s' hi
  by_cases hl : i < ds.length
  · have hd : ds[i]? = some ds[i] := List.getElem?_eq_getElem hl
    obtain ⟨go, yl⟩ := t1 _ hd
    rw [List.drop_eq_getElem_cons hl] at w
    unfold forL at w
    cases ef : f ds[i] ρ' with
    | none => rw [ef] at w; exact w.elim
    | some ρ1 =>
      rw [ef] at w
      simp only at w
      refine .inr ⟨go, fun σ2 H2 => ∃ μ' ρ' S', Up μ1 H1 μ' H2 ∧ RS (fx X ξ) μ' H2 S' ∧ RG (fx X ξ) μ' H2 σ2 ρ' ∧ WS' (fx X ξ) (forL f mb (ds.drop (i + 1)) ρ' S') D W μ' H2,
        fun σ2 H2 ⟨μ2, ρ2, S2, a1, a2, a3, a4⟩ => ⟨_, by omega, μ2, ρ2, S2, a1, a2, a3, hl, rfl, a4⟩, fun x H2 y => ?_⟩
      obtain ⟨u2, s2, r2⟩ := yl x H2 y
      refine kg ξ μ' σ' H2 ρ' x _ ρ1 _ (g'.up u2) r2 ef fun σ2 g2 _ => ?_
      refine kb ξ μ' σ2 H2 ρ1 S' _ g2 s2 ?_
      have w := WS'.shift u2 w
      cases eb : mb ρ1 S' with
      | nx ρ2 S2 =>
        rw [eb] at w
        exact fun σ3 μ3 H3 u3 s3 g3 => ⟨μ3, ρ2, S2, u'.trans (u2.trans u3), s3, g3, w.shift u3⟩
      | ct ρ2 S2 =>
        rw [eb] at w
        exact fun σ3 μ3 H3 u3 s3 g3 => ⟨μ3, ρ2, S2, u'.trans (u2.trans u3), s3, g3, w.shift u3⟩
      | bk ρ2 S2 => rw [eb] at w; exact w
      | rt d S2 => rw [eb] at w; exact w
      | exc c fs ρ2 S2 => rw [eb] at w; exact w
      | bad => rw [eb] at w; exact w
  · have e : i = ds.length := by omega
    rw [e, List.drop_length] at w
    exact .inl ⟨t2 e, w σ' μ' H' .refl s' g'⟩
/-! ### for over a list's cell, as it stands at each turn -/
/-! ### while -/
end
/-! ### comprehensions -/
def wipeD (ρ : Rho) : List Nat → Rho
  | [] => ρ
  | v :: vs => (wipeD ρ vs).set v none
theorem RG.wipe {F : Fx} {μ : List Addr} {H : Hp} {σ : St} {ρ : Rho} (g : RG F μ H σ ρ) : ∀ vs : List Nat, RG F μ H (L2.wipe σ vs) (wipeD ρ vs)
  | [] => g
  | v :: vs => (RG.wipe g vs).forget (σ' := σ) v
def lcL (f : D → Rho → Option Rho) (mt me : ME) (ρ : Rho) : List D → Sto → Option (List D × Sto)
  | [], S => some ([], S)
  | d :: r, S => match f d ρ with
    | none => none
    | some ρ1 => match mt ρ1 S with
      | .ok (.bl true) S1 => match me ρ1 S1 with
        | .ok y S2 => match lcL f mt me ρ r S2 with
          | some (ys, S3) => some (y :: ys, S3)
          | none => none
        | _ => none
      | .ok (.bl false) S1 => lcL f mt me ρ r S1
      | _ => none
def mLc (mi : MA) (f : D → Rho → Option Rho) (mt me : ME) (vs : List Nat) : MA := fun ρ S => (mi ρ S).bind fun ds S1 => match lcL f mt me (wipeD ρ vs) ds S1 with
  | some (ys, S2) => .ok ys S2
  | none => .bad
def mYes : ME := fun _ S => .ok (.bl true) S
abbrev W0 : WX := fun _ _ _ _ => False
structure DTs (X : Cx) (W : WX) (es : List Expr) (m : ME) : Prop where
  ex : ∃ te, PTs X es te ∧ ∀ ξ μ σ H ρ S Q, RG (fx X ξ) μ H σ ρ → RS (fx X ξ) μ H S → WT' (fx X ξ) (m ρ S) Q (fun cls dd H' => W cls dd σ H') μ H → te σ H Q
section
variable {X : Cx} {W : WX} {tg e a b c : Expr} {es : List Expr} {st : Stmt} {sts ts : List Stmt} {ma mb mc m : ME} {mr : MA} {m1 m2 : MS} {pos p p1 p2 p3 : Pos}
theorem dts_nil : DTs X W [] mYes := ⟨_, pts_nil, fun ξ μ σ H ρ S Q g s h => h μ H .refl s⟩
theorem dts_one (h : DT X W c mc) : DTs X W [c] mc := let ⟨_, p, k⟩ := h; ⟨_, pts_one p, k⟩
/-- one word for all contexts of a family -/
theorem de_all {ι : Type} {Xf : ι → Cx} {e : Expr} {m : ME} {K : Frag} {mg : Str → Option Value} (hK : ∀ i, (Xf i).K = K) (hg : ∀ i, (Xf i).mg = mg) (h : ∀ i, DE (Xf i) W e m) :
    ∃ te, (∀ i, PE (Xf i) e te) ∧ ∀ ξ μ σ H ρ S Q, RG ⟨K, mg, ξ⟩ μ H σ ρ → RS ⟨K, mg, ξ⟩ μ H S → WE' ⟨K, mg, ξ⟩ (m ρ S) Q (fun cls dd H' => W cls dd σ H') μ H → te σ H Q := by
  refine ⟨fun σ H Q => ∀ i, ∃ te, PE (Xf i) e te ∧ te σ H Q, fun i => ⟨fun pins s σ H Q I hw => ?_⟩, fun ξ μ σ H ρ S Q g s hw i => ?_⟩
  · obtain ⟨te, p, q⟩ := hw i
    exact p.run pins s σ H Q I q
  · obtain ⟨te, p, k⟩ := h i
    refine ⟨te, p, k ξ μ σ H ρ S Q ?_ ?_ ?_⟩
    all_goals (unfold fx; rw [hK, hg]; assumption)
theorem dts_all {ι : Type} {Xf : ι → Cx} {es : List Expr} {m : ME} {K : Frag} {mg : Str → Option Value} (hK : ∀ i, (Xf i).K = K) (hg : ∀ i, (Xf i).mg = mg) (h : ∀ i, DTs (Xf i) W es m) :
    ∃ te, (∀ i, PTs (Xf i) es te) ∧ ∀ ξ μ σ H ρ S Q, RG ⟨K, mg, ξ⟩ μ H σ ρ → RS ⟨K, mg, ξ⟩ μ H S → WT' ⟨K, mg, ξ⟩ (m ρ S) Q (fun cls dd H' => W cls dd σ H') μ H → te σ H Q := by
  refine ⟨fun σ H Q => ∀ i, ∃ te, PTs (Xf i) es te ∧ te σ H Q, fun i => ⟨fun pins s σ H Q I hw => ?_⟩, fun ξ μ σ H ρ S Q g s hw i => ?_⟩
  · obtain ⟨te, p, q⟩ := hw i
    exact p.run pins s σ H Q I q
  · obtain ⟨te, p, k⟩ := h i
    refine ⟨te, p, k ξ μ σ H ρ S Q ?_ ?_ ?_⟩
    all_goals (unfold fx; rw [hK, hg]; assumption)
theorem dg_all {ι : Type} {Xf : ι → Cx} {tg : Expr} {f : D → Rho → Option Rho} {is : List Nat} {K : Frag} {mg : Str → Option Value} (hK : ∀ i, (Xf i).K = K) (hg : ∀ i, (Xf i).mg = mg) (h : ∀ i, DG (Xf i) tg f is) :
    ∃ t, (∀ i, PG (Xf i) tg t) ∧ ∀ ξ μ σ H ρ v d ρ' (Q : St → Hp → Prop), RG ⟨K, mg, ξ⟩ μ H σ ρ → RD ⟨K, mg, ξ⟩ μ H v d → f d ρ = some ρ' →
    (∀ σ', RG ⟨K, mg, ξ⟩ μ H σ' ρ' → (∀ js : List Nat, (∀ i ∈ is, i ∈ js) → wipe σ' js = wipe σ js) → Q σ' H) → t v σ H Q := by
  refine ⟨fun v σ H Q => ∀ i, ∃ t, PG (Xf i) tg t ∧ t v σ H Q, fun i => ⟨fun pins s σ H v u Q I r hw => ?_⟩, fun ξ μ σ H ρ v d ρ' Q g r e k i => ?_⟩
  · obtain ⟨t, p, q⟩ := hw i
    exact p.run pins s σ H v u Q I r q
  · obtain ⟨t, p, kk⟩ := h i
    refine ⟨t, p, kk ξ μ σ H ρ v d ρ' Q ?_ ?_ e fun σ' g' w => k σ' ?_ w⟩
    · unfold fx; rw [hK, hg]; exact g
    · unfold fx; rw [hK, hg]; exact r
    · have g'' := g'
      unfold fx at g''
      rw [hK, hg] at g''
      exact g''
abbrev Blk := Shared × Hp × Addr × List (Str × Addr) × List Addr
abbrev blkOf (X : Cx) (scope : Scope) (i : Blk) : Cx := X.blk i.1 i.2.1 scope (compEnvC scope i.2.2.2.1 i.2.2.1 X.env) i.2.2.2.2
/-- the reading of a comprehension -/
theorem lc_read {wi : TI} {tg' : TG} {tt : TT} {te : TE} {f : D → Rho → Option Rho} {is vs : List Nat} {ξ μ : List Addr} {σ : St} {H : Hp} {ρ : Rho} {S : Sto} {Q : VK} {Wx : Value → Option Addr → Hp → Prop} {mi : MA} {mt me : ME}
    (ki : ∀ R, WR (fx X ξ) (fun μ H (J : It) (ds : List D) => ItOk (fx X ξ) μ H J ds) (mi ρ S) R Wx μ H → wi σ H R)
    (kg : ∀ ξ μ σ H ρ v d ρ' (Q : St → Hp → Prop), RG (fx X ξ) μ H σ ρ → RD (fx X ξ) μ H v d → f d ρ = some ρ' → (∀ σ', RG (fx X ξ) μ H σ' ρ' → (∀ js : List Nat, (∀ i ∈ is, i ∈ js) → wipe σ' js = wipe σ js) → Q σ' H) → tg' v σ H Q)
    (kt : ∀ ξ μ σ H ρ S Q, RG (fx X ξ) μ H σ ρ → RS (fx X ξ) μ H S → WT' (fx X ξ) (mt ρ S) Q (fun cls dd H' => W0 cls dd σ H') μ H → tt σ H Q)
    (ke : ∀ ξ μ σ H ρ S Q, RG (fx X ξ) μ H σ ρ → RS (fx X ξ) μ H S → WE' (fx X ξ) (me ρ S) Q (fun cls dd H' => W0 cls dd σ H') μ H → te σ H Q)
    (hv : ∀ i ∈ is, i ∈ vs) (g : RG (fx X ξ) μ H σ ρ) (s : RS (fx X ξ) μ H S) (h : WL' (fx X ξ) (mLc mi f mt me vs ρ S) Q Wx μ H) : tLc wi tg' tt te vs σ H Q := by
  refine ki _ (WL'.bind h fun ds S1 J μ1 H1 u1 s1 r1 h1 => ?_)
  intro D hD
  obtain ⟨hz, r1⟩ := r1
  have n1 : D ∉ μ1 := s1.out hD
  have x1 : D ∉ ξ := s1.outX hD
  have ext : Ext (fx X ξ) ((fx X ξ).hold D) H1 := ⟨rfl, rfl, fun a ha => (List.mem_cons.mp ha).elim (fun z => .inr (by rw [z]; exact hD)) .inl⟩
  have main : WL' (fx X ξ) (match lcL f mt me (wipeD ρ vs) ds S1 with
    | some (ys, S2) => Res.ok ys S2
    | none => .bad) Q Wx μ1 H1 := h1
  refine ⟨fun i m H' => ∃ μ' S' acc dacc, Up μ1 H1 μ' H' ∧ RS ((fx X ξ).hold D) μ' H' S' ∧ H' D = some (.lst acc) ∧ RDs ((fx X ξ).hold D) μ' H' acc dacc ∧ acc.length ≤ i ∧ i ≤ ds.length ∧ m = ds.length - i ∧
      ∃ ys S2, lcL f mt me (wipeD ρ vs) (ds.drop i) S' = some (ys, S2) ∧ ∀ μ2 H2 xs, Up μ1 H1 μ2 H2 → RS ((fx X ξ).hold D) μ2 H2 S2 → RDs ((fx X ξ).hold D) μ2 H2 xs (dacc ++ ys) → H2 D = some (.lst xs) → Q (.ref D) H2,
    ⟨_, μ1, S1, [], [], .fresh hD, s1.holds hD, upd_same, .nil, Nat.le_refl _, Nat.zero_le _, rfl, ?_⟩, ?_⟩
  · rw [List.drop_zero]
    cases q : lcL f mt me (wipeD ρ vs) ds S1 with
    | none => rw [q] at main; exact main.elim
    | some r =>
      obtain ⟨ys, S2⟩ := r
      rw [q] at main
      exact ⟨ys, S2, rfl, fun μ2 H2 xs u2 s2 r2 e2 => main D xs μ2 H2 u2 hD s2 r2 e2⟩
  rintro i m H' ⟨μ', S', acc, dacc, u', s', hacc, racc, hla, hi, rfl, ys, S2, eL, fin⟩
  obtain ⟨t1, t2⟩ := r1 ((fx X ξ).hold D) μ' H' S' i ext u' s' hi
  by_cases hl : i < ds.length
  · obtain ⟨go, yl⟩ := t1 _ (List.getElem?_eq_getElem hl)
    rw [List.drop_eq_getElem_cons hl] at eL
    unfold lcL at eL
    cases ef : f ds[i] (wipeD ρ vs) with
    | none => rw [ef] at eL; exact nomatch eL
    | some ρ1 =>
      rw [ef] at eL
      simp only at eL
      refine .inr ⟨go, fun H2 => ∃ μ' S' acc dacc, Up μ1 H1 μ' H2 ∧ RS ((fx X ξ).hold D) μ' H2 S' ∧ H2 D = some (.lst acc) ∧ RDs ((fx X ξ).hold D) μ' H2 acc dacc ∧ acc.length ≤ i + 1 ∧
          ∃ ys S2, lcL f mt me (wipeD ρ vs) (ds.drop (i + 1)) S' = some (ys, S2) ∧ ∀ μ2 H2 xs, Up μ1 H1 μ2 H2 → RS ((fx X ξ).hold D) μ2 H2 S2 → RDs ((fx X ξ).hold D) μ2 H2 xs (dacc ++ ys) → H2 D = some (.lst xs) → Q (.ref D) H2,
        fun H2 ⟨μ2, S3, acc2, dacc2, a1, a2, a3, a4, a5, a6⟩ => ⟨_, by omega, μ2, S3, acc2, dacc2, a1, a2, a3, a4, a5, hl, rfl, a6⟩, fun x H2 y => ?_⟩
      obtain ⟨u2, s2, r2⟩ := yl x H2 y
      have g2 : RG (fx X (D :: ξ)) μ' H2 (wipe σ vs) (wipeD ρ vs) := (((g.up u1).mv (.ext ext (u'.trans u2)))).wipe vs
      refine kg (D :: ξ) μ' (wipe σ vs) H2 (wipeD ρ vs) x _ ρ1 _ g2 r2 ef fun σ3 g3 w3 => ?_
      have nD : D ∉ μ' := (s'.xi D List.mem_cons_self).1
      have eD : H2 D = some (.lst acc) := u2.keep _ _ hacc nD
      have ww : wipe (wipe σ vs) vs = wipe σ vs := by
        refine List.ext_getElem? fun k => ?_
        rw [wipe_get, wipe_get, wipe_length]
        by_cases q : k ∈ vs ∧ k < σ.length
        · rw [if_pos q, if_pos q]
        · rw [if_neg q, if_neg q]
      refine ⟨by rw [w3 vs hv, ww], ?_⟩
      refine kt (D :: ξ) μ' σ3 H2 ρ1 S' _ g3 s2 ?_
      have racc2 := racc.up u2
      cases et : mt ρ1 S' with
      | bad => rw [et] at eL; exact nomatch eL
      | exc c fs S3 => rw [et] at eL; exact nomatch eL
      | ok d S3 =>
        rw [et] at eL
        cases d with
        | bl b =>
          intro μ3 H3 u3 s3
          have eD3 : H3 D = some (.lst acc) := u3.keep _ _ eD nD
          cases b with
          | false =>
            exact ⟨μ3, S3, acc, dacc, u'.trans (u2.trans u3), s3, eD3, racc2.up u3, Nat.le_succ_of_le hla, ys, S2, eL, fin⟩
          | true =>
            simp only at eL
            refine ke (D :: ξ) μ3 σ3 H3 ρ1 S3 _ (g3.up u3) s3 ?_
            cases ee : me ρ1 S3 with
            | bad => rw [ee] at eL; exact nomatch eL
            | exc c fs S4 => rw [ee] at eL; exact nomatch eL
            | ok y S4 =>
              rw [ee] at eL
              intro v μ4 H4 u4 s4 r4
              simp only at eL
              cases er : lcL f mt me (wipeD ρ vs) (ds.drop (i + 1)) S4 with
              | none => rw [er] at eL; exact nomatch eL
              | some q =>
                obtain ⟨zs, S5⟩ := q
                rw [er] at eL
                cases eL
                have nD3 : D ∉ μ3 := (s3.xi D List.mem_cons_self).1
                have eD4 : H4 D = some (.lst acc) := u4.keep _ _ eD3 nD3
                refine ⟨acc, eD4, by rw [sizeLine_eq]; omega, μ4, S4, acc ++ [v], dacc ++ [y], ?_, RS.wr (F := fx X ξ) (p := D) s4, upd_same, RDs.mv (Mv.wr (F := fx X ξ) (p := D)) _ (RDs.append (F := (fx X ξ).hold D) ((racc2.up u3).up u4) (.cons r4 .nil)), by rw [List.length_append, List.length_singleton]; omega, zs, S2, er, fun μ5 H5 xs u5 s5 r5 e5 => fin μ5 H5 xs u5 s5 (by rw [List.append_assoc] at r5; exact r5) e5⟩
                have U := u'.trans (u2.trans (u3.trans u4))
                exact ⟨U.pre, U.new, fun a o ha na => by
                  rw [upd_ne (ne_of_none ha hD)]
                  exact U.keep a o ha na⟩
        | _ => exact nomatch eL
  · have e : i = ds.length := by omega
    rw [e, List.drop_length] at eL
    cases eL
    exact .inl ⟨t2 e, fin μ' H' acc u' s' (by rw [List.append_nil]; exact racc) hacc⟩
theorem dl_lc {elt : Expr} {ifs : List Expr} {scope : Scope} {own : List (Str × Nat)} {f : D → Rho → Option Rho} {is : List Nat} {mt me : ME} (hc : X.calm = true) (hN : X.N.Nodup) (hi : DI X W tg e mr) (ok : BlkOk X.N X.env.scope scope own)
    (hg : ∀ (s : Shared) (H : Hp) (C : Addr) (cl : List (Str × Addr)) (fp : List Addr), DG (X.blk s H scope (compEnvC scope cl C X.env) fp) tg f is)
    (ht : ∀ (s : Shared) (H : Hp) (C : Addr) (cl : List (Str × Addr)) (fp : List Addr), DTs (X.blk s H scope (compEnvC scope cl C X.env) fp) W0 ifs mt)
    (he : ∀ (s : Shared) (H : Hp) (C : Addr) (cl : List (Str × Addr)) (fp : List Addr), DE (X.blk s H scope (compEnvC scope cl C X.env) fp) W0 elt me)
    (hv : ∀ i ∈ is, i ∈ own.map (·.2) := by decide) (hs : ∀ x, foldedSetIterable e X.env x = pure x := by intro _; rfl) : DL X W (.ListComp elt [⟨tg, e, ifs, 0⟩] scope pos) (mLc mr f mt me (own.map (·.2))) := by
  obtain ⟨wi, pi, ki⟩ := hi
  obtain ⟨tg', pg, kg⟩ := dg_all (Xf := blkOf X scope) (K := X.K) (mg := X.mg) (fun _ => rfl) (fun _ => rfl) fun i => hg i.1 i.2.1 i.2.2.1 i.2.2.2.1 i.2.2.2.2
  obtain ⟨tt, pt, kt⟩ := dts_all (Xf := blkOf X scope) (K := X.K) (mg := X.mg) (fun _ => rfl) (fun _ => rfl) fun i => ht i.1 i.2.1 i.2.2.1 i.2.2.2.1 i.2.2.2.2
  obtain ⟨te, pe, ke⟩ := de_all (Xf := blkOf X scope) (K := X.K) (mg := X.mg) (fun _ => rfl) (fun _ => rfl) fun i => he i.1 i.2.1 i.2.2.1 i.2.2.2.1 i.2.2.2.2
  refine ⟨_, pe_lc hc hN pi ok (fun s H C cl fp => pg (s, H, C, cl, fp)) (fun s H C cl fp => pt (s, H, C, cl, fp)) (fun s H C cl fp => pe (s, H, C, cl, fp)) hs, fun ξ μ σ H ρ S Q g s h => ?_⟩
  exact lc_read (fun R => ki ξ μ σ H ρ S R g s) kg kt ke hv g s h
end
end Dm
-- text DmDef
namespace Dm
open PySem L2 PySem.Spec PyProof.Rows
open PySem.W (Frag)
/-! ### defs -/
def mDef (np nN : Nat) (b : MS) (ds : List D) (S : Sto) : Res D := if ds.length = np then
    match b (ds.map some ++ List.replicate (nN - np) none) S with
    | .nx _ S' => .ok .non S'
    | .rt d S' => .ok d S'
    | .exc c fs _ S' => .exc c fs S'
    | _ => .bad
  else .bad
/-- a def's promise: what its word says -/
def spD (K : Frag) (mg : Str → Option Value) (m : List D → Sto → Res D) : Sp := fun vs H Q E => ∃ ξ μ ds S, RS ⟨K, mg, ξ⟩ μ H S ∧ RDs ⟨K, mg, ξ⟩ μ H vs ds ∧ WE' ⟨K, mg, ξ⟩ (m ds S) Q (fun cls dd H' => E cls dd H') μ H
structure FnD (P : Program) (w : World) (K : Frag) (mg : Str → Option Value) (base : Heap) (k : Nat) (x : Str) (st : Stmt) (ps : List Str) (m : List D → Sto → Res D) : Prop where
  ex : ∃ f fd, mg x = some (.ref f) ∧ Fun K x x st f fd ∧ Binds K fd ps [] ∧ FnOk P w K mg base (L2.CX P w) k f fd ps (spD K mg m)
section
variable {P : Program} {w : World} {K : Frag} {mg : Str → Option Value} {base : Heap}
theorem FnD.mono {j k : Nat} {x : Str} {st : Stmt} {ps : List Str} {m : List D → Sto → Res D} (F : FnD P w K mg base j x st ps m) (h : j ≤ k) : FnD P w K mg base k x st ps m :=
  let ⟨f, fd, a, b, c, d⟩ := F; ⟨f, fd, a, b, c, d.mono h⟩
theorem rg_start {F : Fx} {μ : List Addr} {H : Hp} {N : List Str} {vs : List V} {ds : List D} (r : RDs F μ H vs ds) : RG F μ H (L2.start N vs) (ds.map some ++ List.replicate (N.length - ds.length) none) := by
  refine ⟨by unfold L2.start; rw [List.length_append, List.length_append, List.length_map, List.length_map, List.length_replicate, List.length_replicate, r.length], fun i d e => ?_⟩
  by_cases h : i < ds.length
  · rw [List.getElem?_append_left (by rw [List.length_map]; exact h), List.getElem?_map] at e
    cases q : ds[i]? with
    | none => rw [q] at e; exact nomatch e
    | some d' =>
      rw [q] at e
      cases e
      obtain ⟨v, h1, h2⟩ := r.get q
      refine ⟨v, ?_, h2⟩
      unfold L2.start
      rw [List.getElem?_append_left (by rw [List.length_map, r.length]; exact h), List.getElem?_map, h1] <;> rfl
  · rw [List.getElem?_append_right (by rw [List.length_map]; omega), List.getElem?_replicate] at e
    split at e <;> cases e
theorem fnd_mk {x : Str} {st : Stmt} {f : Addr} {fd : FuncData} {N ps : List Str} {k np nN : Nat} {mb : MS} (hm : mg x = some (.ref f)) (F : Fun K x x st f fd) (B : Binds K fd ps []) (S : FnScope N ps (defScope st)) (hnp : ps.length = np) (hnN : N.length = nN)
    (hb : ∀ (cdv : Value) (A : Around) (outer : List Env) (s : Shared) (H : Hp) (E : XK), Room k (A.deeper (envOfC x (defScope st) s.heap.objs.size f cdv)) →
      DSs (cxOf (L2.CX P w) P w K mg base N x (defScope st) f cdv A outer s H E) (fun cls d _ H => E cls d H) (defBody st) mb) : FnD P w K mg base (k + 1) x st ps (mDef np nN mb) := by
  subst hnp hnN
  refine ⟨f, fd, hm, F, B, F.okX S (fun vs H Q E h => ?_) (fun cdv A outer s H vs Q E hr h => ?_)⟩
  · obtain ⟨ξ, μ, ds, S0, s0, r0, w0⟩ := h
    unfold mDef at w0
    by_cases c : ds.length = ps.length
    · rw [r0.length]; exact c
    · rw [if_neg c] at w0; exact w0.elim
  · obtain ⟨ξ, μ, ds, S0, s0, r0, w0⟩ := h
    obtain ⟨ts, pt, kt⟩ := hb cdv A outer s H E hr
    refine ⟨ts, pt, ?_⟩
    unfold mDef at w0
    by_cases c : ds.length = ps.length
    · rw [if_pos c] at w0
      refine kt ξ μ _ H _ S0 _ (rg_start r0) s0 ?_
      show WS' ⟨K, mg, ξ⟩ _ _ _ μ H
      rw [c]
      cases e : mb (ds.map some ++ List.replicate (N.length - ps.length) none) S0 with
      | nx ρ S' => rw [e] at w0; exact fun σ μ' H' u s g => w0 _ μ' H' u s .non
      | rt d S' => rw [e] at w0; exact w0
      | exc c fs ρ S' => rw [e] at w0; exact fun cls dd σ μ' H' u s g x => w0 cls dd μ' H' u s x
      | bk ρ S' => rw [e] at w0; exact w0.elim
      | ct ρ S' => rw [e] at w0; exact w0.elim
      | bad => rw [e] at w0; exact w0.elim
    · rw [if_neg c] at w0; exact w0.elim
/-- nothing is promised -/
theorem fnd_bad {x : Str} {st : Stmt} {f : Addr} {fd : FuncData} {ps : List Str} {k : Nat} (hm : mg x = some (.ref f)) (F : Fun K x x st f fd) (B : Binds K fd ps []) : FnD P w K mg base k x st ps (fun _ _ => .bad) :=
  ⟨f, fd, hm, F, B, ⟨fun vs H Q E h => (let ⟨_, _, _, _, _, _, w0⟩ := h; False.elim w0), fun A outer s H args us vs Q E hr he hb hv h => (let ⟨_, _, _, _, _, _, w0⟩ := h; False.elim w0)⟩⟩
end
/-! ### calls of defs -/
section
variable {X : Cx} {W : WX} {tg e a b c : Expr} {es : List Expr} {kws : List Keyword} {st : Stmt} {sts ts : List Stmt} {ma mb mc m : ME} {mr mk : MA} {m1 m2 : MS} {pos p p1 p2 p3 kpos : Pos} {nm : Option Str}
/-- f(e, ..) -/
theorem d_call {j k : Nat} {x : Str} {ps : List Str} {f : List D → Sto → Res D} (F : FnD X.prog X.w X.K X.mg X.base j x st ps f) (hr : Room k X.A) (tk : Takes X W) (ha : DA X W (e :: es) mr) (hj : j ≤ k := by decide) (hg : Gl X x := by rfl)
    (hdb : (x == ("__debug__" : Str)) = false := by decide) (he : starEach (e :: es) X.env = (false, eval e X.env) :: starEach es X.env := by rfl) (hpl : (backTo pos (starEach es X.env)).any (·.1) = false := by rfl) :
    DE X W (.Call (.Name x p) (e :: es) [] pos) (mCall f mr) := by
  obtain ⟨fa, fd, hm, Fu, B, G⟩ := F
  obtain ⟨ta, pa, ka⟩ := ha
  refine ⟨_, pe_callSD G (hr.mono hj) hg hm Fu.kp B .nil (fun σ => passAt tk σ) pa hdb he hpl, fun ξ μ σ H ρ S Q g s h => ka ξ μ σ H ρ S _ g s (WR.bind h fun xs S1 vs μ1 H1 u1 s1 r1 h1 => ?_)⟩
  rw [List.append_nil]
  exact ⟨ξ, μ1, xs, S1, s1, r1, h1⟩
/-- f(e, .., k = v, ..): perm puts the written values, then the keywords', in the parameters' order; n, q: how many of each -/
def mCallK (f : List D → Sto → Res D) (n q : Nat) (perm : List Nat) (a k : MA) : ME := fun ρ S => (a ρ S).bind fun xs S1 => (k ρ S1).bind fun zs S2 => if xs.length = n ∧ zs.length = q then f (perm.filterMap ((xs ++ zs)[·]?)) S2 else .bad
/-! ### raise X('..') -/
structure XcOk (K : Frag) (mg : Str → Option Value) (x : Str) : Prop where
  ex : ∃ C : Addr, mg x = some (.ref C) ∧ PySem.W.excIn K C [.type "ValueError", .type "Exception", .type "BaseException", .type "object"] "ValueError.__new__" = true ∧ PySem.W.keepIn K (.ref C) = true ∧ PySem.W.subIn K (.ref C) (.type "BaseException") = some true ∧ PySem.W.typeIn K (.ref C) = some (.type "type")
def mRaise (c : Str) : MS := fun ρ S => .exc c [] ρ S
theorem ds_raise {x msg : Str} {jj : Nat} {pos2 : Pos} (C : XcOk X.K X.mg x) (hc : X.calm = true) (tk : Takes X W) (hg : Gl X x := by rfl) (hdb : (x == ("__debug__" : Str)) = false := by decide) :
    DS X W (.Raise (some (.Call (.Name x p) [.Constant (.str msg) jj p2] [] pos)) none pos2) (mRaise x) := by
  obtain ⟨C, h1, h2, h3, h4, h5⟩ := C
  exact ⟨_, ps_raise hc tk (pmk_own PySem.F.excBase_ValueError h2 h1 h3 (raises_own h4 h5) hg hdb), fun ξ μ σ H ρ S D g s h => h _ none σ μ H .refl s g ⟨h1, .inl ⟨rfl, rfl⟩⟩⟩
/-- x += e -/
def mAug (i : Nat) (f : Int → Int → Int) (m : ME) : MS := fun ρ S => match ρ[i]? with
  | some (some (.int a)) => ofRes (m ρ S) ρ fun d S1 => match d with
    | .int b => .nx (ρ.set i (some (.int (f a b)))) S1
    | _ => .bad
  | _ => .bad
end
end Dm
-- text DmIter
namespace Dm
open PySem L2 PySem.Spec PyProof.Rows
open PySem.W (Frag)
/-! ### enumerate of a tuple -/
/-- enumerate(v): a tuple, a list that stands still -/
def enumD (ds : List D) : List D := ds.zipIdx.map fun p => .tup [.int (p.2 : Nat), p.1]
def iEnumS (m : ME) : MA := fun ρ S => (m ρ S).bind fun d S1 => match d with
  | .tup ds => .ok (enumD ds) S1
  | .lst ds => .ok (enumD ds) S1
  | _ => .bad
end Dm
-- text DmRev
namespace Dm
open PySem L2 PySem.Spec PyProof.Rows
open PySem.W (Frag)
/-! ### t[::-1] of a tuple -/
section
variable {X : Cx} {W : WX} {e : Expr} {m : ME} {te : TE} {k : Nat} {p1 p2 p3 pos : Pos}
def mBack (m : ME) : ME := fun ρ S => (m ρ S).bind fun x S1 => match x with
  | .tup ds => .ok (.tup ds.reverse) S1
  | _ => .bad
end
end Dm
-- text DmEnd
namespace Dm
open PySem L2 PySem.Spec PyProof.Rows
open PySem.W (Frag)
theorem d_fold {X : Cx} {W : WX} {e : Expr} {m : ME} {d : D} (h : DE X W e m) (hm : ∀ ρ S, m ρ S = .ok d S) : DE X W e (mK d) := by
  have q : m = mK d := funext fun ρ => funext fun S => hm ρ S
  rw [← q]; exact h
def LawTrue (m : List D → Sto → Res D) : Prop := ∀ ns : List Int, ns.length ≤ 63 → ∃ S', m [.lst (ns.map .int)] [] = .ok (.bl true) S'
def spLaw (K : Frag) : Sp := fun vs H Q _ => ∃ (a : Addr) (ns : List Int), vs = [.ref a] ∧ SqL K H a (ns.map V.int) ∧ ns.length ≤ 63 ∧ ∀ H', Q (.bl true) H'
section
variable {P : Program} {w : World} {K : Frag} {mg : Str → Option Value} {base : Heap}
theorem rds_ints {F : Fx} {μ : List Addr} {H : Hp} : ∀ ns : List Int, RDs F μ H (ns.map V.int) (ns.map D.int)
  | [] => .nil
  | n :: ns => .cons (.int n) (rds_ints ns)
theorem law_ok {x sp : Str} {st : Stmt} {f : Addr} {fd : FuncData} {k : Nat} {m : List D → Sto → Res D} (hm : mg x = some (.ref f)) (F : Fun K x x st f fd) (G : FnD P w K mg base k x st [sp] m) (h : LawTrue m) :
    FnOk P w K mg base (L2.CX P w) k f fd [sp] (spLaw K) := by
  obtain ⟨f', fd', hm', F', B', G'⟩ := G
  rw [hm] at hm'
  cases hm'
  have e : fd = fd' := by
    obtain ⟨oc, od, kV, doc, pm, an, cdv, ct, osl, e1, lk, hcd⟩ := F.ex
    obtain ⟨oc', od', kV', doc', pm', an', cdv', ct', osl', e1', lk', hcd'⟩ := F'.ex
    rw [lk] at lk'
    have q := Option.some.inj lk'
    injection q with q1 q2 q3 q4
    injection q3
  subst e
  refine G'.imp fun vs H Q E hh => ?_
  obtain ⟨a, ns, rfl, hS, hl, q⟩ := hh
  obtain ⟨S', e⟩ := h ns hl
  refine ⟨[], [], [.lst (ns.map .int)], [], ⟨rfl, .nil, (fun n a c e _ => nomatch e), (fun a h => nomatch h)⟩, .cons (.lst ?_ (rds_ints ns)) .nil, ?_⟩
  · exact hS.imp (fun z => ⟨z, List.not_mem_nil, List.not_mem_nil⟩) id
  · rw [e]
    intro v μ' H' u s r
    cases r
    exact q H'
theorem cx_no {P : Program} {w : World} {H : Hp} {s s' : Shared} {e : Value} (z : L2.CX P w [] H s (fun _ _ _ => False) e s') : False := by
  obtain ⟨_, _, _, _, _, _, _, _, _, _, _, _, z⟩ := z
  exact z
end
end Dm
-- text DmMore
namespace Dm
open PySem L2
open PySem.W (Frag)
section
variable {X : Cx} {W : WX} {tg e a b c : Expr} {es : List Expr} {ma mb mc m : ME} {pos p p1 p2 p3 : Pos}
/-! ### a list some times -/
def mRepL (a : MA) (b : ME) : MA := fun ρ S => (a ρ S).bind fun xs S1 => (b ρ S1).bind fun y S2 => match y with
  | .int k => if k < 1000000 ∧ xs.length * k.toNat ≤ 16777216 ∧ -1000000 < k then .ok (List.replicate k.toNat xs).flatten S2 else .bad
  | _ => .bad
/-! ### a comprehension that is kept by a name -/
abbrev RdL (X : Cx) (W : WX) (te : TE) (mr : MA) : Prop := ∀ ξ μ σ H ρ S Q, RG (fx X ξ) μ H σ ρ → RS (fx X ξ) μ H S → WL' (fx X ξ) (mr ρ S) Q (fun cls dd H' => W cls dd σ H') μ H → te σ H Q
abbrev RdE (X : Cx) (W : WX) (te : TE) (m : ME) : Prop := ∀ ξ μ σ H ρ S Q, RG (fx X ξ) μ H σ ρ → RS (fx X ξ) μ H S → WE' (fx X ξ) (m ρ S) Q (fun cls dd H' => W cls dd σ H') μ H → te σ H Q
theorem rd_fz {te : TE} {mr : MA} (k : RdL X W te mr) : RdE X W te (mFz mr) := by
  intro ξ μ σ H ρ S Q g s h
  refine k ξ μ σ H ρ S Q g s ?_
  unfold mFz at h
  cases e : mr ρ S with
  | bad => rw [e] at h; exact h.elim
  | exc c fs S' => rw [e] at h; exact h
  | ok ds S' =>
    rw [e] at h
    exact fun q xs μ' H' u' hq s' r' e' => h _ μ' H' u' s'.free (.lst (.inl ⟨.inl e', (s'.xi q List.mem_cons_self).1, s.outX hq⟩) (r'.mv .free))
/-! ### a kept list and a new one behind it -/
def mCatC (a : ME) (b : MA) : MA := fun ρ S => (a ρ S).bind fun x S1 => (b ρ S1).bind fun ys S2 => match x with
  | .cell n => match S2[n]? with
    | some (.lst xs) => if xs.length + ys.length ≤ 16777216 then .ok (xs ++ ys) S2 else .bad
    | _ => .bad
  | _ => .bad
end
end Dm
-- text DmCat
namespace Dm
open PySem L2 PySem.Spec PyProof.Rows
open PySem.W (Frag)
section
variable {X : Cx} {W : WX} {tg e a b c : Expr} {es : List Expr} {ma mb mc m : ME} {pos p p1 p2 p3 : Pos}
def rCatB (K : Frag) : R2 := fun x y H Q => ∃ l b xs zs, x = .ref l ∧ y = .ref b ∧ SqL K H l xs ∧ SqL K H b zs ∧ xs.length + zs.length ≤ sizeLine ∧ ∀ p, H p = none → Q (.ref p) (upd H p (.lst (xs ++ zs)))
theorem op_catB : OpR X (binaryOp .Add) (rCatB X.K) := by
  intro pins s σ H x y v u Q I rx ry h
  obtain ⟨l, b, xs, zs, rfl, rfl, hl, hb, hz, q⟩ := h
  cases rx
  cases ry
  obtain ⟨its, r, ⟨o, n, ho, hc, hd, hs⟩, z⟩ := I.list hl
  obtain ⟨its2, r2, ⟨o2, n2, ho2, hc2, hd2, hs2⟩, z2⟩ := I.list hb
  obtain ⟨cls, dd, data, sl⟩ := o
  obtain ⟨cls2, dd2, data2, sl2⟩ := o2
  simp only at hc hd hs hc2 hd2 hs2
  subst hc hd hs hc2 hd2 hs2
  have ea : its.toArray ++ its2.toArray = (its ++ its2).toArray := by simp
  refine concat_meets ⟨_, ho, rfl⟩ ⟨_, ho2, rfl⟩ noFill_list_add seq_list_add PySem.F.slot_list_add PySem.F.entry_list_add (PySem.F.args_list_add_2 _ _) (list_addW l b its.toArray its2.toArray n n2 none none sl sl2 (by rw [List.size_toArray, List.size_toArray, ← r.length, ← r2.length]; exact hz)) ⟨ho, ho2, ?_⟩
  rw [ea]
  exact ⟨.ref _, _, I.lnew (t' := s.toks) (r.append r2) (by rw [List.length_append]; exact hz), rfl, q _ I.fresh⟩
/-- a list that stands somewhere and a new one behind it -/
def mCatV (a : ME) (b : MA) : MA := fun ρ S => (a ρ S).bind fun x S1 => (b ρ S1).bind fun ys S2 => match lstOf S2 x with
  | some xs => if xs.length + ys.length ≤ 16777216 then .ok (xs ++ ys) S2 else .bad
  | none => .bad
theorem dl_catV {nb : MA} (ha : DE X W a ma) (hb : DL X W b nb) : DL X W (.BinOp a .Add b pos) (mCatV ma nb) := by
  obtain ⟨ta, pa, ka⟩ := ha
  obtain ⟨tb, pb, kb⟩ := hb
  refine ⟨_, pe_op op_catB pa pb, fun ξ μ σ H ρ S Q g s h => ka ξ μ σ H ρ S _ g s (WL'.bind h fun x S1 v μ1 H1 u1 s1 r1 h1 => ?_)⟩
  refine kb ξ μ1 σ H1 ρ S1 _ (g.up u1) s1 (WL'.bindL h1 fun es S2 q ys μ2 H2 u2 hq s2 r2 e2 h2 => ?_)
  cases c : lstOf S2 x with
  | none => simp only [c] at h2; exact h2.elim
  | some ds =>
    simp only [c] at h2
    have ss : RS (fx X ξ) μ2 H2 S2 := RS.free (F := fx X ξ) (p := q) s2
    obtain ⟨l, xs, rfl, h4, r3⟩ := RD.lstS ss (r1.up u2) c
    by_cases l : ds.length + es.length ≤ 16777216
    · rw [if_pos l] at h2
      refine ⟨_, q, xs, ys, rfl, rfl, h4, SqL.of e2, by rw [r3.length, r2.length, sizeLine_eq]; exact l, fun r hr => ?_⟩
      have rr : RDs (fx X ξ) μ2 H2 (xs ++ ys) (ds ++ es) := RDs.append r3 (RDs.free (F := fx X ξ) (p := q) _ r2)
      exact h2 r _ μ2 _ (.fresh hr) hr (ss.holds hr) (rr.mv (.holds hr)) upd_same
    · rw [if_neg l] at h2
      exact h2.elim
end
end Dm
-- text DmAll

-- text Hw
namespace Dm
open PySem L2
noncomputable section
def m_is_integer : List D → Sto → Res D := mDef 1 1 (mRet (mAnd (mIsi .int (mVar 0)) (mNot (mIsi .bl (mVar 0)))))
def m_is_zone : List D → Sto → Res D := mDef 1 5 (mSeq (mIfS (mOr (mNot (mIsi .tup (mVar 0))) (mOp gNe (mCallB gLen (mCons (mVar 0) mNil)) (mK (.int 2)))) (mRet (mK (.bl false))) mNop) (mSeq (mAsgG (tgT 2 (tgCons (tgN 1) (tgCons (tgN 2) tgNil))) (mVar 0)) (mSeq (mIfS (mOr (mNot (mIsi .tup (mVar 1))) (mNot (mChain gLe gLe (mK (.int 1)) (mCallB gLen (mCons (mVar 1) mNil)) (mK (.int 3))))) (mRet (mK (.bl false))) mNop) (mSeq (mFor (iSeq (mVar 1)) (tgN 3) (mIfS (mOr (mNot (mCall m_is_integer (mCons (mVar 3) mNil))) (mNot (mChain gLe gLe (mUn gNeg (mK (.int 900))) (mVar 3) (mK (.int 900))))) (mRet (mK (.bl false))) mNop)) (mSeq (mFor (iRange2 (mCons (mK (.int 1)) (mCons (mCallB gLen (mCons (mVar 1) mNil)) mNil))) (tgN 4) (mIfS (mOp gLe (mOp gIx (mVar 1) (mVar 4)) (mOp gIx (mVar 1) (mOp gSub (mVar 4) (mK (.int 1))))) (mRet (mK (.bl false))) mNop)) (mRet (mAnd (mCall m_is_integer (mCons (mVar 2) mNil)) (mChain gLt gLe (mOp gSub (mOp gIx (mVar 1) (mK (.int (-1)))) (mOp gIx (mVar 1) (mK (.int 0)))) (mVar 2) (mK (.int 1000000))))))))))
def m_need_zone : List D → Sto → Res D := mDef 1 1 (mIfS (mNot (mCall m_is_zone (mCons (mVar 0) mNil))) (mRaise "InvalidZone") mNop)
def m_need_number : List D → Sto → Res D := mDef 1 1 (mIfS (mNot (mCall m_is_integer (mCons (mVar 0) mNil))) (mRaise "InvalidNumber") mNop)
def m_is_offset : List D → Sto → Res D := mDef 2 2 (mRet (mAnd (mCall m_is_integer (mCons (mVar 1) mNil)) (mOp (gIn false) (mVar 1) (mOp gIx (mVar 0) (mK (.int 0))))))
def m_is_mark : List D → Sto → Res D := mDef 2 2 (mRet (mAnd (mIsi .tup (mVar 1)) (mAnd (mOp gEq (mCallB gLen (mCons (mVar 1) mNil)) (mK (.int 2))) (mAnd (mCall m_is_integer (mCons (mOp gIx (mVar 1) (mK (.int 0))) mNil)) (mCall m_is_offset (mCons (mVar 0) (mCons (mOp gIx (mVar 1) (mK (.int 1))) mNil)))))))
def m_is_table : List D → Sto → Res D := mDef 2 6 (mSeq (mDrop (mCall m_need_zone (mCons (mVar 0) mNil))) (mSeq (mIfS (mOr (mNot (mIsi .tup (mVar 1))) (mOr (mOp gNe (mCallB gLen (mCons (mVar 1) mNil)) (mK (.int 2))) (mNot (mCall m_is_offset (mCons (mVar 0) (mCons (mOp gIx (mVar 1) (mK (.int 0))) mNil)))))) (mRet (mK (.bl false))) mNop) (mSeq (mAsgG (tgT 2 (tgCons (tgN 2) (tgCons (tgN 3) tgNil))) (mVar 1)) (mSeq (mIfS (mNot (mIsi .tup (mVar 3))) (mRet (mK (.bl false))) mNop) (mSeq (mFor (iEnumS (mVar 3)) (tgT 2 (tgCons (tgN 4) (tgCons (tgN 5) tgNil))) (mSeq (mIfS (mOr (mNot (mCall m_is_mark (mCons (mVar 0) (mCons (mVar 5) mNil)))) (mOp gEq (mOp gIx (mVar 5) (mK (.int 1))) (mVar 2))) (mRet (mK (.bl false))) mNop) (mSeq (mIfS (mAnd (mOp gGt (mVar 4) (mK (.int 0))) (mOp gLt (mOp gSub (mOp gIx (mVar 5) (mK (.int 0))) (mOp gIx (mOp gIx (mVar 3) (mOp gSub (mVar 4) (mK (.int 1)))) (mK (.int 0)))) (mOp gIx (mVar 0) (mK (.int 1))))) (mRet (mK (.bl false))) mNop) (mAsg 2 (mOp gIx (mVar 5) (mK (.int 1))))))) (mRet (mK (.bl true))))))))
def m_need_table : List D → Sto → Res D := mDef 2 2 (mIfS (mNot (mCall m_is_table (mCons (mVar 0) (mCons (mVar 1) mNil)))) (mRaise "InvalidTable") mNop)
def m_law_digits : List D → Sto → Res D := mDef 1 4 (mSeq (mIfS (mOp gGe (mVar 0) (mK (.int 1000000000000000000))) (mRet (mNew (mLst (mCons (mOp gSub (mVar 0) (mK (.int 1000000000000000000))) mNil)))) mNop) (mSeq (mAsg 1 (mOp gAdd (mOp gMod (mCallB gInt1 (mCons (mVar 0) mNil)) (mK (.int 100000000000000000000000000000000000133))) (mK (.int 7)))) (mSeq (mAsg 2 (mK (.int 1))) (mSeq (mFor (iRange1 (mCons (mK (.int 19)) mNil)) (tgN 3) (mSeq (mAsg 1 (mOp gMod (mOp gAdd (mOp gAdd (mOp gAdd (mOp gMul (mVar 1) (mVar 1)) (mOp gMul (mK (.int 31415926535)) (mVar 1))) (mOp gMul (mK (.int 271829)) (mVar 3))) (mK (.int 17))) (mK (.int 100000000000000000000000000000000000000009)))) (mIfS (mOp gGt (mVar 3) (mK (.int 2))) (mAsg 2 (mOp gAdd (mOp gMul (mVar 2) (mK (.int 100000000000000000000000000000000000000000))) (mVar 1))) mNop))) (mRet (mNew (mLst (mCons (mVar 2) mNil))))))))
def m_law_draw : List D → Sto → Res D := mDef 2 3 (mSeq (mAsg 2 (mOp gMod (mCallB gInt1 (mCons (mOp gIx (mVar 0) (mK (.int 0))) mNil)) (mVar 1))) (mSeq (mSetIx (mOp gFdiv (mOp gIx (mVar 0) (mK (.int 0))) (mVar 1)) (mVar 0) (mK (.int 0))) (mRet (mVar 2))))
def m_law_any_hour : List D → Sto → Res D := mDef 1 2 (mSeq (mAsg 1 (mCall m_law_draw (mCons (mVar 0) (mCons (mK (.int 4)) mNil)))) (mSeq (mIfS (mOp gLt (mVar 1) (mK (.int 2))) (mRet (mOp gSub (mCall m_law_draw (mCons (mVar 0) (mCons (mK (.int 241)) mNil))) (mK (.int 120)))) mNop) (mSeq (mIfS (mOp gEq (mVar 1) (mK (.int 2))) (mRet (mOp gSub (mCall m_law_draw (mCons (mVar 0) (mCons (mK (.int 1800000000001)) mNil))) (mK (.int 900000000000)))) mNop) (mRet (mOp gIx (mFz (mLst (mCons (mK (.int 0)) (mCons (mK (.int 1)) (mCons (mK (.int (-1))) (mCons (mK (.int 1440)) (mCons (mK (.int (-525600))) (mCons (mK (.int 999799999999)) (mCons (mK (.int (-999999999999))) mNil))))))))) (mCall m_law_draw (mCons (mVar 0) (mCons (mK (.int 7)) mNil))))))))
def m_law_shift_at : List D → Sto → Res D := mDef 2 5 (mSeq (mAsg 2 (mOp gIx (mVar 0) (mK (.int 0)))) (mSeq (mFor (iSeq (mOp gIx (mVar 0) (mK (.int 1)))) (tgT 2 (tgCons (tgN 3) (tgCons (tgN 4) tgNil))) (mIfS (mOp gLe (mVar 3) (mVar 1)) (mAsg 2 (mVar 4)) mNop)) (mRet (mVar 2))))
def m_law_whole : List D → Sto → Res D := mDef 1 1 (mRet (mAnd (mIsi .int (mVar 0)) (mNot (mIsi .bl (mVar 0)))))
def m_law_same : Nat → List D → Sto → Res D
  | 0 => fun _ _ => .bad
  | n + 1 => mDef 2 3 (mSeq (mIfS (mIsiT [.tup, .lst] (mVar 1)) (mSeq (mIfS (mOr (mNot (mIsiT [.tup, .lst] (mVar 0))) (mOp gNe (mIsi .lst (mVar 0)) (mIsi .lst (mVar 1)))) (mRet (mK (.bl false))) mNop) (mRet (mAnd (mOp gEq (mCallB gLen (mCons (mVar 0) mNil)) (mCallB gLen (mCons (mVar 1) mNil))) (mCallB gAll (mCons (mFz (mLc (iRange1 (mCons (mCallB gLen (mCons (mVar 1) mNil)) mNil)) (tgN 2) mYes (mCall (m_law_same n) (mCons (mOp gIx (mVar 0) (mVar 2)) (mCons (mOp gIx (mVar 1) (mVar 2)) mNil))) [2])) mNil))))) mNop) (mSeq (mIfS (mOp (gIsN false) (mVar 1) (mK .non)) (mRet (mOp (gIsN false) (mVar 0) (mK .non))) mNop) (mSeq (mIfS (mIsi .bl (mVar 1)) (mRet (mAnd (mIsi .bl (mVar 0)) (mOp gEq (mVar 0) (mVar 1)))) mNop) (mSeq (mIfS (mIsi .int (mVar 1)) (mRet (mAnd (mCall m_law_whole (mCons (mVar 0) mNil)) (mOp gEq (mVar 0) (mVar 1)))) mNop) (mSeq (mIfS (mIsi .str (mVar 1)) (mRet (mAnd (mIsi .str (mVar 0)) (mOp gEq (mVar 0) (mVar 1)))) mNop) (mRet (mAnd (mNot (mIsiT [.tup, .lst, .int, .str] (mVar 0))) (mOp (gIsN true) (mVar 0) (mK .non)))))))))
def m_is_looks : List D → Sto → Res D := mDef 2 4 (mSeq (mDrop (mCall m_need_zone (mCons (mVar 0) mNil))) (mSeq (mIfS (mOr (mNot (mIsi .tup (mVar 1))) (mNot (mCallB gAll (mCons (mFz (mLc (iSeq (mVar 1)) (tgN 2) mYes (mCall m_is_mark (mCons (mVar 0) (mCons (mVar 2) mNil))) [2])) mNil)))) (mRet (mK (.bl false))) mNop) (mRet (mCallB gAll (mCons (mFz (mLc (iRange2 (mCons (mK (.int 1)) (mCons (mCallB gLen (mCons (mVar 1) mNil)) mNil))) (tgN 3) mYes (mOp gLt (mOp gIx (mOp gIx (mVar 1) (mOp gSub (mVar 3) (mK (.int 1)))) (mK (.int 0))) (mOp gIx (mOp gIx (mVar 1) (mVar 3)) (mK (.int 0)))) [3])) mNil)))))
def m_need_looks : List D → Sto → Res D := mDef 2 2 (mIfS (mNot (mCall m_is_looks (mCons (mVar 0) (mCons (mVar 1) mNil)))) (mRaise "InvalidLooks") mNop)
def m_early_of : List D → Sto → Res D := mDef 2 6 (mSeq (mAsg 2 (mNew (mLst mNil))) (mSeq (mFor (iRange2 (mCons (mK (.int 1)) (mCons (mCallB gLen (mCons (mVar 1) mNil)) mNil))) (tgN 3) (mIfS (mOp gNe (mOp gIx (mOp gIx (mVar 1) (mVar 3)) (mK (.int 1))) (mOp gIx (mOp gIx (mVar 1) (mOp gSub (mVar 3) (mK (.int 1)))) (mK (.int 1)))) (mSeq (mAsg 4 (mOp gAdd (mOp gIx (mOp gIx (mVar 1) (mOp gSub (mVar 3) (mK (.int 1)))) (mK (.int 0))) (mK (.int 1)))) (mSeq (mIfS (mOp gGt (mCallB gLen (mCons (mVar 2) mNil)) (mK (.int 0))) (mAsg 4 (mCallB gMax2 (mCons (mVar 4) (mCons (mOp gAdd (mOp gIx (mOp gIx (mVar 2) (mK (.int (-1)))) (mK (.int 0))) (mOp gIx (mVar 0) (mK (.int 1)))) mNil)))) mNop) (mSeq (mIfS (mOp gGt (mVar 4) (mOp gIx (mOp gIx (mVar 1) (mVar 3)) (mK (.int 0)))) (mRet (mK .non)) mNop) (mApp (mVar 2) (mTup (mCons (mVar 4) (mCons (mOp gIx (mOp gIx (mVar 1) (mVar 3)) (mK (.int 1))) mNil))))))) mNop)) (mSeq (mAsg 5 (mIf (mOp gEq (mCallB gLen (mCons (mVar 1) mNil)) (mK (.int 0))) (mOp gIx (mOp gIx (mVar 0) (mK (.int 0))) (mK (.int 0))) (mOp gIx (mOp gIx (mVar 1) (mK (.int 0))) (mK (.int 1))))) (mRet (mTup (mCons (mVar 5) (mCons (mCallB gTuple (mCons (mVar 2) mNil)) mNil)))))))
def m_looks_fit : List D → Sto → Res D := mDef 2 2 (mRet (mOp (gIsN true) (mCall m_early_of (mCons (mVar 0) (mCons (mVar 1) mNil))) (mK .non)))
def m_can_hold : List D → Sto → Res D := mDef 2 2 (mSeq (mDrop (mCall m_need_zone (mCons (mVar 0) mNil))) (mSeq (mDrop (mCall m_need_looks (mCons (mVar 0) (mCons (mVar 1) mNil)))) (mRet (mCall m_looks_fit (mCons (mVar 0) (mCons (mVar 1) mNil))))))
def m_early_table : List D → Sto → Res D := mDef 2 2 (mSeq (mDrop (mCall m_need_zone (mCons (mVar 0) mNil))) (mSeq (mDrop (mCall m_need_looks (mCons (mVar 0) (mCons (mVar 1) mNil)))) (mRet (mCall m_early_of (mCons (mVar 0) (mCons (mVar 1) mNil))))))
def m_offset_seen : List D → Sto → Res D := mDef 2 4 (mSeq (mFor (iSeq (mVar 0)) (tgT 2 (tgCons (tgN 2) (tgCons (tgN 3) tgNil))) (mIfS (mOp gEq (mVar 2) (mVar 1)) (mRet (mVar 3)) mNop)) (mRet (mK .non)))
def m_with_look : List D → Sto → Res D := mDef 3 5 (mSeq (mAsg 3 (mCallB gTuple (mCons (mFz (mLc (iSeq (mVar 0)) (tgN 4) (mOp gLt (mOp gIx (mVar 4) (mK (.int 0))) (mVar 1)) (mVar 4) [4])) mNil))) (mRet (mOp gAdd (mOp gAdd (mVar 3) (mTup (mCons (mTup (mCons (mVar 1) (mCons (mVar 2) mNil))) mNil))) (mSlT (mVar 0) (mPart (mCallB gLen (mCons (mVar 3) mNil))) mNoPart))))
def m_choices_at : List D → Sto → Res D := mDef 3 5 (mSeq (mAsg 3 (mCall m_offset_seen (mCons (mVar 1) (mCons (mVar 2) mNil)))) (mSeq (mIfS (mOp (gIsN true) (mVar 3) (mK .non)) (mRet (mIf (mCall m_looks_fit (mCons (mVar 0) (mCons (mVar 1) mNil))) (mNew (mLst (mCons (mVar 3) mNil))) (mNew (mLst mNil)))) mNop) (mRet (mNew (mLc (iSeq (mOp gIx (mVar 0) (mK (.int 0)))) (tgN 4) (mCall m_looks_fit (mCons (mVar 0) (mCons (mCall m_with_look (mCons (mVar 1) (mCons (mVar 2) (mCons (mVar 4) mNil)))) mNil))) (mVar 4) [4])))))
def m_offsets_left : List D → Sto → Res D := mDef 3 3 (mSeq (mDrop (mCall m_need_zone (mCons (mVar 0) mNil))) (mSeq (mDrop (mCall m_need_looks (mCons (mVar 0) (mCons (mVar 1) mNil)))) (mSeq (mDrop (mCall m_need_number (mCons (mVar 2) mNil))) (mRet (mCall m_choices_at (mCons (mVar 0) (mCons (mVar 1) (mCons (mVar 2) mNil))))))))
end
end Dm
-- text DmSort
namespace Dm
open PySem L2 PySem.Spec PyProof.Rows
open PySem.W (Frag)
/-! ### sorted of ints, of pairs of ints -/
def insP (x : Int × Int) : List (Int × Int) → List (Int × Int)
  | [] => [x]
  | y :: r => if SrtO.lexB y x then y :: insP x r else x :: y :: r
def srtP : List (Int × Int) → List (Int × Int)
  | [] => []
  | x :: r => insP x (srtP r)
def insN (x : Int) : List Int → List Int
  | [] => [x]
  | y :: r => if y < x then y :: insN x r else x :: y :: r
def srtN : List Int → List Int
  | [] => []
  | x :: r => insN x (srtN r)
theorem insN_perm (x : Int) : ∀ l, (insN x l).Perm (x :: l)
  | [] => .refl _
  | y :: r => by
    unfold insN; split
    · exact ((insN_perm x r).cons y).trans (.swap _ _ _)
    · exact .refl _
theorem srtN_perm : ∀ l, (srtN l).Perm l
  | [] => .refl _
  | x :: r => (insN_perm x _).trans ((srtN_perm r).cons x)
theorem insN_asc (x : Int) : ∀ l : List Int, l.Pairwise (· ≤ ·) → (insN x l).Pairwise (· ≤ ·)
  | [], _ => by simp [insN]
  | y :: r, h => by
    obtain ⟨h1, h2⟩ := List.pairwise_cons.mp h
    unfold insN; split
    · next c =>
      refine List.pairwise_cons.mpr ⟨fun z hz => ?_, insN_asc x r h2⟩
      rcases List.mem_cons.mp ((insN_perm x r).mem_iff.mp hz) with rfl | hz
      · omega
      · exact h1 z hz
    · next c =>
      refine List.pairwise_cons.mpr ⟨fun z hz => ?_, h⟩
      rcases List.mem_cons.mp hz with rfl | hz
      · omega
      · have := h1 z hz; omega
theorem srtN_asc : ∀ l, (srtN l).Pairwise (· ≤ ·)
  | [] => .nil
  | x :: r => insN_asc x _ (srtN_asc r)
theorem IsPair.inj {h : Heap} {v : Value} {x y x' y' : Int} (a : Srt.IsPair h v x y) (b : Srt.IsPair h v x' y') : x = x' ∧ y = y' := by
  obtain ⟨a1, o, t, u, n, rfl, e1, e2, e3⟩ := a
  obtain ⟨a2, o', t', u', n', e0, f1, f2, f3⟩ := b
  cases e0
  rw [e1] at f1; cases f1
  rw [e3] at f3
  cases f3
  exact ⟨rfl, rfl⟩
section
variable {X : Cx}
def intsOf : List D → Option (List Int)
  | [] => some []
  | .int i :: ds => (intsOf ds).map (i :: ·)
  | _ :: _ => none
def pairsOf : List D → Option (List (Int × Int))
  | [] => some []
  | .tup [.int i, .int j] :: ds => (pairsOf ds).map ((i, j) :: ·)
  | _ :: _ => none
def prD (p : Int × Int) : D := .tup [.int p.1, .int p.2]
theorem intsOf_eq : ∀ {ds : List D} {ns : List Int}, intsOf ds = some ns → ds = ns.map .int
  | [], ns, e => by cases e; rfl
  | d :: ds, ns, e => by
    cases d with
    | int i =>
      have e : (intsOf ds).map (i :: ·) = some ns := e
      cases q : intsOf ds with
      | none => rw [q] at e; exact nomatch e
      | some m =>
        rw [q] at e; cases e
        rw [intsOf_eq q] <;> rfl
    | _ => exact nomatch e
@[simp] theorem intsOf_map {ns : List Int} : intsOf (ns.map .int) = some ns := by
  induction ns with
  | nil => rfl
  | cons n ns ih => rw [List.map_cons]; show (intsOf _).map _ = _; rw [ih] <;> rfl
@[simp] theorem pairsOf_map {ps : List (Int × Int)} : pairsOf (ps.map prD) = some ps := by
  induction ps with
  | nil => rfl
  | cons n ns ih => rw [List.map_cons]; show (pairsOf _).map _ = _; rw [ih] <;> rfl
def sortD (ds : List D) : Option (List D) := match intsOf ds with
  | some ns => some ((srtN ns).map .int)
  | none => (pairsOf ds).map fun ps => (srtP ps).map prD
def gSort : Sto → List D → Option (List D) := fun S ds => match ds with
  | [d] => (lstOf S d).bind sortD
  | _ => none
theorem rdsInts {F : Fx} {μ : List Addr} {H : Hp} {ns : List Int} : ∀ {vs : List V}, RDs F μ H vs (ns.map .int) → vs = ns.map V.int := by
  induction ns with
  | nil => intro vs r; cases r; rfl
  | cons p ps ih =>
    intro vs r
    cases r with
    | cons a b =>
      cases a
      rw [ih b] <;> rfl
theorem intsRds {F : Fx} {μ : List Addr} {H : Hp} {ns : List Int} : RDs F μ H (ns.map V.int) (ns.map .int) := by
  induction ns with
  | nil => exact .nil
  | cons p ps ih => exact .cons (.int _) ih
theorem CallR.or {f : Value} {r r' : List V → Hp → VK → Prop} (h : CallR X f r) (h' : CallR X f r') : CallR X f (fun vs H Q => r vs H Q ∨ r' vs H Q) := by
  intro pins s σ H vs us Q I rv z
  rcases z with z | z
  · exact h pins s σ H vs us Q I rv z
  · exact h' pins s σ H vs us Q I rv z
end
@[simp] theorem gSort_ints {S : Sto} {d : D} {ns : List Int} (h : lstOf S d = some (ns.map .int)) : gSort S [d] = some ((srtN ns).map .int) := by
  show (lstOf S d).bind sortD = _
  rw [h]
  show sortD _ = _
  unfold sortD
  rw [intsOf_map]
end Dm
-- text DmWp
namespace Dm
open PySem L2
/-! ### what a word does -/
abbrev EX := Str → List (Str × D) → Sto → Prop
abbrev EXO := Str → List (Str × D) → Rho → Sto → Prop
def NoE : EX := fun _ _ _ => False
def NoEO : EXO := fun _ _ _ _ => False
/-- what is wished of an exception: of an expression's at these slots; of a def's body -/
def eAt (E : EXO) (ρ : Rho) : EX := fun c fs S => E c fs ρ S
def eOut (E : EX) : EXO := fun c fs _ S => E c fs S
@[simp] theorem eAt_out {E : EX} {ρ : Rho} : eAt (eOut E) ρ = E := rfl
@[simp] theorem eAt_no {ρ : Rho} : eAt NoEO ρ = NoE := rfl
@[simp] theorem eOut_no : eOut NoE = NoEO := rfl
@[simp] theorem noE_app {c : Str} {fs : List (Str × D)} {S : Sto} : NoE c fs S = False := rfl
@[simp] theorem noEO_app {c : Str} {fs : List (Str × D)} {ρ : Rho} {S : Sto} : NoEO c fs ρ S = False := rfl
def Res.DoesE {α : Type} (r : Res α) (E : EX) (Q : α → Sto → Prop) : Prop := match r with
  | .ok a S => Q a S
  | .exc c fs S => E c fs S
  | .bad => False
def Out.DoesE (o : Out) (E : EXO) (N : Rho → Sto → Prop) (R : D → Sto → Prop) (B : Rho → Sto → Prop := fun _ _ => False) (C : Rho → Sto → Prop := fun _ _ => False) : Prop := match o with
  | .nx ρ S => N ρ S
  | .rt d S => R d S
  | .bk ρ S => B ρ S
  | .ct ρ S => C ρ S
  | .exc c fs ρ S => E c fs ρ S
  | .bad => False
abbrev Res.Does {α : Type} (r : Res α) (Q : α → Sto → Prop) : Prop := r.DoesE NoE Q
abbrev Out.Does (o : Out) (N : Rho → Sto → Prop) (R : D → Sto → Prop) (B : Rho → Sto → Prop := fun _ _ => False) (C : Rho → Sto → Prop := fun _ _ => False) : Prop := o.DoesE NoEO N R B C
section
variable {α β : Type} {a : α} {S : Sto} {ρ : Rho} {Q : α → Sto → Prop} {N B C : Rho → Sto → Prop} {R : D → Sto → Prop} {E : EX} {EO : EXO}
@[simp] theorem does_ok : (Res.ok a S).DoesE E Q = Q a S := rfl
@[simp] theorem does_bind {r : Res β} {f : β → Sto → Res α} : (r.bind f).DoesE E Q = r.DoesE E fun b S => (f b S).DoesE E Q := by cases r <;> rfl
@[simp] theorem bind_ok {f : α → Sto → Res β} : (Res.ok a S).bind f = f a S := rfl
@[simp] theorem ofRes_ok {k : α → Sto → Out} : ofRes (.ok a S) ρ k = k a S := rfl
@[simp] theorem does_ofRes {r : Res α} {k : α → Sto → Out} : (ofRes r ρ k).DoesE EO N R B C = r.DoesE (eAt EO ρ) fun a S => (k a S).DoesE EO N R B C := by cases r <;> rfl
@[simp] theorem does_nx : (Out.nx ρ S).DoesE EO N R B C = N ρ S := rfl
@[simp] theorem does_rt {d : D} : (Out.rt d S).DoesE EO N R B C = R d S := rfl
@[simp] theorem does_bk : (Out.bk ρ S).DoesE EO N R B C = B ρ S := rfl
@[simp] theorem does_ct : (Out.ct ρ S).DoesE EO N R B C = C ρ S := rfl
theorem Res.DoesE.mono {r : Res α} {Q Q' : α → Sto → Prop} (h : r.DoesE E Q) (k : ∀ a S, Q a S → Q' a S) : r.DoesE E Q' := by
  cases r with
  | ok a S => exact k a S h
  | _ => exact h
theorem Res.DoesE.monoE {r : Res α} {E' : EX} {Q Q' : α → Sto → Prop} (h : r.DoesE E Q) (e : ∀ c fs S, E c fs S → E' c fs S) (k : ∀ a S, Q a S → Q' a S) : r.DoesE E' Q' := by
  cases r with
  | ok a S => exact k a S h
  | exc c fs S => exact e _ _ _ h
  | bad => exact h
theorem Res.DoesE.toE {r : Res α} {Q : α → Sto → Prop} (h : r.DoesE NoE Q) : r.DoesE E Q := h.monoE (fun _ _ _ z => z.elim) fun _ _ z => z
theorem Res.Does.toE {r : Res α} {Q : α → Sto → Prop} (h : r.Does Q) : r.DoesE E Q := Res.DoesE.toE h
theorem Res.Does.mono {r : Res α} {Q Q' : α → Sto → Prop} (h : r.Does Q) (k : ∀ a S, Q a S → Q' a S) : r.Does Q' := Res.DoesE.mono h k
theorem Res.DoesE.eq {r : Res α} {Q : α → Sto → Prop} (h : r.DoesE NoE Q) : ∃ a S, r = .ok a S ∧ Q a S := by
  cases r with
  | ok a S => exact ⟨a, S, rfl, h⟩
  | _ => exact h.elim
theorem Res.Does.eq {r : Res α} {Q : α → Sto → Prop} (h : r.Does Q) : ∃ a S, r = .ok a S ∧ Q a S := Res.DoesE.eq h
theorem Out.DoesE.mono {o : Out} {N' B' C' : Rho → Sto → Prop} {R' : D → Sto → Prop} (h : o.DoesE EO N R B C) (hN : ∀ ρ S, N ρ S → N' ρ S) (hR : ∀ d S, R d S → R' d S) (hB : ∀ ρ S, B ρ S → B' ρ S) (hC : ∀ ρ S, C ρ S → C' ρ S) : o.DoesE EO N' R' B' C' := by
  cases o with
  | nx ρ S => exact hN _ _ h
  | rt d S => exact hR _ _ h
  | bk ρ S => exact hB _ _ h
  | ct ρ S => exact hC _ _ h
  | _ => exact h
theorem Out.Does.mono {o : Out} {N' B' C' : Rho → Sto → Prop} {R' : D → Sto → Prop} (h : o.Does N R B C) (hN : ∀ ρ S, N ρ S → N' ρ S) (hR : ∀ d S, R d S → R' d S) (hB : ∀ ρ S, B ρ S → B' ρ S) (hC : ∀ ρ S, C ρ S → C' ρ S) : o.Does N' R' B' C' := Out.DoesE.mono h hN hR hB hC
end
section
variable {S : Sto} {ρ : Rho} {Q : D → Sto → Prop} {N B C : Rho → Sto → Prop} {R : D → Sto → Prop} {E : EX} {EO : EXO}
@[simp] theorem does_seq {a b : MS} : (mSeq a b ρ S).DoesE EO N R B C = (a ρ S).DoesE EO (fun ρ S => (b ρ S).DoesE EO N R B C) R B C := by
  unfold mSeq
  cases a ρ S <;> rfl
@[simp] theorem does_asg {i : Nat} {m : ME} : (mAsg i m ρ S).DoesE EO N R B C = (m ρ S).DoesE (eAt EO ρ) fun d S => N (ρ.set i (some d)) S := by
  unfold mAsg
  rw [does_ofRes] <;> rfl
@[simp] theorem does_ret {m : ME} : (mRet m ρ S).DoesE EO N R B C = (m ρ S).DoesE (eAt EO ρ) R := by
  unfold mRet
  rw [does_ofRes] <;> rfl
@[simp] theorem does_retN : (mRetN ρ S).DoesE EO N R B C = R .non S := rfl
@[simp] theorem does_drop {m : ME} : (mDrop m ρ S).DoesE EO N R B C = (m ρ S).DoesE (eAt EO ρ) fun _ S => N ρ S := by
  unfold mDrop
  rw [does_ofRes] <;> rfl
@[simp] theorem does_nop : (mNop ρ S).DoesE EO N R B C = N ρ S := rfl
@[simp] theorem does_brk : (mBrk ρ S).DoesE EO N R B C = B ρ S := rfl
@[simp] theorem does_cont : (mCont ρ S).DoesE EO N R B C = C ρ S := rfl
/-- an if by what its test says -/
def BlQ (k : Bool → Sto → Prop) : D → Sto → Prop := fun d S => match d with
  | .bl b => k b S
  | _ => False
@[simp] theorem blQ_bl {k : Bool → Sto → Prop} {b : Bool} : BlQ k (.bl b) S = k b S := rfl
@[simp] theorem does_ifS {c : ME} {a b : MS} : (mIfS c a b ρ S).DoesE EO N R B C = (c ρ S).DoesE (eAt EO ρ) (BlQ fun k S => if k = true then (a ρ S).DoesE EO N R B C else (b ρ S).DoesE EO N R B C) := by
  unfold mIfS
  rw [does_ofRes]
  congr 1
  funext d S
  cases d with
  | bl k => cases k <;> rfl
  | _ => rfl
@[simp] theorem does_var {i : Nat} : (mVar i ρ S).DoesE E Q = match ρ[i]? with
    | some (some d) => Q d S
    | _ => False := by
  unfold mVar
  cases ρ[i]? with
  | none => rfl
  | some o => cases o <;> rfl
@[simp] theorem does_k {d : D} : (mK d ρ S).DoesE E Q = Q d S := rfl
@[simp] theorem var_eq {i : Nat} : mVar i ρ S = match ρ[i]? with
    | some (some d) => .ok d S
    | _ => .bad := rfl
@[simp] theorem k_eq {d : D} : mK d ρ S = .ok d S := rfl
def OptQ (o : Option D) (k : D → Prop) : Prop := match o with
  | some d => k d
  | none => False
@[simp] theorem optQ_some {d : D} {k : D → Prop} : OptQ (some d) k = k d := rfl
@[simp] theorem does_op {g : Sto → D → D → Option D} {a b : ME} : (mOp g a b ρ S).DoesE E Q = (a ρ S).DoesE E fun x S1 => (b ρ S1).DoesE E fun y S2 => OptQ (g S2 x y) fun z => Q z S2 := by
  unfold mOp
  rw [does_bind]
  congr 1
  funext x S1
  rw [does_bind]
  congr 1
  funext y S2
  cases g S2 x y <;> rfl
@[simp] theorem does_un {g : Sto → D → Option D} {a : ME} : (mUn g a ρ S).DoesE E Q = (a ρ S).DoesE E fun x S1 => OptQ (g S1 x) fun z => Q z S1 := by
  unfold mUn
  rw [does_bind]
  congr 1
  funext x S1
  cases g S1 x <;> rfl
@[simp] theorem does_and {a b : ME} : (mAnd a b ρ S).DoesE E Q = (a ρ S).DoesE E (BlQ fun k S1 => if k = true then (b ρ S1).DoesE E Q else Q (.bl false) S1) := by
  unfold mAnd
  rw [does_bind]
  congr 1
  funext d S
  cases d with
  | bl k => cases k <;> rfl
  | _ => rfl
@[simp] theorem does_or {a b : ME} : (mOr a b ρ S).DoesE E Q = (a ρ S).DoesE E (BlQ fun k S1 => if k = true then Q (.bl true) S1 else (b ρ S1).DoesE E Q) := by
  unfold mOr
  rw [does_bind]
  congr 1
  funext d S
  cases d with
  | bl k => cases k <;> rfl
  | _ => rfl
@[simp] theorem does_not {a : ME} : (mNot a ρ S).DoesE E Q = (a ρ S).DoesE E (BlQ fun k S1 => Q (.bl (!k)) S1) := by
  unfold mNot
  rw [does_bind]
  congr 1
  funext d S
  cases d <;> rfl
@[simp] theorem does_if {c a b : ME} : (mIf c a b ρ S).DoesE E Q = (c ρ S).DoesE E (BlQ fun k S1 => if k = true then (a ρ S1).DoesE E Q else (b ρ S1).DoesE E Q) := by
  unfold mIf
  rw [does_bind]
  congr 1
  funext d S
  cases d with
  | bl k => cases k <;> rfl
  | _ => rfl
@[simp] theorem does_nil {Q : List D → Sto → Prop} : (mNil ρ S).DoesE E Q = Q [] S := rfl
@[simp] theorem does_cons {a : ME} {r : MA} {Q : List D → Sto → Prop} : (mCons a r ρ S).DoesE E Q = (a ρ S).DoesE E fun x S1 => (r ρ S1).DoesE E fun xs S2 => Q (x :: xs) S2 := by
  unfold mCons
  rw [does_bind]
  congr 1
  funext x S1
  rw [does_bind] <;> rfl
@[simp] theorem does_tup {a : MA} : (mTup a ρ S).DoesE E Q = (a ρ S).DoesE E fun xs S1 => xs.length ≤ 16777216 ∧ Q (.tup xs) S1 := by
  unfold mTup
  rw [does_bind]
  congr 1
  funext xs S1
  by_cases h : xs.length ≤ 16777216
  · rw [if_pos h]; simp [h]
  · rw [if_neg h]; simp [h, Res.DoesE]
@[simp] theorem does_lst {a : MA} {Q : List D → Sto → Prop} : (mLst a ρ S).DoesE E Q = (a ρ S).DoesE E fun xs S1 => xs.length ≤ 16777216 ∧ Q xs S1 := by
  unfold mLst
  rw [does_bind]
  congr 1
  funext xs S1
  by_cases h : xs.length ≤ 16777216
  · rw [if_pos h]; simp [h]
  · rw [if_neg h]; simp [h, Res.DoesE]
@[simp] theorem does_fz {a : MA} : (mFz a ρ S).DoesE E Q = (a ρ S).DoesE E fun xs S1 => Q (.lst xs) S1 := by
  unfold mFz
  rw [does_bind] <;> rfl
@[simp] theorem does_new {a : MA} : (mNew a ρ S).DoesE E Q = (a ρ S).DoesE E fun xs S1 => Q (.cell S1.length) (S1 ++ [.lst xs]) := by
  unfold mNew
  rw [does_bind] <;> rfl
@[simp] theorem does_call {f : List D → Sto → Res D} {a : MA} : (mCall f a ρ S).DoesE E Q = (a ρ S).DoesE E fun xs S1 => (f xs S1).DoesE E Q := by
  unfold mCall
  rw [does_bind] <;> rfl
@[simp] theorem does_callB {g : Sto → List D → Option D} {a : MA} : (mCallB g a ρ S).DoesE E Q = (a ρ S).DoesE E fun xs S1 => OptQ (g S1 xs) fun z => Q z S1 := by
  unfold mCallB
  rw [does_bind]
  congr 1
  funext x S1
  cases g S1 x <;> rfl
@[simp] theorem does_callK {f : List D → Sto → Res D} {n q : Nat} {p : List Nat} {a k : MA} : (mCallK f n q p a k ρ S).DoesE E Q = (a ρ S).DoesE E fun xs S1 => (k ρ S1).DoesE E fun zs S2 => (xs.length = n ∧ zs.length = q) ∧ (f (p.filterMap ((xs ++ zs)[·]?)) S2).DoesE E Q := by
  unfold mCallK
  rw [does_bind]
  congr 1
  funext xs S1
  rw [does_bind]
  congr 1
  funext zs S2
  by_cases h : xs.length = n ∧ zs.length = q
  · rw [if_pos h]; simp [h]
  · rw [if_neg h]; simp [h, Res.DoesE]
@[simp] theorem does_chain {g g' : Sto → D → D → Option D} {a b c : ME} : (mChain g g' a b c ρ S).DoesE E Q = (a ρ S).DoesE E fun x S1 => (b ρ S1).DoesE E fun y S2 => OptQ (g S2 x y) fun z => BlQ (fun k S2 => if k = true then (c ρ S2).DoesE E fun w S3 => OptQ (g' S3 y w) fun z => Q z S3 else Q (.bl false) S2) z S2 := by
  unfold mChain
  rw [does_bind]
  congr 1
  funext x S1
  rw [does_bind]
  congr 1
  funext y S2
  cases g S2 x y with
  | none => rfl
  | some z =>
    cases z with
    | bl k =>
      cases k with
      | false => rfl
      | true =>
        show ((c ρ S2).bind _).DoesE E Q = _
        rw [does_bind]
        show _ = (c ρ S2).DoesE E _
        congr 1
        funext w S3
        cases g' S3 y w <;> rfl
    | _ => rfl
@[simp] theorem does_isi {T : Tn} {m : ME} : (mIsi T m ρ S).DoesE E Q = (m ρ S).DoesE E fun d S1 => OptQ ((tyOf S1 d).map fun t => .bl (isTn t T)) fun z => Q z S1 := by
  unfold mIsi
  rw [does_un]
@[simp] theorem does_isiT {T : List Tn} {m : ME} : (mIsiT T m ρ S).DoesE E Q = (m ρ S).DoesE E fun d S1 => OptQ ((tyOf S1 d).map fun t => .bl (T.any (isTn t ·))) fun z => Q z S1 := by
  unfold mIsiT
  rw [does_un]
@[simp] theorem does_asgG {f : D → Rho → Option Rho} {m : ME} : (mAsgG f m ρ S).DoesE EO N R B C = (m ρ S).DoesE (eAt EO ρ) fun d S1 => match f d ρ with
    | some ρ1 => N ρ1 S1
    | none => False := by
  unfold mAsgG
  rw [does_ofRes]
  congr 1
  funext d S1
  cases f d ρ <;> rfl
/-- a def -/
theorem does_def {np nN : Nat} {b : MS} {ds : List D} (h : ds.length = np) (hb : (b (ds.map some ++ List.replicate (nN - np) none) S).DoesE (eOut E) (fun _ S' => Q .non S') Q) : (mDef np nN b ds S).DoesE E Q := by
  unfold mDef
  rw [if_pos h]
  cases e : b (ds.map some ++ List.replicate (nN - np) none) S <;> rw [e] at hb <;> exact hb
@[simp] theorem does_for {mi : MA} {f : D → Rho → Option Rho} {mb : MS} : (mFor mi f mb ρ S).DoesE EO N R B C = (mi ρ S).DoesE (eAt EO ρ) fun ds S1 => (forL f mb ds ρ S1).DoesE EO N R B C := by
  unfold mFor
  rw [does_ofRes]
@[simp] theorem does_forL_nil {f : D → Rho → Option Rho} {mb : MS} : (forL f mb [] ρ S).DoesE EO N R B C = N ρ S := rfl
@[simp] theorem does_forL_cons {f : D → Rho → Option Rho} {mb : MS} {d : D} {r : List D} : (forL f mb (d :: r) ρ S).DoesE EO N R B C = match f d ρ with
    | none => False
    | some ρ1 => (mb ρ1 S).DoesE EO (fun ρ S => (forL f mb r ρ S).DoesE EO N R B C) R N (fun ρ S => (forL f mb r ρ S).DoesE EO N R B C) := by
  rw [forL]
  cases f d ρ with
  | none => rfl
  | some ρ1 =>
    simp only
    cases mb ρ1 S <;> rfl
/-- a loop by what holds ahead of each turn -/
theorem forL_does {f : D → Rho → Option Rho} {mb : MS} (I : List D → Rho → Sto → Prop) (step : ∀ d r ρ S, I (d :: r) ρ S → ∃ ρ1, f d ρ = some ρ1 ∧ (mb ρ1 S).DoesE EO (I r) R N (I r)) (stop : ∀ ρ S, I [] ρ S → N ρ S) :
    ∀ (ds : List D) (ρ : Rho) (S : Sto), I ds ρ S → (forL f mb ds ρ S).DoesE EO N R B C
  | [], ρ, S, h => stop ρ S h
  | d :: r, ρ, S, h => by
    obtain ⟨ρ1, e, k⟩ := step d r ρ S h
    unfold forL
    rw [e]
    simp only
    cases q : mb ρ1 S with
    | nx ρ2 S2 => rw [q] at k; exact forL_does I step stop r ρ2 S2 k
    | ct ρ2 S2 => rw [q] at k; exact forL_does I step stop r ρ2 S2 k
    | bk ρ2 S2 => rw [q] at k; exact k
    | rt d S2 => rw [q] at k; exact k
    | exc c fs ρ2 S2 => rw [q] at k; exact k
    | bad => rw [q] at k; exact k
theorem forL_cut {f : D → Rho → Option Rho} {mb : MS} (I : List D → Rho → Sto → Prop) (ds : List D) (start : I ds ρ S) (step : ∀ d r ρ S, I (d :: r) ρ S → ∃ ρ1, f d ρ = some ρ1 ∧ ∀ M : Rho → Sto → Prop, (∀ ρ S, I r ρ S → M ρ S) → (mb ρ1 S).DoesE EO M R N M) (stop : ∀ ρ S, I [] ρ S → N ρ S) :
    (forL f mb ds ρ S).DoesE EO N R B C :=
  forL_does I (fun d r ρ S h => let ⟨ρ1, e, k⟩ := step d r ρ S h; ⟨ρ1, e, k _ fun _ _ h => h⟩) stop ds ρ S start
@[simp] theorem does_iSeq {m : ME} {Q : List D → Sto → Prop} : (iSeq m ρ S).DoesE E Q = (m ρ S).DoesE E fun d S1 => match d with
    | .tup ds => Q ds S1
    | .lst ds => Q ds S1
    | _ => False := by
  unfold iSeq
  rw [does_bind]
  congr 1
  funext d S1
  cases d <;> rfl
@[simp] theorem does_iEnumS {m : ME} {Q : List D → Sto → Prop} : (iEnumS m ρ S).DoesE E Q = (m ρ S).DoesE E fun d S1 => match d with
    | .tup ds => Q (enumD ds) S1
    | .lst ds => Q (enumD ds) S1
    | _ => False := by
  unfold iEnumS
  rw [does_bind]
  congr 1
  funext d S1
  cases d <;> rfl
@[simp] theorem does_iRange1 {a : MA} {Q : List D → Sto → Prop} : (iRange1 a ρ S).DoesE E Q = (a ρ S).DoesE E fun ds S1 => match ds with
    | [.int j] => (j ≤ 16777216 ∧ -4611686018427387904 ≤ j) ∧ Q (rngD 0 j.toNat) S1
    | _ => False := by
  unfold iRange1
  rw [does_bind]
  congr 1
  funext ds S1
  split
  · rename_i j
    by_cases h : j ≤ 16777216 ∧ -4611686018427387904 ≤ j
    · rw [if_pos h]; simp [h]
    · rw [if_neg h]; simp [h, Res.DoesE]
  · rename_i h
    first
    | rfl
    | (split <;> first
      | rfl
      | (rename_i j; exact absurd rfl (h j)))
@[simp] theorem does_iRange2 {a : MA} {Q : List D → Sto → Prop} : (iRange2 a ρ S).DoesE E Q = (a ρ S).DoesE E fun ds S1 => match ds with
    | [.int i, .int j] => (-1000000000000 ≤ i ∧ i ≤ 1000000000000 ∧ -1000000000000 ≤ j ∧ j ≤ 1000000000000 ∧ j - i ≤ 16777216) ∧ Q (rngD i (j - i).toNat) S1
    | _ => False := by
  unfold iRange2
  rw [does_bind]
  congr 1
  funext ds S1
  split
  · rename_i i j
    by_cases h : -1000000000000 ≤ i ∧ i ≤ 1000000000000 ∧ -1000000000000 ≤ j ∧ j ≤ 1000000000000 ∧ j - i ≤ 16777216
    · rw [if_pos h]; simp [h]
    · rw [if_neg h]; simp [h, Res.DoesE]
  · rename_i h
    first
    | rfl
    | (split <;> first
      | rfl
      | (rename_i i j; exact absurd rfl (h i j)))
/-- what a comprehension gives -/
def LcQ (f : D → Rho → Option Rho) (mt me : ME) (ρ : Rho) (ds : List D) (S : Sto) (Q : List D → Sto → Prop) : Prop := ∃ ys S2, lcL f mt me ρ ds S = some (ys, S2) ∧ Q ys S2
@[simp] theorem lcQ_nil {f : D → Rho → Option Rho} {mt me : ME} {Q : List D → Sto → Prop} : LcQ f mt me ρ [] S Q = Q [] S := by
  refine propext ⟨?_, fun q => ⟨[], S, rfl, q⟩⟩
  rintro ⟨ys, S2, e, q⟩
  cases e
  exact q
@[simp] theorem lcQ_cons {f : D → Rho → Option Rho} {mt me : ME} {d : D} {r : List D} {Q : List D → Sto → Prop} : LcQ f mt me ρ (d :: r) S Q = match f d ρ with
    | none => False
    | some ρ1 => (mt ρ1 S).Does (BlQ fun k S1 => if k = true then (me ρ1 S1).Does fun y S2 => LcQ f mt me ρ r S2 fun ys S3 => Q (y :: ys) S3 else LcQ f mt me ρ r S1 Q) := by
  unfold LcQ
  rw [lcL]
  cases f d ρ with
  | none => simp
  | some ρ1 =>
    simp only
    cases mt ρ1 S with
    | ok v S1 =>
      cases v with
      | bl b =>
        cases b with
        | true =>
          simp only [does_ok, blQ_bl, if_true]
          cases me ρ1 S1 with
          | ok y S2 =>
            simp only [does_ok]
            cases lcL f mt me ρ r S2 with
            | none => simp
            | some z =>
              obtain ⟨ys, S3⟩ := z
              refine propext ⟨?_, ?_⟩
              · rintro ⟨ys', S', e, q⟩
                cases e
                exact ⟨_, _, rfl, q⟩
              · rintro ⟨ys', S', e, q⟩
                cases e
                exact ⟨_, _, rfl, q⟩
          | _ => simp [Res.DoesE]
        | false => simp [does_ok, blQ_bl]
      | _ => simp [does_ok, BlQ]
    | _ => simp [Res.DoesE]
@[simp] theorem does_yes {Q : D → Sto → Prop} : (mYes ρ S).DoesE E Q = Q (.bl true) S := rfl
@[simp] theorem does_lc {mi : MA} {f : D → Rho → Option Rho} {mt me : ME} {vs : List Nat} {Q : List D → Sto → Prop} : (mLc mi f mt me vs ρ S).DoesE E Q = (mi ρ S).DoesE E fun ds S1 => LcQ f mt me (wipeD ρ vs) ds S1 Q := by
  unfold mLc
  rw [does_bind]
  congr 1
  funext ds S1
  unfold LcQ
  cases e : lcL f mt me (wipeD ρ vs) ds S1 with
  | none => simp [Res.DoesE]
  | some r =>
    obtain ⟨ys, S2⟩ := r
    refine propext ⟨fun q => ⟨ys, S2, rfl, q⟩, ?_⟩
    rintro ⟨ys', S2', e', q⟩
    cases e'
    exact q
/-- a comprehension without a test whose element changes no cell -/
theorem lcQ_map {f : D → Rho → Option Rho} {me : ME} {ds : List D} {Q : List D → Sto → Prop} (g : D → D) (h : ∀ d, d ∈ ds → ∃ ρ1, f d ρ = some ρ1 ∧ ∀ Q : D → Sto → Prop, Q (g d) S → (me ρ1 S).Does Q) (q : Q (ds.map g) S) : LcQ f mYes me ρ ds S Q := by
  induction ds generalizing Q with
  | nil => rw [lcQ_nil]; exact q
  | cons d r ih =>
    obtain ⟨ρ1, e, k⟩ := h d List.mem_cons_self
    rw [lcQ_cons, e]
    simp only [does_yes, blQ_bl, if_true]
    exact k _ (ih (fun d hd => h d (List.mem_cons_of_mem _ hd)) q)
@[simp] theorem does_slT {a : ME} {lo hi : MO} : (mSlT a lo hi ρ S).DoesE E Q = (a ρ S).DoesE E fun x S1 => (lo ρ S1).DoesE E fun l S2 => (hi ρ S2).DoesE E fun h S3 => match x with
    | .tup ds => Q (.tup (cutD ds l h)) S3
    | _ => False := by
  unfold mSlT
  rw [does_bind]; congr 1; funext x S1
  rw [does_bind]; congr 1; funext l S2
  rw [does_bind]; congr 1; funext h S3
  cases x <;> rfl
@[simp] theorem does_slL {a : ME} {lo hi : MO} {Q : List D → Sto → Prop} : (mSlL a lo hi ρ S).DoesE E Q = (a ρ S).DoesE E fun x S1 => (lo ρ S1).DoesE E fun l S2 => (hi ρ S2).DoesE E fun h S3 => match lstOf S3 x with
    | some ds => Q (cutD ds l h) S3
    | none => False := by
  unfold mSlL
  rw [does_bind]; congr 1; funext x S1
  rw [does_bind]; congr 1; funext l S2
  rw [does_bind]; congr 1; funext h S3
  cases lstOf S3 x <;> rfl
@[simp] theorem does_part {m : ME} {Q : Option Int → Sto → Prop} : (mPart m ρ S).DoesE E Q = (m ρ S).DoesE E fun x S1 => match x with
    | .int i => Q (some i) S1
    | _ => False := by
  unfold mPart
  rw [does_bind]; congr 1; funext x S1
  cases x <;> rfl
@[simp] theorem does_noPart {Q : Option Int → Sto → Prop} : (mNoPart ρ S).DoesE E Q = Q none S := rfl
@[simp] theorem does_back {m : ME} : (mBack m ρ S).DoesE E Q = (m ρ S).DoesE E fun x S1 => match x with
    | .tup ds => Q (.tup ds.reverse) S1
    | _ => False := by
  unfold mBack
  rw [does_bind]; congr 1; funext x S1
  cases x <;> rfl
@[simp] theorem does_catL {a b : MA} {Q : List D → Sto → Prop} : (mCatL a b ρ S).DoesE E Q = (a ρ S).DoesE E fun xs S1 => (b ρ S1).DoesE E fun ys S2 => xs.length + ys.length ≤ 16777216 ∧ Q (xs ++ ys) S2 := by
  unfold mCatL
  rw [does_bind]; congr 1; funext xs S1
  rw [does_bind]; congr 1; funext ys S2
  by_cases h : xs.length + ys.length ≤ 16777216
  · rw [if_pos h]; simp [h]
  · rw [if_neg h]; simp [h, Res.DoesE]
@[simp] theorem does_app {o m : ME} : (mApp o m ρ S).DoesE EO N R B C = (o ρ S).DoesE (eAt EO ρ) fun x S1 => match x with
    | .cell n => ∃ ds0, S1[n]? = some (.lst ds0) ∧ (m ρ S1).DoesE (eAt EO ρ) fun d S2 => ∃ ds, S2[n]? = some (.lst ds) ∧ ds.length < 16777216 ∧ N ρ (S2.set n (.lst (ds ++ [d])))
    | _ => False := by
  unfold mApp
  rw [does_ofRes]; congr 1; funext x S1
  cases x with
  | cell n =>
    simp only
    cases e : S1[n]? with
    | none => simp [Out.DoesE]
    | some c =>
      cases c with
      | lst ds0 =>
        simp only [does_ofRes]
        refine propext ⟨fun q => ⟨ds0, rfl, q.mono fun d S2 z => ?_⟩, ?_⟩
        · revert z
          cases e2 : S2[n]? with
          | none => exact fun z => z.elim
          | some c2 =>
            cases c2 with
            | lst ds =>
              intro z
              by_cases l : ds.length < 16777216
              · simp only [if_pos l] at z
                exact ⟨ds, rfl, l, z⟩
              · simp only [if_neg l] at z
                exact z.elim
            | _ => exact fun z => z.elim
        · rintro ⟨ds', e', q⟩
          refine q.mono fun d S2 z => ?_
          obtain ⟨ds, e2, l, z⟩ := z
          simp only [e2, if_pos l]
          exact z
      | _ => simp [Out.DoesE]
  | _ => rfl
@[simp] theorem does_setIx {m o i : ME} : (mSetIx m o i ρ S).DoesE EO N R B C = (m ρ S).DoesE (eAt EO ρ) fun d S1 => (o ρ S1).DoesE (eAt EO ρ) fun x S2 => (i ρ S2).DoesE (eAt EO ρ) fun y S3 => match x, y with
    | .cell n, .int j => ∃ ds k, S3[n]? = some (.lst ds) ∧ ixN ds.length j = some k ∧ N ρ (S3.set n (.lst (ds.set k d)))
    | _, _ => False := by
  unfold mSetIx
  rw [does_ofRes]; congr 1; funext d S1
  rw [does_ofRes]; congr 1; funext x S2
  rw [does_ofRes]; congr 1; funext y S3
  cases x with
  | cell n =>
    cases y with
    | int j =>
      simp only
      cases e : S3[n]? with
      | none => simp [Out.DoesE]
      | some c =>
        cases c with
        | lst ds =>
          simp only
          cases e2 : ixN ds.length j with
          | none => simp [Out.DoesE, e2]
          | some k => simp [e2]
        | _ => simp [Out.DoesE]
    | _ => rfl
  | _ => rfl
@[simp] theorem does_aug {i : Nat} {f : Int → Int → Int} {m : ME} : (mAug i f m ρ S).DoesE EO N R B C = match ρ[i]? with
    | some (some (.int a)) => (m ρ S).DoesE (eAt EO ρ) fun d S1 => match d with
      | .int b => N (ρ.set i (some (.int (f a b)))) S1
      | _ => False
    | _ => False := by
  unfold mAug
  cases ρ[i]? with
  | none => rfl
  | some o =>
    cases o with
    | none => rfl
    | some d =>
      cases d with
      | int a =>
        simp only
        rw [does_ofRes]; congr 1; funext d S1
        cases d <;> rfl
      | _ => rfl
@[simp] theorem does_repL {a : MA} {b : ME} {Q : List D → Sto → Prop} : (mRepL a b ρ S).DoesE E Q = (a ρ S).DoesE E fun xs S1 => (b ρ S1).DoesE E fun y S2 => match y with
    | .int k => (k < 1000000 ∧ xs.length * k.toNat ≤ 16777216 ∧ -1000000 < k) ∧ Q (List.replicate k.toNat xs).flatten S2
    | _ => False := by
  unfold mRepL
  rw [does_bind]; congr 1; funext xs S1
  rw [does_bind]; congr 1; funext y S2
  cases y with
  | int k =>
    simp only
    by_cases h : k < 1000000 ∧ xs.length * k.toNat ≤ 16777216 ∧ -1000000 < k
    · rw [if_pos h]; simp [h]
    · rw [if_neg h]; simp [h, Res.DoesE]
  | _ => rfl
@[simp] theorem does_catC {a : ME} {b : MA} {Q : List D → Sto → Prop} : (mCatC a b ρ S).DoesE E Q = (a ρ S).DoesE E fun x S1 => (b ρ S1).DoesE E fun ys S2 => match x with
    | .cell n => ∃ xs, S2[n]? = some (.lst xs) ∧ xs.length + ys.length ≤ 16777216 ∧ Q (xs ++ ys) S2
    | _ => False := by
  unfold mCatC
  rw [does_bind]; congr 1; funext x S1
  rw [does_bind]; congr 1; funext ys S2
  cases x with
  | cell n =>
    simp only
    cases e : S2[n]? with
    | none => simp [Res.DoesE]
    | some c =>
      cases c with
      | lst xs =>
        simp only
        by_cases h : xs.length + ys.length ≤ 16777216
        · rw [if_pos h]; simp [h]
        · rw [if_neg h]; simp [h, Res.DoesE]
      | _ => simp [Res.DoesE]
  | _ => rfl
@[simp] theorem does_catV {a : ME} {b : MA} {Q : List D → Sto → Prop} : (mCatV a b ρ S).DoesE E Q = (a ρ S).DoesE E fun x S1 => (b ρ S1).DoesE E fun ys S2 => match lstOf S2 x with
    | some xs => xs.length + ys.length ≤ 16777216 ∧ Q (xs ++ ys) S2
    | none => False := by
  unfold mCatV
  rw [does_bind]; congr 1; funext x S1
  rw [does_bind]; congr 1; funext ys S2
  cases e : lstOf S2 x with
  | none => simp [Res.DoesE]
  | some xs =>
    simp only
    by_cases h : xs.length + ys.length ≤ 16777216
    · rw [if_pos h]; simp [h]
    · rw [if_neg h]; simp [h, Res.DoesE]
end
end Dm
-- text DmAny
namespace Dm
open PySem L2 PySem.Spec PyProof.Rows
open PySem.W (Frag)
/-! ### over what stands in a tuple, a list, a cell, as it stands at each turn -/
def ItA (F : Fx) (μ : List Addr) (H : Hp) (J : It) (p : D × Nat) : Prop := p.2 ≤ 16777216 ∧
  ∀ (F' : Fx) (μ' : List Addr) (H' : Hp) (S' : Sto) (i : Nat), Ext F F' H → Up μ H μ' H' → RS F' μ' H' S' → ∀ ds, seqOf S' p.1 = some ds →
    (∀ x, ds[i]? = some x → J.go i H' ∧ ∀ v H'', J.yld i H' v H'' → H'' = H' ∧ RD F' μ' H' v x) ∧ (i = ds.length → J.stop i H')
/-- the word: the thing and its length at the beginning -/
abbrev MP := Rho → Sto → Res (D × Nat)
def iAny (m : ME) : MP := fun ρ S => (m ρ S).bind fun d S1 => match seqOf S1 d with
  | some ds => .ok (d, ds.length) S1
  | none => .bad
structure DIA (X : Cx) (W : WX) (tg iter : Expr) (m : MP) : Prop where
  ex : ∃ wi, PI X tg iter wi ∧ ∀ ξ μ σ H ρ S R, RG (fx X ξ) μ H σ ρ → RS (fx X ξ) μ H S → WR (fx X ξ) (fun μ H (J : It) (p : D × Nat) => ItA (fx X ξ) μ H J p) (m ρ S) R (fun cls dd H' => W cls dd σ H') μ H → wi σ H R
section
variable {X : Cx} {W : WX} {tg e a b c : Expr} {es : List Expr} {st : Stmt} {sts ts : List Stmt} {ma mb mc m : ME} {mr : MA} {m1 m2 : MS} {pos p p1 p2 p3 : Pos}
theorem itA_tup {F : Fx} {μ : List Addr} {H : Hp} {a : Addr} {xs : List V} {ds : List D} (f : FzT F μ H a xs) (r : RDs F μ H xs ds) (z : Sized F.K H) : ItA F μ H (Itt F.K a) (.tup ds, ds.length) := by
  obtain ⟨h1, h2⟩ := itt_ok f r z
  refine ⟨h1, fun F' μ' H' S' i e u s es h => ?_⟩
  cases h
  refine ⟨fun x hx => ?_, fun hi => (h2 F' μ' H' S' i e u s (by omega)).2 hi⟩
  have hl := (List.getElem?_eq_some_iff.mp hx).1
  obtain ⟨k1, k2⟩ := (h2 F' μ' H' S' i e u s (by omega)).1 x hx
  refine ⟨k1, fun v H'' y => ?_⟩
  obtain ⟨e1, _⟩ := id y
  obtain ⟨_, _, k3⟩ := k2 v H'' y
  subst e1
  exact ⟨rfl, k3⟩
theorem itA_lst {F : Fx} {μ : List Addr} {H : Hp} {v : V} {d : D} {ds : List D} {S : Sto} {a : Addr} (ev : v = .ref a) (s : RS F μ H S) (r : RD F μ H v d) (e : lstOf S d = some ds) (z : Sized F.K H) : ItA F μ H (Itl F.K a) (d, ds.length) := by
  obtain ⟨a', xs, e1, h1, h2⟩ := RD.lstS s r e
  rw [ev] at e1; cases e1
  refine ⟨by rw [← h2.length]; exact z _ _ (.inl h1), fun F' μ' H' S' i ex u s' es h => ?_⟩
  have r' : RD F' μ' H' v d := r.mv (.ext ex u)
  have eL : lstOf S' d = some es := by
    cases d with
    | tup _ => exact nomatch e
    | lst _ => exact h
    | cell n => exact h
    | _ => exact nomatch e
  obtain ⟨a2, ys, e2, h3, h4⟩ := RD.lstS s' r' eL
  rw [ev] at e2; cases e2
  rw [ex.k] at h3
  refine ⟨fun x hx => ?_, fun hi => ⟨ys, h3, by rw [h4.length, hi]; exact Nat.le_refl _⟩⟩
  obtain ⟨w, h5, h6⟩ := h4.get hx
  refine ⟨⟨ys, w, h3, h5⟩, fun v' H'' y => ?_⟩
  obtain ⟨e3, y⟩ := y
  have q := y ys h3
  rw [h5] at q; cases q
  exact ⟨e3, h6⟩
theorem dia_any (h : DE X W e m) : DIA X W tg e (iAny m) := by
  obtain ⟨te, pe, k⟩ := h
  refine ⟨_, piOr (piSized (pi_tup pe)) (piSized (pi_list pe)), fun ξ μ σ H ρ S R g s h => ?_⟩
  cases e1 : m ρ S with
  | bad => unfold iAny at h; rw [e1] at h; exact h.elim
  | exc c fs S1 =>
    unfold iAny at h; rw [e1] at h
    refine .inl (k ξ μ σ H ρ S _ g s ?_)
    rw [e1]; exact h
  | ok d S1 =>
    unfold iAny at h
    rw [e1] at h
    have h : WR (fx X ξ) (fun μ H (J : It) (p : D × Nat) => ItA (fx X ξ) μ H J p) (match seqOf S1 d with | some ds => .ok (d, ds.length) S1 | none => .bad) R (fun cls dd H' => W cls dd σ H') μ H := h
    by_cases c : ∃ ds, d = .tup ds
    · obtain ⟨ds, rfl⟩ := c
      refine .inl (k ξ μ σ H ρ S _ g s ?_)
      rw [e1]
      intro v μ1 H1 u1 s1 r1
      cases r1 with
      | @tup a xs _ f r => exact ⟨a, rfl, ⟨xs, f.sq⟩, fun z => h _ μ1 H1 u1 s1 (itA_tup f r z)⟩
    · cases q : seqOf S1 d with
      | none => rw [q] at h; exact h.elim
      | some ds =>
        rw [q] at h
        refine .inr (k ξ μ σ H ρ S _ g s ?_)
        rw [e1]
        have eL : lstOf S1 d = some ds := by
          cases d with
          | tup es => exact absurd ⟨es, rfl⟩ c
          | lst _ => exact q
          | cell n => exact q
          | _ => exact nomatch q
        intro v μ1 H1 u1 s1 r1
        obtain ⟨a, xs, rfl, h3, h4⟩ := RD.lstS s1 r1 eL
        exact ⟨a, rfl, ⟨xs, h3⟩, fun z => h _ μ1 H1 u1 s1 (itA_lst rfl s1 r1 eL z)⟩
def forA (d : D) (f : D → Rho → Option Rho) (mb : MS) : Nat → Nat → Rho → Sto → Out
  | 0, _, _, _ => .bad
  | k + 1, i, ρ, S => match seqOf S d with
    | some ds => match ds[i]? with
      | none => if i = ds.length then .nx ρ S else .bad
      | some x => match f x ρ with
        | none => .bad
        | some ρ1 => match mb ρ1 S with
          | .nx ρ2 S2 => forA d f mb k (i + 1) ρ2 S2
          | .ct ρ2 S2 => forA d f mb k (i + 1) ρ2 S2
          | .bk ρ2 S2 => .nx ρ2 S2
          | .rt d S2 => .rt d S2
          | .exc c fs ρ2 S2 => .exc c fs ρ2 S2
          | .bad => .bad
    | none => .bad
def mForA (m : ME) (f : D → Rho → Option Rho) (mb : MS) : MS := fun ρ S => ofRes (iAny m ρ S) ρ fun p S1 => forA p.1 f mb (p.2 + 1) 0 ρ S1
theorem ds_forA {f : D → Rho → Option Rho} {is : List Nat} {mb : MS} (hp : PassesOwn (model X.prog X.w) X.A X.env X.xe) (hc : X.calm = true) (hi : DE X W e m) (hg : DG X tg f is) (hb : DSs X W sts mb)
    (hs : ∀ x, foldedSetIterable e X.env x = pure x := by intro _; rfl) : DS X W (.For tg e sts [] pos) (mForA m f mb) := by
  obtain ⟨wi, pi, ki⟩ := dia_any (tg := tg) hi
  obtain ⟨tg', pg, kg⟩ := hg
  obtain ⟨tb, pb, kb⟩ := hb
  refine ⟨_, ps_for hp hc pi pg pb hs, fun ξ μ σ H ρ S D g s h => ki ξ μ σ H ρ S _ g s (WS'.bind g h fun p S1 J μ1 H1 u1 s1 r1 h1 => ?_)⟩
  obtain ⟨d, n0⟩ := p
  refine ⟨fun i k σ' H' => ∃ μ' ρ' S', Up μ1 H1 μ' H' ∧ RS (fx X ξ) μ' H' S' ∧ RG (fx X ξ) μ' H' σ' ρ' ∧ WS' (fx X ξ) (forA d f mb k i ρ' S') D W μ' H',
    ⟨_, μ1, ρ, S1, .refl, s1, g.up u1, h1⟩, ?_⟩
  rintro i k σ' H' ⟨μ', ρ', S', u', s', g', w⟩
  cases k with
  | zero => exact w.elim
  | succ k =>
    unfold forA at w
    cases q' : seqOf S' d with
    | none => rw [q'] at w; exact w.elim
    | some es =>
      rw [q'] at w
      simp only at w
      obtain ⟨t1, t2⟩ := r1.2 (fx X ξ) μ' H' S' i .refl u' s' es q'
      cases q2 : es[i]? with
      | none =>
        rw [q2] at w
        simp only at w
        by_cases hi : i = es.length
        · rw [if_pos hi] at w
          exact .inl ⟨t2 hi, w σ' μ' H' .refl s' g'⟩
        · rw [if_neg hi] at w; exact w.elim
      | some x =>
        rw [q2] at w
        simp only at w
        obtain ⟨go, yl⟩ := t1 x q2
        cases ef : f x ρ' with
        | none => rw [ef] at w; exact w.elim
        | some ρ1 =>
          rw [ef] at w
          simp only at w
          refine .inr ⟨go, fun σ2 H2 => ∃ μ' ρ' S', Up μ1 H1 μ' H2 ∧ RS (fx X ξ) μ' H2 S' ∧ RG (fx X ξ) μ' H2 σ2 ρ' ∧ WS' (fx X ξ) (forA d f mb k (i + 1) ρ' S') D W μ' H2,
            fun σ2 H2 z => ⟨k, Nat.lt_succ_self k, z⟩, fun v H2 y => ?_⟩
          obtain ⟨y1, y2⟩ := yl v H2 y
          subst y1
          refine kg ξ μ' σ' _ ρ' v x ρ1 _ g' y2 ef fun σ2 g2 _ => ?_
          refine kb ξ μ' σ2 _ ρ1 S' _ g2 s' ?_
          cases eb : mb ρ1 S' with
          | nx ρ2 S2 =>
            rw [eb] at w
            exact fun σ3 μ3 H3 u3 s3 g3 => ⟨μ3, ρ2, S2, u'.trans u3, s3, g3, w.shift u3⟩
          | ct ρ2 S2 =>
            rw [eb] at w
            exact fun σ3 μ3 H3 u3 s3 g3 => ⟨μ3, ρ2, S2, u'.trans u3, s3, g3, w.shift u3⟩
          | bk ρ2 S2 => rw [eb] at w; exact w
          | rt d S2 => rw [eb] at w; exact w
          | exc c fs ρ2 S2 => rw [eb] at w; exact w
          | bad => rw [eb] at w; exact w
/-! ### comprehensions -/
def lcA (d : D) (f : D → Rho → Option Rho) (mt me : ME) (ρ : Rho) : Nat → Nat → Sto → Option (List D × Sto)
  | 0, _, _ => none
  | k + 1, i, S => match seqOf S d with
    | none => none
    | some ds => match ds[i]? with
      | none => if i = ds.length then some ([], S) else none
      | some x => match f x ρ with
        | none => none
        | some ρ1 => match mt ρ1 S with
          | .ok (.bl true) S1 => match me ρ1 S1 with
            | .ok y S2 => match lcA d f mt me ρ k (i + 1) S2 with
              | some (ys, S3) => some (y :: ys, S3)
              | none => none
            | _ => none
          | .ok (.bl false) S1 => lcA d f mt me ρ k (i + 1) S1
          | _ => none
def mLcA (m : ME) (f : D → Rho → Option Rho) (mt me : ME) (vs : List Nat) : MA := fun ρ S => (iAny m ρ S).bind fun p S1 => match lcA p.1 f mt me (wipeD ρ vs) (p.2 + 1) 0 S1 with
  | some (ys, S2) => .ok ys S2
  | none => .bad
theorem lcA_pos {d : D} {f : D → Rho → Option Rho} {mt me : ME} {ρ : Rho} {k i : Nat} {S : Sto} {r : List D × Sto} (h : lcA d f mt me ρ k i S = some r) : 0 < k := by
  cases k with
  | zero => exact nomatch h
  | succ k => exact Nat.succ_pos k
/-- the reading of a comprehension -/
theorem lcA_read {wi : TI} {tg' : TG} {tt : TT} {te : TE} {f : D → Rho → Option Rho} {is vs : List Nat} {ξ μ : List Addr} {σ : L2.St} {H : Hp} {ρ : Rho} {S : Sto} {Q : VK} {Wx : Value → Option Addr → Hp → Prop} {m mt me : ME}
    (ki : ∀ R, WR (fx X ξ) (fun μ H (J : It) (p : D × Nat) => ItA (fx X ξ) μ H J p) (iAny m ρ S) R Wx μ H → wi σ H R)
    (kg : ∀ ξ μ σ H ρ v d ρ' (Q : L2.St → Hp → Prop), RG (fx X ξ) μ H σ ρ → RD (fx X ξ) μ H v d → f d ρ = some ρ' → (∀ σ', RG (fx X ξ) μ H σ' ρ' → (∀ js : List Nat, (∀ i ∈ is, i ∈ js) → wipe σ' js = wipe σ js) → Q σ' H) → tg' v σ H Q)
    (kt : ∀ ξ μ σ H ρ S Q, RG (fx X ξ) μ H σ ρ → RS (fx X ξ) μ H S → WT' (fx X ξ) (mt ρ S) Q (fun cls dd H' => W0 cls dd σ H') μ H → tt σ H Q)
    (ke : ∀ ξ μ σ H ρ S Q, RG (fx X ξ) μ H σ ρ → RS (fx X ξ) μ H S → WE' (fx X ξ) (me ρ S) Q (fun cls dd H' => W0 cls dd σ H') μ H → te σ H Q)
    (hv : ∀ i ∈ is, i ∈ vs) (g : RG (fx X ξ) μ H σ ρ) (s : RS (fx X ξ) μ H S) (h : WL' (fx X ξ) (mLcA m f mt me vs ρ S) Q Wx μ H) : tLc wi tg' tt te vs σ H Q := by
  refine ki _ (WL'.bind h fun p S1 J μ1 H1 u1 s1 r1 h1 => ?_)
  obtain ⟨d, n0⟩ := p
  intro D hD
  obtain ⟨hz, r1⟩ := r1
  have hz : n0 ≤ 16777216 := hz
  have n1 : D ∉ μ1 := s1.out hD
  have x1 : D ∉ ξ := s1.outX hD
  have ext : Ext (fx X ξ) ((fx X ξ).hold D) H1 := ⟨rfl, rfl, fun a ha => (List.mem_cons.mp ha).elim (fun z => .inr (by rw [z]; exact hD)) .inl⟩
  have main : WL' (fx X ξ) (match lcA d f mt me (wipeD ρ vs) (n0 + 1) 0 S1 with
    | some (ys, S2) => Res.ok ys S2
    | none => .bad) Q Wx μ1 H1 := h1
  refine ⟨fun i k H' => ∃ μ' S' acc dacc, Up μ1 H1 μ' H' ∧ RS ((fx X ξ).hold D) μ' H' S' ∧ H' D = some (.lst acc) ∧ RDs ((fx X ξ).hold D) μ' H' acc dacc ∧ acc.length ≤ i ∧ i + k = n0 + 1 ∧
      ∃ ys S2, lcA d f mt me (wipeD ρ vs) k i S' = some (ys, S2) ∧ ∀ μ2 H2 xs, Up μ1 H1 μ2 H2 → RS ((fx X ξ).hold D) μ2 H2 S2 → RDs ((fx X ξ).hold D) μ2 H2 xs (dacc ++ ys) → H2 D = some (.lst xs) → Q (.ref D) H2,
    ⟨_, μ1, S1, [], [], .fresh hD, s1.holds hD, upd_same, .nil, Nat.le_refl _, Nat.zero_add _, ?_⟩, ?_⟩
  · cases q : lcA d f mt me (wipeD ρ vs) (n0 + 1) 0 S1 with
    | none => rw [q] at main; exact main.elim
    | some r =>
      obtain ⟨ys, S2⟩ := r
      rw [q] at main
      exact ⟨ys, S2, rfl, fun μ2 H2 xs u2 s2 r2 e2 => main D xs μ2 H2 u2 hD s2 r2 e2⟩
  rintro i k H' ⟨μ', S', acc, dacc, u', s', hacc, racc, hla, hi, ys, S2, eL, fin⟩
  cases k with
  | zero => exact nomatch eL
  | succ k =>
    unfold lcA at eL
    cases q' : seqOf S' d with
    | none => rw [q'] at eL; exact nomatch eL
    | some es =>
      rw [q'] at eL
      simp only at eL
      obtain ⟨t1, t2⟩ := r1 ((fx X ξ).hold D) μ' H' S' i ext u' s' es q'
      cases q2 : es[i]? with
      | none =>
        rw [q2] at eL
        simp only at eL
        by_cases e : i = es.length
        · rw [if_pos e] at eL
          cases eL
          exact .inl ⟨t2 e, fin μ' H' acc u' s' (by rw [List.append_nil]; exact racc) hacc⟩
        · rw [if_neg e] at eL; exact nomatch eL
      | some x0 =>
        rw [q2] at eL
        simp only at eL
        obtain ⟨go, yl⟩ := t1 x0 q2
        cases ef : f x0 (wipeD ρ vs) with
        | none => rw [ef] at eL; exact nomatch eL
        | some ρ1 =>
          rw [ef] at eL
          simp only at eL
          refine .inr ⟨go, fun H2 => ∃ μ' S' acc dacc, Up μ1 H1 μ' H2 ∧ RS ((fx X ξ).hold D) μ' H2 S' ∧ H2 D = some (.lst acc) ∧ RDs ((fx X ξ).hold D) μ' H2 acc dacc ∧ acc.length ≤ i + 1 ∧ (i + 1) + k = n0 + 1 ∧
              ∃ ys S2, lcA d f mt me (wipeD ρ vs) k (i + 1) S' = some (ys, S2) ∧ ∀ μ2 H2 xs, Up μ1 H1 μ2 H2 → RS ((fx X ξ).hold D) μ2 H2 S2 → RDs ((fx X ξ).hold D) μ2 H2 xs (dacc ++ ys) → H2 D = some (.lst xs) → Q (.ref D) H2,
            fun H2 z => ⟨k, Nat.lt_succ_self k, z⟩, fun x H2 y => ?_⟩
          obtain ⟨eH, r2⟩ := yl x H2 y
          subst eH
          have g2 : RG (fx X (D :: ξ)) μ' H2 (wipe σ vs) (wipeD ρ vs) := (((g.up u1).mv (.ext ext u'))).wipe vs
          refine kg (D :: ξ) μ' (wipe σ vs) H2 (wipeD ρ vs) x _ ρ1 _ g2 r2 ef fun σ3 g3 w3 => ?_
          have nD : D ∉ μ' := (s'.xi D List.mem_cons_self).1
          have ww : wipe (wipe σ vs) vs = wipe σ vs := by
            refine List.ext_getElem? fun k => ?_
            rw [wipe_get, wipe_get, wipe_length]
            by_cases q : k ∈ vs ∧ k < σ.length
            · rw [if_pos q, if_pos q]
            · rw [if_neg q, if_neg q]
          refine ⟨by rw [w3 vs hv, ww], ?_⟩
          refine kt (D :: ξ) μ' σ3 H2 ρ1 S' _ g3 s' ?_
          cases et : mt ρ1 S' with
          | bad => rw [et] at eL; exact nomatch eL
          | exc c fs S3 => rw [et] at eL; exact nomatch eL
          | ok dd S3 =>
            rw [et] at eL
            cases dd with
            | bl b =>
              intro μ3 H3 u3 s3
              have eD3 : H3 D = some (.lst acc) := u3.keep _ _ hacc nD
              cases b with
              | false =>
                exact ⟨μ3, S3, acc, dacc, u'.trans u3, s3, eD3, racc.up u3, Nat.le_succ_of_le hla, by omega, ys, S2, eL, fin⟩
              | true =>
                simp only at eL
                refine ke (D :: ξ) μ3 σ3 H3 ρ1 S3 _ (g3.up u3) s3 ?_
                cases ee : me ρ1 S3 with
                | bad => rw [ee] at eL; exact nomatch eL
                | exc c fs S4 => rw [ee] at eL; exact nomatch eL
                | ok y S4 =>
                  rw [ee] at eL
                  intro v μ4 H4 u4 s4 r4
                  simp only at eL
                  cases er : lcA d f mt me (wipeD ρ vs) k (i + 1) S4 with
                  | none => rw [er] at eL; exact nomatch eL
                  | some q =>
                    obtain ⟨zs, S5⟩ := q
                    have kp := lcA_pos er
                    rw [er] at eL
                    cases eL
                    have nD3 : D ∉ μ3 := (s3.xi D List.mem_cons_self).1
                    have eD4 : H4 D = some (.lst acc) := u4.keep _ _ eD3 nD3
                    refine ⟨acc, eD4, by rw [sizeLine_eq]; omega, μ4, S4, acc ++ [v], dacc ++ [y], ?_, RS.wr (F := fx X ξ) (p := D) s4, upd_same, RDs.mv (Mv.wr (F := fx X ξ) (p := D)) _ (RDs.append (F := (fx X ξ).hold D) ((racc.up u3).up u4) (.cons r4 .nil)), by rw [List.length_append, List.length_singleton]; omega, by omega, zs, S2, er, fun μ5 H5 xs u5 s5 r5 e5 => fin μ5 H5 xs u5 s5 (by rw [List.append_assoc] at r5; exact r5) e5⟩
                    have U := u'.trans (u3.trans u4)
                    exact ⟨U.pre, U.new, fun a o ha na => by
                      rw [upd_ne (ne_of_none ha hD)]
                      exact U.keep a o ha na⟩
            | _ => exact nomatch eL
theorem dl_lcA {elt : Expr} {ifs : List Expr} {scope : Scope} {own : List (Str × Nat)} {f : D → Rho → Option Rho} {is : List Nat} {mt me : ME} (hc : X.calm = true) (hN : X.N.Nodup) (hi : DE X W e m) (ok : BlkOk X.N X.env.scope scope own)
    (hg : ∀ (s : Shared) (H : Hp) (C : Addr) (cl : List (Str × Addr)) (fp : List Addr), DG (X.blk s H scope (compEnvC scope cl C X.env) fp) tg f is)
    (ht : ∀ (s : Shared) (H : Hp) (C : Addr) (cl : List (Str × Addr)) (fp : List Addr), DTs (X.blk s H scope (compEnvC scope cl C X.env) fp) W0 ifs mt)
    (he : ∀ (s : Shared) (H : Hp) (C : Addr) (cl : List (Str × Addr)) (fp : List Addr), DE (X.blk s H scope (compEnvC scope cl C X.env) fp) W0 elt me)
    (hv : ∀ i ∈ is, i ∈ own.map (·.2) := by decide) (hs : ∀ x, foldedSetIterable e X.env x = pure x := by intro _; rfl) : DL X W (.ListComp elt [⟨tg, e, ifs, 0⟩] scope pos) (mLcA m f mt me (own.map (·.2))) := by
  obtain ⟨wi, pi, ki⟩ := dia_any (tg := tg) hi
  obtain ⟨tg', pg, kg⟩ := dg_all (Xf := blkOf X scope) (K := X.K) (mg := X.mg) (fun _ => rfl) (fun _ => rfl) fun i => hg i.1 i.2.1 i.2.2.1 i.2.2.2.1 i.2.2.2.2
  obtain ⟨tt, pt, kt⟩ := dts_all (Xf := blkOf X scope) (K := X.K) (mg := X.mg) (fun _ => rfl) (fun _ => rfl) fun i => ht i.1 i.2.1 i.2.2.1 i.2.2.2.1 i.2.2.2.2
  obtain ⟨te, pe, ke⟩ := de_all (Xf := blkOf X scope) (K := X.K) (mg := X.mg) (fun _ => rfl) (fun _ => rfl) fun i => he i.1 i.2.1 i.2.2.1 i.2.2.2.1 i.2.2.2.2
  refine ⟨_, pe_lc hc hN pi ok (fun s H C cl fp => pg (s, H, C, cl, fp)) (fun s H C cl fp => pt (s, H, C, cl, fp)) (fun s H C cl fp => pe (s, H, C, cl, fp)) hs, fun ξ μ σ H ρ S Q g s h => ?_⟩
  exact lcA_read (fun R => ki ξ μ σ H ρ S R g s) kg kt ke hv g s h
theorem ds_setLcA (i : Nat) {y : Str} {py spos : Pos} {elt : Expr} {ifs : List Expr} {scope : Scope} {own : List (Str × Nat)} {f : D → Rho → Option Rho} {is : List Nat} {mt me : ME} {mw : MA → ME} (hw : ∀ {te : TE} {mr : MA}, RdL X W te mr → RdE X W te (mw mr)) (hc : X.calm = true) (hN : X.N.Nodup) (hi : DE X W e m) (ok : BlkOk X.N X.env.scope scope own)
    (hg : ∀ (s : Shared) (H : Hp) (C : Addr) (cl : List (Str × Addr)) (fp : List Addr), DG (X.blk s H scope (compEnvC scope cl C X.env) fp) tg f is)
    (ht : ∀ (s : Shared) (H : Hp) (C : Addr) (cl : List (Str × Addr)) (fp : List Addr), DTs (X.blk s H scope (compEnvC scope cl C X.env) fp) W0 ifs mt)
    (he : ∀ (s : Shared) (H : Hp) (C : Addr) (cl : List (Str × Addr)) (fp : List Addr), DE (X.blk s H scope (compEnvC scope cl C X.env) fp) W0 elt me)
    (hv : ∀ i ∈ is, i ∈ own.map (·.2) := by decide) (hy : X.N[i]? = some y := by rfl) (hyl : X.env.scope.names.lookup y = some .local := by rfl)
    (hsw : swapsWith (.ListComp elt [⟨tg, e, ifs, 0⟩] scope pos) (some (.Name y py)) spos.line X.env = pure true := by rfl) (hs : ∀ x, foldedSetIterable e X.env x = pure x := by intro _; rfl) :
    DS X W (.Assign [.Name y py] (.ListComp elt [⟨tg, e, ifs, 0⟩] scope pos) spos) (mAsg i (mw (mLcA m f mt me (own.map (·.2))))) := by
  obtain ⟨wi, pi, ki⟩ := dia_any (tg := tg) hi
  obtain ⟨tg', pg, kg⟩ := dg_all (Xf := blkOf X scope) (K := X.K) (mg := X.mg) (fun _ => rfl) (fun _ => rfl) fun i => hg i.1 i.2.1 i.2.2.1 i.2.2.2.1 i.2.2.2.2
  obtain ⟨tt, pt, kt⟩ := dts_all (Xf := blkOf X scope) (K := X.K) (mg := X.mg) (fun _ => rfl) (fun _ => rfl) fun i => ht i.1 i.2.1 i.2.2.1 i.2.2.2.1 i.2.2.2.2
  obtain ⟨te, pe, ke⟩ := de_all (Xf := blkOf X scope) (K := X.K) (mg := X.mg) (fun _ => rfl) (fun _ => rfl) fun i => he i.1 i.2.1 i.2.2.1 i.2.2.2.1 i.2.2.2.2
  have rd : RdL X W (tLc wi tg' tt te (own.map (·.2))) (mLcA m f mt me (own.map (·.2))) := fun ξ μ σ H ρ S Q g s h => lcA_read (fun R => ki ξ μ σ H ρ S R g s) kg kt ke hv g s h
  refine ⟨_, ps_setLc (i := i) hc hN hy hyl hsw pi ok (fun s H C cl fp => pg (s, H, C, cl, fp)) (fun s H C cl fp => pt (s, H, C, cl, fp)) (fun s H C cl fp => pe (s, H, C, cl, fp)) hs, fun ξ μ σ H ρ S D g s h => ?_⟩
  exact hw rd ξ μ σ H ρ S _ g s (WS'.bind g h fun x S1 v μ1 H1 u1 s1 r1 h1 => h1 _ μ1 H1 .refl s1 ((g.up u1).set i r1))
end
/-! ### what they do -/
section
variable {S : Sto} {ρ : Rho} {N B C : Rho → Sto → Prop} {R : D → Sto → Prop} {f : D → Rho → Option Rho} {mt me : ME} {mb : MS} {E : EX} {EO : EXO}
theorem seqOf_fix {d : D} {ds : List D} (h : d = .tup ds ∨ d = .lst ds) (S : Sto) : seqOf S d = some ds := by
  rcases h with rfl | rfl <;> rfl
theorem forA_fix {d : D} {ds : List D} (h : d = .tup ds ∨ d = .lst ds) : ∀ (r pre : List D) (ρ : Rho) (S : Sto), ds = pre ++ r → forA d f mb (r.length + 1) pre.length ρ S = forL f mb r ρ S
  | [], pre, ρ, S, e => by
    unfold forA
    rw [seqOf_fix h]
    have e1 : ds[pre.length]? = none := by rw [e, List.append_nil]; exact List.getElem?_eq_none (Nat.le_refl _)
    simp only [e1]
    rw [if_pos (by rw [e, List.append_nil])] <;> rfl
  | x :: r, pre, ρ, S, e => by
    unfold forA
    rw [seqOf_fix h]
    have e1 : ds[pre.length]? = some x := by rw [e, List.getElem?_append_right (Nat.le_refl _), Nat.sub_self] <;> rfl
    simp only [e1]
    rw [forL]
    cases f x ρ with
    | none => rfl
    | some ρ1 =>
      simp only
      have q : ∀ ρ2 S2, forA d f mb (x :: r).length (pre.length + 1) ρ2 S2 = forL f mb r ρ2 S2 := fun ρ2 S2 => by
        have q := forA_fix h r (pre ++ [x]) ρ2 S2 (by rw [e, List.append_assoc] <;> rfl)
        rw [List.length_append, List.length_singleton] at q
        exact q
      cases mb ρ1 S <;> first | rfl | exact q _ _
def forAS (d : D) (f : D → Rho → Option Rho) (mb : MS) (ρ : Rho) (S : Sto) : Out := match seqOf S d with
  | some ds => forA d f mb (ds.length + 1) 0 ρ S
  | none => .bad
@[simp] theorem does_forA {m : ME} : (mForA m f mb ρ S).DoesE EO N R B C = (m ρ S).DoesE (eAt EO ρ) fun d S1 => (forAS d f mb ρ S1).DoesE EO N R B C := by
  unfold mForA
  rw [does_ofRes]
  unfold iAny
  rw [does_bind]
  congr 1
  funext d S1
  unfold forAS
  cases seqOf S1 d <;> rfl
@[simp] theorem forAS_tup {ds : List D} : forAS (.tup ds) f mb ρ S = forL f mb ds ρ S := forA_fix (.inl rfl) ds [] ρ S rfl
@[simp] theorem forAS_lst {ds : List D} : forAS (.lst ds) f mb ρ S = forL f mb ds ρ S := forA_fix (.inr rfl) ds [] ρ S rfl
/-- a comprehension over a cell that stays: an invariant of the stores; the items kept -/
def LcAQ (d : D) (f : D → Rho → Option Rho) (mt me : ME) (ρ : Rho) (n : Nat) (S : Sto) (Q : List D → Sto → Prop) : Prop := ∃ ys S', lcA d f mt me ρ (n + 1) 0 S = some (ys, S') ∧ Q ys S'
@[simp] theorem does_lcA {m : ME} {vs : List Nat} {Q : List D → Sto → Prop} : (mLcA m f mt me vs ρ S).DoesE E Q = (m ρ S).DoesE E fun d S1 => match seqOf S1 d with
    | some ds => LcAQ d f mt me (wipeD ρ vs) ds.length S1 Q
    | none => False := by
  unfold mLcA iAny
  rw [does_bind, does_bind]
  congr 1
  funext d S1
  cases seqOf S1 d with
  | none => rfl
  | some ds =>
    simp only [does_ok]
    unfold LcAQ
    cases e : lcA d f mt me (wipeD ρ vs) (ds.length + 1) 0 S1 with
    | none => simp [Res.DoesE]
    | some r =>
      obtain ⟨ys, S2⟩ := r
      refine propext ⟨fun q => ⟨ys, S2, rfl, q⟩, ?_⟩
      rintro ⟨ys', S2', e', q⟩
      cases e'
      exact q
theorem lcA_fix {d : D} {ds : List D} (h : d = .tup ds ∨ d = .lst ds) : ∀ (r pre : List D) (S : Sto), ds = pre ++ r → lcA d f mt me ρ (r.length + 1) pre.length S = lcL f mt me ρ r S
  | [], pre, S, e => by
    unfold lcA
    rw [seqOf_fix h]
    have e1 : ds[pre.length]? = none := by rw [e, List.append_nil]; exact List.getElem?_eq_none (Nat.le_refl _)
    simp only [e1]
    rw [if_pos (by rw [e, List.append_nil])] <;> rfl
  | x :: r, pre, S, e => by
    unfold lcA
    rw [seqOf_fix h]
    have e1 : ds[pre.length]? = some x := by rw [e, List.getElem?_append_right (Nat.le_refl _), Nat.sub_self] <;> rfl
    simp only [e1]
    rw [lcL]
    have q : ∀ S2, lcA d f mt me ρ (x :: r).length (pre.length + 1) S2 = lcL f mt me ρ r S2 := fun S2 => by
      have q := lcA_fix h r (pre ++ [x]) S2 (by rw [e, List.append_assoc] <;> rfl)
      rw [List.length_append, List.length_singleton] at q
      exact q
    cases f x ρ with
    | none => rfl
    | some ρ1 =>
      simp only
      cases mt ρ1 S with
      | ok d1 S1 =>
        cases d1 with
        | bl b =>
          cases b with
          | true =>
            simp only
            cases me ρ1 S1 with
            | ok y S2 =>
              simp only
              rw [q] <;> (cases lcL f mt me ρ r S2 <;> rfl)
            | _ => rfl
          | false => exact q S1
        | _ => rfl
      | _ => rfl
theorem lcAQ_fix {d : D} {ds : List D} {Q : List D → Sto → Prop} {n : Nat} (h : d = .tup ds ∨ d = .lst ds) (hn : n = ds.length) : LcAQ d f mt me ρ n S Q = LcQ f mt me ρ ds S Q := by
  subst hn
  unfold LcAQ LcQ
  have := lcA_fix (f := f) (mt := mt) (me := me) (ρ := ρ) h ds [] S rfl
  rw [show (([] : List D).length) = 0 from rfl] at this
  rw [this]
@[simp] theorem lcAQ_tup {ds : List D} {Q : List D → Sto → Prop} : LcAQ (.tup ds) f mt me ρ ds.length S Q = LcQ f mt me ρ ds S Q := lcAQ_fix (.inl rfl) rfl
@[simp] theorem lcAQ_lst {ds : List D} {Q : List D → Sto → Prop} : LcAQ (.lst ds) f mt me ρ ds.length S Q = LcQ f mt me ρ ds S Q := lcAQ_fix (.inr rfl) rfl
end
@[simp] theorem lcAQ_fixT {ds : List D} {f : D → Rho → Option Rho} {mt me : ME} {ρ : Rho} {n : Nat} {S : Sto} {Q : List D → Sto → Prop} {α : Type} {g : α → D} {as : List α} : LcAQ (.tup (as.map g)) f mt me ρ as.length S Q = LcQ f mt me ρ (as.map g) S Q := lcAQ_fix (.inl rfl) (by rw [List.length_map])
@[simp] theorem lcAQ_fixL {ds : List D} {f : D → Rho → Option Rho} {mt me : ME} {ρ : Rho} {n : Nat} {S : Sto} {Q : List D → Sto → Prop} {α : Type} {g : α → D} {as : List α} : LcAQ (.lst (as.map g)) f mt me ρ as.length S Q = LcQ f mt me ρ (as.map g) S Q := lcAQ_fix (.inr rfl) (by rw [List.length_map])
end Dm
-- text Hw2
namespace Dm
open PySem L2
end Dm
-- text DmSimp
namespace Dm
open PySem L2
section
variable {S : Sto} {k : D → Prop} {i j : Int} {ds es : List D} {n : Nat} {a b : Bool} {x y : Str}
@[simp] theorem optQ_none : OptQ none k = False := rfl
@[simp] theorem optQ_ite {c : Prop} [Decidable c] {d : D} : OptQ (if c then some d else none) k = (c ∧ k d) := by
  by_cases h : c
  · rw [if_pos h]; simp [h]
  · rw [if_neg h]; simp [h]
@[simp] theorem optQ_map {α : Type} {o : Option α} {f : α → D} : OptQ (o.map f) k = (match o with
    | some z => k (f z)
    | none => False) := by cases o <;> rfl
@[simp] theorem gI_int {f : Int → Int → D} : gI f S (.int i) (.int j) = some (f i j) := rfl
@[simp] theorem gIC_int {C : Int → Int → Prop} [∀ i j, Decidable (C i j)] {f : Int → Int → D} : gIC C f S (.int i) (.int j) = if C i j then some (f i j) else none := rfl
@[simp] theorem gAdd_int : gAdd S (.int i) (.int j) = some (.int (i + j)) := rfl
@[simp] theorem gAdd_tup : gAdd S (.tup ds) (.tup es) = if ds.length + es.length ≤ 16777216 then some (.tup (ds ++ es)) else none := rfl
@[simp] theorem gNeg_int : gNeg S (.int i) = some (.int (-i)) := rfl
@[simp] theorem gLen_tup : gLen S [.tup ds] = some (.int ds.length) := rfl
@[simp] theorem gLen_lst : gLen S [.lst ds] = some (.int ds.length) := rfl
theorem lstOf_cell (h : S[n]? = some (.lst ds)) : lstOf S (.cell n) = some ds := by simp only [lstOf, h]
theorem gLen_cell (h : S[n]? = some (.lst ds)) : gLen S [.cell n] = some (.int ds.length) := by
  show (lstOf S (.cell n)).map _ = _
  rw [lstOf_cell h] <;> rfl
@[simp] theorem gInt1_int : gInt1 S [.int i] = some (.int i) := rfl
@[simp] theorem gInt1_bl : gInt1 S [.bl b] = some (.int (if b then 1 else 0)) := rfl
@[simp] theorem gII_int {f : Int → Int → Int} : gII f S [.int i, .int j] = some (.int (f i j)) := rfl
@[simp] theorem gTuple_tup : gTuple S [.tup ds] = some (.tup ds) := rfl
@[simp] theorem gTuple_lst : gTuple S [.lst ds] = some (.tup ds) := rfl
theorem gTuple_cell (h : S[n]? = some (.lst ds)) : gTuple S [.cell n] = some (.tup ds) := by
  show (lstOf S (.cell n)).map _ = _
  rw [lstOf_cell h] <;> rfl
@[simp] theorem gIx_tup : gIx S (.tup ds) (.int i) = atI ds i := rfl
@[simp] theorem gIx_lst : gIx S (.lst ds) (.int i) = atI ds i := rfl
theorem gIx_cell (h : S[n]? = some (.lst ds)) : gIx S (.cell n) (.int i) = atI ds i := by
  show (lstOf S (.cell n)).bind _ = _
  rw [lstOf_cell h] <;> rfl
@[simp] theorem gEq_int : gEq S (.int i) (.int j) = some (.bl (i == j)) := rfl
@[simp] theorem gNe_int : gNe S (.int i) (.int j) = some (.bl (!(i == j))) := rfl
@[simp] theorem gEq_str : gEq S (.str x) (.str y) = some (.bl (x == y)) := rfl
@[simp] theorem gNe_str : gNe S (.str x) (.str y) = some (.bl (!(x == y))) := rfl
theorem shaped_bool (b : Bool) : SeqAt.shaped (.bool b) = true := by cases b <;> decide
@[simp] theorem gEq_bl : gEq S (.bl a) (.bl b) = some (.bl (a == b)) := by
  show (if SeqAt.shaped (.bool a) = true ∧ SeqAt.shaped (.bool b) = true then some (PyData.eqv (.bool a) (.bool b)) else none).map D.bl = _
  rw [if_pos ⟨shaped_bool a, shaped_bool b⟩]
  simp [PyData.eqv]
@[simp] theorem gNe_bl : gNe S (.bl a) (.bl b) = some (.bl (!(a == b))) := by
  show (if SeqAt.shaped (.bool a) = true ∧ SeqAt.shaped (.bool b) = true then some (PyData.eqv (.bool a) (.bool b)) else none).map (fun b => D.bl (!b)) = _
  rw [if_pos ⟨shaped_bool a, shaped_bool b⟩]
  simp [PyData.eqv]
@[simp] theorem gIsN_non {neg : Bool} {d : D} : gIsN neg S d .non = some (.bl (if neg then !isNon d else isNon d)) := rfl
@[simp] theorem isNon_non : isNon .non = true := rfl
@[simp] theorem isNon_bl : isNon (.bl b) = false := rfl
@[simp] theorem isNon_int : isNon (.int i) = false := rfl
@[simp] theorem isNon_str : isNon (.str x) = false := rfl
@[simp] theorem isNon_tup : isNon (.tup ds) = false := rfl
@[simp] theorem isNon_lst : isNon (.lst ds) = false := rfl
@[simp] theorem isNon_cell : isNon (.cell n) = false := rfl
@[simp] theorem tyOf_non : tyOf S .non = some .non := rfl
@[simp] theorem tyOf_bl : tyOf S (.bl b) = some .bl := rfl
@[simp] theorem tyOf_int : tyOf S (.int i) = some .int := rfl
@[simp] theorem tyOf_str : tyOf S (.str x) = some .str := rfl
@[simp] theorem tyOf_tup : tyOf S (.tup ds) = some .tup := rfl
@[simp] theorem tyOf_lst : tyOf S (.lst ds) = some .lst := rfl
theorem tyOf_cell (h : S[n]? = some (.lst ds)) : tyOf S (.cell n) = some .lst := by simp only [tyOf, h]
@[simp] theorem seqOf_tup : seqOf S (.tup ds) = some ds := rfl
@[simp] theorem seqOf_lst : seqOf S (.lst ds) = some ds := rfl
@[simp] theorem lstOf_lst : lstOf S (.lst ds) = some ds := rfl
@[simp] theorem flatD_int : flatD (.int i) = true := rfl
@[simp] theorem eqF_int : eqF (.int i) (.int j) = (i == j) := rfl
@[simp] theorem tgN_eq {ρ : Rho} {d : D} {i : Nat} : tgN i d ρ = some (ρ.set i (some d)) := rfl
@[simp] theorem tgT_eq {ρ : Rho} {m : Nat} {f : List D → Rho → Option Rho} : tgT m f (.tup ds) ρ = if ds.length = m then f ds ρ else none := rfl
@[simp] theorem tgCons_eq {ρ : Rho} {d : D} {f : D → Rho → Option Rho} {g : List D → Rho → Option Rho} : tgCons f g (d :: ds) ρ = (f d ρ).bind fun ρ1 => g ds ρ1 := rfl
@[simp] theorem tgNil_eq {ρ : Rho} : tgNil [] ρ = some ρ := rfl
@[simp] theorem atI_zero {α : Type} {x : α} {xs : List α} : atI (x :: xs) 0 = some x := by simp [atI, ixN]
@[simp] theorem atI_one {α : Type} {x y : α} {xs : List α} : atI (x :: y :: xs) 1 = some y := by
  have h : (1 : Int) < ((xs.length + 1 + 1 : Nat) : Int) := by omega
  simp only [atI, ixN, List.length_cons, if_pos (show (0 : Int) ≤ 1 by decide), if_pos h] <;> rfl
@[simp] theorem atI_two {α : Type} {x y z : α} {xs : List α} : atI (x :: y :: z :: xs) 2 = some z := by
  have h : (2 : Int) < ((xs.length + 1 + 1 + 1 : Nat) : Int) := by omega
  simp only [atI, ixN, List.length_cons, if_pos (show (0 : Int) ≤ 2 by decide), if_pos h] <;> rfl
theorem atI_of {α : Type} {xs : List α} {i : Int} (h0 : 0 ≤ i) (h : i < xs.length) : atI xs i = xs[i.toNat]? := by
  simp [atI, ixN, h0, h]
theorem cdivw {i j : Int} (h0 : 0 < j) (h : j < 18446744073709551616) : CDivW i j := by
  refine ⟨h0, ?_⟩
  have h1 : j.natAbs < 2 ^ 64 := by omega
  have h2 : j.natAbs.log2 < 64 := (Nat.log2_lt (by omega)).mpr h1
  omega
theorem log2_le {a : Nat} {n : Nat} (h : a < 2 ^ n) : a.log2 ≤ n := by
  by_cases h0 : a = 0
  · subst h0
    rw [Nat.log2_zero]; exact Nat.zero_le _
  · exact Nat.le_of_lt ((Nat.log2_lt h0).mpr h)
theorem cmulw {i j : Int} (n m : Nat) (h : i.natAbs < 2 ^ n) (h' : j.natAbs < 2 ^ m) (hs : n + m < 1000000) : CMulW i j := by
  have h1 := log2_le h
  have h2 := log2_le h'
  show i.natAbs.log2 + j.natAbs.log2 < 1000000
  omega
end
end Dm
-- text DmDict
namespace Dm
open PySem L2 PySem.Spec PyProof.Rows
open PySem.W (Frag)
/-! ### dicts whose keys are ints and texts -/
def keyD : D → Option Key
  | .int i => some (.inl i)
  | .str x => some (.inr x)
  | _ => none
def valD (kvs : List (Key × D)) (k : Key) : Option D := (kvs.find? fun kv => decide (kv.1 = k)).map (·.2)
def putD (kvs : List (Key × D)) (k : Key) (v : D) : List (Key × D) :=
  if (kvs.any fun kv => decide (kv.1 = k)) = true then kvs.map (fun kv => if kv.1 = k then (kv.1, v) else kv) else kvs ++ [(k, v)]
def mergeD (kvs more : List (Key × D)) : List (Key × D) := more.foldl (fun acc kv => putD acc kv.1 kv.2) kvs
def dicOf (S : Sto) : D → Option (List (Key × D))
  | .cell n => match S[n]? with
    | some (.dic kvs) => some kvs
    | _ => none
  | _ => none
section
variable {X : Cx} {W : WX} {tg e a b c o i : Expr} {es : List Expr} {mo mi ma mb mc m : ME} {mr : MA} {pos p p1 p2 p3 : Pos}
/-- d[k] -/
def gDIx : Sto → D → D → Option D := fun S x y => (dicOf S x).bind fun kvs => (keyD y).bind fun k => valD kvs k
/-- {} -/
def mDNew : ME := fun _ S => .ok (.cell S.length) (S ++ [.dic []])
/-- {k: v, ..} -/
abbrev MPs := Rho → Sto → Res (List (D × D))
def mPNil : MPs := fun _ S => .ok [] S
def mPCons (k v : ME) (r : MPs) : MPs := fun ρ S => (k ρ S).bind fun x S1 => (v ρ S1).bind fun y S2 => (r ρ S2).bind fun xs S3 => .ok ((x, y) :: xs) S3
def keysD : List (D × D) → Option (List (Key × D))
  | [] => some []
  | (k, v) :: r => (keyD k).bind fun k => (keysD r).map ((k, v) :: ·)
def mDisp (m : MPs) : ME := fun ρ S => (m ρ S).bind fun ds S1 => match keysD ds with
  | some kvs => if kvs.length ≤ 15 then .ok (.cell S1.length) (S1 ++ [.dic (mergeD [] kvs)]) else .bad
  | none => .bad
/-- d[k] = v -/
def mSetDx (m o i : ME) : MS := fun ρ S => ofRes (m ρ S) ρ fun d S1 => ofRes (o ρ S1) ρ fun x S2 => ofRes (i ρ S2) ρ fun y S3 => match x with
  | .cell n => match S3[n]?, keyD y with
    | some (.dic kvs), some k => if kvs.length < 16777216 then .nx ρ (S3.set n (.dic (putD kvs k d))) else .bad
    | _, _ => .bad
  | _ => .bad
end
/-! ### dict comprehensions -/
/-! ### what they do -/
section
variable {S : Sto} {ρ : Rho} {Q : D → Sto → Prop} {N B C : Rho → Sto → Prop} {R : D → Sto → Prop} {E : EX} {EO : EXO}
@[simp] theorem keyD_int {i : Int} : keyD (.int i) = some (.inl i) := rfl
@[simp] theorem keyD_str {x : Str} : keyD (.str x) = some (.inr x) := rfl
@[simp] theorem does_dnew : (mDNew ρ S).DoesE E Q = Q (.cell S.length) (S ++ [.dic []]) := rfl
@[simp] theorem does_pnil {Q : List (D × D) → Sto → Prop} : (mPNil ρ S).DoesE E Q = Q [] S := rfl
@[simp] theorem does_pcons {k v : ME} {r : MPs} {Q : List (D × D) → Sto → Prop} : (mPCons k v r ρ S).DoesE E Q = (k ρ S).DoesE E fun x S1 => (v ρ S1).DoesE E fun y S2 => (r ρ S2).DoesE E fun xs S3 => Q ((x, y) :: xs) S3 := by
  unfold mPCons
  rw [does_bind]; congr 1; funext x S1
  rw [does_bind]; congr 1; funext y S2
  rw [does_bind] <;> rfl
@[simp] theorem does_disp {m : MPs} : (mDisp m ρ S).DoesE E Q = (m ρ S).DoesE E fun ds S1 => match keysD ds with
    | some kvs => kvs.length ≤ 15 ∧ Q (.cell S1.length) (S1 ++ [.dic (mergeD [] kvs)])
    | none => False := by
  unfold mDisp
  rw [does_bind]; congr 1; funext ds S1
  cases keysD ds with
  | none => rfl
  | some kvs =>
    simp only
    by_cases h : kvs.length ≤ 15
    · rw [if_pos h]; simp [h]
    · rw [if_neg h]; simp [h, Res.DoesE]
@[simp] theorem does_setDx {m o i : ME} : (mSetDx m o i ρ S).DoesE EO N R B C = (m ρ S).DoesE (eAt EO ρ) fun d S1 => (o ρ S1).DoesE (eAt EO ρ) fun x S2 => (i ρ S2).DoesE (eAt EO ρ) fun y S3 => match x with
    | .cell n => match S3[n]?, keyD y with
      | some (.dic kvs), some k => kvs.length < 16777216 ∧ N ρ (S3.set n (.dic (putD kvs k d)))
      | _, _ => False
    | _ => False := by
  unfold mSetDx
  rw [does_ofRes]; congr 1; funext d S1
  rw [does_ofRes]; congr 1; funext x S2
  rw [does_ofRes]; congr 1; funext y S3
  cases x with
  | cell n =>
    simp only
    cases S3[n]? with
    | none => rfl
    | some c =>
      cases c with
      | dic kvs =>
        cases keyD y with
        | none => rfl
        | some k =>
          simp only
          by_cases h : kvs.length < 16777216
          · rw [if_pos h]; simp [h]
          · rw [if_neg h]; simp [h, Out.DoesE]
      | _ => rfl
  | _ => rfl
theorem dicOf_cell {n : Nat} {kvs : List (Key × D)} (h : S[n]? = some (.dic kvs)) : dicOf S (.cell n) = some kvs := by
  show (match S[n]? with | some (Cell.dic kvs) => some kvs | _ => none) = _
  rw [h]
theorem gDIx_cell {n : Nat} {kvs : List (Key × D)} {y : D} (h : S[n]? = some (.dic kvs)) : gDIx S (.cell n) y = (keyD y).bind fun k => valD kvs k := by
  unfold gDIx
  rw [dicOf_cell h] <;> rfl
end
end Dm
-- text DmKw
namespace Dm
open PySem L2 PySem.Spec PyProof.Rows
open PySem.W (Frag)
/-! ### constant data -/
mutual
inductive KD (K : Frag) : V → D → Prop
  | non : KD K .non .non
  | bl (b : Bool) : KD K (.bl b) (.bl b)
  | int (i : Int) : KD K (.int i) (.int i)
  | str (x : Str) : KD K (.str x) (.str x)
  | tup {a : Addr} {xs : List V} {ds : List D} : KT K a xs → KDs K xs ds → KD K (.ref a) (.tup ds)
inductive KDs (K : Frag) : List V → List D → Prop
  | nil : KDs K [] []
  | cons {v : V} {vs : List V} {d : D} {ds : List D} : KD K v d → KDs K vs ds → KDs K (v :: vs) (d :: ds)
end
/-! ### defs with defaults -/
def mCallD (f : List D → Sto → Res D) (n q : Nat) (perm : List Nat) (dd : List D) (a k : MA) : ME := fun ρ S => (a ρ S).bind fun xs S1 => (k ρ S1).bind fun zs S2 => if xs.length = n ∧ zs.length = q then f (perm.filterMap ((xs ++ zs ++ dd)[·]?)) S2 else .bad
section
variable {S : Sto} {ρ : Rho} {Q : D → Sto → Prop} {E : EX} {EO : EXO}
@[simp] theorem does_callD {f : List D → Sto → Res D} {n q : Nat} {p : List Nat} {dd : List D} {a k : MA} : (mCallD f n q p dd a k ρ S).DoesE E Q = (a ρ S).DoesE E fun xs S1 => (k ρ S1).DoesE E fun zs S2 => (xs.length = n ∧ zs.length = q) ∧ (f (p.filterMap ((xs ++ zs ++ dd)[·]?)) S2).DoesE E Q := by
  unfold mCallD
  rw [does_bind]
  congr 1
  funext xs S1
  rw [does_bind]
  congr 1
  funext zs S2
  by_cases h : xs.length = n ∧ zs.length = q
  · rw [if_pos h]; simp [h]
  · rw [if_neg h]; simp [h, Res.DoesE]
end
end Dm
-- text DmSetD
namespace L2
open PySem PySem.Spec PyProof.Rows
end L2
namespace Dm
open PySem L2 PySem.Spec PyProof.Rows
end Dm
-- text Hw3
namespace Dm
open PySem L2
end Dm
-- text DmMisc
namespace Dm
open PySem L2
open PySem.W (Frag)
section
variable {X : Cx} {W : WX} {tg e a b c : Expr} {es : List Expr} {ma mb mc m : ME} {mr : MA} {pos p p1 p2 p3 : Pos}
/-! ### x, y = a, b -/
def mPar (i j : Nat) (a : MA) : MS := fun ρ S => ofRes (a ρ S) ρ fun ds S1 => match ds with
  | [d, d'] => .nx ((ρ.set i (some d)).set j (some d')) S1
  | _ => .bad
/-! ### x, y = a tuple, a list that stands still -/
def tgU (n : Nat) (f : List D → Rho → Option Rho) : D → Rho → Option Rho := fun d ρ => match d with
  | .tup ds => if ds.length = n then f ds ρ else none
  | .lst ds => if ds.length = n then f ds ρ else none
  | _ => none
theorem pgOr {X : Cx} {tg : Expr} {g g' : TG} (h : PG X tg g) (h' : PG X tg g') : PG X tg (fun v σ H Q => g v σ H Q ∨ g' v σ H Q) := ⟨fun pins s σ H v u Q I r hw => hw.elim (h.run pins s σ H v u Q I r) (h'.run pins s σ H v u Q I r)⟩
theorem dg_any {k n : Nat} {f : List D → Rho → Option Rho} {is : List Nat} {tp : Pos} (hc : X.calm = true) (h : DGs X es f is) (hn : (assignEach es X.env).length = n := by rfl) (hst : (assignEach es X.env).findIdx? (·.1) = none := by rfl) : DG X (.Tuple es k tp) (tgU n f) is := by
  obtain ⟨t, p, k⟩ := h
  refine ⟨_, pgOr (pg_tup hc p hn hst) (pg_lst hc p hn hst), fun ξ μ σ H ρ v d ρ' Q g r e kk => ?_⟩
  cases r with
  | @tup a xs ds fz r =>
    unfold tgU at e
    by_cases c : ds.length = n
    · simp only [if_pos c] at e
      exact .inl ⟨a, xs, rfl, fz.sq, by rw [r.length]; exact c, k ξ μ σ H ρ xs ds ρ' Q g r e kk⟩
    · simp only [if_neg c] at e
      exact nomatch e
  | @lst a xs ds fz r =>
    unfold tgU at e
    by_cases c : ds.length = n
    · simp only [if_pos c] at e
      exact .inr ⟨a, xs, rfl, fz.sq, by rw [r.length]; exact c, k ξ μ σ H ρ xs ds ρ' Q g r e kk⟩
    · simp only [if_neg c] at e
      exact nomatch e
  | _ => exact nomatch e
/-! ### sum, max, min of a list of ints -/
/-! ### a kept list some times -/
def mRepC (a b : ME) : MA := fun ρ S => (a ρ S).bind fun x S1 => (b ρ S1).bind fun y S2 => match x, y with
  | .cell n, .int k => match S2[n]? with
    | some (.lst xs) => if k < 1000000 ∧ xs.length * k.toNat ≤ 16777216 ∧ -1000000 < k then .ok (List.replicate k.toNat xs).flatten S2 else .bad
    | _ => .bad
  | _, _ => .bad
/-! ### list(range(a, b)) -/
noncomputable def mLstRg (a : MA) : MA := fun ρ S => (a ρ S).bind fun ds S1 => match ds with
  | [.int i, .int j] => @ite _ (-1000000000000000000 ≤ i ∧ i ≤ 1000000000000000000 ∧ -1000000000000000000 ≤ j ∧ j ≤ 1000000000000000000 ∧ j - i ≤ 16777216) (Classical.propDecidable _) (.ok (rngD i (j - i).toNat) S1) .bad
  | _ => .bad
end
/-! ### what they do -/
section
variable {S : Sto} {ρ : Rho} {N B C : Rho → Sto → Prop} {R : D → Sto → Prop} {E : EX} {EO : EXO}
@[simp] theorem does_par {i j : Nat} {a : MA} : (mPar i j a ρ S).DoesE EO N R B C = (a ρ S).DoesE (eAt EO ρ) fun ds S1 => match ds with
    | [d, d'] => N ((ρ.set i (some d)).set j (some d')) S1
    | _ => False := by
  unfold mPar
  rw [does_ofRes]; congr 1; funext ds S1
  match ds with
  | [] => rfl
  | [_] => rfl
  | [_, _] => rfl
  | _ :: _ :: _ :: _ => rfl
@[simp] theorem tgU_tup {m : Nat} {f : List D → Rho → Option Rho} {ds : List D} : tgU m f (.tup ds) ρ = if ds.length = m then f ds ρ else none := rfl
@[simp] theorem tgU_lst {m : Nat} {f : List D → Rho → Option Rho} {ds : List D} : tgU m f (.lst ds) ρ = if ds.length = m then f ds ρ else none := rfl
@[simp] theorem does_repC {a b : ME} {Q : List D → Sto → Prop} : (mRepC a b ρ S).DoesE E Q = (a ρ S).DoesE E fun x S1 => (b ρ S1).DoesE E fun y S2 => match x, y with
    | .cell n, .int k => ∃ xs, S2[n]? = some (.lst xs) ∧ (k < 1000000 ∧ xs.length * k.toNat ≤ 16777216 ∧ -1000000 < k) ∧ Q (List.replicate k.toNat xs).flatten S2
    | _, _ => False := by
  unfold mRepC
  rw [does_bind]; congr 1; funext x S1
  rw [does_bind]; congr 1; funext y S2
  cases x with
  | cell n =>
    cases y with
    | int k =>
      simp only
      cases e : S2[n]? with
      | none => simp [Res.DoesE]
      | some c =>
        cases c with
        | lst xs =>
          simp only
          by_cases h : k < 1000000 ∧ xs.length * k.toNat ≤ 16777216 ∧ -1000000 < k
          · rw [if_pos h]; simp [h]
          · rw [if_neg h]; simp [h, Res.DoesE]
        | _ => simp [Res.DoesE]
    | _ => rfl
  | _ => cases y <;> rfl
@[simp] theorem does_lstRg {a : MA} {Q : List D → Sto → Prop} : (mLstRg a ρ S).DoesE E Q = (a ρ S).DoesE E fun ds S1 => match ds with
    | [.int i, .int j] => (-1000000000000000000 ≤ i ∧ i ≤ 1000000000000000000 ∧ -1000000000000000000 ≤ j ∧ j ≤ 1000000000000000000 ∧ j - i ≤ 16777216) ∧ Q (rngD i (j - i).toNat) S1
    | _ => False := by
  unfold mLstRg
  rw [does_bind]; congr 1; funext ds S1
  match ds with
  | [] => rfl
  | [d] => cases d <;> rfl
  | [d, d'] =>
    cases d with
    | int i =>
      cases d' with
      | int j =>
        simp only
        by_cases h : -1000000000000000000 ≤ i ∧ i ≤ 1000000000000000000 ∧ -1000000000000000000 ≤ j ∧ j ≤ 1000000000000000000 ∧ j - i ≤ 16777216
        · rw [if_pos h]; simp [h]
        · rw [if_neg h]; simp [h, Res.DoesE]
      | _ => rfl
    | _ => cases d' <;> rfl
  | d :: d' :: _ :: _ => cases d <;> (try rfl) <;> cases d' <;> rfl
end
end Dm
-- text Hw4
namespace Dm
open PySem L2
end Dm
-- text DmBack
namespace Dm
open PySem L2
section
variable {X : Cx} {W : WX} {e : Expr} {m : ME} {te te' : TE} {k : Nat} {p1 p2 p3 pos : Pos}
/-- x[::-1], a tuple or a list -/
def mBackA (m : ME) : ME := fun ρ S => (m ρ S).bind fun x S1 => match x with
  | .tup ds => .ok (.tup ds.reverse) S1
  | x => match lstOf S1 x with
    | some ds => .ok (.lst ds.reverse) S1
    | none => .bad
end
section
variable {S : Sto} {ρ : Rho} {Q : D → Sto → Prop} {E : EX} {EO : EXO}
@[simp] theorem does_backA {m : ME} : (mBackA m ρ S).DoesE E Q = (m ρ S).DoesE E fun x S1 => match x with
    | .tup ds => Q (.tup ds.reverse) S1
    | x => match lstOf S1 x with
      | some ds => Q (.lst ds.reverse) S1
      | none => False := by
  unfold mBackA
  rw [does_bind]; congr 1; funext x S1
  cases x with
  | lst ds => rfl
  | cell n => 
    simp only
    cases lstOf S1 (.cell n) <;> rfl
  | _ => rfl
end
end Dm
-- text Hw5
namespace Dm
open PySem L2
end Dm
-- text DmSet
namespace Dm
open PySem L2 PySem.Spec PyProof.Rows
/-! ### set(xs), xs a list of ints, so that it can be sorted -/
section
variable {P : Program} {w : World} {A : Around} {E : Value → Shared → Prop} {s : Shared}
/-- an empty set as it is made -/
def bare (w : World) : Obj := { cls := .type "set", dict := none, data := .set #[] 0 (.fresh 0 0 (!w.params.followText "set-order")) }
def SetMade (w : World) (s : Shared) (ns : List Int) (s2 : Shared) : Prop := ∃ h' tk c, s2 = { s with heap := h', toks := tk } ∧ SetR w h' s.heap.objs.size (fun j => decide (j ∈ ns)) c ∧ c ≤ ns.length ∧ ∀ b o, s.heap.get? b = some o → h'.get? b = some o
theorem fill_set {l : Addr} {its : Array Value} {ns : List Int} (hh : A.handled = none) (hl : s.heap.IsList l its) (hi : IntsAre its.toList ns) (hb : ns.length + 1 < scanBound) :
    codeAny (model P w) A (.builtin "set.update.loop" ⟨[.ref s.heap.objs.size, .ref (s.heap.objs.size + 1)], []⟩) (wants (fun r s2 => r = .none ∧ SetMade w s ns s2) E)
      { s with heap := (s.heap.push (bare w)).push { cls := .type "list_iterator", data := .fields #[.ref l, .int 0 0] } } := by
  have sz : its.size = ns.length := by
    have q := IntsAre.length hi
    rwa [Array.length_toList] at q
  have z1 : (s.heap.push (bare w)).objs.size = s.heap.objs.size + 1 := Heap.size_push ..
  obtain ⟨o, ho, hc⟩ := id hl
  have lo : l < s.heap.objs.size := Heap.lt_size ho
  have l1 := hl.push (bare w)
  have at0 : ((s.heap.push (bare w)).push { cls := .type "list_iterator", data := .fields #[.ref l, .int 0 0] }).get? s.heap.objs.size = some (bare w) := Heap.get?_push_of_some _ (Heap.get?_push_size _ rfl)
  have at1 : ((s.heap.push (bare w)).push { cls := .type "list_iterator", data := .fields #[.ref l, .int 0 0] }).get? (s.heap.objs.size + 1) = some { cls := .type "list_iterator", data := .fields #[.ref l, .int 0 0] } := by
    rw [← z1]
    exact Heap.get?_push_size _ rfl
  have each : ∀ (i : Nat) (v : Value), its[i]? = some v → ∃ k t, ns[i]? = some k ∧ v = .int k t := fun i v hv => by
    have hlt : i < ns.length := by rw [← sz]; exact (Array.getElem?_eq_some_iff.mp hv).1
    obtain ⟨t, e⟩ := IntsAre.int_at hi i v (by rw [Array.getElem?_toList]; exact hv)
    exact ⟨ns[i], t, List.getElem?_eq_getElem hlt, by rw [e, List.getD_eq_getElem?_getD, List.getElem?_eq_getElem hlt] <;> rfl⟩
  have out : s.heap.objs.size ∉ [s.heap.objs.size + 1, l] := fun m => by
    rcases List.mem_cons.mp m with m | m
    · exact absurd m (Nat.ne_of_lt (Nat.lt_succ_self _))
    · exact absurd (List.mem_singleton.mp m) (Nat.ne_of_gt lo)
  refine set_update_ints ((Walks.list (A := A.in1) (by simp [hh]) (s.heap.objs.size + 1) l (Nat.ne_of_lt (Nat.lt_succ_of_lt lo)) its).toS) s.heap.objs.size out ns sz hb each its.size 0 _ (by omega) (Nat.zero_le _)
    ⟨⟨_, at1, rfl, rfl⟩, l1.push _⟩ ⟨0, Nat.le_refl _, setR_new_at at0⟩ fun s' c m hc' R => ?_
  obtain ⟨h', g, d, tk, o'⟩ := s'
  obtain rfl : g = s.gens := m.gens
  obtain rfl : d = s.drawn := m.drawn
  obtain rfl : o' = s.os := m.os
  refine ⟨rfl, h', tk, c, rfl, R, by rw [← sz]; exact hc', fun b ob e => ?_⟩
  have hlt : b < s.heap.objs.size := Heap.lt_size e
  refine m.heap b ob (fun q => ?_) (Heap.get?_push_of_some _ (Heap.get?_push_of_some _ e))
  rcases List.mem_cons.mp q with q | q
  · exact absurd q (Nat.ne_of_lt hlt)
  · exact absurd (List.mem_singleton.mp q) (Nat.ne_of_lt (Nat.lt_succ_of_lt hlt))
set_option maxHeartbeats 3200000 in
theorem call_set_lst {l : Addr} {its : Array Value} {ns : List Int} {Q : Value → Shared → Prop} (hh : A.handled = none) (hl : s.heap.IsList l its) (hi : IntsAre its.toList ns) (hb : ns.length + 1 < scanBound)
    (h : ∀ s2, SetMade w s ns s2 → Q (.ref s.heap.objs.size) s2) : wpAny (model P w) A (call (.type "set") [.ref l]) Q E s := by
  obtain ⟨c, tl, m1⟩ := F.called_set.mro
  have m2 := F.called_set.made
  have m3 := F.called_set.sub
  have m4 := F.called_set.notType
  have m5 := F.called_set.canCreate
  have m6 := F.typeCall_set_1 (.ref l)
  refine wpAny_call (codeAny_of_tree ?_)
  change wpAny _ _ (callAny (.type "set") _) _ _ _
  refine wpAny_pure ⟨Code.quiet_builtin _ (by decide +kernel), codeAny_builtin F.entry_type_call ?_⟩
  rw [Around.under_plain (weight_type_call_type "set" [.ref l] []) rfl]
  repeat (any_goals (first | assumption | wp_step))
  refine codeAny_mono (code_set_led1 (.ref l) (E := E) (Q₁ := fun o s1 => o = .ref s.heap.objs.size ∧ s1 = { s with heap := s.heap.push (bare w) }) ⟨rfl, rfl⟩) fun r s1 r1 => ?_
  cases r with
  | error e => exact r1
  | ok fl =>
    cases fl with
    | next => exact r1.elim
    | brk => exact r1.elim
    | cont => exact r1.elim
    | ret o =>
      obtain ⟨rfl, rfl⟩ := r1
      have n1 : (s.heap.push (bare w)).get? s.heap.objs.size = some (bare w) := Heap.get?_push_size _ rfl
      have n2 : Shared.TypeIs { s with heap := s.heap.push (bare w) } (.ref s.heap.objs.size) "set" := ⟨_, n1, rfl⟩
      have n3 := F.called_set.init.lookup
      have n4 := F.called_set.init.bind (.ref s.heap.objs.size)
      repeat (any_goals (first | assumption | wp_step))
      refine codeAny_mono (codeAny_call_builtin (R := wants (fun r s2 => r = .none ∧ SetMade w s ns s2) E) F.called_set.init.plain F.entry_set_init (check_set_init_1 n2 ?_)) fun r2 s2 q2 => ?_
      · obtain ⟨ol, hol, hcl, nl, hdl⟩ := id hl
        obtain ⟨ocls, odict, odata, oslots⟩ := ol
        simp only at hcl hdl
        subst hcl hdl
        have k1 : (s.heap.push (bare w)).get? l = some { cls := .type "list", dict := odict, data := .seq its nl, slots := oslots } := Heap.get?_push_of_some _ hol
        have k2 := F.sub_list_set
        have k3 := F.sub_list_frozenset
        have k4 : (Value.type "list" == Value.type "dict") = false := by decide
        unfold Builtin.«set.__init__» noKeywords Builtin.Frozenset.updateFrom
        generalize hPI : pyIter = PI
        wp_walk
        subst hPI
        refine wpAny_pyIter_list (hl.push _) ?_
        refine wpAny_bind (wpAny_runValue ?_)
        have z1 : (s.heap.push (bare w)).objs.size = s.heap.objs.size + 1 := Heap.size_push ..
        rw [z1]
        refine codeAny_mono (fill_set (P := P) (w := w) (E := E) (by simp [hh]) hl hi hb) fun r3 s3 q3 => ?_
        cases r3 with
        | error e => exact q3
        | ok f3 =>
          cases f3 with
          | next => exact q3.elim
          | brk => exact q3.elim
          | cont => exact q3.elim
          | ret o3 =>
            obtain ⟨rfl, q3⟩ := q3
            trace_state
            exact wpAny_pure (wpAny_pure ⟨rfl, q3⟩)
      · cases r2 with
        | error e => exact q2
        | ok f2 =>
          cases f2 with
          | next => exact q2.elim
          | brk => exact q2.elim
          | cont => exact q2.elim
          | ret o2 =>
            obtain ⟨rfl, q2⟩ := q2
            repeat (any_goals (first | assumption | wp_step))
            exact h _ q2
end
end Dm
-- text DmSet2
namespace Dm
open PySem L2 PySem.Spec PyProof.Rows
open PySem.W (Frag)
/-! ### the members of a list, ascending, each once -/
def insU (x : Int) : List Int → List Int
  | [] => [x]
  | y :: r => if x < y then x :: y :: r else if x = y then y :: r else y :: insU x r
def uniq : List Int → List Int
  | [] => []
  | x :: r => insU x (uniq r)
theorem insU_mem {x y : Int} : ∀ {l : List Int}, y ∈ insU x l ↔ y = x ∨ y ∈ l
  | [] => by simp [insU]
  | z :: r => by
    unfold insU
    split
    · simp
    · split
      · next h => subst h; simp
      · rw [List.mem_cons, insU_mem, List.mem_cons]
        constructor
        · rintro (h | h | h)
          · exact .inr (.inl h)
          · exact .inl h
          · exact .inr (.inr h)
        · rintro (h | h | h)
          · exact .inr (.inl h)
          · exact .inl h
          · exact .inr (.inr h)
theorem insU_asc {x : Int} : ∀ {l : List Int}, l.Pairwise (· < ·) → (insU x l).Pairwise (· < ·)
  | [], _ => by simp [insU]
  | z :: r, h => by
    obtain ⟨h1, h2⟩ := List.pairwise_cons.mp h
    unfold insU
    split
    · next c =>
      refine List.pairwise_cons.mpr ⟨fun y hy => ?_, h⟩
      rcases List.mem_cons.mp hy with rfl | hy
      · exact c
      · have := h1 y hy; omega
    · split
      · exact h
      · refine List.pairwise_cons.mpr ⟨fun y hy => ?_, insU_asc h2⟩
        rcases insU_mem.mp hy with rfl | hy
        · omega
        · exact h1 y hy
theorem uniq_mem {y : Int} : ∀ {l : List Int}, y ∈ uniq l ↔ y ∈ l
  | [] => Iff.rfl
  | x :: r => by rw [uniq, insU_mem, uniq_mem, List.mem_cons]
theorem uniq_asc : ∀ l : List Int, (uniq l).Pairwise (· < ·)
  | [] => .nil
  | x :: r => insU_asc (uniq_asc r)
theorem asc_same : ∀ {l l' : List Int}, l.Pairwise (· < ·) → l'.Pairwise (· < ·) → (∀ x, x ∈ l ↔ x ∈ l') → l = l'
  | [], [], _, _, _ => rfl
  | [], y :: r, _, _, h => nomatch (h y).mpr List.mem_cons_self
  | x :: r, [], _, _, h => nomatch (h x).mp List.mem_cons_self
  | x :: r, y :: r', h1, h2, h => by
    obtain ⟨a1, a2⟩ := List.pairwise_cons.mp h1
    obtain ⟨b1, b2⟩ := List.pairwise_cons.mp h2
    have e : x = y := by
      rcases List.mem_cons.mp ((h x).mp List.mem_cons_self) with e | e
      · exact e
      · rcases List.mem_cons.mp ((h y).mpr List.mem_cons_self) with e' | e'
        · exact e'.symm
        · have := b1 x e; have := a1 y e'; omega
    subst e
    rw [asc_same a2 b2 fun z => ?_]
    constructor
    · intro hz
      rcases List.mem_cons.mp ((h z).mp (List.mem_cons_of_mem _ hz)) with e | e
      · subst e; exact absurd (a1 z hz) (by omega)
      · exact e
    · intro hz
      rcases List.mem_cons.mp ((h z).mpr (List.mem_cons_of_mem _ hz)) with e | e
      · subst e; exact absurd (b1 z hz) (by omega)
      · exact e
theorem nodup_len {l ns : List Int} (h : l.Nodup) (hm : ∀ x, x ∈ l ↔ x ∈ ns) : l.length = (uniq ns).length := by
  have e : srtN l = uniq ns := by
    refine asc_same ?_ (uniq_asc ns) fun x => ?_
    · have nd : (srtN l).Nodup := (srtN_perm l).nodup_iff.mpr h
      exact (srtN_asc l).and nd |>.imp fun ⟨h1, h2⟩ => by omega
    · rw [(srtN_perm l).mem_iff, hm, uniq_mem]
  rw [← e, (srtN_perm l).length_eq]
def rSetLst (K : Frag) (w : World) : List V → Hp → VK → Prop := fun vs H Q => ∃ (a : Addr) (ns : List Int), vs = [V.ref a] ∧ SqL K H a (ns.map V.int) ∧ ns.length ≤ 4000 ∧ ∀ p, H p = none → Q (.ref p) (upd H p (SetO w p (fun j => decide (j ∈ ns)) (uniq ns).length))
section
variable {X : Cx} {W : WX} {e : Expr} {m : ME} {p p1 p2 pos : Pos}
theorem cr_setLst (hc : X.calm = true) : CallR X (.type "set") (rSetLst X.K X.w) := by
  intro pins s σ H vs us Q I r h
  obtain ⟨a, ns, rfl, hs, hn, q⟩ := h
  obtain ⟨its, rv, hl, hz⟩ := I.list hs
  rw [Vals.ref1 r]
  refine call_set_lst (ns := ns) (I.ok.hd hc) hl.isList (by simpa using rv.ints) (by unfold scanBound; omega) fun s2 hm => ?_
  obtain ⟨h', tk, c, rfl, R, hc', kp⟩ := hm
  have ec : c = (uniq ns).length := by
    obtain ⟨o, es, ep, t, ho, hex, hd, g, nd, hmm, hb, hf, hn, hr, hl⟩ := R
    rw [← hn, ← nodup_len (l := es.toList.map keyOf) nd fun x => by rw [← hmm]; simp]
    simp
  subst ec
  exact ⟨.ref _, upd H s.heap.objs.size (SetO X.w s.heap.objs.size _ _), I.laid (t' := tk) kp (Nat.le_refl _) (setO_new R), rfl, q _ (I.hok.fresh (Nat.le_refl _))⟩
def gSortSet : Sto → D → Option (List D) := fun S d => (lstOf S d).bind fun es => (intsOf es).bind fun ns => if ns.length ≤ 4000 ∧ (uniq ns).length < 64 then some ((uniq ns).map .int) else none
def mSortSet (m : ME) : MA := fun ρ S => (m ρ S).bind fun d S1 => match gSortSet S1 d with
  | some ds => .ok ds S1
  | none => .bad
theorem dl_sortSet (hm1 : X.mg "sorted" = none) (hm2 : X.mg "set" = none) (hc : X.calm = true) (h : DE X W e m) (hg1 : Gl X "sorted" := by rfl) (hg2 : Gl X "set" := by rfl)
    (na : starEach [e] X.env = (false, eval e X.env) :: starEach [] X.env := by rfl) (nb : (backTo p2 (starEach [] X.env)).any (·.1) = false := by rfl)
    (nc : starEach [.Call (.Name "set" p1) [e] [] p2] X.env = (false, eval (.Call (.Name "set" p1) [e] [] p2) X.env) :: starEach [] X.env := by rfl) (nd : (backTo pos (starEach [] X.env)).any (·.1) = false := by rfl) :
    DL X W (.Call (.Name "sorted" p) [.Call (.Name "set" p1) [e] [] p2] [] pos) (mSortSet m) := by
  obtain ⟨te, pe, ke⟩ := h
  refine ⟨_, pe_callB (cr_sortedSet hc) hg1 hm1 (by decide +kernel) (pa_cons (pe_callTy (cr_setLst hc) hg2 hm2 (by decide +kernel) (pa_cons pe pa_nil na) (he := na) (hpl := nb)) pa_nil nc) (he := nc) (hpl := nd), fun ξ μ σ H ρ S Q g s h => ?_⟩
  refine ke ξ μ σ H ρ S _ g s (WL'.bind h fun d S1 v μ1 H1 u1 s1 r1 h1 => ?_)
  unfold gSortSet at h1
  cases q : lstOf S1 d with
  | none => rw [q] at h1; exact h1.elim
  | some es =>
    rw [q] at h1
    obtain ⟨a, xs, rfl, h2, h3⟩ := RD.lstS s1 r1 q
    cases c : intsOf es with
    | none => simp only [Option.bind_some, c] at h1; exact h1.elim
    | some ns =>
      simp only [Option.bind_some, c] at h1
      by_cases hl : ns.length ≤ 4000 ∧ (uniq ns).length < 64
      · rw [if_pos hl] at h1
        have ee := intsOf_eq c
        subst ee
        have ev := rdsInts h3
        subst ev
        refine ⟨a, ns, rfl, h2, hl.1, fun p hp => ?_⟩
        refine ⟨p, _, _, rfl, upd_same, hl.2, fun ms p' ha hm hlen hp' => ?_⟩
        have em : ms = uniq ns := asc_same ha (uniq_asc ns) fun x => by rw [hm, uniq_mem]; simp
        subst em
        have s2 := s1.fresh (o := SetO X.w p (fun j => decide (j ∈ ns)) (uniq ns).length) hp
        have hne : p' ≠ p := fun z => by rw [z, upd_same] at hp'; cases hp'
        have hpn : H1 p' = none := by rw [upd_ne hne] at hp'; exact hp'
        exact h1 p' _ μ1 _ ((Up.fresh hp).trans (Up.fresh hp')) hpn (s2.holds hp') intsRds upd_same
      · rw [if_neg hl] at h1; exact h1.elim
end
section
variable {S : Sto} {ρ : Rho} {E : EX}
@[simp] theorem does_sortSet {m : ME} {Q : List D → Sto → Prop} : (mSortSet m ρ S).DoesE E Q = (m ρ S).DoesE E fun d S1 => match gSortSet S1 d with
    | some ds => Q ds S1
    | none => False := by
  unfold mSortSet
  rw [does_bind]; congr 1; funext d S1
  cases gSortSet S1 d <;> rfl
theorem gSortSet_ints {d : D} {ns : List Int} (h : lstOf S d = some (ns.map .int)) (h1 : ns.length ≤ 4000) (h2 : (uniq ns).length < 64) : gSortSet S d = some ((uniq ns).map .int) := by
  show (lstOf S d).bind _ = _
  rw [h]
  show (intsOf (ns.map D.int)).bind _ = _
  rw [intsOf_map]
  show (if _ then _ else _) = _
  rw [if_pos ⟨h1, h2⟩]
end
end Dm
-- text Hw6
namespace Dm
open PySem L2
end Dm
-- text DmIn2
namespace Dm
open PySem L2 PySem.Spec PyProof.Rows
open PySem.W (Frag)
/-! ### x in xs, both nested plain data -/
def rIn2 (K : Frag) (neg : Bool) : R2 := fun x y H Q => ∃ d es, Dp K H x d ∧ Dp K H y (.list es) ∧ SeqAt.shaped d = true ∧ SeqAt.shaped (.list es) = true ∧ Q (.bl (if neg then !es.any (fun e => PyData.eqv e d) else es.any (fun e => PyData.eqv e d))) H
def gIn2 (neg : Bool) : Sto → D → D → Option D := fun S x y => match toPyS S x, toPyS S y with
  | some d, some (.list es) => if SeqAt.shaped d = true ∧ SeqAt.shaped (.list es) = true then some (.bl (if neg then !es.any (fun e => PyData.eqv e d) else es.any (fun e => PyData.eqv e d))) else none
  | _, _ => none
section
variable {X : Cx}
theorem in2_room {A : Around} {d : PyData} {es : List PyData} (hs : SeqAt.shaped d = true) (hu : A.units + 66 < cLine) : A.units + 1 + min (PyData.depthAll es) d.depth < cLine := by
  have h1 := SeqAt.depth_of_shaped hs
  have h2 : min (PyData.depthAll es) d.depth ≤ d.depth := Nat.min_le_right _ _
  omega
theorem in2_lay {es : List PyData} (hs : SeqAt.shaped (.list es) = true) : PyData.canLayAll0 es = true := by
  have h := SeqAt.canLay_of_shaped hs
  simpa [PyData.canLay0] using h
theorem op_notIn2 (hu : X.A.units + 66 < cLine) : OpR X (compareOp .NotIn) (rIn2 X.K true) := by
  intro pins s σ H x y v u Q I rx ry h
  obtain ⟨d, es, hd, he, sd, se, q⟩ := h
  obtain ⟨as, r1⟩ := Dp.reads I d x v hd rx
  obtain ⟨bs, r2⟩ := Dp.reads I (.list es) y u he ry
  exact SeqAt.notIn_list_reads r2 r1 (in2_lay se) (SeqAt.canLay_of_shaped sd) (in2_room sd hu) ⟨.bl _, H, I, rfl, q⟩
theorem o_in2 {neg : Bool} : OpD X (rIn2 X.K neg) (gIn2 neg) := by
  intro ξ μ H S x y v u z Q s rx ry e k
  unfold gIn2 at e
  split at e
  · rename_i d es hd he
    split at e
    · rename_i hs
      cases e
      exact ⟨d, es, dpS_of s rx hd, dpS_of s ry he, hs.1, hs.2, k _ μ H .refl s (.bl _)⟩
    · exact nomatch e
  · exact nomatch e
/-! ### any -/
def gAny : Sto → List D → Option D := fun S ds => match ds with
  | [d] => (lstOf S d).bind fun es => (blsOf es).map fun bs => .bl (bs.any id)
  | _ => none
theorem c_any : CallD X (rAny X.K) gAny := by
  intro ξ μ H S ds vs z Q s r e k
  unfold gAny at e
  cases r with
  | nil => exact nomatch e
  | @cons v vs d ds r rr =>
    cases rr with
    | cons _ _ => exact nomatch e
    | nil =>
      simp only at e
      cases q : lstOf S d with
      | none => rw [q] at e; exact nomatch e
      | some es =>
        rw [q] at e
        have e : (blsOf es).map (fun bs => D.bl (bs.any id)) = some z := e
        cases q' : blsOf es with
        | none => rw [q'] at e; exact nomatch e
        | some bs =>
          rw [q'] at e; cases e
          obtain ⟨a, xs, rfl, h1, h2⟩ := RD.lstS s r q
          have e := bls_of h2 q'
          subst e
          exact ⟨a, bs, rfl, h1, k _ μ H .refl s (.bl _)⟩
end
end Dm
-- text DmTab
namespace Dm
open PySem L2 PySem.Spec PyProof.Rows
open PySem.W (Frag)
/-! ### a dict of the module with text keys, its values plain -/
inductive KEs (K : Frag) (P : Params) : List DictEntry → List (Str × D) → Prop
  | nil : KEs K P [] []
  | cons {e : DictEntry} {r : List DictEntry} {x : Str} {t : Tok} {v : V} {d : D} {kvs : List (Str × D)} : e.key = .str x t → e.hash = PyData.keyHash P x → RelV v e.val → KD K v d → KEs K P r kvs → KEs K P (e :: r) ((x, d) :: kvs)
def tbLook : List (Str × D) → Str → Option D
  | [], _ => none
  | (x, d) :: r, z => if x = z then some d else tbLook r z
theorem KEs.find {K : Frag} {P : Params} (z : Str) : ∀ {es : List DictEntry} {kvs : List (Str × D)}, KEs K P es kvs →
    match tbLook kvs z with
    | some d => ∃ e v, es.find? (·.key.isStr z) = some e ∧ RelV v e.val ∧ KD K v d
    | none => es.find? (·.key.isStr z) = none
  | _, _, .nil => rfl
  | _, _, .cons (e := e) (x := x) (t := t) (v := v) (d := d) (kvs := kvs) h1 h2 h3 h4 r => by
    have ih := KEs.find z r
    unfold tbLook
    by_cases c : x = z
    · rw [if_pos c]
      refine ⟨e, v, ?_, h3, h4⟩
      rw [List.find?_cons_of_pos]
      rw [h1, PySem.W.isStr_of]
      show (x == z) = true
      rw [c]; exact beq_self_eq_true _
    · rw [if_neg c]
      have n : ¬ (e.key.isStr z) = true := by
        rw [h1, PySem.W.isStr_of]
        intro q
        exact c (of_decide_eq_true (by simpa [Value.isStrOf] using q))
      rw [List.find?_cons_of_neg (p := fun q : DictEntry => q.key.isStr z) n]
      exact ih
def mTbIn (neg : Bool) (kvs : List (Str × D)) (a : ME) : ME := fun ρ S => (a ρ S).bind fun x S1 => match x with
  | .str z => .ok (.bl (if neg then !(tbLook kvs z).isSome else (tbLook kvs z).isSome)) S1
  | _ => .bad
def mTbIx (kvs : List (Str × D)) (a : ME) : ME := fun ρ S => (a ρ S).bind fun x S1 => match x with
  | .str z => match tbLook kvs z with
    | some d => .ok d S1
    | none => .bad
  | _ => .bad
end Dm
-- text DmG
namespace Dm
open PySem L2 PySem.Spec PyProof.Rows
open PySem.W (Frag)
/-! ### room under which no repr is under way -/
structure RoomG (k : Nat) (A : Around) : Prop extends Room k A where
  gd : A.guards = some []
theorem RoomG.mono {j k : Nat} {A : Around} (r : RoomG k A) (h : j ≤ k) : RoomG j A := ⟨r.toRoom.mono h, r.gd⟩
theorem RoomG.deeper {k : Nat} {A : Around} (r : RoomG (k + 1) A) (env : Env) : RoomG k (A.deeper env) := ⟨r.toRoom.deeper env, r.gd⟩
structure FnG (P : Program) (w : World) (K : Frag) (mg : Str → Option Value) (base : Heap) (CX : CXT) (k : Nat) (f : Addr) (fd : FuncData) (ps : List Str) (sp : Sp) : Prop where
  len : ∀ vs H Q E, sp vs H Q E → vs.length = ps.length
  run : ∀ (A : Around) (outer : List Env) (s : Shared) (H : Hp) (args : Args) (us : List Value) (vs : List V) (Q : VK) (E : XK), RoomG k A → Env0 P w K mg base A outer s H → BindsTo s fd args (ps.zip us) → Vals vs us → sp vs H Q E →
    codeAny (model P w) A (.call (.ref f) args) (CR CX outer P w H s Q E) s
section
variable {P : Program} {w : World} {K : Frag} {mg : Str → Option Value} {base : Heap} {CX : CXT} {k : Nat} {f : Addr} {fd : FuncData} {ps N : List Str} {sp : Sp}
theorem FnG.mono {j : Nat} (F : FnG P w K mg base CX j f fd ps sp) (h : j ≤ k) : FnG P w K mg base CX k f fd ps sp := ⟨F.len, fun A outer s H args us vs Q E hr => F.run A outer s H args us vs Q E (hr.mono h)⟩
theorem FnG.imp {sp' : Sp} (F : FnG P w K mg base CX k f fd ps sp) (h : ∀ vs H Q E, sp' vs H Q E → sp vs H Q E) : FnG P w K mg base CX k f fd ps sp' :=
  ⟨fun vs H Q E q => F.len vs H Q E (h _ _ _ _ q), fun A outer s H args us vs Q E hr he hb hv hs => F.run A outer s H args us vs Q E hr he hb hv (h _ _ _ _ hs)⟩
end
structure FnDG (P : Program) (w : World) (K : Frag) (mg : Str → Option Value) (base : Heap) (k : Nat) (x : Str) (st : Stmt) (ps : List Str) (m : List D → Sto → Res D) : Prop where
  ex : ∃ f fd, mg x = some (.ref f) ∧ Fun K x x st f fd ∧ Binds K fd ps [] ∧ FnG P w K mg base (L2.CX P w) k f fd ps (spD K mg m)
section
variable {P : Program} {w : World} {K : Frag} {mg : Str → Option Value} {base : Heap}
theorem FnDG.mono {j k : Nat} {x : Str} {st : Stmt} {ps : List Str} {m : List D → Sto → Res D} (F : FnDG P w K mg base j x st ps m) (h : j ≤ k) : FnDG P w K mg base k x st ps m :=
  let ⟨f, fd, a, b, c, d⟩ := F; ⟨f, fd, a, b, c, d.mono h⟩
end
end Dm
-- text DmGEnd
namespace Dm
open PySem L2 PySem.Spec PyProof.Rows
open PySem.W (Frag)
/-- of all addresses the script's alone may be tracked, frozen, and then the written part does not know it -/
def Lone (K : Frag) (a : Addr) (H : Hp) : Prop := ∀ b, H b = none ∨ (b = a ∧ K.lookup a = none ∧ ∃ o xs, H b = some (.frz o (.lst xs)))
section
variable {P : Program} {w : World} {K : Frag} {mg mb : Str → Option Value} {k : Nat} {fa a : Addr} {fd : FuncData} {x : Str} {s : Shared} {vs : List Value} {ns : List Int} {H : Hp}
theorem Lone.free (L : Lone K a H) (KX : K.In s.heap) {b : Addr} {o : Obj} (h : K.lookup b = some o) : H b = none := by
  rcases L b with q | ⟨rfl, q, _⟩
  · exact q
  · rw [q] at h; cases h
theorem Lone.dic (L : Lone K a H) (ha : s.heap.get? a = some { cls := .type "list", data := .seq vs.toArray }) {b : Addr} {o : Obj} {es : Array DictEntry} {n : Nat} (h : s.heap.get? b = some o) (hd : o.data = .dict es n) : H b = none := by
  rcases L b with q | ⟨rfl, _, _⟩
  · exact q
  · rw [ha] at h
    cases h
    cases (show Data.seq vs.toArray _ = Data.dict es n from hd)
end
end Dm
-- text DmRepr
namespace Dm
open PySem L2 PySem.Spec PyProof.Rows
open PySem.W (Frag)
/-! ### repr of plain data -/
/-! cells within, their items plain -/
end Dm
-- text DmPar3
namespace Dm
open PySem L2 PySem.Spec PyProof.Rows
open PySem.W (Frag)
/-! ### x, y, z = a, b, c -/
def mPar3 (i j l : Nat) (a : MA) : MS := fun ρ S => ofRes (a ρ S) ρ fun ds S1 => match ds with
  | [d, d', d''] => .nx (((ρ.set i (some d)).set j (some d')).set l (some d'')) S1
  | _ => .bad
section
variable {S : Sto} {ρ : Rho} {N B C : Rho → Sto → Prop} {R : D → Sto → Prop} {E : EX} {EO : EXO}
@[simp] theorem does_par3 {i j l : Nat} {a : MA} : (mPar3 i j l a ρ S).DoesE EO N R B C = (a ρ S).DoesE (eAt EO ρ) fun ds S1 => match ds with
    | [d, d', d''] => N (((ρ.set i (some d)).set j (some d')).set l (some d'')) S1
    | _ => False := by
  unfold mPar3
  rw [does_ofRes]; congr 1; funext ds S1
  match ds with
  | [] => rfl
  | [_] => rfl
  | [_, _] => rfl
  | [_, _, _] => rfl
  | _ :: _ :: _ :: _ :: _ => rfl
@[simp] theorem does_tbin {neg : Bool} {kvs : List (Str × D)} {a : ME} {Q : D → Sto → Prop} : (mTbIn neg kvs a ρ S).DoesE E Q = (a ρ S).DoesE E fun x S1 => match x with
    | .str z => Q (.bl (if neg then !(tbLook kvs z).isSome else (tbLook kvs z).isSome)) S1
    | _ => False := by
  unfold mTbIn
  rw [does_bind]; congr 1; funext x S1
  cases x <;> rfl
@[simp] theorem does_tbix {kvs : List (Str × D)} {a : ME} {Q : D → Sto → Prop} : (mTbIx kvs a ρ S).DoesE E Q = (a ρ S).DoesE E fun x S1 => match x with
    | .str z => ∃ d, tbLook kvs z = some d ∧ Q d S1
    | _ => False := by
  unfold mTbIx
  rw [does_bind]; congr 1; funext x S1
  cases x with
  | str z =>
    simp only
    cases e : tbLook kvs z with
    | some d => simp
    | none => exact propext ⟨fun h => h.elim, fun ⟨_, h, _⟩ => nomatch h⟩
  | _ => rfl
end
end Dm
-- text Hw7
namespace Dm
open PySem L2
end Dm
-- text DmMin
namespace Dm
open PySem L2 PySem.Spec PyProof.Rows
open PySem.W (Frag)
/-! ### min of a list of ints -/
section
variable {X : Cx} {W : WX}
/-! ### key in a dict -/
/-! ### xs.clear() -/
def mClear (o : ME) : MS := fun ρ S => ofRes (o ρ S) ρ fun x S1 => match x with
  | .cell n => match S1[n]? with
    | some (.lst _) => .nx ρ (S1.set n (.lst []))
    | _ => .bad
  | _ => .bad
end
section
variable {S : Sto} {ρ : Rho} {N B C : Rho → Sto → Prop} {R : D → Sto → Prop} {E : EX} {EO : EXO}
@[simp] theorem does_clear {o : ME} : (mClear o ρ S).DoesE EO N R B C = (o ρ S).DoesE (eAt EO ρ) fun x S1 => match x with
    | .cell n => (∃ xs, S1[n]? = some (.lst xs)) ∧ N ρ (S1.set n (.lst []))
    | _ => False := by
  unfold mClear
  rw [does_ofRes]; congr 1; funext x S1
  cases x with
  | cell n =>
    simp only
    cases q : S1[n]? with
    | none => exact propext ⟨fun h => h.elim, fun ⟨⟨_, h⟩, _⟩ => nomatch h⟩
    | some c =>
      cases c with
      | lst ds => exact propext ⟨fun h => ⟨⟨_, rfl⟩, h⟩, fun h => h.2⟩
      | _ => exact propext ⟨fun h => h.elim, fun ⟨⟨_, h⟩, _⟩ => nomatch h⟩
  | _ => rfl
end
end Dm
-- text DmTry
/-! try .. except X (as n): the caught exception stands in the heap as a value -/
namespace Dm
open PySem L2 PySem.Spec PyProof.Rows
open PySem.W (Frag)
/-! ### the words -/
end Dm
-- text DmRaise
/-! raise X(e, ..) of a class with its own __init__; e.f; isinstance(e, X) -/
namespace Dm
open PySem L2 PySem.Spec PyProof.Rows
open PySem.W (Frag)
theorem _root_.L2.Room.u66 {k : Nat} {A : Around} (r : L2.Room k A) : A.units + 66 < cLine := by
  have := r.un
  omega
/-! ### H.__init__(self, ..), H a class of the program over ValueError -/
/-! ### the class's own __init__ -/
/-! ### isinstance(e, X) -/
end Dm
-- text Hw8
namespace Dm
open PySem L2
end Dm
-- text Hw9
namespace Dm
open PySem L2
end Dm
-- text DmLc2
namespace Dm
open PySem L2
open PySem.W (Frag)
/-! ### comprehensions of two generators -/
def lcL2 (f : D → Rho → Option Rho) (mt : ME) (mi1 : ME) (f1 : D → Rho → Option Rho) (mt1 me : ME) (vs1 : List Nat) (ρ : Rho) : List D → Sto → Option (List D × Sto)
  | [], S => some ([], S)
  | d :: r, S => match f d ρ with
    | none => none
    | some ρ1 => match mt ρ1 S with
      | .ok (.bl true) S1 => match iAny mi1 ρ1 S1 with
        | .ok p1 S2 => match lcA p1.1 f1 mt1 me (wipeD ρ1 vs1) (p1.2 + 1) 0 S2 with
          | some (ys, S3) => match lcL2 f mt mi1 f1 mt1 me vs1 ρ r S3 with
            | some (zs, S4) => some (ys ++ zs, S4)
            | none => none
          | none => none
        | _ => none
      | .ok (.bl false) S1 => lcL2 f mt mi1 f1 mt1 me vs1 ρ r S1
      | _ => none
def mLc2 (mi : MA) (f : D → Rho → Option Rho) (mt : ME) (mi1 : ME) (f1 : D → Rho → Option Rho) (mt1 me : ME) (vs vs1 : List Nat) : MA := fun ρ S => (mi ρ S).bind fun ds S1 => match lcL2 f mt mi1 f1 mt1 me vs1 (wipeD ρ vs) ds S1 with
  | some (ys, S2) => if ys.length ≤ 16777216 then .ok ys S2 else .bad
  | none => .bad
def lcA2 (d : D) (f : D → Rho → Option Rho) (mt : ME) (mi1 : ME) (f1 : D → Rho → Option Rho) (mt1 me : ME) (vs1 : List Nat) (ρ : Rho) : Nat → Nat → Sto → Option (List D × Sto)
  | 0, _, _ => none
  | k + 1, i, S => match seqOf S d with
    | none => none
    | some ds => match ds[i]? with
      | none => if i = ds.length then some ([], S) else none
      | some x => match f x ρ with
        | none => none
        | some ρ1 => match mt ρ1 S with
          | .ok (.bl true) S1 => match iAny mi1 ρ1 S1 with
            | .ok p1 S2 => match lcA p1.1 f1 mt1 me (wipeD ρ1 vs1) (p1.2 + 1) 0 S2 with
              | some (ys, S3) => match lcA2 d f mt mi1 f1 mt1 me vs1 ρ k (i + 1) S3 with
                | some (zs, S4) => some (ys ++ zs, S4)
                | none => none
              | none => none
            | _ => none
          | .ok (.bl false) S1 => lcA2 d f mt mi1 f1 mt1 me vs1 ρ k (i + 1) S1
          | _ => none
def mLcA2 (m : ME) (f : D → Rho → Option Rho) (mt : ME) (mi1 : ME) (f1 : D → Rho → Option Rho) (mt1 me : ME) (vs vs1 : List Nat) : MA := fun ρ S => (iAny m ρ S).bind fun p S1 => match lcA2 p.1 f mt mi1 f1 mt1 me vs1 (wipeD ρ vs) (p.2 + 1) 0 S1 with
  | some (ys, S2) => if ys.length ≤ 16777216 then .ok ys S2 else .bad
  | none => .bad
theorem Mv.comp {F : Fx} {μ μ1 μ2 : List Addr} {H H1 H2 : Hp} (a : Mv F μ H F μ1 H1) (b : Mv F μ1 H1 F μ2 H2) : Mv F μ H F μ2 H2 := ⟨fun h => b.t (a.t h), fun h => b.l (a.l h), fun h => b.c (a.c h), rfl, fun h => b.x (a.x h)⟩
/-! ### what they do -/
section
variable {S : Sto} {ρ : Rho} {f f1 : D → Rho → Option Rho} {mt mt1 me : ME} {mi : MA} {mi1 : ME} {E : EX}
def LcQ2 (f : D → Rho → Option Rho) (mt : ME) (mi1 : ME) (f1 : D → Rho → Option Rho) (mt1 me : ME) (vs1 : List Nat) (ρ : Rho) (ds : List D) (S : Sto) (Q : List D → Sto → Prop) : Prop := ∃ ys S2, lcL2 f mt mi1 f1 mt1 me vs1 ρ ds S = some (ys, S2) ∧ Q ys S2
@[simp] theorem does_lc2 {vs vs1 : List Nat} {Q : List D → Sto → Prop} : (mLc2 mi f mt mi1 f1 mt1 me vs vs1 ρ S).DoesE E Q = (mi ρ S).DoesE E fun ds S1 => LcQ2 f mt mi1 f1 mt1 me vs1 (wipeD ρ vs) ds S1 fun ys S2 => ys.length ≤ 16777216 ∧ Q ys S2 := by
  unfold mLc2
  rw [does_bind]
  congr 1
  funext ds S1
  unfold LcQ2
  cases e : lcL2 f mt mi1 f1 mt1 me vs1 (wipeD ρ vs) ds S1 with
  | none => refine propext ⟨fun h => h.elim, fun ⟨_, _, h, _⟩ => nomatch h⟩
  | some r =>
    obtain ⟨ys, S2⟩ := r
    refine propext ⟨fun q => ?_, ?_⟩
    · simp only at q
      by_cases c : ys.length ≤ 16777216
      · rw [if_pos c] at q
        exact ⟨ys, S2, rfl, c, q⟩
      · rw [if_neg c] at q
        exact q.elim
    · rintro ⟨ys', S2', e', c, q⟩
      cases e'
      simp only
      rw [if_pos c]
      exact q
def LcAQ2 (d : D) (f : D → Rho → Option Rho) (mt : ME) (mi1 : ME) (f1 : D → Rho → Option Rho) (mt1 me : ME) (vs1 : List Nat) (ρ : Rho) (n : Nat) (S : Sto) (Q : List D → Sto → Prop) : Prop := ∃ ys S2, lcA2 d f mt mi1 f1 mt1 me vs1 ρ (n + 1) 0 S = some (ys, S2) ∧ Q ys S2
@[simp] theorem does_lcA2 {m : ME} {vs vs1 : List Nat} {Q : List D → Sto → Prop} : (mLcA2 m f mt mi1 f1 mt1 me vs vs1 ρ S).DoesE E Q = (m ρ S).DoesE E fun d S1 => match seqOf S1 d with
    | some ds => LcAQ2 d f mt mi1 f1 mt1 me vs1 (wipeD ρ vs) ds.length S1 fun ys S2 => ys.length ≤ 16777216 ∧ Q ys S2
    | none => False := by
  unfold mLcA2 iAny
  rw [does_bind, does_bind]
  congr 1
  funext d S1
  cases seqOf S1 d with
  | none => rfl
  | some ds =>
    simp only [does_ok]
    unfold LcAQ2
    cases e : lcA2 d f mt mi1 f1 mt1 me vs1 (wipeD ρ vs) (ds.length + 1) 0 S1 with
    | none => refine propext ⟨fun h => h.elim, fun ⟨_, _, h, _⟩ => nomatch h⟩
    | some r =>
      obtain ⟨ys, S2⟩ := r
      refine propext ⟨fun q => ?_, ?_⟩
      · simp only at q
        by_cases c : ys.length ≤ 16777216
        · rw [if_pos c] at q
          exact ⟨ys, S2, rfl, c, q⟩
        · rw [if_neg c] at q
          exact q.elim
      · rintro ⟨ys', S2', e', c, q⟩
        cases e'
        simp only
        rw [if_pos c]
        exact q
end
end Dm
-- text Hw10
namespace Dm
open PySem L2
end Dm
-- text DmPop
namespace Dm
open PySem L2
open PySem.W (Frag)
/-! ### xs.pop(), xs.reverse() as statements -/
section
variable {X : Cx} {W : WX}
def mPopS (o : ME) : MS := fun ρ S => ofRes (o ρ S) ρ fun x S1 => match x with
  | .cell n => match S1[n]? with
    | some (.lst ds) => if ds = [] then .bad else .nx ρ (S1.set n (.lst ds.dropLast))
    | _ => .bad
  | _ => .bad
def mRevS (o : ME) : MS := fun ρ S => ofRes (o ρ S) ρ fun x S1 => match x with
  | .cell n => match S1[n]? with
    | some (.lst ds) => .nx ρ (S1.set n (.lst ds.reverse))
    | _ => .bad
  | _ => .bad
end
section
variable {S : Sto} {ρ : Rho} {N B C : Rho → Sto → Prop} {R : D → Sto → Prop} {EO : EXO}
@[simp] theorem does_popS {o : ME} : (mPopS o ρ S).DoesE EO N R B C = (o ρ S).DoesE (eAt EO ρ) fun x S1 => match x with
    | .cell n => ∃ xs, S1[n]? = some (.lst xs) ∧ xs ≠ [] ∧ N ρ (S1.set n (.lst xs.dropLast))
    | _ => False := by
  unfold mPopS
  rw [does_ofRes]; congr 1; funext x S1
  cases x with
  | cell n =>
    simp only
    cases q : S1[n]? with
    | none => exact propext ⟨fun h => h.elim, fun ⟨_, h, _⟩ => nomatch h⟩
    | some c =>
      cases c with
      | lst ds =>
        by_cases hd : ds = []
        · simp only [if_pos hd]
          refine propext ⟨fun h => h.elim, fun ⟨xs, h, h2, _⟩ => ?_⟩
          cases h
          exact absurd hd h2
        · simp only [if_neg hd]
          refine propext ⟨fun h => ⟨ds, rfl, hd, h⟩, fun ⟨xs, h, _, h3⟩ => ?_⟩
          cases h
          exact h3
      | _ => exact propext ⟨fun h => h.elim, fun ⟨_, h, _⟩ => nomatch h⟩
  | _ => rfl
@[simp] theorem does_revS {o : ME} : (mRevS o ρ S).DoesE EO N R B C = (o ρ S).DoesE (eAt EO ρ) fun x S1 => match x with
    | .cell n => ∃ xs, S1[n]? = some (.lst xs) ∧ N ρ (S1.set n (.lst xs.reverse))
    | _ => False := by
  unfold mRevS
  rw [does_ofRes]; congr 1; funext x S1
  cases x with
  | cell n =>
    simp only
    cases q : S1[n]? with
    | none => exact propext ⟨fun h => h.elim, fun ⟨_, h, _⟩ => nomatch h⟩
    | some c =>
      cases c with
      | lst ds =>
        refine propext ⟨fun h => ⟨ds, rfl, h⟩, fun ⟨xs, h, h3⟩ => ?_⟩
        cases h
        exact h3
      | _ => exact propext ⟨fun h => h.elim, fun ⟨_, h, _⟩ => nomatch h⟩
  | _ => rfl
end
end Dm
-- text Hw11
namespace Dm
open PySem L2
end Dm
-- text DmCatW
namespace Dm
open PySem L2 PySem.Spec PyProof.Rows
open PySem.W (Frag)
section
variable {X : Cx} {W : WX} {tg a b : Expr} {ma mb : ME} {pos : Pos} {E : EX}
/-- two lists that stand, one behind the other -/
def mCatW (a b : ME) : MA := fun ρ S => (a ρ S).bind fun x S1 => (b ρ S1).bind fun y S2 => match lstOf S2 x, lstOf S2 y with
  | some xs, some ys => if xs.length + ys.length ≤ 16777216 then .ok (xs ++ ys) S2 else .bad
  | _, _ => .bad
theorem dl_catW (ha : DE X W a ma) (hb : DE X W b mb) : DL X W (.BinOp a .Add b pos) (mCatW ma mb) := by
  obtain ⟨ta, pa, ka⟩ := ha
  obtain ⟨tb, pb, kb⟩ := hb
  refine ⟨_, pe_op op_catB pa pb, fun ξ μ σ H ρ S Q g s h => ka ξ μ σ H ρ S _ g s (WL'.bind h fun x S1 v μ1 H1 u1 s1 r1 h1 => ?_)⟩
  refine kb ξ μ1 σ H1 ρ S1 _ (g.up u1) s1 (WL'.bind h1 fun y S2 w μ2 H2 u2 s2 r2 h2 => ?_)
  have r1 := r1.up u2
  cases c : lstOf S2 x with
  | none => simp only [c] at h2; exact h2.elim
  | some ds =>
    cases c' : lstOf S2 y with
    | none => simp only [c, c'] at h2; exact h2.elim
    | some es =>
      simp only [c, c'] at h2
      obtain ⟨l, xs, rfl, h4, r3⟩ := RD.lstS s2 r1 c
      obtain ⟨l', ys, rfl, h4', r3'⟩ := RD.lstS s2 r2 c'
      by_cases l : ds.length + es.length ≤ 16777216
      · rw [if_pos l] at h2
        refine ⟨_, _, xs, ys, rfl, rfl, h4, h4', by rw [r3.length, r3'.length, sizeLine_eq]; exact l, fun r hr => ?_⟩
        exact h2 r _ μ2 _ (.fresh hr) hr (s2.holds hr) ((RDs.append r3 r3').mv (.holds hr)) upd_same
      · rw [if_neg l] at h2
        exact h2.elim
variable {ρ : Rho} {S : Sto}
@[simp] theorem does_catW {a b : ME} {Q : List D → Sto → Prop} : (mCatW a b ρ S).DoesE E Q = (a ρ S).DoesE E fun x S1 => (b ρ S1).DoesE E fun y S2 => match lstOf S2 x, lstOf S2 y with
    | some xs, some ys => xs.length + ys.length ≤ 16777216 ∧ Q (xs ++ ys) S2
    | _, _ => False := by
  unfold mCatW
  rw [does_bind]; congr 1; funext x S1
  rw [does_bind]; congr 1; funext y S2
  cases e : lstOf S2 x with
  | none => simp [Res.DoesE]
  | some xs =>
    cases e' : lstOf S2 y with
    | none => simp [Res.DoesE]
    | some ys =>
      simp only
      by_cases h : xs.length + ys.length ≤ 16777216
      · rw [if_pos h]; simp [h]
      · rw [if_neg h]; simp [h, Res.DoesE]
end
end Dm
-- text Hw12
namespace Dm
open PySem L2
noncomputable section
def m_law_charts : List D → Sto → Res D := mDef 3 11 (mSeq (mAsg 3 (mFz (mLcA (mOp gIx (mVar 0) (mK (.int 0))) (tgN 9) mYes (mTup (mCons (mVar 9) (mCons (mTup mNil) mNil))) [9]))) (mSeq (mFor (iRange2 (mCons (mVar 1) (mCons (mOp gAdd (mVar 2) (mK (.int 1))) mNil))) (tgN 4) (mSeq (mAsg 5 (mFz (mLst mNil))) (mSeq (mForA (mVar 3) (tgU 2 (tgCons (tgN 6) (tgCons (tgN 7) tgNil))) (mIfS (mOr (mOp gEq (mCallB gLen (mCons (mVar 7) mNil)) (mK (.int 0))) (mOp gLe (mOp gAdd (mOp gIx (mOp gIx (mVar 7) (mK (.int (-1)))) (mK (.int 0))) (mOp gIx (mVar 0) (mK (.int 1)))) (mVar 4))) (mSeq (mAsg 8 (mOp gIx (mFz (mCatL (mLst (mCons (mVar 6) mNil)) (mLcA (mVar 7) (tgU 2 (tgCons (tgN 10) (tgCons (tgN 9) tgNil))) mYes (mVar 9) [10, 9]))) (mK (.int (-1))))) (mAsg 5 (mFz (mCatV (mVar 5) (mLcA (mOp gIx (mVar 0) (mK (.int 0))) (tgN 9) (mOp gNe (mVar 9) (mVar 8)) (mTup (mCons (mVar 6) (mCons (mOp gAdd (mVar 7) (mTup (mCons (mTup (mCons (mVar 4) (mCons (mVar 9) mNil))) mNil))) mNil))) [9]))))) mNop)) (mAsg 3 (mFz (mCatW (mVar 3) (mVar 5))))))) (mRet (mVar 3))))
def m_law_small : List D → Sto → Res D := mDef 1 4 (mSeq (mAsg 1 (mOp gSub (mCall m_law_draw (mCons (mVar 0) (mCons (mK (.int 9)) mNil))) (mK (.int 6)))) (mSeq (mAsg 2 (mFz (mLst (mCons (mTup (mCons (mVar 1) (mCons (mOp gAdd (mVar 1) (mK (.int 1))) mNil))) (mCons (mTup (mCons (mVar 1) (mCons (mOp gAdd (mVar 1) (mK (.int 2))) mNil))) (mCons (mTup (mCons (mVar 1) (mCons (mOp gAdd (mVar 1) (mK (.int 1))) (mCons (mOp gAdd (mVar 1) (mK (.int 2))) mNil)))) (mCons (mTup (mCons (mVar 1) (mCons (mOp gAdd (mVar 1) (mK (.int 3))) mNil))) (mCons (mTup (mCons (mVar 1) (mCons (mOp gAdd (mVar 1) (mK (.int 1))) (mCons (mOp gAdd (mVar 1) (mK (.int 4))) mNil)))) mNil)))))))) (mSeq (mAsg 3 (mOp gIx (mVar 2) (mCall m_law_draw (mCons (mVar 0) (mCons (mK (.int 5)) mNil))))) (mRet (mTup (mCons (mVar 3) (mCons (mOp gAdd (mOp gAdd (mOp gSub (mOp gIx (mVar 3) (mK (.int (-1)))) (mVar 1)) (mK (.int 1))) (mCall m_law_draw (mCons (mVar 0) (mCons (mK (.int 3)) mNil)))) mNil)))))))
def m_law_k13_whole_all_tables : List D → Sto → Res D := mDef 1 19 (mSeq (mFor (iSeq (mFz (mCatL (mLst (mCons (mK (.int 1000000000000000000000000000000000000338015576620947713920054)) mNil)) (mSlL (mVar 0) mNoPart (mPart (mK (.int 2))))))) (tgN 1) (mSeq (mAsg 2 (mCall m_law_digits (mCons (mVar 1) mNil))) (mSeq (mAsg 3 (mCall m_law_small (mCons (mVar 2) mNil))) (mSeq (mAsg 4 (mCall m_law_any_hour (mCons (mVar 2) mNil))) (mSeq (mAsg 5 (mOp gIx (mFz (mLst (mCons (mK (.int 10)) (mCons (mK (.int 8)) mNil)))) (mOp gSub (mCallB gLen (mCons (mOp gIx (mVar 3) (mK (.int 0))) mNil)) (mK (.int 2))))) (mSeq (mAsg 6 (mFz (mSortSet (mFz (mLc (iRange1 (mCons (mCall m_law_draw (mCons (mVar 2) (mCons (mK (.int 6)) mNil))) mNil)) (tgN 15) mYes (mOp gAdd (mVar 4) (mCall m_law_draw (mCons (mVar 2) (mCons (mOp gAdd (mVar 5) (mK (.int 1))) mNil)))) [15]))))) (mSeq (mAsg 7 (mCallB gTuple (mCons (mFz (mLcA (mVar 6) (tgN 13) mYes (mTup (mCons (mVar 13) (mCons (mOp gIx (mOp gIx (mVar 3) (mK (.int 0))) (mCall m_law_draw (mCons (mVar 2) (mCons (mCallB gLen (mCons (mOp gIx (mVar 3) (mK (.int 0))) mNil)) mNil)))) mNil))) [13])) mNil))) (mSeq (mAsg 8 (mCall m_law_charts (mCons (mVar 3) (mCons (mVar 4) (mCons (mOp gAdd (mVar 4) (mVar 5)) mNil))))) (mSeq (mAsg 9 (mFz (mLcA (mVar 8) (tgN 16) (mCallB gAll (mCons (mFz (mLcA (mVar 7) (tgU 2 (tgCons (tgN 17) (tgCons (tgN 18) tgNil))) mYes (mOp gEq (mCall m_law_shift_at (mCons (mVar 16) (mCons (mVar 17) mNil))) (mVar 18)) [17, 18])) mNil)) (mVar 16) [16]))) (mSeq (mIfS (mNot (mCall (m_law_same 30) (mCons (mCall m_can_hold (mCons (mVar 3) (mCons (mVar 7) mNil))) (mCons (mOp gGt (mCallB gLen (mCons (mVar 9) mNil)) (mK (.int 0))) mNil)))) (mRet (mK (.bl false))) mNop) (mSeq (mAsg 10 (mCall m_early_table (mCons (mVar 3) (mCons (mVar 7) mNil)))) (mSeq (mIfS (mOp gEq (mCallB gLen (mCons (mVar 9) mNil)) (mK (.int 0))) (mIfS (mOp (gIsN true) (mVar 10) (mK .non)) (mRet (mK (.bl false))) mNop) (mIfS (mOp gGt (mCallB gLen (mCons (mVar 7) mNil)) (mK (.int 0))) (mSeq (mIfS (mOp (gIn2 true) (mVar 10) (mVar 9)) (mRet (mK (.bl false))) mNop) (mSeq (mAsg 11 (mFz (mLcA (mVar 9) (tgN 16) (mOp gLe (mCallB gLen (mCons (mOp gIx (mVar 16) (mK (.int 1))) mNil)) (mCallB gLen (mCons (mOp gIx (mVar 10) (mK (.int 1))) mNil))) (mOp gIx (mVar 16) (mK (.int 1))) [16]))) (mForA (mVar 11) (tgN 12) (mIfS (mOr (mOp gLt (mCallB gLen (mCons (mVar 12) mNil)) (mCallB gLen (mCons (mOp gIx (mVar 10) (mK (.int 1))) mNil))) (mCallB gAny (mCons (mFz (mLc (iRange1 (mCons (mCallB gLen (mCons (mVar 12) mNil)) mNil)) (tgN 15) mYes (mOp gLt (mOp gIx (mOp gIx (mVar 12) (mVar 15)) (mK (.int 0))) (mOp gIx (mOp gIx (mOp gIx (mVar 10) (mK (.int 1))) (mVar 15)) (mK (.int 0)))) [15])) mNil))) (mRet (mK (.bl false))) mNop)))) mNop)) (mFor (iSeq (mFz (mLc (iRange1 (mCons (mK (.int 4)) mNil)) (tgN 15) mYes (mOp gAdd (mVar 4) (mCall m_law_draw (mCons (mVar 2) (mCons (mOp gAdd (mVar 5) (mK (.int 1))) mNil)))) [15]))) (tgN 13) (mSeq (mAsg 14 (mFz (mSortSet (mFz (mLcA (mVar 9) (tgN 16) mYes (mCall m_law_shift_at (mCons (mVar 16) (mCons (mVar 13) mNil))) [16]))))) (mIfS (mNot (mCall (m_law_same 30) (mCons (mCall m_offsets_left (mCons (mVar 3) (mCons (mVar 7) (mCons (mVar 13) mNil)))) (mCons (mVar 14) mNil)))) (mRet (mK (.bl false))) mNop))))))))))))))) (mRet (mK (.bl true))))
end
end Dm
-- text V_k13
namespace V
open PySem L2 PySem.Spec PyProof.Rows Dm
open PySem.W (Frag)
def top (i : Nat) : Stmt := PySem.Challenge.pw_hoursmeant_k13_whole_all_tables.main.body.getD i (.Pass ⟨0, 0, 0, 0⟩)
structure Txt (K : Frag) (mg : Str → Option Value) : Prop where
  n_all : mg "all" = none
  n_any : mg "any" = none
  n_bool : mg "bool" = none
  n_int : mg "int" = none
  n_isinstance : mg "isinstance" = none
  n_len : mg "len" = none
  n_list : mg "list" = none
  n_max : mg "max" = none
  n_range : mg "range" = none
  n_set : mg "set" = none
  n_sorted : mg "sorted" = none
  n_str : mg "str" = none
  n_tuple : mg "tuple" = none
  v_MOST_OFFSET : ∃ t, mg "MOST_OFFSET" = some (.int (900) t)
  v_MOST_SPACING : ∃ t, mg "MOST_SPACING" = some (.int (1000000) t)
  x_InvalidLooks : XcOk K mg "InvalidLooks"
  x_InvalidNumber : XcOk K mg "InvalidNumber"
  x_InvalidZone : XcOk K mg "InvalidZone"
section
variable {P : Program} {w : World} {K : Frag} {mg : Str → Option Value} {base : Heap}
theorem Txt.c_MOST_OFFSET (T : Txt K mg) {X : Cx} (h : X.mg = mg := by rfl) : GlD X "MOST_OFFSET" (.int 900) := by
  obtain ⟨t, e⟩ := T.v_MOST_OFFSET
  exact ⟨_, .int _, by rw [h]; exact e, ⟨t, rfl⟩, fun _ _ _ => .int _⟩
theorem Txt.c_MOST_SPACING (T : Txt K mg) {X : Cx} (h : X.mg = mg := by rfl) : GlD X "MOST_SPACING" (.int 1000000) := by
  obtain ⟨t, e⟩ := T.v_MOST_SPACING
  exact ⟨_, .int _, by rw [h]; exact e, ⟨t, rfl⟩, fun _ _ _ => .int _⟩
abbrev s_is_integer : Stmt := top 8
theorem sc_is_integer : FnScope ["value"] ["value"] (defScope s_is_integer) := ⟨rfl, rfl, rfl, by decide +kernel, rfl, by decide +kernel, by decide +kernel⟩
theorem fn_is_integer (T : Txt K mg) {f : Addr} {fd : FuncData} (hm : mg "is_integer" = some (.ref f)) (F : Fun K "is_integer" "is_integer" s_is_integer f fd) : FnD P w K mg base 1 "is_integer" s_is_integer ["value"] m_is_integer := by
  refine fnd_mk (np := 1) (nN := 1) (k := 0) hm F (F.binds fun _ _ _ _ _ _ us hl => match us, hl with | [_], _ => rfl) sc_is_integer rfl rfl fun cdv A outer s H E hr => ?_
  have tk : Takes (cxOf (L2.CX P w) P w K mg base ["value"] "is_integer" (defScope s_is_integer) f cdv A outer s H E) (fun cls d _ H => E cls d H) := takes_of rfl rfl rfl rfl
  exact (dss_one (ds_ret (d_and (d_isi .int (d_var 0) T.n_isinstance T.n_int) (d_one (d_not (d_isi .bl (d_var 0) T.n_isinstance T.n_bool))))))
abbrev s_is_zone : Stmt := top 9
theorem sc_is_zone : FnScope ["value", "offsets", "spacing", "offset", "k"] ["value"] (defScope s_is_zone) := ⟨rfl, rfl, rfl, by decide +kernel, rfl, by decide +kernel, by decide +kernel⟩
theorem fn_is_zone (T : Txt K mg) {f : Addr} {fd : FuncData} (hm : mg "is_zone" = some (.ref f)) (F : Fun K "is_zone" "is_zone" s_is_zone f fd) (G_is_integer : FnD P w K mg base 1 "is_integer" s_is_integer ["value"] m_is_integer) : FnD P w K mg base 2 "is_zone" s_is_zone ["value"] m_is_zone := by
  refine fnd_mk (np := 1) (nN := 5) (k := 1) hm F (F.binds fun _ _ _ _ _ _ us hl => match us, hl with | [_], _ => rfl) sc_is_zone rfl rfl fun cdv A outer s H E hr => ?_
  have tk : Takes (cxOf (L2.CX P w) P w K mg base ["value", "offsets", "spacing", "offset", "k"] "is_zone" (defScope s_is_zone) f cdv A outer s H E) (fun cls d _ H => E cls d H) := takes_of rfl rfl rfl rfl
  exact (dss_cons (ds_if (DT.w (dw_or (dt_not (dt_val (d_isi .tup (d_var 0) T.n_isinstance T.n_tuple))) (dw_or1 (dt_cmp (op_neA hr.units) o_ne (d_callB call_len c_len T.n_len (da_cons (d_var 0) da_nil)) d_int)))) (dss_one (ds_ret d_bl)) dss_nil) (dss_cons (ds_asg (d_var 0) (dg_tup rfl (dgs_cons (dg_name 1 sc_is_zone.nd) (dgs_cons (dg_name 2 sc_is_zone.nd) dgs_nil)))) (dss_cons (ds_if (DT.w (dw_or (dt_not (dt_val (d_isi .tup (d_var 1) T.n_isinstance T.n_tuple))) (dw_or1 (dt_not (dt_chain op_le op_le o_le o_le d_int (d_callB call_len c_len T.n_len (da_cons (d_var 1) da_nil)) d_int))))) (dss_one (ds_ret d_bl)) dss_nil) (dss_cons (ds_for (passes_of rfl) rfl (di_seq (d_var 1)) (dg_name 3 sc_is_zone.nd) (dss_one (ds_if (DT.w (dw_or (dt_not (dt_val (d_call G_is_integer hr tk (da_cons (d_var 3) da_nil)))) (dw_or1 (dt_not (dt_chain op_le op_le o_le o_le (d_un un_neg o_neg (d_glob rfl (T.c_MOST_OFFSET))) (d_var 3) (d_glob rfl (T.c_MOST_OFFSET))))))) (dss_one (ds_ret d_bl)) dss_nil))) (dss_cons (ds_for (passes_of rfl) rfl (di_range2 (da_cons d_int (da_cons (d_callB call_len c_len T.n_len (da_cons (d_var 1) da_nil)) da_nil)) T.n_range) (dg_name 4 sc_is_zone.nd) (dss_one (ds_if (dt_cmp op_le o_le (d_ix ix_seq o_ix (d_var 1) (d_var 4)) (d_ix ix_seq o_ix (d_var 1) (d_op op_sub o_sub (d_var 4) d_int))) (dss_one (ds_ret d_bl)) dss_nil))) (dss_one (ds_ret (d_and (d_call G_is_integer hr tk (da_cons (d_var 2) da_nil)) (d_one (d_chain op_lt op_le o_lt o_le (d_op op_sub o_sub (d_ix ix_seq o_ix (d_var 1) (d_fold (d := .int (-1)) (d_un un_neg o_neg d_int) (fun _ _ => rfl))) (d_ix ix_seq o_ix (d_var 1) d_int)) (d_var 2) (d_glob rfl (T.c_MOST_SPACING))))))))))))
abbrev s_need_zone : Stmt := top 10
theorem sc_need_zone : FnScope ["zone"] ["zone"] (defScope s_need_zone) := ⟨rfl, rfl, rfl, by decide +kernel, rfl, by decide +kernel, by decide +kernel⟩
theorem fn_need_zone (T : Txt K mg) {f : Addr} {fd : FuncData} (hm : mg "need_zone" = some (.ref f)) (F : Fun K "need_zone" "need_zone" s_need_zone f fd) (G_is_zone : FnD P w K mg base 2 "is_zone" s_is_zone ["value"] m_is_zone) : FnD P w K mg base 3 "need_zone" s_need_zone ["zone"] m_need_zone := by
  refine fnd_mk (np := 1) (nN := 1) (k := 2) hm F (F.binds fun _ _ _ _ _ _ us hl => match us, hl with | [_], _ => rfl) sc_need_zone rfl rfl fun cdv A outer s H E hr => ?_
  have tk : Takes (cxOf (L2.CX P w) P w K mg base ["zone"] "need_zone" (defScope s_need_zone) f cdv A outer s H E) (fun cls d _ H => E cls d H) := takes_of rfl rfl rfl rfl
  exact (dss_one (ds_if (dt_not (dt_val (d_call G_is_zone hr tk (da_cons (d_var 0) da_nil)))) (dss_one (ds_raise T.x_InvalidZone rfl tk)) dss_nil))
abbrev s_need_number : Stmt := top 11
theorem sc_need_number : FnScope ["number"] ["number"] (defScope s_need_number) := ⟨rfl, rfl, rfl, by decide +kernel, rfl, by decide +kernel, by decide +kernel⟩
theorem fn_need_number (T : Txt K mg) {f : Addr} {fd : FuncData} (hm : mg "need_number" = some (.ref f)) (F : Fun K "need_number" "need_number" s_need_number f fd) (G_is_integer : FnD P w K mg base 1 "is_integer" s_is_integer ["value"] m_is_integer) : FnD P w K mg base 2 "need_number" s_need_number ["number"] m_need_number := by
  refine fnd_mk (np := 1) (nN := 1) (k := 1) hm F (F.binds fun _ _ _ _ _ _ us hl => match us, hl with | [_], _ => rfl) sc_need_number rfl rfl fun cdv A outer s H E hr => ?_
  have tk : Takes (cxOf (L2.CX P w) P w K mg base ["number"] "need_number" (defScope s_need_number) f cdv A outer s H E) (fun cls d _ H => E cls d H) := takes_of rfl rfl rfl rfl
  exact (dss_one (ds_if (dt_not (dt_val (d_call G_is_integer hr tk (da_cons (d_var 0) da_nil)))) (dss_one (ds_raise T.x_InvalidNumber rfl tk)) dss_nil))
abbrev s_is_offset : Stmt := top 12
theorem sc_is_offset : FnScope ["zone", "value"] ["zone", "value"] (defScope s_is_offset) := ⟨rfl, rfl, rfl, by decide +kernel, rfl, by decide +kernel, by decide +kernel⟩
theorem fn_is_offset (T : Txt K mg) {f : Addr} {fd : FuncData} (hm : mg "is_offset" = some (.ref f)) (F : Fun K "is_offset" "is_offset" s_is_offset f fd) (G_is_integer : FnD P w K mg base 1 "is_integer" s_is_integer ["value"] m_is_integer) : FnD P w K mg base 2 "is_offset" s_is_offset ["zone", "value"] m_is_offset := by
  refine fnd_mk (np := 2) (nN := 2) (k := 1) hm F (F.binds fun _ _ _ _ _ _ us hl => match us, hl with | [_, _], _ => rfl) sc_is_offset rfl rfl fun cdv A outer s H E hr => ?_
  have tk : Takes (cxOf (L2.CX P w) P w K mg base ["zone", "value"] "is_offset" (defScope s_is_offset) f cdv A outer s H E) (fun cls d _ H => E cls d H) := takes_of rfl rfl rfl rfl
  exact (dss_one (ds_ret (d_and (d_call G_is_integer hr tk (da_cons (d_var 1) da_nil)) (d_one (d_cmp op_in_seq o_in (d_var 1) (d_ix ix_seq o_ix (d_var 0) d_int) (by rfl))))))
abbrev s_is_mark : Stmt := top 13
theorem sc_is_mark : FnScope ["zone", "value"] ["zone", "value"] (defScope s_is_mark) := ⟨rfl, rfl, rfl, by decide +kernel, rfl, by decide +kernel, by decide +kernel⟩
theorem fn_is_mark (T : Txt K mg) {f : Addr} {fd : FuncData} (hm : mg "is_mark" = some (.ref f)) (F : Fun K "is_mark" "is_mark" s_is_mark f fd) (G_is_integer : FnD P w K mg base 1 "is_integer" s_is_integer ["value"] m_is_integer) (G_is_offset : FnD P w K mg base 2 "is_offset" s_is_offset ["zone", "value"] m_is_offset) : FnD P w K mg base 3 "is_mark" s_is_mark ["zone", "value"] m_is_mark := by
  refine fnd_mk (np := 2) (nN := 2) (k := 2) hm F (F.binds fun _ _ _ _ _ _ us hl => match us, hl with | [_, _], _ => rfl) sc_is_mark rfl rfl fun cdv A outer s H E hr => ?_
  have tk : Takes (cxOf (L2.CX P w) P w K mg base ["zone", "value"] "is_mark" (defScope s_is_mark) f cdv A outer s H E) (fun cls d _ H => E cls d H) := takes_of rfl rfl rfl rfl
  exact (dss_one (ds_ret (d_and (d_isi .tup (d_var 1) T.n_isinstance T.n_tuple) (d_and (d_cmp (op_eqA hr.units) o_eq (d_callB call_len c_len T.n_len (da_cons (d_var 1) da_nil)) d_int) (d_and (d_call G_is_integer hr tk (da_cons (d_ix ix_seq o_ix (d_var 1) d_int) da_nil)) (d_one (d_call G_is_offset hr tk (da_cons (d_var 0) (da_cons (d_ix ix_seq o_ix (d_var 1) d_int) da_nil)))))))))
abbrev s_is_looks : Stmt := top 15
theorem sc_is_looks : FnScope ["zone", "value", "look", "k"] ["zone", "value"] (defScope s_is_looks) := ⟨rfl, rfl, rfl, by decide +kernel, rfl, by decide +kernel, by decide +kernel⟩
theorem fn_is_looks (T : Txt K mg) {f : Addr} {fd : FuncData} (hm : mg "is_looks" = some (.ref f)) (F : Fun K "is_looks" "is_looks" s_is_looks f fd) (G_is_mark : FnD P w K mg base 3 "is_mark" s_is_mark ["zone", "value"] m_is_mark) (G_need_zone : FnD P w K mg base 3 "need_zone" s_need_zone ["zone"] m_need_zone) : FnD P w K mg base 4 "is_looks" s_is_looks ["zone", "value"] m_is_looks := by
  refine fnd_mk (np := 2) (nN := 4) (k := 3) hm F (F.binds fun _ _ _ _ _ _ us hl => match us, hl with | [_, _], _ => rfl) sc_is_looks rfl rfl fun cdv A outer s H E hr => ?_
  have tk : Takes (cxOf (L2.CX P w) P w K mg base ["zone", "value", "look", "k"] "is_looks" (defScope s_is_looks) f cdv A outer s H E) (fun cls d _ H => E cls d H) := takes_of rfl rfl rfl rfl
  exact (dss_cons (ds_expr (d_call G_need_zone hr tk (da_cons (d_var 0) da_nil))) (dss_cons (ds_if (DT.w (dw_or (dt_not (dt_val (d_isi .tup (d_var 1) T.n_isinstance T.n_tuple))) (dw_or1 (dt_not (dt_val (d_callB (cr_all rfl) c_all T.n_all (da_cons (d_fz (dl_lc (own := [("look", 2)]) rfl sc_is_looks.nd (di_seq (d_var 1)) (blkOk_by (own := [("look", 2)]) (N := ["zone", "value", "look", "k"]) (sc := defScope s_is_looks) (by decide +kernel)) (fun _ _ _ _ _ => (dg_name 2 sc_is_looks.nd)) (fun _ _ _ _ _ => dts_nil) (fun _ _ _ _ _ => (d_call G_is_mark hr takes0 (da_cons (d_var 0) (da_cons (d_var 2) da_nil)))))) da_nil))))))) (dss_one (ds_ret d_bl)) dss_nil) (dss_one (ds_ret (d_callB (cr_all rfl) c_all T.n_all (da_cons (d_fz (dl_lc (own := [("k", 3)]) rfl sc_is_looks.nd (di_range2 (da_cons d_int (da_cons (d_callB call_len c_len T.n_len (da_cons (d_var 1) da_nil)) da_nil)) T.n_range) (blkOk_by (own := [("k", 3)]) (N := ["zone", "value", "look", "k"]) (sc := defScope s_is_looks) (by decide +kernel)) (fun _ _ _ _ _ => (dg_name 3 sc_is_looks.nd)) (fun _ _ _ _ _ => dts_nil) (fun _ _ _ _ _ => (d_cmp op_lt o_lt (d_ix ix_seq o_ix (d_ix ix_seq o_ix (d_var 1) (d_op op_sub o_sub (d_var 3) d_int)) d_int) (d_ix ix_seq o_ix (d_ix ix_seq o_ix (d_var 1) (d_var 3)) d_int))))) da_nil))))))
abbrev s_need_looks : Stmt := top 16
theorem sc_need_looks : FnScope ["zone", "looks"] ["zone", "looks"] (defScope s_need_looks) := ⟨rfl, rfl, rfl, by decide +kernel, rfl, by decide +kernel, by decide +kernel⟩
theorem fn_need_looks (T : Txt K mg) {f : Addr} {fd : FuncData} (hm : mg "need_looks" = some (.ref f)) (F : Fun K "need_looks" "need_looks" s_need_looks f fd) (G_is_looks : FnD P w K mg base 4 "is_looks" s_is_looks ["zone", "value"] m_is_looks) : FnD P w K mg base 5 "need_looks" s_need_looks ["zone", "looks"] m_need_looks := by
  refine fnd_mk (np := 2) (nN := 2) (k := 4) hm F (F.binds fun _ _ _ _ _ _ us hl => match us, hl with | [_, _], _ => rfl) sc_need_looks rfl rfl fun cdv A outer s H E hr => ?_
  have tk : Takes (cxOf (L2.CX P w) P w K mg base ["zone", "looks"] "need_looks" (defScope s_need_looks) f cdv A outer s H E) (fun cls d _ H => E cls d H) := takes_of rfl rfl rfl rfl
  exact (dss_one (ds_if (dt_not (dt_val (d_call G_is_looks hr tk (da_cons (d_var 0) (da_cons (d_var 1) da_nil))))) (dss_one (ds_raise T.x_InvalidLooks rfl tk)) dss_nil))
abbrev s_early_of : Stmt := top 17
theorem sc_early_of : FnScope ["zone", "looks", "jumps", "k", "at", "held"] ["zone", "looks"] (defScope s_early_of) := ⟨rfl, rfl, rfl, by decide +kernel, rfl, by decide +kernel, by decide +kernel⟩
theorem fn_early_of (T : Txt K mg) {f : Addr} {fd : FuncData} (hm : mg "early_of" = some (.ref f)) (F : Fun K "early_of" "early_of" s_early_of f fd) : FnD P w K mg base 1 "early_of" s_early_of ["zone", "looks"] m_early_of := by
  refine fnd_mk (np := 2) (nN := 6) (k := 0) hm F (F.binds fun _ _ _ _ _ _ us hl => match us, hl with | [_, _], _ => rfl) sc_early_of rfl rfl fun cdv A outer s H E hr => ?_
  have tk : Takes (cxOf (L2.CX P w) P w K mg base ["zone", "looks", "jumps", "k", "at", "held"] "early_of" (defScope s_early_of) f cdv A outer s H E) (fun cls d _ H => E cls d H) := takes_of rfl rfl rfl rfl
  exact (dss_cons (ds_set 2 sc_early_of.nd (d_new (dl_lst da_nil))) (dss_cons (ds_for (passes_of rfl) rfl (di_range2 (da_cons d_int (da_cons (d_callB call_len c_len T.n_len (da_cons (d_var 1) da_nil)) da_nil)) T.n_range) (dg_name 3 sc_early_of.nd) (dss_one (ds_if (dt_cmp (op_neA hr.units) o_ne (d_ix ix_seq o_ix (d_ix ix_seq o_ix (d_var 1) (d_var 3)) d_int) (d_ix ix_seq o_ix (d_ix ix_seq o_ix (d_var 1) (d_op op_sub o_sub (d_var 3) d_int)) d_int)) (dss_cons (ds_set 4 sc_early_of.nd (d_op op_addD o_add (d_ix ix_seq o_ix (d_ix ix_seq o_ix (d_var 1) (d_op op_sub o_sub (d_var 3) d_int)) d_int) d_int)) (dss_cons (ds_if (dt_cmp op_gt o_gt (d_callB call_len c_len T.n_len (da_cons (d_var 2) da_nil)) d_int) (dss_one (ds_set 4 sc_early_of.nd (d_callB (call_max2 rfl) c_II T.n_max (da_cons (d_var 4) (da_cons (d_op op_addD o_add (d_ix ix_seq o_ix (d_ix ix_seq o_ix (d_var 2) (d_fold (d := .int (-1)) (d_un un_neg o_neg d_int) (fun _ _ => rfl))) d_int) (d_ix ix_seq o_ix (d_var 0) d_int)) da_nil))))) dss_nil) (dss_cons (ds_if (dt_cmp op_gt o_gt (d_var 4) (d_ix ix_seq o_ix (d_ix ix_seq o_ix (d_var 1) (d_var 3)) d_int)) (dss_one (ds_ret d_non)) dss_nil) (dss_one (ds_app (d_var 2) (d_tup (da_cons (d_var 4) (da_cons (d_ix ix_seq o_ix (d_ix ix_seq o_ix (d_var 1) (d_var 3)) d_int) da_nil))) (fun a b => ps_expr (pe_bm PySem.F.plainAttrs_list PySem.F.slot_list_append PySem.F.type_list_append mt_append a (pa_cons b pa_nil)))))))) dss_nil))) (dss_cons (ds_set 5 sc_early_of.nd (d_ifExp (dt_cmp (op_eqA hr.units) o_eq (d_callB call_len c_len T.n_len (da_cons (d_var 1) da_nil)) d_int) (d_ix ix_seq o_ix (d_ix ix_seq o_ix (d_var 0) d_int) d_int) (d_ix ix_seq o_ix (d_ix ix_seq o_ix (d_var 1) d_int) d_int))) (dss_one (ds_ret (d_tup (da_cons (d_var 5) (da_cons (d_callTy call_tuple_of c_tuple T.n_tuple (da_cons (d_var 2) da_nil)) da_nil))))))))
abbrev s_looks_fit : Stmt := top 18
theorem sc_looks_fit : FnScope ["zone", "looks"] ["zone", "looks"] (defScope s_looks_fit) := ⟨rfl, rfl, rfl, by decide +kernel, rfl, by decide +kernel, by decide +kernel⟩
theorem fn_looks_fit (T : Txt K mg) {f : Addr} {fd : FuncData} (hm : mg "looks_fit" = some (.ref f)) (F : Fun K "looks_fit" "looks_fit" s_looks_fit f fd) (G_early_of : FnD P w K mg base 1 "early_of" s_early_of ["zone", "looks"] m_early_of) : FnD P w K mg base 2 "looks_fit" s_looks_fit ["zone", "looks"] m_looks_fit := by
  refine fnd_mk (np := 2) (nN := 2) (k := 1) hm F (F.binds fun _ _ _ _ _ _ us hl => match us, hl with | [_, _], _ => rfl) sc_looks_fit rfl rfl fun cdv A outer s H E hr => ?_
  have tk : Takes (cxOf (L2.CX P w) P w K mg base ["zone", "looks"] "looks_fit" (defScope s_looks_fit) f cdv A outer s H E) (fun cls d _ H => E cls d H) := takes_of rfl rfl rfl rfl
  exact (dss_one (ds_ret (d_cmp op_notN o_notN (d_call G_early_of hr tk (da_cons (d_var 0) (da_cons (d_var 1) da_nil))) d_non)))
abbrev s_offset_seen : Stmt := top 19
theorem sc_offset_seen : FnScope ["looks", "moment", "at", "offset"] ["looks", "moment"] (defScope s_offset_seen) := ⟨rfl, rfl, rfl, by decide +kernel, rfl, by decide +kernel, by decide +kernel⟩
theorem fn_offset_seen (T : Txt K mg) {f : Addr} {fd : FuncData} (hm : mg "offset_seen" = some (.ref f)) (F : Fun K "offset_seen" "offset_seen" s_offset_seen f fd) : FnD P w K mg base 1 "offset_seen" s_offset_seen ["looks", "moment"] m_offset_seen := by
  refine fnd_mk (np := 2) (nN := 4) (k := 0) hm F (F.binds fun _ _ _ _ _ _ us hl => match us, hl with | [_, _], _ => rfl) sc_offset_seen rfl rfl fun cdv A outer s H E hr => ?_
  have tk : Takes (cxOf (L2.CX P w) P w K mg base ["looks", "moment", "at", "offset"] "offset_seen" (defScope s_offset_seen) f cdv A outer s H E) (fun cls d _ H => E cls d H) := takes_of rfl rfl rfl rfl
  exact (dss_cons (ds_for (passes_of rfl) rfl (di_seq (d_var 0)) (dg_tup rfl (dgs_cons (dg_name 2 sc_offset_seen.nd) (dgs_cons (dg_name 3 sc_offset_seen.nd) dgs_nil))) (dss_one (ds_if (dt_cmp (op_eqA hr.units) o_eq (d_var 2) (d_var 1)) (dss_one (ds_ret (d_var 3))) dss_nil))) (dss_one (ds_ret d_non)))
abbrev s_with_look : Stmt := top 20
theorem sc_with_look : FnScope ["looks", "moment", "offset", "ahead", "look"] ["looks", "moment", "offset"] (defScope s_with_look) := ⟨rfl, rfl, rfl, by decide +kernel, rfl, by decide +kernel, by decide +kernel⟩
theorem fn_with_look (T : Txt K mg) {f : Addr} {fd : FuncData} (hm : mg "with_look" = some (.ref f)) (F : Fun K "with_look" "with_look" s_with_look f fd) : FnD P w K mg base 1 "with_look" s_with_look ["looks", "moment", "offset"] m_with_look := by
  refine fnd_mk (np := 3) (nN := 5) (k := 0) hm F (F.binds fun _ _ _ _ _ _ us hl => match us, hl with | [_, _, _], _ => rfl) sc_with_look rfl rfl fun cdv A outer s H E hr => ?_
  have tk : Takes (cxOf (L2.CX P w) P w K mg base ["looks", "moment", "offset", "ahead", "look"] "with_look" (defScope s_with_look) f cdv A outer s H E) (fun cls d _ H => E cls d H) := takes_of rfl rfl rfl rfl
  exact (dss_cons (ds_set 3 sc_with_look.nd (d_callTy call_tuple_of c_tuple T.n_tuple (da_cons (d_fz (dl_lc (own := [("look", 4)]) rfl sc_with_look.nd (di_seq (d_var 0)) (blkOk_by (own := [("look", 4)]) (N := ["looks", "moment", "offset", "ahead", "look"]) (sc := defScope s_with_look) (by decide +kernel)) (fun _ _ _ _ _ => (dg_name 4 sc_with_look.nd)) (fun _ _ _ _ _ => (dts_one (dt_cmp op_lt o_lt (d_ix ix_seq o_ix (d_var 4) d_int) (d_var 1)))) (fun _ _ _ _ _ => (d_var 4)))) da_nil))) (dss_one (ds_ret (d_op op_addD o_add (d_op op_addD o_add (d_var 3) (d_tup (da_cons (d_tup (da_cons (d_var 1) (da_cons (d_var 2) da_nil))) da_nil))) (d_slT (d_var 0) (do_some (d_callB call_len c_len T.n_len (da_cons (d_var 3) da_nil))) do_none)))))
abbrev s_choices_at : Stmt := top 21
theorem sc_choices_at : FnScope ["zone", "looks", "moment", "seen", "offset"] ["zone", "looks", "moment"] (defScope s_choices_at) := ⟨rfl, rfl, rfl, by decide +kernel, rfl, by decide +kernel, by decide +kernel⟩
theorem fn_choices_at (T : Txt K mg) {f : Addr} {fd : FuncData} (hm : mg "choices_at" = some (.ref f)) (F : Fun K "choices_at" "choices_at" s_choices_at f fd) (G_looks_fit : FnD P w K mg base 2 "looks_fit" s_looks_fit ["zone", "looks"] m_looks_fit) (G_with_look : FnD P w K mg base 1 "with_look" s_with_look ["looks", "moment", "offset"] m_with_look) (G_offset_seen : FnD P w K mg base 1 "offset_seen" s_offset_seen ["looks", "moment"] m_offset_seen) : FnD P w K mg base 3 "choices_at" s_choices_at ["zone", "looks", "moment"] m_choices_at := by
  refine fnd_mk (np := 3) (nN := 5) (k := 2) hm F (F.binds fun _ _ _ _ _ _ us hl => match us, hl with | [_, _, _], _ => rfl) sc_choices_at rfl rfl fun cdv A outer s H E hr => ?_
  have tk : Takes (cxOf (L2.CX P w) P w K mg base ["zone", "looks", "moment", "seen", "offset"] "choices_at" (defScope s_choices_at) f cdv A outer s H E) (fun cls d _ H => E cls d H) := takes_of rfl rfl rfl rfl
  exact (dss_cons (ds_set 3 sc_choices_at.nd (d_call G_offset_seen hr tk (da_cons (d_var 1) (da_cons (d_var 2) da_nil)))) (dss_cons (ds_if (dt_cmp op_notN o_notN (d_var 3) d_non) (dss_one (ds_ret (d_ifExp (dt_val (d_call G_looks_fit hr tk (da_cons (d_var 0) (da_cons (d_var 1) da_nil)))) (d_new (dl_lst (da_cons (d_var 3) da_nil))) (d_new (dl_lst da_nil))))) dss_nil) (dss_one (ds_ret (d_new (dl_lc (own := [("offset", 4)]) rfl sc_choices_at.nd (di_seq (d_ix ix_seq o_ix (d_var 0) d_int)) (blkOk_by (own := [("offset", 4)]) (N := ["zone", "looks", "moment", "seen", "offset"]) (sc := defScope s_choices_at) (by decide +kernel)) (fun _ _ _ _ _ => (dg_name 4 sc_choices_at.nd)) (fun _ _ _ _ _ => (dts_one (dt_val (d_call G_looks_fit hr takes0 (da_cons (d_var 0) (da_cons (d_call G_with_look hr takes0 (da_cons (d_var 1) (da_cons (d_var 2) (da_cons (d_var 4) da_nil)))) da_nil)))))) (fun _ _ _ _ _ => (d_var 4))))))))
abbrev s_can_hold : Stmt := top 22
theorem sc_can_hold : FnScope ["zone", "looks"] ["zone", "looks"] (defScope s_can_hold) := ⟨rfl, rfl, rfl, by decide +kernel, rfl, by decide +kernel, by decide +kernel⟩
theorem fn_can_hold (T : Txt K mg) {f : Addr} {fd : FuncData} (hm : mg "can_hold" = some (.ref f)) (F : Fun K "can_hold" "can_hold" s_can_hold f fd) (G_looks_fit : FnD P w K mg base 2 "looks_fit" s_looks_fit ["zone", "looks"] m_looks_fit) (G_need_looks : FnD P w K mg base 5 "need_looks" s_need_looks ["zone", "looks"] m_need_looks) (G_need_zone : FnD P w K mg base 3 "need_zone" s_need_zone ["zone"] m_need_zone) : FnD P w K mg base 6 "can_hold" s_can_hold ["zone", "looks"] m_can_hold := by
  refine fnd_mk (np := 2) (nN := 2) (k := 5) hm F (F.binds fun _ _ _ _ _ _ us hl => match us, hl with | [_, _], _ => rfl) sc_can_hold rfl rfl fun cdv A outer s H E hr => ?_
  have tk : Takes (cxOf (L2.CX P w) P w K mg base ["zone", "looks"] "can_hold" (defScope s_can_hold) f cdv A outer s H E) (fun cls d _ H => E cls d H) := takes_of rfl rfl rfl rfl
  exact (dss_cons (ds_expr (d_call G_need_zone hr tk (da_cons (d_var 0) da_nil))) (dss_cons (ds_expr (d_call G_need_looks hr tk (da_cons (d_var 0) (da_cons (d_var 1) da_nil)))) (dss_one (ds_ret (d_call G_looks_fit hr tk (da_cons (d_var 0) (da_cons (d_var 1) da_nil)))))))
abbrev s_early_table : Stmt := top 23
theorem sc_early_table : FnScope ["zone", "looks"] ["zone", "looks"] (defScope s_early_table) := ⟨rfl, rfl, rfl, by decide +kernel, rfl, by decide +kernel, by decide +kernel⟩
theorem fn_early_table (T : Txt K mg) {f : Addr} {fd : FuncData} (hm : mg "early_table" = some (.ref f)) (F : Fun K "early_table" "early_table" s_early_table f fd) (G_early_of : FnD P w K mg base 1 "early_of" s_early_of ["zone", "looks"] m_early_of) (G_need_looks : FnD P w K mg base 5 "need_looks" s_need_looks ["zone", "looks"] m_need_looks) (G_need_zone : FnD P w K mg base 3 "need_zone" s_need_zone ["zone"] m_need_zone) : FnD P w K mg base 6 "early_table" s_early_table ["zone", "looks"] m_early_table := by
  refine fnd_mk (np := 2) (nN := 2) (k := 5) hm F (F.binds fun _ _ _ _ _ _ us hl => match us, hl with | [_, _], _ => rfl) sc_early_table rfl rfl fun cdv A outer s H E hr => ?_
  have tk : Takes (cxOf (L2.CX P w) P w K mg base ["zone", "looks"] "early_table" (defScope s_early_table) f cdv A outer s H E) (fun cls d _ H => E cls d H) := takes_of rfl rfl rfl rfl
  exact (dss_cons (ds_expr (d_call G_need_zone hr tk (da_cons (d_var 0) da_nil))) (dss_cons (ds_expr (d_call G_need_looks hr tk (da_cons (d_var 0) (da_cons (d_var 1) da_nil)))) (dss_one (ds_ret (d_call G_early_of hr tk (da_cons (d_var 0) (da_cons (d_var 1) da_nil)))))))
abbrev s_offsets_left : Stmt := top 24
theorem sc_offsets_left : FnScope ["zone", "looks", "moment"] ["zone", "looks", "moment"] (defScope s_offsets_left) := ⟨rfl, rfl, rfl, by decide +kernel, rfl, by decide +kernel, by decide +kernel⟩
theorem fn_offsets_left (T : Txt K mg) {f : Addr} {fd : FuncData} (hm : mg "offsets_left" = some (.ref f)) (F : Fun K "offsets_left" "offsets_left" s_offsets_left f fd) (G_choices_at : FnD P w K mg base 3 "choices_at" s_choices_at ["zone", "looks", "moment"] m_choices_at) (G_need_number : FnD P w K mg base 2 "need_number" s_need_number ["number"] m_need_number) (G_need_looks : FnD P w K mg base 5 "need_looks" s_need_looks ["zone", "looks"] m_need_looks) (G_need_zone : FnD P w K mg base 3 "need_zone" s_need_zone ["zone"] m_need_zone) : FnD P w K mg base 6 "offsets_left" s_offsets_left ["zone", "looks", "moment"] m_offsets_left := by
  refine fnd_mk (np := 3) (nN := 3) (k := 5) hm F (F.binds fun _ _ _ _ _ _ us hl => match us, hl with | [_, _, _], _ => rfl) sc_offsets_left rfl rfl fun cdv A outer s H E hr => ?_
  have tk : Takes (cxOf (L2.CX P w) P w K mg base ["zone", "looks", "moment"] "offsets_left" (defScope s_offsets_left) f cdv A outer s H E) (fun cls d _ H => E cls d H) := takes_of rfl rfl rfl rfl
  exact (dss_cons (ds_expr (d_call G_need_zone hr tk (da_cons (d_var 0) da_nil))) (dss_cons (ds_expr (d_call G_need_looks hr tk (da_cons (d_var 0) (da_cons (d_var 1) da_nil)))) (dss_cons (ds_expr (d_call G_need_number hr tk (da_cons (d_var 2) da_nil))) (dss_one (ds_ret (d_call G_choices_at hr tk (da_cons (d_var 0) (da_cons (d_var 1) (da_cons (d_var 2) da_nil)))))))))
abbrev s__law_digits : Stmt := top 26
theorem sc__law_digits : FnScope ["_law_cell", "_law_mixed", "_law_full", "_law_k"] ["_law_cell"] (defScope s__law_digits) := ⟨rfl, rfl, rfl, by decide +kernel, rfl, by decide +kernel, by decide +kernel⟩
theorem fn__law_digits (T : Txt K mg) {f : Addr} {fd : FuncData} (hm : mg "_law_digits" = some (.ref f)) (F : Fun K "_law_digits" "_law_digits" s__law_digits f fd) : FnD P w K mg base 1 "_law_digits" s__law_digits ["_law_cell"] m_law_digits := by
  refine fnd_mk (np := 1) (nN := 4) (k := 0) hm F (F.binds fun _ _ _ _ _ _ us hl => match us, hl with | [_], _ => rfl) sc__law_digits rfl rfl fun cdv A outer s H E hr => ?_
  have tk : Takes (cxOf (L2.CX P w) P w K mg base ["_law_cell", "_law_mixed", "_law_full", "_law_k"] "_law_digits" (defScope s__law_digits) f cdv A outer s H E) (fun cls d _ H => E cls d H) := takes_of rfl rfl rfl rfl
  exact (dss_cons (ds_if (dt_cmp op_ge o_ge (d_var 0) (d_fold (d := .int 1000000000000000000) (d_op op_pow o_pow d_int d_int) (fun _ _ => rfl))) (dss_one (ds_ret (d_new (dl_lst (da_cons (d_op op_sub o_sub (d_var 0) (d_fold (d := .int 1000000000000000000) (d_op op_pow o_pow d_int d_int) (fun _ _ => rfl))) da_nil))))) dss_nil) (dss_cons (ds_set 1 sc__law_digits.nd (d_op op_addD o_add (d_op op_mod o_mod (d_callTy call_int1 c_int1 T.n_int (da_cons (d_var 0) da_nil)) (d_fold (d := .int 100000000000000000000000000000000000133) (d_op op_addD o_add (d_fold (d := .int 100000000000000000000000000000000000000) (d_op op_pow o_pow d_int d_int) (fun _ _ => rfl)) d_int) (fun _ _ => rfl))) d_int)) (dss_cons (ds_set 2 sc__law_digits.nd d_int) (dss_cons (ds_for (passes_of rfl) rfl (di_range1 (da_cons d_int da_nil) T.n_range) (dg_name 3 sc__law_digits.nd) (dss_cons (ds_set 1 sc__law_digits.nd (d_op op_mod o_mod (d_op op_addD o_add (d_op op_addD o_add (d_op op_addD o_add (d_op op_mulW o_mul (d_var 1) (d_var 1)) (d_op op_mulW o_mul d_int (d_var 1))) (d_op op_mulW o_mul d_int (d_var 3))) d_int) (d_fold (d := .int 100000000000000000000000000000000000000009) (d_op op_addD o_add (d_fold (d := .int 100000000000000000000000000000000000000000) (d_op op_pow o_pow d_int d_int) (fun _ _ => rfl)) d_int) (fun _ _ => rfl)))) (dss_one (ds_if (dt_cmp op_gt o_gt (d_var 3) d_int) (dss_one (ds_set 2 sc__law_digits.nd (d_op op_addD o_add (d_op op_mulW o_mul (d_var 2) (d_fold (d := .int 100000000000000000000000000000000000000000) (d_op op_pow o_pow d_int d_int) (fun _ _ => rfl))) (d_var 1)))) dss_nil)))) (dss_one (ds_ret (d_new (dl_lst (da_cons (d_var 2) da_nil)))))))))
abbrev s__law_draw : Stmt := top 27
theorem sc__law_draw : FnScope ["_law_pot", "_law_upto", "_law_digit"] ["_law_pot", "_law_upto"] (defScope s__law_draw) := ⟨rfl, rfl, rfl, by decide +kernel, rfl, by decide +kernel, by decide +kernel⟩
theorem fn__law_draw (T : Txt K mg) {f : Addr} {fd : FuncData} (hm : mg "_law_draw" = some (.ref f)) (F : Fun K "_law_draw" "_law_draw" s__law_draw f fd) : FnD P w K mg base 1 "_law_draw" s__law_draw ["_law_pot", "_law_upto"] m_law_draw := by
  refine fnd_mk (np := 2) (nN := 3) (k := 0) hm F (F.binds fun _ _ _ _ _ _ us hl => match us, hl with | [_, _], _ => rfl) sc__law_draw rfl rfl fun cdv A outer s H E hr => ?_
  have tk : Takes (cxOf (L2.CX P w) P w K mg base ["_law_pot", "_law_upto", "_law_digit"] "_law_draw" (defScope s__law_draw) f cdv A outer s H E) (fun cls d _ H => E cls d H) := takes_of rfl rfl rfl rfl
  exact (dss_cons (ds_set 2 sc__law_draw.nd (d_op op_mod o_mod (d_callTy call_int1 c_int1 T.n_int (da_cons (d_ix ix_seq o_ix (d_var 0) d_int) da_nil)) (d_var 1))) (dss_cons (ds_setIx (d_op op_fdivW o_fdiv (d_ix ix_seq o_ix (d_var 0) d_int) (d_var 1)) (d_var 0) d_int) (dss_one (ds_ret (d_var 2)))))
abbrev s__law_any_hour : Stmt := top 28
theorem sc__law_any_hour : FnScope ["_law_pot", "_law_kind"] ["_law_pot"] (defScope s__law_any_hour) := ⟨rfl, rfl, rfl, by decide +kernel, rfl, by decide +kernel, by decide +kernel⟩
theorem fn__law_any_hour (T : Txt K mg) {f : Addr} {fd : FuncData} (hm : mg "_law_any_hour" = some (.ref f)) (F : Fun K "_law_any_hour" "_law_any_hour" s__law_any_hour f fd) (G__law_draw : FnD P w K mg base 1 "_law_draw" s__law_draw ["_law_pot", "_law_upto"] m_law_draw) : FnD P w K mg base 2 "_law_any_hour" s__law_any_hour ["_law_pot"] m_law_any_hour := by
  refine fnd_mk (np := 1) (nN := 2) (k := 1) hm F (F.binds fun _ _ _ _ _ _ us hl => match us, hl with | [_], _ => rfl) sc__law_any_hour rfl rfl fun cdv A outer s H E hr => ?_
  have tk : Takes (cxOf (L2.CX P w) P w K mg base ["_law_pot", "_law_kind"] "_law_any_hour" (defScope s__law_any_hour) f cdv A outer s H E) (fun cls d _ H => E cls d H) := takes_of rfl rfl rfl rfl
  exact (dss_cons (ds_set 1 sc__law_any_hour.nd (d_call G__law_draw hr tk (da_cons (d_var 0) (da_cons d_int da_nil)))) (dss_cons (ds_if (dt_cmp op_lt o_lt (d_var 1) d_int) (dss_one (ds_ret (d_op op_sub o_sub (d_call G__law_draw hr tk (da_cons (d_var 0) (da_cons d_int da_nil))) d_int))) dss_nil) (dss_cons (ds_if (dt_cmp (op_eqA hr.units) o_eq (d_var 1) d_int) (dss_one (ds_ret (d_op op_sub o_sub (d_call G__law_draw hr tk (da_cons (d_var 0) (da_cons (d_fold (d := .int 1800000000001) (d_op op_addD o_add (d_fold (d := .int 1800000000000) (d_op op_mulW o_mul d_int (d_fold (d := .int 100000000000) (d_op op_pow o_pow d_int d_int) (fun _ _ => rfl))) (fun _ _ => rfl)) d_int) (fun _ _ => rfl)) da_nil))) (d_fold (d := .int 900000000000) (d_op op_mulW o_mul d_int (d_fold (d := .int 100000000000) (d_op op_pow o_pow d_int d_int) (fun _ _ => rfl))) (fun _ _ => rfl))))) dss_nil) (dss_one (ds_ret (d_ix ix_seq o_ix (d_fz (dl_lst (da_cons d_int (da_cons d_int (da_cons (d_fold (d := .int (-1)) (d_un un_neg o_neg d_int) (fun _ _ => rfl)) (da_cons d_int (da_cons (d_fold (d := .int (-525600)) (d_un un_neg o_neg d_int) (fun _ _ => rfl)) (da_cons (d_fold (d := .int 999799999999) (d_op op_sub o_sub (d_fold (d := .int 999999999999) (d_op op_sub o_sub (d_fold (d := .int 1000000000000) (d_op op_pow o_pow d_int d_int) (fun _ _ => rfl)) d_int) (fun _ _ => rfl)) (d_fold (d := .int 200000000) (d_op op_mulW o_mul d_int (d_fold (d := .int 100000000) (d_op op_pow o_pow d_int d_int) (fun _ _ => rfl))) (fun _ _ => rfl))) (fun _ _ => rfl)) (da_cons (d_fold (d := .int (-999999999999)) (d_op op_sub o_sub d_int (d_fold (d := .int 1000000000000) (d_op op_pow o_pow d_int d_int) (fun _ _ => rfl))) (fun _ _ => rfl)) da_nil))))))))) (d_call G__law_draw hr tk (da_cons (d_var 0) (da_cons d_int da_nil)))))))))
abbrev s__law_shift_at : Stmt := top 29
theorem sc__law_shift_at : FnScope ["_law_chart", "_law_hour", "_law_held", "_law_at", "_law_shift"] ["_law_chart", "_law_hour"] (defScope s__law_shift_at) := ⟨rfl, rfl, rfl, by decide +kernel, rfl, by decide +kernel, by decide +kernel⟩
theorem fn__law_shift_at (T : Txt K mg) {f : Addr} {fd : FuncData} (hm : mg "_law_shift_at" = some (.ref f)) (F : Fun K "_law_shift_at" "_law_shift_at" s__law_shift_at f fd) : FnD P w K mg base 1 "_law_shift_at" s__law_shift_at ["_law_chart", "_law_hour"] m_law_shift_at := by
  refine fnd_mk (np := 2) (nN := 5) (k := 0) hm F (F.binds fun _ _ _ _ _ _ us hl => match us, hl with | [_, _], _ => rfl) sc__law_shift_at rfl rfl fun cdv A outer s H E hr => ?_
  have tk : Takes (cxOf (L2.CX P w) P w K mg base ["_law_chart", "_law_hour", "_law_held", "_law_at", "_law_shift"] "_law_shift_at" (defScope s__law_shift_at) f cdv A outer s H E) (fun cls d _ H => E cls d H) := takes_of rfl rfl rfl rfl
  exact (dss_cons (ds_set 2 sc__law_shift_at.nd (d_ix ix_seq o_ix (d_var 0) d_int)) (dss_cons (ds_for (passes_of rfl) rfl (di_seq (d_ix ix_seq o_ix (d_var 0) d_int)) (dg_tup rfl (dgs_cons (dg_name 3 sc__law_shift_at.nd) (dgs_cons (dg_name 4 sc__law_shift_at.nd) dgs_nil))) (dss_one (ds_if (dt_cmp op_le o_le (d_var 3) (d_var 1)) (dss_one (ds_set 2 sc__law_shift_at.nd (d_var 4))) dss_nil))) (dss_one (ds_ret (d_var 2)))))
abbrev s__law_whole : Stmt := top 30
theorem sc__law_whole : FnScope ["_law_thing"] ["_law_thing"] (defScope s__law_whole) := ⟨rfl, rfl, rfl, by decide +kernel, rfl, by decide +kernel, by decide +kernel⟩
theorem fn__law_whole (T : Txt K mg) {f : Addr} {fd : FuncData} (hm : mg "_law_whole" = some (.ref f)) (F : Fun K "_law_whole" "_law_whole" s__law_whole f fd) : FnD P w K mg base 1 "_law_whole" s__law_whole ["_law_thing"] m_law_whole := by
  refine fnd_mk (np := 1) (nN := 1) (k := 0) hm F (F.binds fun _ _ _ _ _ _ us hl => match us, hl with | [_], _ => rfl) sc__law_whole rfl rfl fun cdv A outer s H E hr => ?_
  have tk : Takes (cxOf (L2.CX P w) P w K mg base ["_law_thing"] "_law_whole" (defScope s__law_whole) f cdv A outer s H E) (fun cls d _ H => E cls d H) := takes_of rfl rfl rfl rfl
  exact (dss_one (ds_ret (d_and (d_isi .int (d_var 0) T.n_isinstance T.n_int) (d_one (d_not (d_isi .bl (d_var 0) T.n_isinstance T.n_bool))))))
abbrev s__law_same : Stmt := top 31
theorem sc__law_same : FnScope ["_law_told", "_law_due", "_law_k"] ["_law_told", "_law_due"] (defScope s__law_same) := ⟨rfl, rfl, rfl, by decide +kernel, rfl, by decide +kernel, by decide +kernel⟩
theorem fn__law_same (T : Txt K mg) {f : Addr} {fd : FuncData} (hm : mg "_law_same" = some (.ref f)) (F : Fun K "_law_same" "_law_same" s__law_same f fd) (G__law_whole : FnD P w K mg base 1 "_law_whole" s__law_whole ["_law_thing"] m_law_whole) : ∀ n : Nat, FnD P w K mg base (2 + n) "_law_same" s__law_same ["_law_told", "_law_due"] (m_law_same n)
  | 0 => fnd_bad hm F (F.binds fun _ _ _ _ _ _ us hl => match us, hl with | [_, _], _ => rfl)
  | n + 1 => by
    have GSELF := fn__law_same T hm F G__law_whole n
    refine fnd_mk (np := 2) (nN := 3) (k := 2 + n) hm F (F.binds fun _ _ _ _ _ _ us hl => match us, hl with | [_, _], _ => rfl) sc__law_same rfl rfl fun cdv A outer s H E hr => ?_
    have tk : Takes (cxOf (L2.CX P w) P w K mg base ["_law_told", "_law_due", "_law_k"] "_law_same" (defScope s__law_same) f cdv A outer s H E) (fun cls d _ H => E cls d H) := takes_of rfl rfl rfl rfl
    exact (dss_cons (ds_if (dt_val (d_isiT [.tup, .lst] (d_var 1) (pa_cons (pe_bltn (v := .ty "tuple") rfl T.n_tuple (by decide +kernel) rfl) (pa_cons (pe_bltn (v := .ty "list") rfl T.n_list (by decide +kernel) rfl) pa_nil)) (fun _ _ _ => rfl) T.n_isinstance)) (dss_cons (ds_if (DT.w (dw_or (dt_not (dt_val (d_isiT [.tup, .lst] (d_var 0) (pa_cons (pe_bltn (v := .ty "tuple") rfl T.n_tuple (by decide +kernel) rfl) (pa_cons (pe_bltn (v := .ty "list") rfl T.n_list (by decide +kernel) rfl) pa_nil)) (fun _ _ _ => rfl) T.n_isinstance))) (dw_or1 (dt_cmp (op_neA hr.units) o_ne (d_isi .lst (d_var 0) T.n_isinstance T.n_list) (d_isi .lst (d_var 1) T.n_isinstance T.n_list))))) (dss_one (ds_ret d_bl)) dss_nil) (dss_one (ds_ret (d_and (d_cmp (op_eqA hr.units) o_eq (d_callB call_len c_len T.n_len (da_cons (d_var 0) da_nil)) (d_callB call_len c_len T.n_len (da_cons (d_var 1) da_nil))) (d_one (d_callB (cr_all rfl) c_all T.n_all (da_cons (d_fz (dl_lc (own := [("_law_k", 2)]) rfl sc__law_same.nd (di_range1 (da_cons (d_callB call_len c_len T.n_len (da_cons (d_var 1) da_nil)) da_nil) T.n_range) (blkOk_by (own := [("_law_k", 2)]) (N := ["_law_told", "_law_due", "_law_k"]) (sc := defScope s__law_same) (by decide +kernel)) (fun _ _ _ _ _ => (dg_name 2 sc__law_same.nd)) (fun _ _ _ _ _ => dts_nil) (fun _ _ _ _ _ => (d_call GSELF hr takes0 (da_cons (d_ix ix_seq o_ix (d_var 0) (d_var 2)) (da_cons (d_ix ix_seq o_ix (d_var 1) (d_var 2)) da_nil)) (by omega))))) da_nil))))))) dss_nil) (dss_cons (ds_if (dt_cmp op_isN o_isN (d_var 1) d_non) (dss_one (ds_ret (d_cmp op_isN o_isN (d_var 0) d_non))) dss_nil) (dss_cons (ds_if (dt_val (d_isi .bl (d_var 1) T.n_isinstance T.n_bool)) (dss_one (ds_ret (d_and (d_isi .bl (d_var 0) T.n_isinstance T.n_bool) (d_one (d_cmp (op_eqA hr.units) o_eq (d_var 0) (d_var 1)))))) dss_nil) (dss_cons (ds_if (dt_val (d_isi .int (d_var 1) T.n_isinstance T.n_int)) (dss_one (ds_ret (d_and (d_call G__law_whole hr tk (da_cons (d_var 0) da_nil) (by omega)) (d_one (d_cmp (op_eqA hr.units) o_eq (d_var 0) (d_var 1)))))) dss_nil) (dss_cons (ds_if (dt_val (d_isi .str (d_var 1) T.n_isinstance T.n_str)) (dss_one (ds_ret (d_and (d_isi .str (d_var 0) T.n_isinstance T.n_str) (d_one (d_cmp (op_eqA hr.units) o_eq (d_var 0) (d_var 1)))))) dss_nil) (dss_one (ds_ret (d_and (d_not (d_isiT [.tup, .lst, .int, .str] (d_var 0) (pa_cons (pe_bltn (v := .ty "tuple") rfl T.n_tuple (by decide +kernel) rfl) (pa_cons (pe_bltn (v := .ty "list") rfl T.n_list (by decide +kernel) rfl) (pa_cons (pe_bltn (v := .ty "int") rfl T.n_int (by decide +kernel) rfl) (pa_cons (pe_bltn (v := .ty "str") rfl T.n_str (by decide +kernel) rfl) pa_nil)))) (fun _ _ _ => rfl) T.n_isinstance)) (d_one (d_cmp op_notN o_notN (d_var 0) d_non))))))))))
abbrev s__law_charts : Stmt := top 32
theorem sc__law_charts : FnScope ["_law_region", "_law_low", "_law_high", "_law_charts_here", "_law_hour", "_law_more", "_law_held", "_law_jumps", "_law_now", "_law_shift", "_law_at"] ["_law_region", "_law_low", "_law_high"] (defScope s__law_charts) := ⟨rfl, rfl, rfl, by decide +kernel, rfl, by decide +kernel, by decide +kernel⟩
theorem fn__law_charts (T : Txt K mg) {f : Addr} {fd : FuncData} (hm : mg "_law_charts" = some (.ref f)) (F : Fun K "_law_charts" "_law_charts" s__law_charts f fd) : FnD P w K mg base 1 "_law_charts" s__law_charts ["_law_region", "_law_low", "_law_high"] m_law_charts := by
  refine fnd_mk (np := 3) (nN := 11) (k := 0) hm F (F.binds fun _ _ _ _ _ _ us hl => match us, hl with | [_, _, _], _ => rfl) sc__law_charts rfl rfl fun cdv A outer s H E hr => ?_
  have tk : Takes (cxOf (L2.CX P w) P w K mg base ["_law_region", "_law_low", "_law_high", "_law_charts_here", "_law_hour", "_law_more", "_law_held", "_law_jumps", "_law_now", "_law_shift", "_law_at"] "_law_charts" (defScope s__law_charts) f cdv A outer s H E) (fun cls d _ H => E cls d H) := takes_of rfl rfl rfl rfl
  exact (dss_cons (ds_setLcA (mw := mFz) 3 (own := [("_law_shift", 9)]) (rd_fz) rfl sc__law_charts.nd (d_ix ix_seq o_ix (d_var 0) d_int) (blkOk_by (own := [("_law_shift", 9)]) (N := ["_law_region", "_law_low", "_law_high", "_law_charts_here", "_law_hour", "_law_more", "_law_held", "_law_jumps", "_law_now", "_law_shift", "_law_at"]) (sc := defScope s__law_charts) (by decide +kernel)) (fun _ _ _ _ _ => (dg_name 9 sc__law_charts.nd)) (fun _ _ _ _ _ => dts_nil) (fun _ _ _ _ _ => (d_tup (da_cons (d_var 9) (da_cons (d_tup da_nil) da_nil))))) (dss_cons (ds_for (passes_of rfl) rfl (di_range2 (da_cons (d_var 1) (da_cons (d_op op_addD o_add (d_var 2) d_int) da_nil)) T.n_range) (dg_name 4 sc__law_charts.nd) (dss_cons (ds_set 5 sc__law_charts.nd (d_fz (dl_lst da_nil))) (dss_cons (ds_forA (passes_of rfl) rfl (d_var 3) (dg_any rfl (dgs_cons (dg_name 6 sc__law_charts.nd) (dgs_cons (dg_name 7 sc__law_charts.nd) dgs_nil))) (dss_one (ds_if (DT.w (dw_or (dt_cmp (op_eqA hr.units) o_eq (d_callB call_len c_len T.n_len (da_cons (d_var 7) da_nil)) d_int) (dw_or1 (dt_cmp op_le o_le (d_op op_addD o_add (d_ix ix_seq o_ix (d_ix ix_seq o_ix (d_var 7) (d_fold (d := .int (-1)) (d_un un_neg o_neg d_int) (fun _ _ => rfl))) d_int) (d_ix ix_seq o_ix (d_var 0) d_int)) (d_var 4))))) (dss_cons (ds_set 8 sc__law_charts.nd (d_ix ix_seq o_ix (d_fz (dl_cat (dl_lst (da_cons (d_var 6) da_nil)) (dl_lcA (own := [("_law_at", 10), ("_law_shift", 9)]) rfl sc__law_charts.nd (d_var 7) (blkOk_by (own := [("_law_at", 10), ("_law_shift", 9)]) (N := ["_law_region", "_law_low", "_law_high", "_law_charts_here", "_law_hour", "_law_more", "_law_held", "_law_jumps", "_law_now", "_law_shift", "_law_at"]) (sc := defScope s__law_charts) (by decide +kernel)) (fun _ _ _ _ _ => (dg_any rfl (dgs_cons (dg_name 10 sc__law_charts.nd) (dgs_cons (dg_name 9 sc__law_charts.nd) dgs_nil)))) (fun _ _ _ _ _ => dts_nil) (fun _ _ _ _ _ => (d_var 9))))) (d_fold (d := .int (-1)) (d_un un_neg o_neg d_int) (fun _ _ => rfl)))) (dss_one (ds_set 5 sc__law_charts.nd (d_fz (dl_catV (d_var 5) (dl_lcA (own := [("_law_shift", 9)]) rfl sc__law_charts.nd (d_ix ix_seq o_ix (d_var 0) d_int) (blkOk_by (own := [("_law_shift", 9)]) (N := ["_law_region", "_law_low", "_law_high", "_law_charts_here", "_law_hour", "_law_more", "_law_held", "_law_jumps", "_law_now", "_law_shift", "_law_at"]) (sc := defScope s__law_charts) (by decide +kernel)) (fun _ _ _ _ _ => (dg_name 9 sc__law_charts.nd)) (fun _ _ _ _ _ => (dts_one (dt_cmp (op_neA hr.units) o_ne (d_var 9) (d_var 8)))) (fun _ _ _ _ _ => (d_tup (da_cons (d_var 6) (da_cons (d_op op_addD o_add (d_var 7) (d_tup (da_cons (d_tup (da_cons (d_var 4) (da_cons (d_var 9) da_nil))) da_nil))) da_nil)))))))))) dss_nil))) (dss_one (ds_set 3 sc__law_charts.nd (d_fz (dl_catW (d_var 3) (d_var 5)))))))) (dss_one (ds_ret (d_var 3)))))
abbrev s__law_small : Stmt := top 33
theorem sc__law_small : FnScope ["_law_pot", "_law_low", "_law_shifts", "_law_picked"] ["_law_pot"] (defScope s__law_small) := ⟨rfl, rfl, rfl, by decide +kernel, rfl, by decide +kernel, by decide +kernel⟩
theorem fn__law_small (T : Txt K mg) {f : Addr} {fd : FuncData} (hm : mg "_law_small" = some (.ref f)) (F : Fun K "_law_small" "_law_small" s__law_small f fd) (G__law_draw : FnD P w K mg base 1 "_law_draw" s__law_draw ["_law_pot", "_law_upto"] m_law_draw) : FnD P w K mg base 2 "_law_small" s__law_small ["_law_pot"] m_law_small := by
  refine fnd_mk (np := 1) (nN := 4) (k := 1) hm F (F.binds fun _ _ _ _ _ _ us hl => match us, hl with | [_], _ => rfl) sc__law_small rfl rfl fun cdv A outer s H E hr => ?_
  have tk : Takes (cxOf (L2.CX P w) P w K mg base ["_law_pot", "_law_low", "_law_shifts", "_law_picked"] "_law_small" (defScope s__law_small) f cdv A outer s H E) (fun cls d _ H => E cls d H) := takes_of rfl rfl rfl rfl
  exact (dss_cons (ds_set 1 sc__law_small.nd (d_op op_sub o_sub (d_call G__law_draw hr tk (da_cons (d_var 0) (da_cons d_int da_nil))) d_int)) (dss_cons (ds_set 2 sc__law_small.nd (d_fz (dl_lst (da_cons (d_tup (da_cons (d_var 1) (da_cons (d_op op_addD o_add (d_var 1) d_int) da_nil))) (da_cons (d_tup (da_cons (d_var 1) (da_cons (d_op op_addD o_add (d_var 1) d_int) da_nil))) (da_cons (d_tup (da_cons (d_var 1) (da_cons (d_op op_addD o_add (d_var 1) d_int) (da_cons (d_op op_addD o_add (d_var 1) d_int) da_nil)))) (da_cons (d_tup (da_cons (d_var 1) (da_cons (d_op op_addD o_add (d_var 1) d_int) da_nil))) (da_cons (d_tup (da_cons (d_var 1) (da_cons (d_op op_addD o_add (d_var 1) d_int) (da_cons (d_op op_addD o_add (d_var 1) d_int) da_nil)))) da_nil)))))))) (dss_cons (ds_set 3 sc__law_small.nd (d_ix ix_seq o_ix (d_var 2) (d_call G__law_draw hr tk (da_cons (d_var 0) (da_cons d_int da_nil))))) (dss_one (ds_ret (d_tup (da_cons (d_var 3) (da_cons (d_op op_addD o_add (d_op op_addD o_add (d_op op_sub o_sub (d_ix ix_seq o_ix (d_var 3) (d_fold (d := .int (-1)) (d_un un_neg o_neg d_int) (fun _ _ => rfl))) (d_var 1)) d_int) (d_call G__law_draw hr tk (da_cons (d_var 0) (da_cons d_int da_nil)))) da_nil))))))))
abbrev s_law : Stmt := top 34
theorem sc_law : FnScope ["_law_script", "_law_cell", "_law_pot", "_law_region", "_law_base", "_law_wide", "_law_hours", "_law_sights", "_law_charts_here", "_law_having", "_law_told", "_law_fewest", "_law_jumps", "_law_hour", "_law_due", "_law_k", "_law_chart", "_law_at", "_law_shift"] ["_law_script"] (defScope s_law) := ⟨rfl, rfl, rfl, by decide +kernel, rfl, by decide +kernel, by decide +kernel⟩
theorem fn_law (T : Txt K mg) {f : Addr} {fd : FuncData} (hm : mg "law" = some (.ref f)) (F : Fun K "law" "law" s_law f fd) (G__law_same : FnD P w K mg base 32 "_law_same" s__law_same ["_law_told", "_law_due"] (m_law_same 30)) (G_offsets_left : FnD P w K mg base 6 "offsets_left" s_offsets_left ["zone", "looks", "moment"] m_offsets_left) (G__law_shift_at : FnD P w K mg base 1 "_law_shift_at" s__law_shift_at ["_law_chart", "_law_hour"] m_law_shift_at) (G__law_draw : FnD P w K mg base 1 "_law_draw" s__law_draw ["_law_pot", "_law_upto"] m_law_draw) (G_early_table : FnD P w K mg base 6 "early_table" s_early_table ["zone", "looks"] m_early_table) (G_can_hold : FnD P w K mg base 6 "can_hold" s_can_hold ["zone", "looks"] m_can_hold) (G__law_charts : FnD P w K mg base 1 "_law_charts" s__law_charts ["_law_region", "_law_low", "_law_high"] m_law_charts) (G__law_any_hour : FnD P w K mg base 2 "_law_any_hour" s__law_any_hour ["_law_pot"] m_law_any_hour) (G__law_small : FnD P w K mg base 2 "_law_small" s__law_small ["_law_pot"] m_law_small) (G__law_digits : FnD P w K mg base 1 "_law_digits" s__law_digits ["_law_cell"] m_law_digits) : FnD P w K mg base 33 "law" s_law ["_law_script"] m_law_k13_whole_all_tables := by
  refine fnd_mk (np := 1) (nN := 19) (k := 32) hm F (F.binds fun _ _ _ _ _ _ us hl => match us, hl with | [_], _ => rfl) sc_law rfl rfl fun cdv A outer s H E hr => ?_
  have tk : Takes (cxOf (L2.CX P w) P w K mg base ["_law_script", "_law_cell", "_law_pot", "_law_region", "_law_base", "_law_wide", "_law_hours", "_law_sights", "_law_charts_here", "_law_having", "_law_told", "_law_fewest", "_law_jumps", "_law_hour", "_law_due", "_law_k", "_law_chart", "_law_at", "_law_shift"] "law" (defScope s_law) f cdv A outer s H E) (fun cls d _ H => E cls d H) := takes_of rfl rfl rfl rfl
  exact (dss_cons (ds_for (passes_of rfl) rfl (di_seq (d_fz (dl_cat (dl_lst (da_cons (d_fold (d := .int 1000000000000000000000000000000000000338015576620947713920054) (d_op op_addD o_add (d_fold (d := .int 1000000000000000000000000000000000000000000000000000000000000) (d_op op_pow o_pow d_int d_int) (fun _ _ => rfl)) d_int) (fun _ _ => rfl)) da_nil)) (dl_slL (d_var 0) do_none (do_some d_int))))) (dg_name 1 sc_law.nd) (dss_cons (ds_set 2 sc_law.nd (d_call G__law_digits hr tk (da_cons (d_var 1) da_nil))) (dss_cons (ds_set 3 sc_law.nd (d_call G__law_small hr tk (da_cons (d_var 2) da_nil))) (dss_cons (ds_set 4 sc_law.nd (d_call G__law_any_hour hr tk (da_cons (d_var 2) da_nil))) (dss_cons (ds_set 5 sc_law.nd (d_ix ix_seq o_ix (d_fz (dl_lst (da_cons d_int (da_cons d_int da_nil)))) (d_op op_sub o_sub (d_callB call_len c_len T.n_len (da_cons (d_ix ix_seq o_ix (d_var 3) d_int) da_nil)) d_int))) (dss_cons (ds_set 6 sc_law.nd (d_fz (dl_sortSet T.n_sorted T.n_set rfl (d_fz (dl_lc (own := [("_law_k", 15)]) rfl sc_law.nd (di_range1 (da_cons (d_call G__law_draw hr tk (da_cons (d_var 2) (da_cons d_int da_nil))) da_nil) T.n_range) (blkOk_by (own := [("_law_k", 15)]) (N := ["_law_script", "_law_cell", "_law_pot", "_law_region", "_law_base", "_law_wide", "_law_hours", "_law_sights", "_law_charts_here", "_law_having", "_law_told", "_law_fewest", "_law_jumps", "_law_hour", "_law_due", "_law_k", "_law_chart", "_law_at", "_law_shift"]) (sc := defScope s_law) (by decide +kernel)) (fun _ _ _ _ _ => (dg_name 15 sc_law.nd)) (fun _ _ _ _ _ => dts_nil) (fun _ _ _ _ _ => (d_op op_addD o_add (d_var 4) (d_call G__law_draw hr takes0 (da_cons (d_var 2) (da_cons (d_op op_addD o_add (d_var 5) d_int) da_nil)))))))))) (dss_cons (ds_set 7 sc_law.nd (d_callTy call_tuple_of c_tuple T.n_tuple (da_cons (d_fz (dl_lcA (own := [("_law_hour", 13)]) rfl sc_law.nd (d_var 6) (blkOk_by (own := [("_law_hour", 13)]) (N := ["_law_script", "_law_cell", "_law_pot", "_law_region", "_law_base", "_law_wide", "_law_hours", "_law_sights", "_law_charts_here", "_law_having", "_law_told", "_law_fewest", "_law_jumps", "_law_hour", "_law_due", "_law_k", "_law_chart", "_law_at", "_law_shift"]) (sc := defScope s_law) (by decide +kernel)) (fun _ _ _ _ _ => (dg_name 13 sc_law.nd)) (fun _ _ _ _ _ => dts_nil) (fun _ _ _ _ _ => (d_tup (da_cons (d_var 13) (da_cons (d_ix ix_seq o_ix (d_ix ix_seq o_ix (d_var 3) d_int) (d_call G__law_draw hr takes0 (da_cons (d_var 2) (da_cons (d_callB call_len c_len T.n_len (da_cons (d_ix ix_seq o_ix (d_var 3) d_int) da_nil)) da_nil)))) da_nil)))))) da_nil))) (dss_cons (ds_set 8 sc_law.nd (d_call G__law_charts hr tk (da_cons (d_var 3) (da_cons (d_var 4) (da_cons (d_op op_addD o_add (d_var 4) (d_var 5)) da_nil))))) (dss_cons (ds_setLcA (mw := mFz) 9 (own := [("_law_chart", 16)]) (rd_fz) rfl sc_law.nd (d_var 8) (blkOk_by (own := [("_law_chart", 16)]) (N := ["_law_script", "_law_cell", "_law_pot", "_law_region", "_law_base", "_law_wide", "_law_hours", "_law_sights", "_law_charts_here", "_law_having", "_law_told", "_law_fewest", "_law_jumps", "_law_hour", "_law_due", "_law_k", "_law_chart", "_law_at", "_law_shift"]) (sc := defScope s_law) (by decide +kernel)) (fun _ _ _ _ _ => (dg_name 16 sc_law.nd)) (fun _ _ _ _ _ => (dts_one (dt_val (d_callB (cr_all rfl) c_all T.n_all (da_cons (d_fz (dl_lcA (own := [("_law_at", 17), ("_law_shift", 18)]) rfl sc_law.nd (d_var 7) (blkOk_by (own := [("_law_at", 17), ("_law_shift", 18)]) (N := ["_law_script", "_law_cell", "_law_pot", "_law_region", "_law_base", "_law_wide", "_law_hours", "_law_sights", "_law_charts_here", "_law_having", "_law_told", "_law_fewest", "_law_jumps", "_law_hour", "_law_due", "_law_k", "_law_chart", "_law_at", "_law_shift"]) (sc := (relS _ (defScope s_law))) (by decide +kernel)) (fun _ _ _ _ _ => (dg_any rfl (dgs_cons (dg_name 17 sc_law.nd) (dgs_cons (dg_name 18 sc_law.nd) dgs_nil)))) (fun _ _ _ _ _ => dts_nil) (fun _ _ _ _ _ => (d_cmp (op_eqA hr.units) o_eq (d_call G__law_shift_at hr takes0 (da_cons (d_var 16) (da_cons (d_var 17) da_nil))) (d_var 18))))) da_nil))))) (fun _ _ _ _ _ => (d_var 16))) (dss_cons (ds_if (dt_not (dt_val (d_call G__law_same hr tk (da_cons (d_call G_can_hold hr tk (da_cons (d_var 3) (da_cons (d_var 7) da_nil))) (da_cons (d_cmp op_gt o_gt (d_callB call_len c_len T.n_len (da_cons (d_var 9) da_nil)) d_int) da_nil))))) (dss_one (ds_ret d_bl)) dss_nil) (dss_cons (ds_set 10 sc_law.nd (d_call G_early_table hr tk (da_cons (d_var 3) (da_cons (d_var 7) da_nil)))) (dss_cons (ds_if (dt_cmp (op_eqA hr.units) o_eq (d_callB call_len c_len T.n_len (da_cons (d_var 9) da_nil)) d_int) (dss_one (ds_if (dt_cmp op_notN o_notN (d_var 10) d_non) (dss_one (ds_ret d_bl)) dss_nil)) (dss_one (ds_if (dt_cmp op_gt o_gt (d_callB call_len c_len T.n_len (da_cons (d_var 7) da_nil)) d_int) (dss_cons (ds_if (dt_cmp (op_notIn2 hr.u66) o_in2 (d_var 10) (d_var 9) (by rfl)) (dss_one (ds_ret d_bl)) dss_nil) (dss_cons (ds_setLcA (mw := mFz) 11 (own := [("_law_chart", 16)]) (rd_fz) rfl sc_law.nd (d_var 9) (blkOk_by (own := [("_law_chart", 16)]) (N := ["_law_script", "_law_cell", "_law_pot", "_law_region", "_law_base", "_law_wide", "_law_hours", "_law_sights", "_law_charts_here", "_law_having", "_law_told", "_law_fewest", "_law_jumps", "_law_hour", "_law_due", "_law_k", "_law_chart", "_law_at", "_law_shift"]) (sc := defScope s_law) (by decide +kernel)) (fun _ _ _ _ _ => (dg_name 16 sc_law.nd)) (fun _ _ _ _ _ => (dts_one (dt_cmp op_le o_le (d_callB call_len c_len T.n_len (da_cons (d_ix ix_seq o_ix (d_var 16) d_int) da_nil)) (d_callB call_len c_len T.n_len (da_cons (d_ix ix_seq o_ix (d_var 10) d_int) da_nil))))) (fun _ _ _ _ _ => (d_ix ix_seq o_ix (d_var 16) d_int))) (dss_one (ds_forA (passes_of rfl) rfl (d_var 11) (dg_name 12 sc_law.nd) (dss_one (ds_if (DT.w (dw_or (dt_cmp op_lt o_lt (d_callB call_len c_len T.n_len (da_cons (d_var 12) da_nil)) (d_callB call_len c_len T.n_len (da_cons (d_ix ix_seq o_ix (d_var 10) d_int) da_nil))) (dw_or1 (dt_val (d_callB (cr_any rfl) c_any T.n_any (da_cons (d_fz (dl_lc (own := [("_law_k", 15)]) rfl sc_law.nd (di_range1 (da_cons (d_callB call_len c_len T.n_len (da_cons (d_var 12) da_nil)) da_nil) T.n_range) (blkOk_by (own := [("_law_k", 15)]) (N := ["_law_script", "_law_cell", "_law_pot", "_law_region", "_law_base", "_law_wide", "_law_hours", "_law_sights", "_law_charts_here", "_law_having", "_law_told", "_law_fewest", "_law_jumps", "_law_hour", "_law_due", "_law_k", "_law_chart", "_law_at", "_law_shift"]) (sc := defScope s_law) (by decide +kernel)) (fun _ _ _ _ _ => (dg_name 15 sc_law.nd)) (fun _ _ _ _ _ => dts_nil) (fun _ _ _ _ _ => (d_cmp op_lt o_lt (d_ix ix_seq o_ix (d_ix ix_seq o_ix (d_var 12) (d_var 15)) d_int) (d_ix ix_seq o_ix (d_ix ix_seq o_ix (d_ix ix_seq o_ix (d_var 10) d_int) (d_var 15)) d_int))))) da_nil)))))) (dss_one (ds_ret d_bl)) dss_nil)))))) dss_nil))) (dss_one (ds_for (passes_of rfl) rfl (di_seq (d_fz (dl_lc (own := [("_law_k", 15)]) rfl sc_law.nd (di_range1 (da_cons d_int da_nil) T.n_range) (blkOk_by (own := [("_law_k", 15)]) (N := ["_law_script", "_law_cell", "_law_pot", "_law_region", "_law_base", "_law_wide", "_law_hours", "_law_sights", "_law_charts_here", "_law_having", "_law_told", "_law_fewest", "_law_jumps", "_law_hour", "_law_due", "_law_k", "_law_chart", "_law_at", "_law_shift"]) (sc := defScope s_law) (by decide +kernel)) (fun _ _ _ _ _ => (dg_name 15 sc_law.nd)) (fun _ _ _ _ _ => dts_nil) (fun _ _ _ _ _ => (d_op op_addD o_add (d_var 4) (d_call G__law_draw hr takes0 (da_cons (d_var 2) (da_cons (d_op op_addD o_add (d_var 5) d_int) da_nil)))))))) (dg_name 13 sc_law.nd) (dss_cons (ds_set 14 sc_law.nd (d_fz (dl_sortSet T.n_sorted T.n_set rfl (d_fz (dl_lcA (own := [("_law_chart", 16)]) rfl sc_law.nd (d_var 9) (blkOk_by (own := [("_law_chart", 16)]) (N := ["_law_script", "_law_cell", "_law_pot", "_law_region", "_law_base", "_law_wide", "_law_hours", "_law_sights", "_law_charts_here", "_law_having", "_law_told", "_law_fewest", "_law_jumps", "_law_hour", "_law_due", "_law_k", "_law_chart", "_law_at", "_law_shift"]) (sc := defScope s_law) (by decide +kernel)) (fun _ _ _ _ _ => (dg_name 16 sc_law.nd)) (fun _ _ _ _ _ => dts_nil) (fun _ _ _ _ _ => (d_call G__law_shift_at hr takes0 (da_cons (d_var 16) (da_cons (d_var 13) da_nil))))))))) (dss_one (ds_if (dt_not (dt_val (d_call G__law_same hr tk (da_cons (d_call G_offsets_left hr tk (da_cons (d_var 3) (da_cons (d_var 7) (da_cons (d_var 13) da_nil)))) (da_cons (d_var 14) da_nil))))) (dss_one (ds_ret d_bl)) dss_nil))))))))))))))))) (dss_one (ds_ret d_bl)))
end
theorem all_mk {l : PySem.W.OpenLaw} {w : World} {K : Frag} {h : Heap} {mg : Str → Option Value} {fa : Addr} (hlaw : LawTrue m_law_k13_whole_all_tables) (X : K.In h) (G : h.Ns mainGlobals mg) (hfa : mg "law" = some (.ref fa))
    {f0 : Addr} {od0 an0 : Option Addr} {sl0 : Array (Option Value)} {oc0 kV0 dc0 pm0 cd0 ct0 : Value} {f1 : Addr} {od1 an1 : Option Addr} {sl1 : Array (Option Value)} {oc1 kV1 dc1 pm1 cd1 ct1 : Value} {f2 : Addr} {od2 an2 : Option Addr} {sl2 : Array (Option Value)} {oc2 kV2 dc2 pm2 cd2 ct2 : Value} {f3 : Addr} {od3 an3 : Option Addr} {sl3 : Array (Option Value)} {oc3 kV3 dc3 pm3 cd3 ct3 : Value} {f4 : Addr} {od4 an4 : Option Addr} {sl4 : Array (Option Value)} {oc4 kV4 dc4 pm4 cd4 ct4 : Value} {f5 : Addr} {od5 an5 : Option Addr} {sl5 : Array (Option Value)} {oc5 kV5 dc5 pm5 cd5 ct5 : Value} {f6 : Addr} {od6 an6 : Option Addr} {sl6 : Array (Option Value)} {oc6 kV6 dc6 pm6 cd6 ct6 : Value} {f7 : Addr} {od7 an7 : Option Addr} {sl7 : Array (Option Value)} {oc7 kV7 dc7 pm7 cd7 ct7 : Value} {f8 : Addr} {od8 an8 : Option Addr} {sl8 : Array (Option Value)} {oc8 kV8 dc8 pm8 cd8 ct8 : Value} {f9 : Addr} {od9 an9 : Option Addr} {sl9 : Array (Option Value)} {oc9 kV9 dc9 pm9 cd9 ct9 : Value} {f10 : Addr} {od10 an10 : Option Addr} {sl10 : Array (Option Value)} {oc10 kV10 dc10 pm10 cd10 ct10 : Value} {f11 : Addr} {od11 an11 : Option Addr} {sl11 : Array (Option Value)} {oc11 kV11 dc11 pm11 cd11 ct11 : Value} {f12 : Addr} {od12 an12 : Option Addr} {sl12 : Array (Option Value)} {oc12 kV12 dc12 pm12 cd12 ct12 : Value} {f13 : Addr} {od13 an13 : Option Addr} {sl13 : Array (Option Value)} {oc13 kV13 dc13 pm13 cd13 ct13 : Value} {f14 : Addr} {od14 an14 : Option Addr} {sl14 : Array (Option Value)} {oc14 kV14 dc14 pm14 cd14 ct14 : Value} {f15 : Addr} {od15 an15 : Option Addr} {sl15 : Array (Option Value)} {oc15 kV15 dc15 pm15 cd15 ct15 : Value} {f16 : Addr} {od16 an16 : Option Addr} {sl16 : Array (Option Value)} {oc16 kV16 dc16 pm16 cd16 ct16 : Value} {f17 : Addr} {od17 an17 : Option Addr} {sl17 : Array (Option Value)} {oc17 kV17 dc17 pm17 cd17 ct17 : Value} {f18 : Addr} {od18 an18 : Option Addr} {sl18 : Array (Option Value)} {oc18 kV18 dc18 pm18 cd18 ct18 : Value} {f19 : Addr} {od19 an19 : Option Addr} {sl19 : Array (Option Value)} {oc19 kV19 dc19 pm19 cd19 ct19 : Value} {f20 : Addr} {od20 an20 : Option Addr} {sl20 : Array (Option Value)} {oc20 kV20 dc20 pm20 cd20 ct20 : Value} {f21 : Addr} {od21 an21 : Option Addr} {sl21 : Array (Option Value)} {oc21 kV21 dc21 pm21 cd21 ct21 : Value} {f22 : Addr} {od22 an22 : Option Addr} {sl22 : Array (Option Value)} {oc22 kV22 dc22 pm22 cd22 ct22 : Value} {f23 : Addr} {od23 an23 : Option Addr} {sl23 : Array (Option Value)} {oc23 kV23 dc23 pm23 cd23 ct23 : Value} {f24 : Addr} {od24 an24 : Option Addr} {sl24 : Array (Option Value)} {oc24 kV24 dc24 pm24 cd24 ct24 : Value} {t0 : Tok} {t1 : Tok} {C0 : Addr} {C1 : Addr} {C2 : Addr}
    (a0 : PySem.W.nsIn K mainGlobals "is_integer" = some (some (.ref f0)))
    (l0 : K.lookup f0 = some ⟨oc0, od0, .func (PySem.W.fnOf "is_integer" "is_integer" (defArgs s_is_integer) (defBody s_is_integer) (defScope s_is_integer) .none kV0 dc0 pm0 an0 cd0 ct0), sl0⟩)
    (c0 : PySem.W.codeIn K cd0 "is_integer" = true)
    (k0 : PySem.W.keepIn K (.ref f0) = true)
    (a1 : PySem.W.nsIn K mainGlobals "is_zone" = some (some (.ref f1)))
    (l1 : K.lookup f1 = some ⟨oc1, od1, .func (PySem.W.fnOf "is_zone" "is_zone" (defArgs s_is_zone) (defBody s_is_zone) (defScope s_is_zone) .none kV1 dc1 pm1 an1 cd1 ct1), sl1⟩)
    (c1 : PySem.W.codeIn K cd1 "is_zone" = true)
    (k1 : PySem.W.keepIn K (.ref f1) = true)
    (a2 : PySem.W.nsIn K mainGlobals "need_zone" = some (some (.ref f2)))
    (l2 : K.lookup f2 = some ⟨oc2, od2, .func (PySem.W.fnOf "need_zone" "need_zone" (defArgs s_need_zone) (defBody s_need_zone) (defScope s_need_zone) .none kV2 dc2 pm2 an2 cd2 ct2), sl2⟩)
    (c2 : PySem.W.codeIn K cd2 "need_zone" = true)
    (k2 : PySem.W.keepIn K (.ref f2) = true)
    (a3 : PySem.W.nsIn K mainGlobals "need_number" = some (some (.ref f3)))
    (l3 : K.lookup f3 = some ⟨oc3, od3, .func (PySem.W.fnOf "need_number" "need_number" (defArgs s_need_number) (defBody s_need_number) (defScope s_need_number) .none kV3 dc3 pm3 an3 cd3 ct3), sl3⟩)
    (c3 : PySem.W.codeIn K cd3 "need_number" = true)
    (k3 : PySem.W.keepIn K (.ref f3) = true)
    (a4 : PySem.W.nsIn K mainGlobals "is_offset" = some (some (.ref f4)))
    (l4 : K.lookup f4 = some ⟨oc4, od4, .func (PySem.W.fnOf "is_offset" "is_offset" (defArgs s_is_offset) (defBody s_is_offset) (defScope s_is_offset) .none kV4 dc4 pm4 an4 cd4 ct4), sl4⟩)
    (c4 : PySem.W.codeIn K cd4 "is_offset" = true)
    (k4 : PySem.W.keepIn K (.ref f4) = true)
    (a5 : PySem.W.nsIn K mainGlobals "is_mark" = some (some (.ref f5)))
    (l5 : K.lookup f5 = some ⟨oc5, od5, .func (PySem.W.fnOf "is_mark" "is_mark" (defArgs s_is_mark) (defBody s_is_mark) (defScope s_is_mark) .none kV5 dc5 pm5 an5 cd5 ct5), sl5⟩)
    (c5 : PySem.W.codeIn K cd5 "is_mark" = true)
    (k5 : PySem.W.keepIn K (.ref f5) = true)
    (a6 : PySem.W.nsIn K mainGlobals "is_looks" = some (some (.ref f6)))
    (l6 : K.lookup f6 = some ⟨oc6, od6, .func (PySem.W.fnOf "is_looks" "is_looks" (defArgs s_is_looks) (defBody s_is_looks) (defScope s_is_looks) .none kV6 dc6 pm6 an6 cd6 ct6), sl6⟩)
    (c6 : PySem.W.codeIn K cd6 "is_looks" = true)
    (k6 : PySem.W.keepIn K (.ref f6) = true)
    (a7 : PySem.W.nsIn K mainGlobals "need_looks" = some (some (.ref f7)))
    (l7 : K.lookup f7 = some ⟨oc7, od7, .func (PySem.W.fnOf "need_looks" "need_looks" (defArgs s_need_looks) (defBody s_need_looks) (defScope s_need_looks) .none kV7 dc7 pm7 an7 cd7 ct7), sl7⟩)
    (c7 : PySem.W.codeIn K cd7 "need_looks" = true)
    (k7 : PySem.W.keepIn K (.ref f7) = true)
    (a8 : PySem.W.nsIn K mainGlobals "early_of" = some (some (.ref f8)))
    (l8 : K.lookup f8 = some ⟨oc8, od8, .func (PySem.W.fnOf "early_of" "early_of" (defArgs s_early_of) (defBody s_early_of) (defScope s_early_of) .none kV8 dc8 pm8 an8 cd8 ct8), sl8⟩)
    (c8 : PySem.W.codeIn K cd8 "early_of" = true)
    (k8 : PySem.W.keepIn K (.ref f8) = true)
    (a9 : PySem.W.nsIn K mainGlobals "looks_fit" = some (some (.ref f9)))
    (l9 : K.lookup f9 = some ⟨oc9, od9, .func (PySem.W.fnOf "looks_fit" "looks_fit" (defArgs s_looks_fit) (defBody s_looks_fit) (defScope s_looks_fit) .none kV9 dc9 pm9 an9 cd9 ct9), sl9⟩)
    (c9 : PySem.W.codeIn K cd9 "looks_fit" = true)
    (k9 : PySem.W.keepIn K (.ref f9) = true)
    (a10 : PySem.W.nsIn K mainGlobals "offset_seen" = some (some (.ref f10)))
    (l10 : K.lookup f10 = some ⟨oc10, od10, .func (PySem.W.fnOf "offset_seen" "offset_seen" (defArgs s_offset_seen) (defBody s_offset_seen) (defScope s_offset_seen) .none kV10 dc10 pm10 an10 cd10 ct10), sl10⟩)
    (c10 : PySem.W.codeIn K cd10 "offset_seen" = true)
    (k10 : PySem.W.keepIn K (.ref f10) = true)
    (a11 : PySem.W.nsIn K mainGlobals "with_look" = some (some (.ref f11)))
    (l11 : K.lookup f11 = some ⟨oc11, od11, .func (PySem.W.fnOf "with_look" "with_look" (defArgs s_with_look) (defBody s_with_look) (defScope s_with_look) .none kV11 dc11 pm11 an11 cd11 ct11), sl11⟩)
    (c11 : PySem.W.codeIn K cd11 "with_look" = true)
    (k11 : PySem.W.keepIn K (.ref f11) = true)
    (a12 : PySem.W.nsIn K mainGlobals "choices_at" = some (some (.ref f12)))
    (l12 : K.lookup f12 = some ⟨oc12, od12, .func (PySem.W.fnOf "choices_at" "choices_at" (defArgs s_choices_at) (defBody s_choices_at) (defScope s_choices_at) .none kV12 dc12 pm12 an12 cd12 ct12), sl12⟩)
    (c12 : PySem.W.codeIn K cd12 "choices_at" = true)
    (k12 : PySem.W.keepIn K (.ref f12) = true)
    (a13 : PySem.W.nsIn K mainGlobals "can_hold" = some (some (.ref f13)))
    (l13 : K.lookup f13 = some ⟨oc13, od13, .func (PySem.W.fnOf "can_hold" "can_hold" (defArgs s_can_hold) (defBody s_can_hold) (defScope s_can_hold) .none kV13 dc13 pm13 an13 cd13 ct13), sl13⟩)
    (c13 : PySem.W.codeIn K cd13 "can_hold" = true)
    (k13 : PySem.W.keepIn K (.ref f13) = true)
    (a14 : PySem.W.nsIn K mainGlobals "early_table" = some (some (.ref f14)))
    (l14 : K.lookup f14 = some ⟨oc14, od14, .func (PySem.W.fnOf "early_table" "early_table" (defArgs s_early_table) (defBody s_early_table) (defScope s_early_table) .none kV14 dc14 pm14 an14 cd14 ct14), sl14⟩)
    (c14 : PySem.W.codeIn K cd14 "early_table" = true)
    (k14 : PySem.W.keepIn K (.ref f14) = true)
    (a15 : PySem.W.nsIn K mainGlobals "offsets_left" = some (some (.ref f15)))
    (l15 : K.lookup f15 = some ⟨oc15, od15, .func (PySem.W.fnOf "offsets_left" "offsets_left" (defArgs s_offsets_left) (defBody s_offsets_left) (defScope s_offsets_left) .none kV15 dc15 pm15 an15 cd15 ct15), sl15⟩)
    (c15 : PySem.W.codeIn K cd15 "offsets_left" = true)
    (k15 : PySem.W.keepIn K (.ref f15) = true)
    (a16 : PySem.W.nsIn K mainGlobals "_law_digits" = some (some (.ref f16)))
    (l16 : K.lookup f16 = some ⟨oc16, od16, .func (PySem.W.fnOf "_law_digits" "_law_digits" (defArgs s__law_digits) (defBody s__law_digits) (defScope s__law_digits) .none kV16 dc16 pm16 an16 cd16 ct16), sl16⟩)
    (c16 : PySem.W.codeIn K cd16 "_law_digits" = true)
    (k16 : PySem.W.keepIn K (.ref f16) = true)
    (a17 : PySem.W.nsIn K mainGlobals "_law_draw" = some (some (.ref f17)))
    (l17 : K.lookup f17 = some ⟨oc17, od17, .func (PySem.W.fnOf "_law_draw" "_law_draw" (defArgs s__law_draw) (defBody s__law_draw) (defScope s__law_draw) .none kV17 dc17 pm17 an17 cd17 ct17), sl17⟩)
    (c17 : PySem.W.codeIn K cd17 "_law_draw" = true)
    (k17 : PySem.W.keepIn K (.ref f17) = true)
    (a18 : PySem.W.nsIn K mainGlobals "_law_any_hour" = some (some (.ref f18)))
    (l18 : K.lookup f18 = some ⟨oc18, od18, .func (PySem.W.fnOf "_law_any_hour" "_law_any_hour" (defArgs s__law_any_hour) (defBody s__law_any_hour) (defScope s__law_any_hour) .none kV18 dc18 pm18 an18 cd18 ct18), sl18⟩)
    (c18 : PySem.W.codeIn K cd18 "_law_any_hour" = true)
    (k18 : PySem.W.keepIn K (.ref f18) = true)
    (a19 : PySem.W.nsIn K mainGlobals "_law_shift_at" = some (some (.ref f19)))
    (l19 : K.lookup f19 = some ⟨oc19, od19, .func (PySem.W.fnOf "_law_shift_at" "_law_shift_at" (defArgs s__law_shift_at) (defBody s__law_shift_at) (defScope s__law_shift_at) .none kV19 dc19 pm19 an19 cd19 ct19), sl19⟩)
    (c19 : PySem.W.codeIn K cd19 "_law_shift_at" = true)
    (k19 : PySem.W.keepIn K (.ref f19) = true)
    (a20 : PySem.W.nsIn K mainGlobals "_law_whole" = some (some (.ref f20)))
    (l20 : K.lookup f20 = some ⟨oc20, od20, .func (PySem.W.fnOf "_law_whole" "_law_whole" (defArgs s__law_whole) (defBody s__law_whole) (defScope s__law_whole) .none kV20 dc20 pm20 an20 cd20 ct20), sl20⟩)
    (c20 : PySem.W.codeIn K cd20 "_law_whole" = true)
    (k20 : PySem.W.keepIn K (.ref f20) = true)
    (a21 : PySem.W.nsIn K mainGlobals "_law_same" = some (some (.ref f21)))
    (l21 : K.lookup f21 = some ⟨oc21, od21, .func (PySem.W.fnOf "_law_same" "_law_same" (defArgs s__law_same) (defBody s__law_same) (defScope s__law_same) .none kV21 dc21 pm21 an21 cd21 ct21), sl21⟩)
    (c21 : PySem.W.codeIn K cd21 "_law_same" = true)
    (k21 : PySem.W.keepIn K (.ref f21) = true)
    (a22 : PySem.W.nsIn K mainGlobals "_law_charts" = some (some (.ref f22)))
    (l22 : K.lookup f22 = some ⟨oc22, od22, .func (PySem.W.fnOf "_law_charts" "_law_charts" (defArgs s__law_charts) (defBody s__law_charts) (defScope s__law_charts) .none kV22 dc22 pm22 an22 cd22 ct22), sl22⟩)
    (c22 : PySem.W.codeIn K cd22 "_law_charts" = true)
    (k22 : PySem.W.keepIn K (.ref f22) = true)
    (a23 : PySem.W.nsIn K mainGlobals "_law_small" = some (some (.ref f23)))
    (l23 : K.lookup f23 = some ⟨oc23, od23, .func (PySem.W.fnOf "_law_small" "_law_small" (defArgs s__law_small) (defBody s__law_small) (defScope s__law_small) .none kV23 dc23 pm23 an23 cd23 ct23), sl23⟩)
    (c23 : PySem.W.codeIn K cd23 "_law_small" = true)
    (k23 : PySem.W.keepIn K (.ref f23) = true)
    (a24 : PySem.W.nsIn K mainGlobals "law" = some (some (.ref f24)))
    (l24 : K.lookup f24 = some ⟨oc24, od24, .func (PySem.W.fnOf "law" "law" (defArgs s_law) (defBody s_law) (defScope s_law) .none kV24 dc24 pm24 an24 cd24 ct24), sl24⟩)
    (c24 : PySem.W.codeIn K cd24 "law" = true)
    (k24 : PySem.W.keepIn K (.ref f24) = true)
    (z0 : PySem.W.nsIn K mainGlobals "all" = some none)
    (z1 : PySem.W.nsIn K mainGlobals "any" = some none)
    (z2 : PySem.W.nsIn K mainGlobals "bool" = some none)
    (z3 : PySem.W.nsIn K mainGlobals "int" = some none)
    (z4 : PySem.W.nsIn K mainGlobals "isinstance" = some none)
    (z5 : PySem.W.nsIn K mainGlobals "len" = some none)
    (z6 : PySem.W.nsIn K mainGlobals "list" = some none)
    (z7 : PySem.W.nsIn K mainGlobals "max" = some none)
    (z8 : PySem.W.nsIn K mainGlobals "range" = some none)
    (z9 : PySem.W.nsIn K mainGlobals "set" = some none)
    (z10 : PySem.W.nsIn K mainGlobals "sorted" = some none)
    (z11 : PySem.W.nsIn K mainGlobals "str" = some none)
    (z12 : PySem.W.nsIn K mainGlobals "tuple" = some none)
    (v0 : PySem.W.nsIn K mainGlobals "MOST_OFFSET" = some (some (.int (900) t0)))
    (v1 : PySem.W.nsIn K mainGlobals "MOST_SPACING" = some (some (.int (1000000) t1)))
    (xa0 : PySem.W.nsIn K mainGlobals "InvalidLooks" = some (some (.ref C0)))
    (xq0 : PySem.W.excIn K C0 [.type "ValueError", .type "Exception", .type "BaseException", .type "object"] "ValueError.__new__" = true)
    (xk0 : PySem.W.keepIn K (.ref C0) = true)
    (xb0 : PySem.W.subIn K (.ref C0) (.type "BaseException") = some true)
    (xt0 : PySem.W.typeIn K (.ref C0) = some (.type "type"))
    (xa1 : PySem.W.nsIn K mainGlobals "InvalidNumber" = some (some (.ref C1)))
    (xq1 : PySem.W.excIn K C1 [.type "ValueError", .type "Exception", .type "BaseException", .type "object"] "ValueError.__new__" = true)
    (xk1 : PySem.W.keepIn K (.ref C1) = true)
    (xb1 : PySem.W.subIn K (.ref C1) (.type "BaseException") = some true)
    (xt1 : PySem.W.typeIn K (.ref C1) = some (.type "type"))
    (xa2 : PySem.W.nsIn K mainGlobals "InvalidZone" = some (some (.ref C2)))
    (xq2 : PySem.W.excIn K C2 [.type "ValueError", .type "Exception", .type "BaseException", .type "object"] "ValueError.__new__" = true)
    (xk2 : PySem.W.keepIn K (.ref C2) = true)
    (xb2 : PySem.W.subIn K (.ref C2) (.type "BaseException") = some true)
    (xt2 : PySem.W.typeIn K (.ref C2) = some (.type "type")) :
    ∃ fd : FuncData, (∀ (s : Shared) (v : Value), BindsTo s fd ⟨[v], []⟩ [("_law_script", v)]) ∧ ∀ base : Heap, K.In base → base.Ns mainGlobals mg → FnOk l.prog w K mg base (L2.CX l.prog w) 33 fa fd ["_law_script"] (spLaw K) := by
  have e := hfa.symm.trans (PySem.W.mg_of X G a24)
  cases e
  have T : Txt K mg := ⟨PySem.W.mg_none_of X G z0, PySem.W.mg_none_of X G z1, PySem.W.mg_none_of X G z2, PySem.W.mg_none_of X G z3, PySem.W.mg_none_of X G z4, PySem.W.mg_none_of X G z5, PySem.W.mg_none_of X G z6, PySem.W.mg_none_of X G z7, PySem.W.mg_none_of X G z8, PySem.W.mg_none_of X G z9, PySem.W.mg_none_of X G z10, PySem.W.mg_none_of X G z11, PySem.W.mg_none_of X G z12, ⟨t0, PySem.W.mg_of X G v0⟩, ⟨t1, PySem.W.mg_of X G v1⟩, ⟨C0, PySem.W.mg_of X G xa0, xq0, xk0, xb0, xt0⟩, ⟨C1, PySem.W.mg_of X G xa1, xq1, xk1, xb1, xt1⟩, ⟨C2, PySem.W.mg_of X G xa2, xq2, xk2, xb2, xt2⟩⟩
  have F0 := fun_mk (st := s_is_integer) l0 c0 k0
  have F1 := fun_mk (st := s_is_zone) l1 c1 k1
  have F2 := fun_mk (st := s_need_zone) l2 c2 k2
  have F3 := fun_mk (st := s_need_number) l3 c3 k3
  have F4 := fun_mk (st := s_is_offset) l4 c4 k4
  have F5 := fun_mk (st := s_is_mark) l5 c5 k5
  have F6 := fun_mk (st := s_is_looks) l6 c6 k6
  have F7 := fun_mk (st := s_need_looks) l7 c7 k7
  have F8 := fun_mk (st := s_early_of) l8 c8 k8
  have F9 := fun_mk (st := s_looks_fit) l9 c9 k9
  have F10 := fun_mk (st := s_offset_seen) l10 c10 k10
  have F11 := fun_mk (st := s_with_look) l11 c11 k11
  have F12 := fun_mk (st := s_choices_at) l12 c12 k12
  have F13 := fun_mk (st := s_can_hold) l13 c13 k13
  have F14 := fun_mk (st := s_early_table) l14 c14 k14
  have F15 := fun_mk (st := s_offsets_left) l15 c15 k15
  have F16 := fun_mk (st := s__law_digits) l16 c16 k16
  have F17 := fun_mk (st := s__law_draw) l17 c17 k17
  have F18 := fun_mk (st := s__law_any_hour) l18 c18 k18
  have F19 := fun_mk (st := s__law_shift_at) l19 c19 k19
  have F20 := fun_mk (st := s__law_whole) l20 c20 k20
  have F21 := fun_mk (st := s__law_same) l21 c21 k21
  have F22 := fun_mk (st := s__law_charts) l22 c22 k22
  have F23 := fun_mk (st := s__law_small) l23 c23 k23
  have F24 := fun_mk (st := s_law) l24 c24 k24
  refine ⟨PySem.W.fnOf "law" "law" (defArgs s_law) (defBody s_law) (defScope s_law) .none kV24 dc24 pm24 an24 cd24 ct24, fun s v => .of_eq rfl, fun base _ _ => ?_⟩
  have G_is_integer := fn_is_integer (P := l.prog) (w := w) (base := base) T (PySem.W.mg_of X G a0) F0 
  have G_is_zone := fn_is_zone (P := l.prog) (w := w) (base := base) T (PySem.W.mg_of X G a1) F1 G_is_integer
  have G_need_zone := fn_need_zone (P := l.prog) (w := w) (base := base) T (PySem.W.mg_of X G a2) F2 G_is_zone
  have G_need_number := fn_need_number (P := l.prog) (w := w) (base := base) T (PySem.W.mg_of X G a3) F3 G_is_integer
  have G_is_offset := fn_is_offset (P := l.prog) (w := w) (base := base) T (PySem.W.mg_of X G a4) F4 G_is_integer
  have G_is_mark := fn_is_mark (P := l.prog) (w := w) (base := base) T (PySem.W.mg_of X G a5) F5 G_is_integer G_is_offset
  have G_is_looks := fn_is_looks (P := l.prog) (w := w) (base := base) T (PySem.W.mg_of X G a6) F6 G_is_mark G_need_zone
  have G_need_looks := fn_need_looks (P := l.prog) (w := w) (base := base) T (PySem.W.mg_of X G a7) F7 G_is_looks
  have G_early_of := fn_early_of (P := l.prog) (w := w) (base := base) T (PySem.W.mg_of X G a8) F8 
  have G_looks_fit := fn_looks_fit (P := l.prog) (w := w) (base := base) T (PySem.W.mg_of X G a9) F9 G_early_of
  have G_offset_seen := fn_offset_seen (P := l.prog) (w := w) (base := base) T (PySem.W.mg_of X G a10) F10 
  have G_with_look := fn_with_look (P := l.prog) (w := w) (base := base) T (PySem.W.mg_of X G a11) F11 
  have G_choices_at := fn_choices_at (P := l.prog) (w := w) (base := base) T (PySem.W.mg_of X G a12) F12 G_looks_fit G_with_look G_offset_seen
  have G_can_hold := fn_can_hold (P := l.prog) (w := w) (base := base) T (PySem.W.mg_of X G a13) F13 G_looks_fit G_need_looks G_need_zone
  have G_early_table := fn_early_table (P := l.prog) (w := w) (base := base) T (PySem.W.mg_of X G a14) F14 G_early_of G_need_looks G_need_zone
  have G_offsets_left := fn_offsets_left (P := l.prog) (w := w) (base := base) T (PySem.W.mg_of X G a15) F15 G_choices_at G_need_number G_need_looks G_need_zone
  have G__law_digits := fn__law_digits (P := l.prog) (w := w) (base := base) T (PySem.W.mg_of X G a16) F16 
  have G__law_draw := fn__law_draw (P := l.prog) (w := w) (base := base) T (PySem.W.mg_of X G a17) F17 
  have G__law_any_hour := fn__law_any_hour (P := l.prog) (w := w) (base := base) T (PySem.W.mg_of X G a18) F18 G__law_draw
  have G__law_shift_at := fn__law_shift_at (P := l.prog) (w := w) (base := base) T (PySem.W.mg_of X G a19) F19 
  have G__law_whole := fn__law_whole (P := l.prog) (w := w) (base := base) T (PySem.W.mg_of X G a20) F20 
  have G__law_same := fn__law_same (P := l.prog) (w := w) (base := base) T (PySem.W.mg_of X G a21) F21 G__law_whole 30
  have G__law_charts := fn__law_charts (P := l.prog) (w := w) (base := base) T (PySem.W.mg_of X G a22) F22 
  have G__law_small := fn__law_small (P := l.prog) (w := w) (base := base) T (PySem.W.mg_of X G a23) F23 G__law_draw
  have G_law := fn_law (P := l.prog) (w := w) (base := base) T (PySem.W.mg_of X G a24) F24 G__law_same G_offsets_left G__law_shift_at G__law_draw G_early_table G_can_hold G__law_charts G__law_any_hour G__law_small G__law_digits
  exact law_ok (PySem.W.mg_of X G a24) F24 G_law hlaw
theorem walk {l : PySem.W.OpenLaw} {q : Program} {loose : List Str} {XP : (Str → Option Value) → Heap → Prop} {YP : World → Heap → Prop} {d : DefRec} {K : Params → Frag} (hn : l.most = some 63) (hdf : d.params.defaults = [])
    (hY : ∀ (w : World) (h : Heap), YP w h → (K w.params).In h)
    (F : ∀ (w : World) (mg : Str → Option Value) (fa : Addr) (h : Heap), (K w.params).In h → h.Ns mainGlobals mg → mg d.name = some (.ref fa) →
      ∃ fd : FuncData, (∀ (s : Shared) (u : Value), BindsTo s fd ⟨[u], []⟩ [("_law_script", u)]) ∧ ∀ base : Heap, (K w.params).In base → base.Ns mainGlobals mg → FnOk l.prog w (K w.params) mg base (L2.CX l.prog w) 33 fa fd ["_law_script"] (spLaw (K w.params))) :
    PySem.W.WalkO q loose XP YP l.row.toRowW d [] (fun f vs => PySem.call f vs) :=
  L2.walk_of (n := 63) (k := 33) (x := "_law_script") (CX := fun w => L2.CX l.prog w) (sp := fun w => spLaw (K w.params)) hn (by decide) hdf ⟨rfl, by decide, by decide⟩ hY F (fun _ _ a ns hl _ hS => ⟨a, ns, rfl, hS, hl, fun _ => rfl⟩) fun _ _ _ _ _ z => cx_no z
end V
-- text HmBase
namespace Dm
open PySem L2
/-- a pot of digits stands at p -/
def Pot (p : Nat) (S : Sto) : Prop := ∃ k : Int, S[p]? = some (.lst [.int k])
/-- from S to S': the pot at p has turned, cells have come, all else is as it was -/
structure Go (p : Nat) (S S' : Sto) : Prop where
  len : S.length ≤ S'.length
  same : ∀ n, n < S.length → n ≠ p → S'[n]? = S[n]?
  pot : Pot p S'
theorem Pot.lt {p : Nat} {S : Sto} (h : Pot p S) : p < S.length := by
  obtain ⟨k, e⟩ := h
  exact (List.getElem?_eq_some_iff.mp e).1
theorem Go.refl {p : Nat} {S : Sto} (h : Pot p S) : Go p S S := ⟨Nat.le_refl _, fun _ _ _ => rfl, h⟩
theorem Go.trans {p : Nat} {S S1 S2 : Sto} (a : Go p S S1) (b : Go p S1 S2) : Go p S S2 :=
  ⟨Nat.le_trans a.len b.len, fun n h hn => (b.same n (Nat.lt_of_lt_of_le h a.len) hn).trans (a.same n h hn), b.pot⟩
theorem Go.push {p : Nat} {S S1 : Sto} (a : Go p S S1) (c : Cell) : Go p S (S1 ++ [c]) :=
  ⟨by rw [List.length_append]; exact Nat.le_trans a.len (Nat.le_add_right _ _), fun n h hn => by
    rw [List.getElem?_append_left (Nat.lt_of_lt_of_le h a.len)]
    exact a.same n h hn, by
    obtain ⟨k, e⟩ := a.pot
    exact ⟨k, by rw [List.getElem?_append_left (List.getElem?_eq_some_iff.mp e).1]; exact e⟩⟩
theorem Go.get {p n : Nat} {S S1 : Sto} {c : Cell} (a : Go p S S1) (h : S[n]? = some c) (hn : n ≠ p) : S1[n]? = some c := by
  rw [a.same n (List.getElem?_eq_some_iff.mp h).1 hn]
  exact h
theorem draw_does {S : Sto} {p : Nat} {u : Int} {Q : D → Sto → Prop} (hp : Pot p S) (h0 : 0 < u) (hb : u < 18446744073709551616)
    (q : ∀ r S', Go p S S' → 0 ≤ r → r < u → Q (.int r) S') : (m_law_draw [.cell p, .int u] S).Does Q := by
  obtain ⟨k, e⟩ := id hp
  refine does_def rfl ?_
  have hl := hp.lt
  have hc : CDivW k u := cdivw h0 hb
  simp [gIx_cell e, h0, hc]
  refine ⟨[.int k], e, 0, rfl, ?_⟩
  refine q (k % u) _ ⟨by rw [List.length_set]; exact Nat.le_refl _, fun n h hn => List.getElem?_set_ne (Ne.symm hn), ⟨k / u, ?_⟩⟩ (Int.emod_nonneg _ (by omega)) (Int.emod_lt_of_pos _ h0)
  rw [List.getElem?_set_self hl] <;> rfl
end Dm
-- text HmDig
namespace Dm
open PySem L2
theorem rngD_nil {lo : Int} : rngD lo 0 = [] := rfl
theorem rngD_cons {lo : Int} {n : Nat} : rngD lo (n + 1) = .int lo :: rngD (lo + 1) n := by
  unfold rngD
  rw [List.range_succ_eq_map, List.map_cons, List.map_map]
  congr 1
  · simp
  · refine List.map_congr_left fun i _ => ?_
    simp only [Function.comp]
    congr 1
    omega
theorem mul_bits {i j : Int} {n m : Nat} (h : i.natAbs < 2 ^ n) (h' : j.natAbs < 2 ^ m) : (i * j).natAbs < 2 ^ (n + m) := by
  rw [Int.natAbs_mul, Nat.pow_add]
  exact Nat.mul_lt_mul'' h h'
theorem add_bits {i j : Int} {n m : Nat} (h : i.natAbs < 2 ^ n) (h' : j.natAbs < 2 ^ n) (hm : n + 1 ≤ m) : (i + j).natAbs < 2 ^ m := by
  have a := Int.natAbs_add_le i j
  have b : 2 ^ (n + 1) ≤ 2 ^ m := Nat.pow_le_pow_right (by decide) hm
  have c : (2:Nat) ^ (n + 1) = 2 ^ n * 2 := Nat.pow_succ 2 n
  omega
theorem up_bits {i : Int} {n m : Nat} (h : i.natAbs < 2 ^ n) (hm : n ≤ m) : i.natAbs < 2 ^ m :=
  Nat.lt_of_lt_of_le h (Nat.pow_le_pow_right (by decide) hm)
theorem bits_mono {i : Int} (n : Nat) {b : Int} (h0 : 0 ≤ i) (h : i < b) (hb : b ≤ ((2 ^ n : Nat) : Int)) : i.natAbs < 2 ^ n := by
  omega
theorem digits_does {S : Sto} {c : Int} {Q : D → Sto → Prop} (q : ∀ k, Q (.cell S.length) (S ++ [.lst [.int k]])) : (m_law_digits [.int c] S).Does Q := by
  refine does_def rfl ?_
  simp
  by_cases h : 1000000000000000000 ≤ c
  · simp [h]
    exact q _
  · simp [h]
    refine forL_does (fun ds ρ S' => S' = S ∧ ∃ (t n : Nat) (m full : Int) (x : Option D), ρ = [some (.int c), some (.int m), some (.int full), x] ∧ ds = rngD t n ∧ t ≤ 19 ∧ t + n = 19 ∧ m.natAbs < 2 ^ 140 ∧ full.natAbs < 2 ^ (300 * t + 2)) ?_ ?_ _ _ _ ?_
    · rintro d r ρ S' ⟨rfl, t, n, m, full, x, rfl, e, ht, hn, hm, hf⟩
      cases n with
      | zero => rw [rngD_nil] at e; cases e
      | succ n =>
        rw [rngD_cons] at e
        injection e with e1 e2
        subst e1
        refine ⟨_, rfl, ?_⟩
        simp
        have ht' : (t : Int).natAbs < 2 ^ 140 := Nat.lt_of_le_of_lt (show t ≤ 19 by omega) (by decide)
        have hr0 := Int.emod_nonneg (m * m + 31415926535 * m + 271829 * t + 17) (b := 100000000000000000000000000000000000000009) (by decide)
        have hr1 := Int.emod_lt_of_pos (m * m + 31415926535 * m + 271829 * t + 17) (b := 100000000000000000000000000000000000000009) (by decide)
        generalize (m * m + 31415926535 * m + 271829 * t + 17) % 100000000000000000000000000000000000000009 = r1 at hr0 hr1
        have hr : r1.natAbs < 2 ^ 140 := bits_mono 140 hr0 hr1 (by decide +kernel)
        refine ⟨cmulw 140 140 hm hm (by decide), cmulw 140 140 (by decide) hm (by decide), cmulw 140 140 (by decide) ht' (by decide), ?_⟩
        have h300 : 300 * (t + 1) + 2 = (300 * t + 301) + 1 := by omega
        by_cases c3 : (2 : Int) < t
        · simp [c3]
          refine ⟨cmulw (300 * t + 2) 140 hf (by decide +kernel) (by omega), t + 1, n, _, _, ⟨rfl, rfl⟩, by rw [e2] <;> rfl, by omega, by omega, hr, ?_⟩
          refine add_bits (n := 300 * t + 301) (up_bits (mul_bits hf (m := 140) (by decide +kernel)) (by omega)) (up_bits hr (by omega)) (by omega)
        · simp [c3]
          exact ⟨t + 1, n, _, _, ⟨rfl, rfl⟩, by rw [e2] <;> rfl, by omega, by omega, hr, up_bits hf (by omega)⟩
    · rintro ρ S' ⟨rfl, t, n, m, full, x, rfl, _⟩
      simp
      exact q _
    · have hr0 := Int.emod_nonneg c (b := 100000000000000000000000000000000000133) (by decide)
      have hr1 := Int.emod_lt_of_pos c (b := 100000000000000000000000000000000000133) (by decide)
      exact ⟨rfl, 0, 19, _, 1, none, rfl, rfl, by decide, by decide, bits_mono 140 (b := 200000000000000000000000000000000000133) (by omega) (by omega) (by decide +kernel), by decide⟩
end Dm
-- text HmZone
namespace Dm
open PySem L2
theorem seq_cut {ρ : Rho} {S : Sto} {N B C : Rho → Sto → Prop} {R : D → Sto → Prop} {EO : EXO} {a b : MS} (M : Rho → Sto → Prop) (h : ∀ M' : Rho → Sto → Prop, (∀ ρ S, M ρ S → M' ρ S) → (a ρ S).DoesE EO M' R B C) (k : ∀ ρ S, M ρ S → (b ρ S).DoesE EO N R B C) : (mSeq a b ρ S).DoesE EO N R B C := by
  rw [does_seq]
  exact (h M fun _ _ h => h).mono k (fun _ _ h => h) (fun _ _ h => h) (fun _ _ h => h)
/-- a zone of one, two or three offsets -/
inductive ZoneOK : List Int → Int → Prop
  | one (a s : Int) : -900 ≤ a → a ≤ 900 → 0 < s → s ≤ 1000000 → ZoneOK [a] s
  | two (a b s : Int) : -900 ≤ a → a < b → b ≤ 900 → b - a < s → s ≤ 1000000 → ZoneOK [a, b] s
  | three (a b c s : Int) : -900 ≤ a → a < b → b < c → c ≤ 900 → c - a < s → s ≤ 1000000 → ZoneOK [a, b, c] s
def zoneD (os : List Int) (s : Int) : D := .tup [.tup (os.map .int), .int s]
@[simp] theorem atI_last1 {α : Type} {x : α} : atI [x] (-1) = some x := rfl
@[simp] theorem atI_last2 {α : Type} {x y : α} : atI [x, y] (-1) = some y := rfl
@[simp] theorem atI_last3 {α : Type} {x y z : α} : atI [x, y, z] (-1) = some z := rfl
end Dm
-- text HmTab
namespace Dm
open PySem L2
theorem pure_of {α : Type} {r : Res α} {a : α} {S : Sto} (h : ∀ Q : α → Sto → Prop, Q a S → r.Does Q) : r = .ok a S := by
  obtain ⟨a', S', e, h1, h2⟩ := (h (fun x T => x = a ∧ T = S) ⟨rfl, rfl⟩).eq
  rw [e, h1, h2]
section
variable {S : Sto} {os : List Int} {s h m : Int} {js : List (Int × Int)}
theorem ZoneOK.len {os : List Int} {s : Int} (z : ZoneOK os s) : 1 ≤ os.length ∧ os.length ≤ 3 := by cases z <;> simp
theorem ZoneOK.sp (z : ZoneOK os s) : 0 < s ∧ s ≤ 1000000 := by cases z <;> constructor <;> omega
@[simp] theorem is_integer_int {i : Int} : m_is_integer [.int i] S = .ok (.bl true) S := by
  refine pure_of fun Q q => ?_
  refine does_def rfl ?_
  simpa [isTn] using q
theorem is_zone_ok (z : ZoneOK os s) : m_is_zone [zoneD os s] S = .ok (.bl true) S := by
  refine pure_of fun Q q => ?_
  refine does_def rfl ?_
  cases z with
  | one a s h1 h2 h3 h4 => simp [zoneD, isTn, rngD_cons, rngD_nil, h1, h2, h3, h4, q]
  | two a b s h1 h2 h3 h4 h5 =>
    have e1 : a ≤ 900 := by omega
    have e2 : -900 ≤ b := by omega
    have e3 : ¬ b ≤ a := by omega
    simp [zoneD, isTn, rngD_cons, rngD_nil, h1, h2, h3, h4, h5, e1, e2, e3, q]
  | three a b c s h1 h2 h3 h4 h5 h6 => 
    have e1 : a ≤ 900 := by omega
    have e2 : -900 ≤ b := by omega
    have e3 : ¬ b ≤ a := by omega
    have e4 : b ≤ 900 := by omega
    have e5 : -900 ≤ c := by omega
    have e6 : ¬ c ≤ b := by omega
    simp [zoneD, isTn, rngD_cons, rngD_nil, h1, h2, h3, h4, h5, h6, e1, e2, e3, e4, e5, e6, q]
@[simp] theorem need_zone_ok (z : ZoneOK os s) : m_need_zone [zoneD os s] S = .ok .non S := by
  refine pure_of fun Q q => ?_
  refine does_def rfl ?_
  simp [is_zone_ok z, q]
@[simp] theorem need_number_int {i : Int} : m_need_number [.int i] S = .ok .non S := by
  refine pure_of fun Q q => ?_
  refine does_def rfl ?_
  simp [q]
/-- a jump and a table, as data -/
def jmpD (j : Int × Int) : D := .tup [.int j.1, .int j.2]
def tabD (h : Int) (js : List (Int × Int)) : D := .tup [.int h, .tup (js.map jmpD)]
section
variable {j : Int × Int} {ρ : Rho} {f : List D → Rho → Option Rho}
@[simp] theorem ix_jmp0 : gIx S (jmpD j) (.int 0) = some (.int j.1) := by simp [jmpD]
@[simp] theorem ix_jmp1 : gIx S (jmpD j) (.int 1) = some (.int j.2) := by simp [jmpD]
@[simp] theorem ix_tab0 : gIx S (tabD h js) (.int 0) = some (.int h) := by simp [tabD]
@[simp] theorem ix_tab1 : gIx S (tabD h js) (.int 1) = some (.tup (js.map jmpD)) := by simp [tabD]
@[simp] theorem ix_zone0 : gIx S (zoneD os s) (.int 0) = some (.tup (os.map .int)) := by simp [zoneD]
@[simp] theorem ix_zone1 : gIx S (zoneD os s) (.int 1) = some (.int s) := by simp [zoneD]
@[simp] theorem len_jmp : gLen S [jmpD j] = some (.int 2) := rfl
@[simp] theorem len_tab : gLen S [tabD h js] = some (.int 2) := rfl
@[simp] theorem len_zone : gLen S [zoneD os s] = some (.int 2) := rfl
@[simp] theorem ty_jmp : tyOf S (jmpD j) = some .tup := rfl
@[simp] theorem ty_tab : tyOf S (tabD h js) = some .tup := rfl
@[simp] theorem ty_zone : tyOf S (zoneD os s) = some .tup := rfl
@[simp] theorem tg_jmp : tgT 2 f (jmpD j) ρ = f [.int j.1, .int j.2] ρ := rfl
@[simp] theorem tg_tab : tgT 2 f (tabD h js) ρ = f [.int h, .tup (js.map jmpD)] ρ := rfl
@[simp] theorem tg_zone : tgT 2 f (zoneD os s) ρ = f [.tup (os.map .int), .int s] ρ := rfl
end
/-- the jumps that may follow: the offset held, the moment of the jump before -/
def Chain (os : List Int) (s : Int) : Int → Option Int → List (Int × Int) → Prop
  | _, _, [] => True
  | h, p, (m, o) :: r => o ∈ os ∧ o ≠ h ∧ (∀ q, p = some q → q + s ≤ m) ∧ Chain os s o (some m) r
def endH : Int → List (Int × Int) → Int
  | h, [] => h
  | _, (_, o) :: r => endH o r
def endP : Option Int → List (Int × Int) → Option Int
  | p, [] => p
  | _, (m, _) :: r => endP (some m) r
theorem endH_snoc {m o : Int} : ∀ {h : Int} {js : List (Int × Int)}, endH h (js ++ [(m, o)]) = o
  | _, [] => rfl
  | _, (m', o') :: r => endH_snoc (h := o') (js := r)
theorem endP_snoc {m o : Int} : ∀ {p : Option Int} {js : List (Int × Int)}, endP p (js ++ [(m, o)]) = some m
  | _, [] => rfl
  | _, (m', o') :: r => endP_snoc (p := some m') (js := r)
theorem chain_snoc {m o : Int} : ∀ {h : Int} {p : Option Int} {js : List (Int × Int)}, Chain os s h p js → o ∈ os → o ≠ endH h js → (∀ q, endP p js = some q → q + s ≤ m) → Chain os s h p (js ++ [(m, o)])
  | _, _, [], _, a, b, c => ⟨a, b, c, trivial⟩
  | _, _, (m', o') :: r, ⟨x, y, z, w⟩, a, b, c => ⟨x, y, z, chain_snoc w a b c⟩
structure TabOK (os : List Int) (s h : Int) (js : List (Int × Int)) : Prop where
  held : h ∈ os
  chain : Chain os s h none js
theorem flat_ints (os : List Int) : (os.map D.int).all flatD = true := by
  rw [List.all_map]
  exact List.all_eq_true.mpr fun _ _ => rfl
theorem any_ints (os : List Int) (o : Int) : (os.map D.int).any (eqF · (.int o)) = decide (o ∈ os) := by
  induction os with
  | nil => simp
  | cons a r ih =>
    rw [List.map_cons, List.any_cons, ih, eqF_int]
    have e : (a == o) = decide (o = a) := by
      by_cases h : o = a
      · subst h; simp
      · have h' : ¬ a = o := fun x => h x.symm
        simp [h, h']
    rw [e]
    simp
theorem gIn_ints {o : Int} : gIn false S (.int o) (.tup (os.map .int)) = some (.bl (decide (o ∈ os))) := by
  unfold gIn
  rw [seqOf_tup]
  simp only
  rw [if_pos ⟨rfl, flat_ints os⟩, any_ints]
  simp
theorem is_offset_int {o : Int} : m_is_offset [zoneD os s, .int o] S = .ok (.bl (decide (o ∈ os))) S := by
  refine pure_of fun Q q => ?_
  refine does_def rfl ?_
  simp [gIn_ints, q]
theorem is_mark_jmp {j : Int × Int} : m_is_mark [zoneD os s, jmpD j] S = .ok (.bl (decide (j.2 ∈ os))) S := by
  refine pure_of fun Q q => ?_
  refine does_def rfl ?_
  simp [isTn, is_offset_int, q]
def enumF (k : Nat) (ds : List D) : List D := (ds.zipIdx k).map fun p => .tup [.int (p.2 : Nat), p.1]
theorem enumD_eq {ds : List D} : enumD ds = enumF 0 ds := rfl
theorem enumF_cons {k : Nat} {d : D} {r : List D} : enumF k (d :: r) = .tup [.int k, d] :: enumF (k + 1) r := rfl
theorem is_table_ok (z : ZoneOK os s) (t : TabOK os s h js) : m_is_table [zoneD os s, tabD h js] S = .ok (.bl true) S := by
  refine pure_of fun Q q => ?_
  refine does_def rfl ?_
  simp [isTn, need_zone_ok z, is_offset_int, t.held, enumD_eq]
  refine forL_cut (fun ds ρ S' => S' = S ∧ ∃ (pre suf : List (Int × Int)) (h' : Int) (pm : Option Int) (x4 x5 : Option D), ρ = [some (zoneD os s), some (tabD h js), some (.int h'), some (.tup (js.map jmpD)), x4, x5]
    ∧ js = pre ++ suf ∧ ds = enumF pre.length (suf.map jmpD) ∧ Chain os s h' pm suf ∧ (pre ≠ [] → ∃ m o, pm = some m ∧ atI (js.map jmpD) ((pre.length : Int) - 1) = some (jmpD (m, o)))) _ ⟨rfl, [], js, h, none, none, none, rfl, rfl, rfl, t.chain, fun h => (h rfl).elim⟩ ?_ ?_
  · rintro d r ρ S' ⟨rfl, pre, suf, h', pm, x4, x5, rfl, ej, e, c, l⟩
    cases suf with
    | nil => cases e
    | cons j suf =>
      rw [List.map_cons, enumF_cons] at e
      injection e with e1 e2
      subst e1
      obtain ⟨c1, c2, c3, c4⟩ := c
      refine ⟨[some (zoneD os s), some (tabD h js), some (.int h'), some (.tup (js.map jmpD)), some (.int pre.length), some (jmpD j)], by simp, fun M hM => ?_⟩
      have last : some (jmpD j) = atI (js.map jmpD) (((pre ++ [j]).length : Int) - 1) := by
        rw [ej, atI_of (by simp) (by simp; omega)]
        simp
      have fin : M [some (zoneD os s), some (tabD h js), some (.int j.2), some (.tup (js.map jmpD)), some (.int pre.length), some (jmpD j)] S' :=
        hM _ _ ⟨rfl, pre ++ [j], suf, _, _, _, _, rfl, by rw [ej, List.append_assoc] <;> rfl, by rw [e2, List.length_append] <;> rfl, c4, fun _ => ⟨_, _, rfl, last.symm⟩⟩
      simp [is_mark_jmp, c1, c2]
      by_cases hp : pre = []
      · subst hp
        simpa using fin
      · obtain ⟨m, o, e3, e4⟩ := l hp
        have c5 := c3 m e3
        rw [e4]
        have c6 : ¬ j.1 - m < s := by omega
        simp [List.length_pos_iff, hp, c6]
        exact fin
  · rintro ρ S' ⟨rfl, pre, suf, h', pm, x4, x5, rfl, ej, e, c, l⟩
    simpa using q
end
end Dm
-- text HmChart
namespace Dm
open PySem L2
section
variable {S : Sto} {os : List Int} {s h m : Int} {js : List (Int × Int)} {p : Nat}
@[simp] theorem need_table_ok (z : ZoneOK os s) (t : TabOK os s h js) : m_need_table [zoneD os s, tabD h js] S = .ok .non S := by
  refine pure_of fun Q q => ?_
  refine does_def rfl ?_
  simp [is_table_ok z t, q]
/-- the offset at a moment: up to the first jump after it -/
def offAt : Int → List (Int × Int) → Int → Int
  | h, [], _ => h
  | h, (a, o) :: r, m => if m < a then h else offAt o r m
def shAt : Int → List (Int × Int) → Int → Int
  | h, [], _ => h
  | h, (a, o) :: r, m => shAt (if a ≤ m then o else h) r m
theorem shAt_late {pm : Int} (hs : 0 < s) (hm : m < pm) : ∀ {js : List (Int × Int)} {h0 : Int} {pm : Int}, m < pm → Chain os s h0 (some pm) js → shAt h js m = h
  | [], _, _, _, _ => rfl
  | (a, o) :: r, h0, pm, hm, ⟨_, _, c, d⟩ => by
    have e := c pm rfl
    have n : ¬ a ≤ m := by omega
    rw [shAt, if_neg n]
    exact shAt_late hs (by omega) (show m < a by omega) d
theorem shAt_eq (hs : 0 < s) : ∀ {js : List (Int × Int)} {h : Int} {p : Option Int}, Chain os s h p js → shAt h js m = offAt h js m
  | [], _, _, _ => rfl
  | (a, o) :: r, h, p, ⟨_, _, c, d⟩ => by
    by_cases g : m < a
    · rw [shAt, offAt, if_pos g, if_neg (by omega)]
      exact shAt_late hs g g d
    · rw [shAt, offAt, if_neg g, if_pos (by omega)]
      exact shAt_eq hs d
theorem shift_at_ok : m_law_shift_at [tabD h js, .int m] S = .ok (.int (shAt h js m)) S := by
  refine pure_of fun Q q => ?_
  refine does_def rfl ?_
  simp
  refine forL_cut (fun ds ρ S' => S' = S ∧ ∃ (suf : List (Int × Int)) (h' : Int) (x3 x4 : Option D), ρ = [some (tabD h js), some (.int m), some (.int h'), x3, x4] ∧ ds = suf.map jmpD ∧ shAt h js m = shAt h' suf m) _ ⟨rfl, js, h, none, none, rfl, rfl, rfl⟩ ?_ ?_
  · rintro d r ρ S' ⟨rfl, suf, h', x3, x4, rfl, e, eo⟩
    cases suf with
    | nil => cases e
    | cons j suf =>
      obtain ⟨a, o⟩ := j
      injection e with e1 e2
      subst e1
      refine ⟨_, rfl, fun M hM => ?_⟩
      simp
      by_cases g : a ≤ m
      · simp [g]
        rw [shAt, if_pos g] at eo
        exact hM _ _ ⟨rfl, suf, o, _, _, rfl, e2, eo⟩
      · simp [g]
        rw [shAt, if_neg g] at eo
        exact hM _ _ ⟨rfl, suf, _, _, _, rfl, e2, eo⟩
  · rintro ρ S' ⟨rfl, suf, h', x3, x4, rfl, e, eo⟩
    cases suf with
    | cons j suf => cases e
    | nil =>
      simp
      rw [show h' = shAt h js m from eo.symm]
      exact q
@[simp] theorem whole_int {i : Int} : m_law_whole [.int i] S = .ok (.bl true) S := by
  refine pure_of fun Q q => ?_
  refine does_def rfl ?_
  simpa [isTn] using q
theorem same_int {n : Nat} {i j : Int} : m_law_same (n + 1) [.int i, .int j] S = .ok (.bl (i == j)) S := by
  refine pure_of fun Q q => ?_
  unfold m_law_same
  refine does_def rfl ?_
  simpa [isTn] using q
@[simp] theorem same_int30 {i j : Int} : m_law_same 30 [.int i, .int j] S = .ok (.bl (i == j)) S := same_int
end
end Dm
-- text HmNear
namespace Dm
open PySem L2
section
variable {S : Sto} {os : List Int} {s h m : Int} {js : List (Int × Int)} {p : Nat}
theorem Pot.set {n : Nat} {c : Cell} (h : Pot p S) (hn : p ≠ n) : Pot p (S.set n c) := by
  obtain ⟨k, e⟩ := h
  exact ⟨k, by rw [List.getElem?_set_ne (Ne.symm hn)]; exact e⟩
end
theorem cut_len {ds : List D} {lo hi : Option Int} : (cutD ds lo hi).length ≤ ds.length := by
  unfold cutD
  rw [List.length_take, List.length_drop]
  omega
theorem cut_mem {ds : List D} {lo hi : Option Int} {d : D} (h : d ∈ cutD ds lo hi) : d ∈ ds := List.mem_of_mem_drop (List.mem_of_mem_take h)
/-- the loop over the cells of a script -/
theorem law_loop {nN : Nat} {C k : Int} {body : MS} (hn : 2 ≤ nN) (hb : ∀ c L (xs : List (Option D)) (S : Sto), xs.length = nN - 2 → (body (some L :: some (.int c) :: xs) S).Does (fun ρ S' => ∃ y xs', ρ = some L :: y :: xs' ∧ xs'.length = nN - 2) (fun _ _ => False) (fun _ _ => False) (fun _ _ => False)) :
    LawTrue (mDef 1 nN (mSeq (mFor (iSeq (mFz (mCatL (mLst (mCons (mK (.int C)) mNil)) (mSlL (mVar 0) mNoPart (mPart (mK (.int k))))))) (tgN 1) body) (mRet (mK (.bl true))))) := by
  intro ns hl
  obtain ⟨m, rfl⟩ : ∃ m, nN = m + 2 := ⟨nN - 2, by omega⟩
  have main : (mDef 1 (m + 2) (mSeq (mFor (iSeq (mFz (mCatL (mLst (mCons (mK (.int C)) mNil)) (mSlL (mVar 0) mNoPart (mPart (mK (.int k))))))) (tgN 1) body) (mRet (mK (.bl true)))) [.lst (ns.map .int)] []).Does fun d _ => d = .bl true := by
    refine does_def rfl ?_
    rw [does_seq, does_for]
    simp only [does_iSeq, does_fz, does_catL, does_lst, does_cons, does_k, does_nil, does_slL, does_var, List.map_cons, List.map_nil, List.singleton_append, List.getElem?_cons_zero, does_noPart, does_part, lstOf_lst]
    refine ⟨by simp, ?_⟩
    have cl : (cutD (ns.map .int) none (some k)).length ≤ 63 := Nat.le_trans cut_len (by rw [List.length_map]; exact hl)
    refine ⟨by simp only [List.length_cons, List.length_nil]; omega, ?_⟩
    refine forL_cut (fun ds ρ S' => (∀ d, d ∈ ds → ∃ c : Int, d = .int c) ∧ ∃ y xs', ρ = some (.lst (ns.map .int)) :: y :: xs' ∧ xs'.length = m) _ ⟨?_, none, List.replicate m none, rfl, List.length_replicate⟩ ?_ ?_
    · intro d hd
      rcases List.mem_cons.mp hd with rfl | hd
      · exact ⟨_, rfl⟩
      · obtain ⟨c, _, rfl⟩ := List.mem_map.mp (cut_mem hd)
        exact ⟨c, rfl⟩
    · rintro d r ρ S' ⟨hd, y, xs', rfl, hx⟩
      obtain ⟨c, rfl⟩ := hd d List.mem_cons_self
      refine ⟨_, rfl, fun M hM => ?_⟩
      refine (hb c _ xs' S' (by omega)).mono ?_ (fun _ _ h => h.elim) (fun _ _ h => h.elim) (fun _ _ h => h.elim)
      rintro ρ2 S2 ⟨y, xs2, rfl, h2⟩
      exact hM _ _ ⟨fun d h => hd d (List.mem_cons_of_mem _ h), y, xs2, rfl, by omega⟩
    · rintro ρ S' _
      rfl
  obtain ⟨d, S', e, rfl⟩ := main.eq
  exact ⟨S', e⟩
end Dm
-- text HmSame
namespace Dm
open PySem L2
/-- data that the law calls the same, of a depth -/
inductive Eqv (S : Sto) : Nat → D → D → Prop
  | non {n : Nat} : Eqv S n .non .non
  | int {n : Nat} {i : Int} : Eqv S n (.int i) (.int i)
  | bl {n : Nat} {b : Bool} : Eqv S n (.bl b) (.bl b)
  | str {n : Nat} {x : Str} : Eqv S n (.str x) (.str x)
  | tup {n : Nat} {ds es : List D} : ds.length = es.length → es.length ≤ 16777216 → (∀ (i : Nat) (d e : D), ds[i]? = some d → es[i]? = some e → Eqv S n d e) → Eqv S (n + 1) (.tup ds) (.tup es)
  | lst {n : Nat} {d e : D} {ds es : List D} : lstOf S d = some ds → lstOf S e = some es → ds.length = es.length → es.length ≤ 16777216 → (∀ (i : Nat) (d e : D), ds[i]? = some d → es[i]? = some e → Eqv S n d e) → Eqv S (n + 1) d e
section
variable {S : Sto}
theorem lstOf_ty {d : D} {ds : List D} (h : lstOf S d = some ds) : tyOf S d = some .lst := by
  cases d with
  | lst xs => rfl
  | cell n =>
    simp only [lstOf] at h
    cases e : S[n]? with
    | none => rw [e] at h; exact nomatch h
    | some c =>
      rw [e] at h
      cases c with
      | lst es => exact tyOf_cell e
      | _ => exact nomatch h
  | _ => exact nomatch h
theorem lstOf_len {d : D} {ds : List D} (h : lstOf S d = some ds) : gLen S [d] = some (.int ds.length) := by
  cases d with
  | lst xs => cases h; rfl
  | cell n =>
    show (lstOf S (.cell n)).map _ = _
    rw [h] <;> rfl
  | _ => exact nomatch h
theorem lstOf_ix {d : D} {ds : List D} {i : Int} (h : lstOf S d = some ds) : gIx S d (.int i) = atI ds i := by
  cases d with
  | lst xs => cases h; rfl
  | cell n =>
    show (lstOf S (.cell n)).bind _ = _
    rw [h] <;> rfl
  | _ => exact nomatch h
theorem bls_true {α : Type} : ∀ {l : List α}, blsOf (l.map fun _ => D.bl true) = some (l.map fun _ => true)
  | [] => rfl
  | a :: l => by
    rw [List.map_cons, blsOf, bls_true] <;> rfl
theorem all_true {α : Type} : ∀ {l : List α}, (l.map fun _ => true).all id = true
  | [] => rfl
  | a :: l => by rw [List.map_cons, List.all_cons, all_true] <;> rfl
theorem gAll_true {α : Type} {l : List α} : gAll S [.lst (l.map fun _ => D.bl true)] = some (.bl true) := by
  unfold gAll
  simp only [lstOf_lst, Option.bind_some, bls_true, Option.map_some, all_true]
theorem mem_rngD {n : Nat} {d : D} (h : d ∈ rngD 0 n) : ∃ i : Nat, d = .int i ∧ i < n := by
  unfold rngD at h
  obtain ⟨i, hi, rfl⟩ := List.mem_map.mp h
  exact ⟨i, by simp, List.mem_range.mp hi⟩
theorem same_pairs {n : Nat} {d e : D} {ds es : List D} {Q : D → Sto → Prop} (hl : ds.length = es.length) (h16 : es.length ≤ 16777216) (h1 : ∀ i, gIx S d (.int i) = atI ds i) (h2 : ∀ i, gIx S e (.int i) = atI es i) (l2 : gLen S [e] = some (.int es.length))
    (ih : ∀ (i : Nat) (d e : D), ds[i]? = some d → es[i]? = some e → m_law_same n [d, e] S = .ok (.bl true) S) (q : Q (.bl true) S) :
    (mCallB gAll (mCons (mFz (mLc (iRange1 (mCons (mCallB gLen (mCons (mVar 1) mNil)) mNil)) (tgN 2) mYes (mCall (m_law_same n) (mCons (mOp gIx (mVar 0) (mVar 2)) (mCons (mOp gIx (mVar 1) (mVar 2)) mNil))) [2])) mNil) [some d, some e, none] S).Does Q := by
  simp [l2]
  refine ⟨by omega, ?_⟩
  refine lcQ_map (fun _ => .bl true) ?_ ?_
  · intro x hx
    obtain ⟨i, rfl, hi⟩ := mem_rngD hx
    refine ⟨_, rfl, fun Q q => ?_⟩
    have w1 : i < ds.length := by omega
    have e1 : atI ds (i : Int) = some ds[i] := by
      rw [atI_of (by omega) (by omega)]
      exact List.getElem?_eq_getElem w1
    have e2 : atI es (i : Int) = some es[i] := by
      rw [atI_of (by omega) (by omega)]
      exact List.getElem?_eq_getElem hi
    simp [wipeD, h1, h2, e1, e2]
    rw [ih i _ _ (List.getElem?_eq_getElem w1) (List.getElem?_eq_getElem hi)]
    exact q
  · rw [gAll_true]
    exact q
theorem same_eqv : ∀ {n : Nat} {d e : D}, Eqv S n d e → m_law_same (n + 1) [d, e] S = .ok (.bl true) S := by
  intro n d e h
  refine pure_of fun Q q => ?_
  induction h generalizing Q with
  | non => unfold m_law_same; refine does_def rfl ?_; simpa [isTn] using q
  | int => rw [same_int]; simpa using q
  | bl => unfold m_law_same; refine does_def rfl ?_; simpa [isTn] using q
  | str => unfold m_law_same; refine does_def rfl ?_; simpa [isTn] using q
  | @tup n ds es hl h16 _ ih =>
    unfold m_law_same
    refine does_def rfl ?_
    rw [does_seq]
    rw [does_ifS]
    have go := same_pairs (n := n + 1) (Q := Q) (d := .tup ds) (e := .tup es) hl h16 (fun _ => rfl) (fun _ => rfl) rfl (fun i d e h1 h2 => pure_of fun Q q => ih i d e h1 h2 Q q) q
    simp [isTn, hl]
    simpa [isTn] using go
  | @lst n d e ds es hd he hl h16 _ ih =>
    unfold m_law_same
    refine does_def rfl ?_
    have go := same_pairs (n := n + 1) (Q := Q) hl h16 (fun _ => lstOf_ix hd) (fun _ => lstOf_ix he) (lstOf_len he) (fun i d e h1 h2 => pure_of fun Q q => ih i d e h1 h2 Q q) q
    simp [isTn, hl, lstOf_ty hd, lstOf_ty he, lstOf_len hd, lstOf_len he]
    simpa [isTn, lstOf_len he] using go
theorem Eqv.up {n m : Nat} {d e : D} (h : Eqv S n d e) (hm : n ≤ m) : Eqv S m d e := by
  induction h generalizing m with
  | non => exact .non
  | int => exact .int
  | bl => exact .bl
  | str => exact .str
  | tup hl h16 _ ih =>
    obtain ⟨k, rfl⟩ : ∃ k, m = k + 1 := ⟨m - 1, by omega⟩
    exact .tup hl h16 fun i d e a b => ih i d e a b (by omega)
  | lst hd he hl h16 _ ih =>
    obtain ⟨k, rfl⟩ : ∃ k, m = k + 1 := ⟨m - 1, by omega⟩
    exact .lst hd he hl h16 fun i d e a b => ih i d e a b (by omega)
theorem same30 {d e : D} {n : Nat} (h : Eqv S n d e) (hn : n ≤ 29) : m_law_same 30 [d, e] S = .ok (.bl true) S := same_eqv (h.up hn)
theorem eqv_ints {d e : D} {l : List Int} (hd : lstOf S d = some (l.map .int)) (he : lstOf S e = some (l.map .int)) (h : l.length ≤ 16777216) : Eqv S 1 d e := by
  refine .lst hd he rfl (by rw [List.length_map]; exact h) fun i d e a b => ?_
  rw [a] at b
  cases b
  rw [List.getElem?_map] at a
  cases c : l[i]? with
  | none => rw [c] at a; exact nomatch a
  | some v => rw [c] at a; cases a; exact .int
end
end Dm
-- text HmHours
namespace Dm
open PySem L2
section
variable {S : Sto} {os : List Int} {s h m r : Int} {js : List (Int × Int)} {p : Nat}
theorem ZoneOK.asc (z : ZoneOK os s) : os.Pairwise (· < ·) := by cases z <;> simp <;> omega
theorem off_mem : ∀ {js : List (Int × Int)} {h : Int} {p : Option Int}, h ∈ os → Chain os s h p js → offAt h js m ∈ os
  | [], _, _, hh, _ => hh
  | (a, o) :: t, h, p, hh, ⟨c1, _, _, c4⟩ => by
    rw [offAt]
    split
    · exact hh
    · exact off_mem c1 c4
theorem set_new {c c' : Cell} : (S ++ [c]).set S.length c' = S ++ [c'] := by
  rw [List.set_append_right _ _ (Nat.le_refl _), Nat.sub_self] <;> rfl
theorem get_new {c : Cell} : (S ++ [c])[S.length]? = some c := by simp
theorem lcQ_filter {f : D → Rho → Option Rho} {mt me : ME} {ρ : Rho} {α : Type} {as : List α} {i : α → D} {S : Sto} {Q : List D → Sto → Prop} (t : α → Bool) (g : α → D) (h : ∀ a, a ∈ as → ∃ ρ1, f (i a) ρ = some ρ1 ∧ (∀ Q : D → Sto → Prop, Q (.bl (t a)) S → (mt ρ1 S).Does Q) ∧ ∀ Q : D → Sto → Prop, t a = true → Q (g a) S → (me ρ1 S).Does Q) (q : Q ((as.filter t).map g) S) : LcQ f mt me ρ (as.map i) S Q := by
  induction as generalizing Q with
  | nil => rw [List.map_nil, lcQ_nil]; exact q
  | cons a r ih =>
    obtain ⟨ρ1, e, k1, k2⟩ := h a List.mem_cons_self
    rw [List.map_cons, lcQ_cons, e]
    refine k1 _ ?_
    rw [blQ_bl]
    cases c : t a with
    | true =>
      rw [if_pos rfl]
      refine k2 _ c (ih (fun d hd => h d (List.mem_cons_of_mem _ hd)) ?_)
      rw [List.filter_cons, if_pos c] at q
      exact q
    | false =>
      rw [if_neg (by decide)]
      refine ih (fun d hd => h d (List.mem_cons_of_mem _ hd)) ?_
      rw [List.filter_cons, if_neg (by rw [c]; decide)] at q
      exact q
end
end Dm
-- text HmLooks
namespace Dm
open PySem L2
/-- from S to S': the pots of P have turned, all else is as it was -/
structure GoS (P : Nat → Prop) (S S' : Sto) : Prop where
  len : S.length ≤ S'.length
  same : ∀ n, n < S.length → ¬ P n → S'[n]? = S[n]?
  pot : ∀ n, P n → Pot n S'
section
variable {P : Nat → Prop} {S S1 S2 : Sto} {p q n : Nat} {os : List Int} {s : Int}
theorem GoS.refl (h : ∀ n, P n → Pot n S) : GoS P S S := ⟨Nat.le_refl _, fun _ _ _ => rfl, h⟩
theorem GoS.trans (a : GoS P S S1) (b : GoS P S1 S2) : GoS P S S2 :=
  ⟨Nat.le_trans a.len b.len, fun n h hn => (b.same n (Nat.lt_of_lt_of_le h a.len) hn).trans (a.same n h hn), b.pot⟩
theorem Pot.push {c : Cell} (h : Pot p S) : Pot p (S ++ [c]) := by
  obtain ⟨k, e⟩ := h
  exact ⟨k, by rw [List.getElem?_append_left (List.getElem?_eq_some_iff.mp e).1]; exact e⟩
theorem GoS.push (a : GoS P S S1) (c : Cell) : GoS P S (S1 ++ [c]) :=
  ⟨by rw [List.length_append]; exact Nat.le_trans a.len (Nat.le_add_right _ _), fun n h hn => by
    rw [List.getElem?_append_left (Nat.lt_of_lt_of_le h a.len)]
    exact a.same n h hn, fun n hn => (a.pot n hn).push⟩
theorem GoS.get {c : Cell} (a : GoS P S S1) (h : S[n]? = some c) (hn : ¬ P n) : S1[n]? = some c := by
  rw [a.same n (List.getElem?_eq_some_iff.mp h).1 hn]
  exact h
theorem Go.all (g : Go q S S1) (hq : P q) (h : ∀ n, P n → Pot n S) : GoS P S S1 :=
  ⟨g.len, fun n hn hp => g.same n hn fun e => hp (e ▸ hq), fun n hn => by
    by_cases e : n = q
    · subst e; exact g.pot
    · obtain ⟨k, z⟩ := h n hn
      exact ⟨k, g.get z e⟩⟩
structure LooksOK (os : List Int) (ls : List (Int × Int)) : Prop where
  mem : ∀ l, l ∈ ls → l.2 ∈ os
  asc : ls.Pairwise fun a b => a.1 < b.1
def looksD (ls : List (Int × Int)) : D := .tup (ls.map jmpD)
theorem at_some {α : Type} {xs : List α} {i : Int} (h0 : 0 ≤ i) (h : i < xs.length) : ∃ x, atI xs i = some x ∧ x ∈ xs := by
  have l : i.toNat < xs.length := by omega
  exact ⟨xs[i.toNat], by rw [atI_of h0 h]; exact List.getElem?_eq_getElem l, List.getElem_mem l⟩
end
end Dm
-- text HmCrowd
namespace Dm
open PySem L2
/-! ### looks by their places -/
def Hh (ls : List (Int × Int)) (i : Nat) : Int := (ls.getD i (0, 0)).1
def Oo (ls : List (Int × Int)) (i : Nat) : Int := (ls.getD i (0, 0)).2
def chg (ls : List (Int × Int)) (i : Nat) : Int := if Oo ls (i + 1) = Oo ls i then 0 else 1
def tal (ls : List (Int × Int)) : Nat → Int
  | 0 => 0
  | k + 1 => tal ls k + chg ls k
def cond (s : Int) (ls : List (Int × Int)) (i j : Nat) : Bool := decide (Hh ls j - Hh ls i - 1 < (tal ls j - tal ls i - 1) * s)
def crowAt (s : Int) (ls : List (Int × Int)) (j : Nat) : Option (Nat × Nat) := (List.range' 0 j).findSome? fun b => if cond s ls (j - 1 - b) j then some (j - 1 - b, j) else none
def crow (s : Int) (ls : List (Int × Int)) : Option (Nat × Nat) := (List.range' 0 ls.length).findSome? fun j => crowAt s ls j
section
variable {S : Sto} {os : List Int} {s : Int} {ls : List (Int × Int)} {n p : Nat}
theorem at_look {i : Nat} (h : i < ls.length) : atI (ls.map jmpD) (i : Int) = some (jmpD (Hh ls i, Oo ls i)) := by
  rw [atI_of (by omega) (by rw [List.length_map]; omega)]
  have e : ls.getD i (0, 0) = ls[i] := by simp [List.getD, List.getElem?_eq_getElem h]
  unfold Hh Oo
  rw [e]
  show (ls.map jmpD)[i]? = _
  rw [List.getElem?_map, List.getElem?_eq_getElem h] <;> rfl
theorem mem_rng {lo : Int} {n : Nat} {d : D} (h : d ∈ rngD lo n) : ∃ i : Nat, d = .int (lo + i) ∧ i < n := by
  unfold rngD at h
  obtain ⟨i, hi, rfl⟩ := List.mem_map.mp h
  exact ⟨i, rfl, List.mem_range.mp hi⟩
theorem asc_get (h : ls.Pairwise fun a b => a.1 < b.1) {i j : Nat} (hij : i < j) (hj : j < ls.length) : Hh ls i < Hh ls j := by
  have q := List.pairwise_iff_getElem.mp h i j (by omega) hj hij
  unfold Hh
  simpa [List.getD, List.getElem?_eq_getElem hj, List.getElem?_eq_getElem (show i < ls.length by omega)] using q
@[simp] theorem ty_looks : tyOf S (looksD ls) = some .tup := rfl
@[simp] theorem len_looks : gLen S [looksD ls] = some (.int ls.length) := by simp [looksD]
@[simp] theorem ix_looks {i : Int} : gIx S (looksD ls) (.int i) = atI (ls.map jmpD) i := rfl
theorem is_looks_ok (z : ZoneOK os s) (l : LooksOK os ls) (hl : ls.length ≤ 1000) : m_is_looks [zoneD os s, looksD ls] S = .ok (.bl true) S := by
  refine pure_of fun Q q => ?_
  refine does_def rfl ?_
  simp [need_zone_ok z, isTn]
  show LcQ _ _ _ _ _ _ _
  simp only [looksD]
  refine lcQ_map (fun _ => .bl true) ?_ ?_
  · intro d hd
    obtain ⟨j, hj, rfl⟩ := List.mem_map.mp hd
    refine ⟨_, rfl, fun Q q => ?_⟩
    simp [wipeD, is_mark_jmp, l.mem j hj]
    exact q
  rw [gAll_true]
  simp
  refine ⟨by omega, ?_⟩
  refine lcQ_map (fun _ => .bl true) ?_ ?_
  · intro d hd
    obtain ⟨i, rfl, hi⟩ := mem_rng hd
    refine ⟨_, rfl, fun Q q => ?_⟩
    have h1 : (1 : Int) + i - 1 = (i : Nat) := by omega
    have h2 : (1 : Int) + i = ((i + 1 : Nat) : Int) := by omega
    have lt := asc_get l.asc (show i < i + 1 by omega) (show i + 1 < ls.length by omega)
    simp [wipeD]
    rw [h1, h2, at_look (by omega), at_look (by omega)]
    simp [lt]
    exact q
  · rw [gAll_true]
    exact q
theorem need_looks_ok (z : ZoneOK os s) (l : LooksOK os ls) (hl : ls.length ≤ 1000) : m_need_looks [zoneD os s, looksD ls] S = .ok .non S := by
  refine pure_of fun Q q => ?_
  refine does_def rfl ?_
  simp [is_looks_ok z l hl, q]
end
end Dm
-- text HmEarly
namespace Dm
open PySem L2
end Dm
-- text HmFit
namespace Dm
open PySem L2
/-- the earliest moment of the next jump -/
def bar (s : Int) (p : Option Int) (h : Int) : Int := match p with
  | none => h + 1
  | some q => if q + s > h + 1 then q + s else h + 1
def early (s : Int) : Option Int → Int × Int → List (Int × Int) → Option (List (Int × Int))
  | _, _, [] => some []
  | p, (h, o), (h', o') :: r => if o' = o then early s p (h', o') r else if bar s p h > h' then none else (early s (some (bar s p h)) (h', o') r).map ((bar s p h, o') :: ·)
def earlyT (os : List Int) (s : Int) : List (Int × Int) → Option (Int × List (Int × Int))
  | [] => some (os.headD 0, [])
  | l :: r => (early s none l r).map (l.2, ·)
def earlyD : Option (Int × List (Int × Int)) → D
  | none => .non
  | some (h, js) => tabD h js
section
variable {S : Sto} {os : List Int} {s : Int} {ls : List (Int × Int)} {n p : Nat}
/-! ### the bar by the places -/
def Bf (s : Int) (ls : List (Int × Int)) : Nat → Int
  | 0 => Hh ls 0 + 1
  | j + 1 => if Bf s ls j + chg ls j * s > Hh ls (j + 1) + 1 then Bf s ls j + chg ls j * s else Hh ls (j + 1) + 1
theorem tal_self (i : Nat) : (tal ls i - tal ls i) * s = 0 := by rw [Int.sub_self, Int.zero_mul]
theorem bf_max {x : Int} : ∀ {j : Nat}, x < Bf s ls j ↔ ∃ i, i ≤ j ∧ x < Hh ls i + 1 + (tal ls j - tal ls i) * s
  | 0 => by
    rw [Bf]
    constructor
    · intro h
      exact ⟨0, Nat.le_refl _, by rw [tal_self]; omega⟩
    · rintro ⟨i, hi, h⟩
      have e : i = 0 := by omega
      subst e
      rw [tal_self] at h
      omega
  | j + 1 => by
    have ih := bf_max (x := x - chg ls j * s) (j := j)
    have e : ∀ i, (tal ls (j + 1) - tal ls i) * s = (tal ls j - tal ls i) * s + chg ls j * s := fun i => by
      rw [tal, ← Int.add_mul]
      congr 1
      omega
    rw [Bf]
    constructor
    · intro h
      by_cases c : x < Bf s ls j + chg ls j * s
      · obtain ⟨i, hi, k⟩ := ih.mp (by omega)
        exact ⟨i, by omega, by rw [e]; omega⟩
      · refine ⟨j + 1, Nat.le_refl _, ?_⟩
        rw [tal_self]
        split at h <;> omega
    · rintro ⟨i, hi, k⟩
      by_cases c : i = j + 1
      · subst c
        rw [tal_self] at k
        split <;> omega
      · rw [e] at k
        have := ih.mpr ⟨i, by omega, by omega⟩
        split <;> omega
/-- no stretch that ends at place j + 1 is crowded -/
theorem free_at {j : Nat} : (∀ i, i < j + 1 → ¬ cond s ls i (j + 1) = true) ↔ Bf s ls j + (chg ls j - 1) * s ≤ Hh ls (j + 1) := by
  have key : ∀ i, cond s ls i (j + 1) = true ↔ Hh ls (j + 1) - (chg ls j - 1) * s < Hh ls i + 1 + (tal ls j - tal ls i) * s := fun i => by
    unfold cond
    rw [decide_eq_true_eq]
    have e : (tal ls (j + 1) - tal ls i - 1) * s = (tal ls j - tal ls i) * s + (chg ls j - 1) * s := by
      rw [tal, ← Int.add_mul]
      congr 1
      omega
    rw [e]
    omega
  have m := bf_max (s := s) (ls := ls) (x := Hh ls (j + 1) - (chg ls j - 1) * s) (j := j)
  constructor
  · intro h
    refine Int.not_lt.mp fun c => ?_
    obtain ⟨i, hi, k⟩ := m.mp (by omega)
    exact h i (by omega) ((key i).mpr k)
  · intro h i hi k
    have := m.mpr ⟨i, by omega, (key i).mp k⟩
    omega
theorem crowAt_none {j : Nat} : crowAt s ls j = none ↔ ∀ i, i < j → ¬ cond s ls i j = true := by
  unfold crowAt
  rw [List.findSome?_eq_none_iff]
  constructor
  · intro h i hi k
    have := h (j - 1 - i) (by rw [List.mem_range'_1]; omega)
    rw [show j - 1 - (j - 1 - i) = i by omega, if_pos k] at this
    cases this
  · intro h b hb
    rw [List.mem_range'_1] at hb
    rw [if_neg (h _ (by omega))]
theorem crow_none : crow s ls = none ↔ ∀ j, j + 1 < ls.length → Bf s ls j + (chg ls j - 1) * s ≤ Hh ls (j + 1) := by
  unfold crow
  rw [List.findSome?_eq_none_iff]
  constructor
  · intro h j hj
    exact free_at.mp (crowAt_none.mp (h (j + 1) (by rw [List.mem_range'_1]; omega)))
  · intro h j hj
    rw [List.mem_range'_1] at hj
    refine crowAt_none.mpr ?_
    cases j with
    | zero => exact fun i hi => by omega
    | succ j => exact free_at.mpr (h j (by omega))
theorem get_mid {pre suf : List (Int × Int)} {l : Int × Int} (e : ls = pre ++ l :: suf) : Hh ls pre.length = l.1 ∧ Oo ls pre.length = l.2 := by
  unfold Hh Oo
  rw [e]
  simp [List.getD]
theorem early_some (hs : 0 < s) (asc : ls.Pairwise fun a b => a.1 < b.1) : ∀ (suf : List (Int × Int)) (pre : List (Int × Int)) (p : Option Int) (l : Int × Int), ls = pre ++ l :: suf → Bf s ls pre.length = bar s p l.1 → (∀ q, p = some q → q ≤ l.1) →
    ((∃ js, early s p l suf = some js) ↔ ∀ i, pre.length ≤ i → i + 1 < ls.length → Bf s ls i + (chg ls i - 1) * s ≤ Hh ls (i + 1))
  | [], pre, p, l, e, hb, hq => by
    refine ⟨(fun _ i h1 h2 => ?_), (fun _ => ⟨[], rfl⟩)⟩
    rw [e] at h2
    simp at h2
    omega
  | (h', o') :: r, pre, p, (h, o), e, hb, hq => by
    obtain ⟨e1, e2⟩ := get_mid e
    have e' : ls = (pre ++ [(h, o)]) ++ (h', o') :: r := by rw [e, List.append_assoc] <;> rfl
    obtain ⟨e3, e4⟩ := get_mid e'
    rw [List.length_append, List.length_singleton] at e3 e4
    have len : pre.length + 1 < ls.length := by rw [e]; simp
    have lt : h < h' := by
      have := asc_get asc (show pre.length < pre.length + 1 by omega) len
      rw [e1, e3] at this
      exact this
    simp only at e1 e2 e3 e4 hb hq
    rw [early]
    by_cases c : o' = o
    · have d0 : chg ls pre.length = 0 := by rw [chg, e4, e2, if_pos c]
      have nb : Bf s ls (pre.length + 1) = bar s p h' := by
        rw [Bf, d0, hb, Int.zero_mul, Int.add_zero, e3]
        unfold bar
        cases p with
        | none => simp only; split <;> omega
        | some q => simp only; (repeat' split) <;> omega
      have ih := early_some hs asc r (pre ++ [(h, o)]) p (h', o') e' (by rw [List.length_append, List.length_singleton]; exact nb) (fun q z => by have := hq q z; simp only; omega)
      rw [if_pos c, ih, List.length_append, List.length_singleton]
      refine ⟨fun k i h1 h2 => ?_, fun k i h1 h2 => k i (by omega) h2⟩
      by_cases ci : i = pre.length
      · subst ci
        rw [d0, hb, e3, Int.zero_sub]
        unfold bar
        cases p with
        | none => simp only; omega
        | some q =>
          have := hq q rfl
          simp only
          split <;> omega
      · exact k i (by omega) h2
    · have d1 : chg ls pre.length = 1 := by rw [chg, e4, e2, if_neg c]
      rw [if_neg c]
      by_cases g : bar s p h > h'
      · rw [if_pos g]
        refine ⟨(fun ⟨js, z⟩ => nomatch z), (fun k => ?_)⟩
        have := k pre.length (Nat.le_refl _) len
        rw [d1, hb, e3, Int.sub_self, Int.zero_mul] at this
        omega
      · rw [if_neg g]
        have nb : Bf s ls (pre.length + 1) = bar s (some (bar s p h)) h' := by
          rw [Bf, d1, hb, Int.one_mul, e3]
          rfl
        have ih := early_some hs asc r (pre ++ [(h, o)]) (some (bar s p h)) (h', o') e' (by rw [List.length_append, List.length_singleton]; exact nb) (fun q z => by cases z; simp only; omega)
        rw [List.length_append, List.length_singleton] at ih
        have em : (∃ js, (early s (some (bar s p h)) (h', o') r).map ((bar s p h, o') :: ·) = some js) ↔ ∃ js, early s (some (bar s p h)) (h', o') r = some js := by
          cases early s (some (bar s p h)) (h', o') r <;> simp
        rw [em, ih]
        refine ⟨fun k i h1 h2 => ?_, fun k i h1 h2 => k i (by omega) h2⟩
        by_cases ci : i = pre.length
        · subst ci
          rw [d1, hb, e3, Int.sub_self, Int.zero_mul]
          omega
        · exact k i (by omega) h2
theorem fit_iff (hs : 0 < s) (asc : ls.Pairwise fun a b => a.1 < b.1) : (∃ t, earlyT os s ls = some t) ↔ crow s ls = none := by
  rw [crow_none]
  cases ls with
  | nil => exact ⟨(fun _ j hj => by simp at hj), (fun _ => ⟨_, rfl⟩)⟩
  | cons l r =>
    have k := early_some (ls := l :: r) hs asc r [] none l rfl (by rw [List.length_nil, Bf]; rfl) (fun _ h => nomatch h)
    rw [earlyT]
    have em : (∃ t, (early s none l r).map (l.2, ·) = some t) ↔ ∃ js, early s none l r = some js := by
      cases early s none l r <;> simp
    rw [em, k]
    exact ⟨fun k i h => k i (Nat.zero_le _) h, fun k i _ h => k i h⟩
theorem last_at {js : List (Int × Int)} (h : js ≠ []) : ∃ m o, atI (js.map jmpD) (-1) = some (jmpD (m, o)) ∧ endP none js = some m := by
  have e := (List.dropLast_concat_getLast h).symm
  generalize js.dropLast = d at e
  generalize js.getLast h = l at e
  obtain ⟨m, o⟩ := l
  subst e
  refine ⟨m, o, ?_, endP_snoc⟩
  simp [atI, ixN]
  rw [if_pos (by omega)]
  have : ((-1 : Int) + (d.length + 1)).toNat = d.length := by omega
  simp [this]
theorem early_of_does {Q : D → Sto → Prop} (z : ZoneOK os s) (hl : ls.length ≤ 1000) (q : ∀ c, Q (earlyD (earlyT os s ls)) (S ++ [c])) : (m_early_of [zoneD os s, looksD ls] S).Does Q := by
  refine does_def rfl ?_
  refine seq_cut (fun ρ S' => ρ = [some (zoneD os s), some (looksD ls), some (.cell S.length), none, none, none] ∧ S' = S ++ [.lst []]) (fun M hM => ?_) ?_
  · simp
    exact hM _ _ ⟨rfl, rfl⟩
  rintro ρ _ ⟨rfl, rfl⟩
  rw [does_seq]
  refine Out.DoesE.mono (N := fun ρ S' => ∃ (js : List (Int × Int)) (h : Int) (x3 x4 : Option D), ρ = [some (zoneD os s), some (looksD ls), some (.cell S.length), x3, x4, none] ∧ S' = S ++ [.lst (js.map jmpD)] ∧ earlyT os s ls = some (h, js)) (R := Q) (B := fun _ _ => False) (C := fun _ _ => False) ?_ ?_ (fun _ _ h => h) (fun _ _ h => h) (fun _ _ h => h)
  · rw [does_for]
    simp only [does_iRange2, does_cons, does_k, does_callB, does_var, does_nil, List.getElem?_cons_zero, List.getElem?_cons_succ, len_looks, optQ_some]
    refine ⟨by omega, ?_⟩
    by_cases hn : ls = []
    · subst hn
      exact ⟨[], _, none, none, rfl, rfl, rfl⟩
    · obtain ⟨l0, rest, hL⟩ : ∃ l0 rest, ls = l0 :: rest := by
        cases ls with
        | nil => exact absurd rfl hn
        | cons a r => exact ⟨a, r, rfl⟩
      have en : ((ls.length : Int) - 1).toNat = rest.length := by rw [hL]; simp
      rw [en]
      refine forL_cut (fun ds ρ S' => ∃ (pre : List (Int × Int)) (l : Int × Int) (suf js : List (Int × Int)) (x3 x4 : Option D), ds = rngD ((pre.length : Int) + 1) suf.length ∧ ρ = [some (zoneD os s), some (looksD ls), some (.cell S.length), x3, x4, none] ∧ ls = pre ++ l :: suf ∧ S' = S ++ [.lst (js.map jmpD)] ∧ js.length ≤ pre.length ∧
        early s none l0 rest = (early s (endP none js) l suf).map (js ++ ·)) _
        ⟨[], l0, rest, [], none, none, rfl, rfl, hL, rfl, Nat.le_refl _, by show _ = (early s none l0 rest).map _; cases early s none l0 rest <;> rfl⟩ ?_ ?_
      · rintro d r ρ S' ⟨pre, ⟨h, o⟩, suf, js, x3, x4, e, rfl, el, rfl, jl, ee⟩
        cases suf with
        | nil => cases e
        | cons l' suf =>
          obtain ⟨h', o'⟩ := l'
          rw [List.length_cons, rngD_cons] at e
          injection e with e1 e2
          subst e1
          refine ⟨_, rfl, fun M hM => ?_⟩
          obtain ⟨g1, g2⟩ := get_mid el
          have el' : ls = (pre ++ [(h, o)]) ++ (h', o') :: suf := by rw [el, List.append_assoc] <;> rfl
          obtain ⟨g3, g4⟩ := get_mid el'
          rw [List.length_append, List.length_singleton] at g3 g4
          have len : pre.length + 1 < ls.length := by rw [el]; simp
          have h1 : (pre.length : Int) + 1 - 1 = (pre.length : Nat) := by omega
          simp only at g1 g2 g3 g4
          rw [does_ifS]
          have e2' : r = rngD (((pre ++ [(h, o)]).length : Int) + 1) suf.length := by rw [e2, List.length_append] <;> rfl
          rw [early] at ee
          have l1 : atI (ls.map jmpD) ((pre.length : Int) + 1) = _ := at_look len
          have l2 := at_look (ls := ls) (i := pre.length) (by omega)
          rw [g3, g4] at l1
          rw [g1, g2] at l2
          by_cases c : o' = o
          · rw [if_pos c] at ee
            simp only [does_op, does_var, does_k, List.getElem?_cons_zero, List.getElem?_cons_succ, List.length_cons, List.length_nil, List.map_cons, List.map_nil, tgN_eq, List.set_cons_succ, List.set_cons_zero, ix_looks, gI_int, optQ_some, h1, l1, l2, ix_jmp1, gNe_int, blQ_bl]
            simp [c]
            exact hM _ _ ⟨pre ++ [(h, o)], (h', o'), suf, js, _, _, e2', rfl, el', rfl, by rw [List.length_append]; omega, ee⟩
          · rw [if_neg c] at ee
            simp only [does_op, does_var, does_k, List.getElem?_cons_zero, List.getElem?_cons_succ, List.length_cons, List.length_nil, List.map_cons, List.map_nil, tgN_eq, List.set_cons_succ, List.set_cons_zero, ix_looks, gI_int, optQ_some, h1, l1, l2, ix_jmp1, gNe_int, blQ_bl]
            have cb : (!(o' == o)) = true := by simp [c]
            rw [if_pos cb]
            refine seq_cut (fun ρ S' => ρ = [some (zoneD os s), some (looksD ls), some (.cell S.length), some (.int ((pre.length : Int) + 1)), some (.int (h + 1)), none] ∧ S' = S ++ [.lst (js.map jmpD)]) (fun M hM => ?_) ?_
            · simp only [does_asg, does_op, does_var, does_k, List.getElem?_cons_zero, List.getElem?_cons_succ, ix_looks, gI_int, optQ_some, h1, l2, ix_jmp0, gAdd_int]
              exact hM _ _ ⟨rfl, rfl⟩
            rintro ρ _ ⟨rfl, rfl⟩
            refine seq_cut (fun ρ S' => ρ = [some (zoneD os s), some (looksD ls), some (.cell S.length), some (.int ((pre.length : Int) + 1)), some (.int (bar s (endP none js) h)), none] ∧ S' = S ++ [.lst (js.map jmpD)]) (fun M hM => ?_) ?_
            · by_cases hj : js = []
              · subst hj
                simp [gLen_cell get_new]
                exact hM _ _ ⟨rfl, rfl⟩
              · obtain ⟨m, o2, a1, a2⟩ := last_at hj
                have := List.length_pos_iff.mpr hj
                simp [gLen_cell get_new, gIx_cell get_new, hj, List.length_pos_iff, a1]
                exact hM _ _ ⟨by rw [a2] <;> rfl, rfl⟩
            rintro ρ _ ⟨rfl, rfl⟩
            generalize bar s (endP none js) h = at' at ee ⊢
            by_cases g : at' > h'
            · rw [if_pos g] at ee
              simp only [does_seq, does_ifS, does_op, does_var, does_k, List.getElem?_cons_zero, List.getElem?_cons_succ, ix_looks, optQ_some, l1, ix_jmp0, gI_int, blQ_bl]
              rw [if_pos (by simpa using g)]
              simp only [does_ret, does_k]
              have ee' : earlyT os s ls = none := by rw [hL, earlyT, ee] <;> rfl
              have q := q (.lst (js.map jmpD))
              rw [ee'] at q
              exact q
            · rw [if_neg g] at ee
              simp only [does_seq, does_ifS, does_op, does_var, does_k, List.getElem?_cons_zero, List.getElem?_cons_succ, ix_looks, optQ_some, l1, ix_jmp0, ix_jmp1, gI_int, blQ_bl, does_nop, does_app, does_tup, does_cons, does_nil, get_new]
              rw [if_neg (by simpa using g)]
              refine ⟨_, rfl, by simp, _, rfl, by rw [List.length_map]; omega, ?_⟩
              rw [set_new]
              refine hM _ _ ⟨pre ++ [(h, o)], (h', o'), suf, js ++ [(at', o')], _, _, e2', rfl, el', by rw [List.map_append] <;> rfl, by rw [List.length_append, List.length_append]; simp; omega, ?_⟩
              rw [ee, endP_snoc, Option.map_map]
              congr 1
              funext x
              simp
      · rintro ρ S' ⟨pre, ⟨h, o⟩, suf, js, x3, x4, e, rfl, el, rfl, jl, ee⟩
        cases suf with
        | cons l' suf => rw [List.length_cons, rngD_cons] at e; cases e
        | nil =>
          refine ⟨js, l0.2, x3, x4, rfl, rfl, ?_⟩
          rw [hL, earlyT, ee, early]
          simp
  · rintro ρ S' ⟨js, h, x3, x4, rfl, rfl, ee⟩
    have q := q (.lst (js.map jmpD))
    rw [ee] at q
    cases ls with
    | nil =>
      cases z <;> cases ee <;> (simp [gTuple_cell get_new]; exact q)
    | cons l0 rest =>
      have hh : h = l0.2 := by
        rw [earlyT] at ee
        cases x : early s none l0 rest with
        | none => rw [x] at ee; cases ee
        | some y => rw [x] at ee; cases ee; rfl
      subst hh
      have n0 : ¬ (((rest.length + 1 : Nat) : Int) = 0) := by omega
      simp [gTuple_cell get_new]
      exact q
end
end Dm
namespace Dm
open PySem L2
/-- data without cells -/
inductive Plain : Nat → D → Prop
  | non {n : Nat} : Plain n .non
  | int {n : Nat} {i : Int} : Plain n (.int i)
  | bl {n : Nat} {b : Bool} : Plain n (.bl b)
  | str {n : Nat} {x : Str} : Plain n (.str x)
  | tup {n : Nat} {ds : List D} : ds.length ≤ 16777216 → (∀ d, d ∈ ds → Plain n d) → Plain (n + 1) (.tup ds)
theorem Plain.eqv {S : Sto} {n : Nat} {d : D} (h : Plain n d) : Eqv S n d d := by
  induction h with
  | non => exact .non
  | int => exact .int
  | bl => exact .bl
  | str => exact .str
  | tup hl _ ih => exact .tup rfl hl fun i d e a b => by rw [a] at b; cases b; exact ih d (List.mem_of_getElem? a)
theorem Plain.up {n m : Nat} {d : D} (h : Plain n d) (hm : n ≤ m) : Plain m d := by
  induction h generalizing m with
  | non => exact .non
  | int => exact .int
  | bl => exact .bl
  | str => exact .str
  | tup hl _ ih =>
    obtain ⟨k, rfl⟩ : ∃ k, m = k + 1 := ⟨m - 1, by omega⟩
    exact .tup hl fun d hd => ih d hd (by omega)
theorem same_plain {S : Sto} {n : Nat} {d : D} (h : Plain n d) (hn : n ≤ 29) : m_law_same 30 [d, d] S = .ok (.bl true) S := same30 h.eqv hn
section
variable {S : Sto} {os : List Int} {s : Int} {ls : List (Int × Int)} {n p : Nat}
theorem isNon_early {t : Option (Int × List (Int × Int))} : isNon (earlyD t) = t.isNone := by cases t <;> rfl
theorem fit_crow (hs : 0 < s) (l : LooksOK os ls) : (earlyT os s ls).isNone = !(crow s ls).isNone := by
  have k := fit_iff (os := os) hs l.asc
  cases e : earlyT os s ls with
  | some t =>
    have := k.mp ⟨t, e⟩
    rw [this] <;> rfl
  | none =>
    cases c : crow s ls with
    | none =>
      obtain ⟨t, z⟩ := k.mpr c
      rw [e] at z; cases z
    | some _ => rfl
theorem looks_fit_does {Q : D → Sto → Prop} (z : ZoneOK os s) (l : LooksOK os ls) (hl : ls.length ≤ 1000) (q : ∀ c, Q (.bl (crow s ls).isNone) (S ++ [c])) : (m_looks_fit [zoneD os s, looksD ls] S).Does Q := by
  refine does_def rfl ?_
  simp
  refine early_of_does z hl fun c => ?_
  simp [isNon_early]
  have k := fit_crow z.sp.1 l
  have k2 : (earlyT os s ls).isSome = (crow s ls).isNone := by
    cases a : earlyT os s ls <;> cases b : crow s ls <;> rw [a, b] at k <;> first | rfl | cases k
  rw [k2]
  exact q c
theorem can_hold_does {Q : D → Sto → Prop} (z : ZoneOK os s) (l : LooksOK os ls) (hl : ls.length ≤ 1000) (q : ∀ c, Q (.bl (crow s ls).isNone) (S ++ [c])) : (m_can_hold [zoneD os s, looksD ls] S).Does Q := by
  refine does_def rfl ?_
  simp [need_zone_ok z, need_looks_ok z l hl]
  exact looks_fit_does z l hl q
theorem early_table_does {Q : D → Sto → Prop} (z : ZoneOK os s) (l : LooksOK os ls) (hl : ls.length ≤ 1000) (q : ∀ c, Q (earlyD (earlyT os s ls)) (S ++ [c])) : (m_early_table [zoneD os s, looksD ls] S).Does Q := by
  refine does_def rfl ?_
  simp [need_zone_ok z, need_looks_ok z l hl]
  exact early_of_does z hl q
end
end Dm
-- text HmEtab
namespace Dm
open PySem L2
section
variable {S : Sto} {os : List Int} {s h : Int} {ls js : List (Int × Int)} {n p : Nat}
theorem bar_gt {q : Option Int} {x : Int} : x < bar s q x := by
  unfold bar
  cases q with
  | none => simp only; omega
  | some q => simp only; split <;> omega
theorem bar_ge {q x : Int} : q + s ≤ bar s (some q) x := by
  unfold bar
  simp only
  split <;> omega
theorem early_chain : ∀ {suf : List (Int × Int)} {p : Option Int} {l : Int × Int} {js : List (Int × Int)}, early s p l suf = some js → (∀ x, x ∈ suf → x.2 ∈ os) → Chain os s l.2 p js
  | [], p, l, js, e, _ => by cases e; trivial
  | (h', o') :: r, p, (h, o), js, e, m => by
    rw [early] at e
    by_cases c : o' = o
    · rw [if_pos c] at e
      have ih := early_chain e fun x hx => m x (List.mem_cons_of_mem _ hx)
      simp only at ih ⊢
      rw [← c]; exact ih
    · rw [if_neg c] at e
      by_cases g : bar s p h > h'
      · rw [if_pos g] at e; cases e
      · rw [if_neg g] at e
        cases w : early s (some (bar s p h)) (h', o') r with
        | none => rw [w] at e; cases e
        | some js' =>
          rw [w] at e
          cases e
          refine ⟨m _ List.mem_cons_self, c, fun q hq => ?_, early_chain w fun x hx => m x (List.mem_cons_of_mem _ hx)⟩
          subst hq
          exact bar_ge
theorem early_head : ∀ {suf : List (Int × Int)} {p : Option Int} {l : Int × Int} {js : List (Int × Int)}, early s p l suf = some js → (l :: suf).Pairwise (fun a b => a.1 < b.1) → ∀ j, js.head? = some j → l.1 < j.1
  | [], p, l, js, e, _, j, hj => by cases e; cases hj
  | (h', o') :: r, p, (h, o), js, e, asc, j, hj => by
    rw [early] at e
    obtain ⟨a1, a2⟩ := List.pairwise_cons.mp asc
    by_cases c : o' = o
    · rw [if_pos c] at e
      have := early_head e a2 j hj
      have := a1 _ List.mem_cons_self
      simp only at *
      omega
    · rw [if_neg c] at e
      by_cases g : bar s p h > h'
      · rw [if_pos g] at e; cases e
      · rw [if_neg g] at e
        cases w : early s (some (bar s p h)) (h', o') r with
        | none => rw [w] at e; cases e
        | some js' =>
          rw [w] at e
          cases e
          cases hj
          exact bar_gt
theorem early_holds : ∀ {suf : List (Int × Int)} {p : Option Int} {l : Int × Int} {js : List (Int × Int)}, early s p l suf = some js → (l :: suf).Pairwise (fun a b => a.1 < b.1) → ∀ x, x ∈ l :: suf → offAt l.2 js x.1 = x.2
  | suf, p, l, js, e, asc, x, hx => by
    have hd := early_head e asc
    rcases List.mem_cons.mp hx with rfl | hy
    · cases js with
      | nil => rfl
      | cons j t =>
        obtain ⟨a, o⟩ := j
        rw [offAt, if_pos (hd _ rfl)]
    · cases suf with
      | nil => cases hy
      | cons l' r =>
        obtain ⟨h', o'⟩ := l'
        obtain ⟨h, o⟩ := l
        rw [early] at e
        obtain ⟨a1, a2⟩ := List.pairwise_cons.mp asc
        by_cases c : o' = o
        · rw [if_pos c] at e
          have ih := early_holds e a2 x hy
          simp only at ih ⊢
          rw [← c]; exact ih
        · rw [if_neg c] at e
          by_cases g : bar s p h > h'
          · rw [if_pos g] at e; cases e
          · rw [if_neg g] at e
            cases w : early s (some (bar s p h)) (h', o') r with
            | none => rw [w] at e; cases e
            | some js' =>
              rw [w] at e
              cases e
              have hx' : h' ≤ x.1 := by
                rcases List.mem_cons.mp hy with rfl | hw
                · exact Int.le_refl _
                · have := (List.pairwise_cons.mp a2).1 x hw
                  simp only at this
                  omega
              show offAt o ((bar s p h, o') :: js') x.1 = x.2
              rw [offAt, if_neg (by omega)]
              exact early_holds w a2 x hy
theorem earlyT_tab (z : ZoneOK os s) (l : LooksOK os ls) (e : earlyT os s ls = some (h, js)) : TabOK os s h js := by
  cases ls with
  | nil => cases z <;> cases e <;> exact ⟨by simp, trivial⟩
  | cons a r =>
    rw [earlyT] at e
    cases w : early s none a r with
    | none => rw [w] at e; cases e
    | some js' =>
      rw [w] at e
      cases e
      exact ⟨l.mem _ List.mem_cons_self, early_chain w fun x hx => l.mem x (List.mem_cons_of_mem _ hx)⟩
theorem earlyT_holds (l : LooksOK os ls) (e : earlyT os s ls = some (h, js)) : ∀ x, x ∈ ls → offAt h js x.1 = x.2 := by
  cases ls with
  | nil => exact fun x hx => nomatch hx
  | cons a r =>
    rw [earlyT] at e
    cases w : early s none a r with
    | none => rw [w] at e; cases e
    | some js' =>
      rw [w] at e
      cases e
      exact early_holds w l.asc
end
end Dm
-- text HmHold
namespace Dm
open PySem L2
/-! ### looks that some table has are not crowded -/
def aft : Int → List (Int × Int) → Int → Int × List (Int × Int)
  | o, [], _ => (o, [])
  | o, (a, b) :: r, t => if t < a then (o, (a, b) :: r) else aft b r t
section
variable {os : List Int} {s h : Int} {ls js : List (Int × Int)}
theorem aft_off {t x : Int} (hx : t ≤ x) : ∀ {o : Int} {jr : List (Int × Int)}, offAt (aft o jr t).1 (aft o jr t).2 x = offAt o jr x
  | o, [] => rfl
  | o, (a, b) :: r => by
    rw [aft]
    by_cases c : t < a
    · rw [if_pos c]
    · rw [if_neg c, aft_off hx, offAt, if_neg (by omega)]
theorem aft_held {t : Int} : ∀ {o : Int} {jr : List (Int × Int)}, (aft o jr t).1 = offAt o jr t
  | o, [] => rfl
  | o, (a, b) :: r => by
    rw [aft, offAt]
    by_cases c : t < a
    · rw [if_pos c, if_pos c]
    · rw [if_neg c, if_neg c, aft_held]
theorem aft_late {t : Int} : ∀ {o : Int} {jr : List (Int × Int)}, ∀ j, (aft o jr t).2.head? = some j → t < j.1
  | o, [], j, h => nomatch h
  | o, (a, b) :: r, j, h => by
    rw [aft] at h
    by_cases c : t < a
    · rw [if_pos c] at h; cases h; exact c
    · rw [if_neg c] at h; exact aft_late j h
theorem aft_chain {t : Int} (hs : 0 < s) : ∀ {o : Int} {p : Option Int} {jr : List (Int × Int)}, Chain os s o p jr → ∃ p', Chain os s (aft o jr t).1 p' (aft o jr t).2
  | o, p, [], h => ⟨p, h⟩
  | o, p, (a, b) :: r, h => by
    rw [aft]
    by_cases c : t < a
    · rw [if_pos c]; exact ⟨p, h⟩
    · rw [if_neg c]; exact aft_chain hs h.2.2.2
/-- the jump behind comes a spacing later -/
theorem aft_gap {t : Int} (hs : 0 < s) : ∀ {jr : List (Int × Int)} {o p : Int}, Chain os s o (some p) jr → ∀ j, (aft o jr t).2.head? = some j → p + s ≤ j.1
  | [], o, p, h, j, hj => nomatch hj
  | (a, b) :: r, o, p, h, j, hj => by
    have e := h.2.2.1 p rfl
    rw [aft] at hj
    by_cases c : t < a
    · rw [if_pos c] at hj; cases hj; exact e
    · rw [if_neg c] at hj
      have := aft_gap hs h.2.2.2 j hj
      omega
theorem held_early (hs : 0 < s) : ∀ {suf : List (Int × Int)} {p pr : Option Int} {l : Int × Int} {jr : List (Int × Int)}, (l :: suf).Pairwise (fun a b => a.1 < b.1) → Chain os s l.2 pr jr → (∀ j, jr.head? = some j → bar s p l.1 ≤ j.1) → (∀ x, x ∈ suf → offAt l.2 jr x.1 = x.2) → ∃ js, early s p l suf = some js
  | [], p, pr, l, jr, _, _, _, _ => ⟨[], rfl⟩
  | (h', o') :: r, p, pr, (h, o), jr, asc, ch, hb, hx => by
    obtain ⟨a1, a2⟩ := List.pairwise_cons.mp asc
    have lt : h < h' := a1 _ List.mem_cons_self
    have ho : offAt o jr h' = o' := hx _ List.mem_cons_self
    obtain ⟨p', ch'⟩ := aft_chain (t := h') hs ch
    have held : (aft o jr h').1 = o' := by rw [aft_held]; exact ho
    rw [held] at ch'
    have hx' : ∀ x, x ∈ r → offAt o' (aft o jr h').2 x.1 = x.2 := fun x hm => by
      have lx : h' ≤ x.1 := Int.le_of_lt ((List.pairwise_cons.mp a2).1 x hm)
      have := aft_off lx (o := o) (jr := jr)
      rw [held] at this
      rw [this]
      exact hx x (List.mem_cons_of_mem _ hm)
    have late := aft_late (t := h') (o := o) (jr := jr)
    rw [early]
    by_cases c : o' = o
    · rw [if_pos c]
      refine held_early hs (p := p) a2 ch' (fun j hj => ?_) hx'
      have l1 := late j hj
      simp only
      cases p with
      | none => unfold bar; simp only; omega
      | some pv =>
        have : pv + s ≤ j.1 := by
          cases jr with
          | nil => cases hj
          | cons q t =>
            obtain ⟨a, b⟩ := q
            have b1 := hb _ rfl
            have b2 : pv + s ≤ bar s (some pv) h := bar_ge
            rw [aft] at hj
            by_cases g : h' < a
            · rw [if_pos g] at hj; cases hj
              simp only at b1 ⊢
              omega
            · rw [if_neg g] at hj
              have := aft_gap hs ch.2.2.2 j hj
              simp only at b1
              omega
        unfold bar
        simp only
        split <;> omega
    · rw [if_neg c]
      cases jr with
      | nil => exact absurd ho.symm c
      | cons q t =>
        obtain ⟨a, b⟩ := q
        have b1 := hb _ rfl
        simp only at b1
        have g : ¬ h' < a := fun g => by
          rw [offAt, if_pos g] at ho
          exact c ho.symm
        rw [if_neg (by omega)]
        obtain ⟨js, e⟩ := held_early hs (p := some (bar s p h)) a2 ch' (fun j hj => by
          have l1 := late j hj
          have : bar s p h + s ≤ j.1 := by
            rw [aft, if_neg g] at hj
            have := aft_gap hs ch.2.2.2 j hj
            omega
          simp only
          generalize bar s p h = v at this
          unfold bar
          simp only
          split <;> omega) hx'
        exact ⟨_, by rw [e] <;> rfl⟩
theorem held_fit (hs : 0 < s) (asc : ls.Pairwise fun a b => a.1 < b.1) (t : TabOK os s h js) (hx : ∀ x, x ∈ ls → offAt h js x.1 = x.2) : ∃ t, earlyT os s ls = some t := by
  cases ls with
  | nil => exact ⟨_, rfl⟩
  | cons l r =>
    obtain ⟨p', ch⟩ := aft_chain (t := l.1) hs t.chain
    have held : (aft h js l.1).1 = l.2 := by rw [aft_held]; exact hx _ List.mem_cons_self
    rw [held] at ch
    obtain ⟨js', e⟩ := held_early hs (p := none) (jr := (aft h js l.1).2) asc ch (fun j hj => by
      have := aft_late j hj
      unfold bar
      simp only
      omega) fun x hm => by
      have lx : l.1 ≤ x.1 := Int.le_of_lt ((List.pairwise_cons.mp asc).1 x hm)
      have := aft_off lx (o := h) (jr := js)
      rw [held] at this
      rw [this]
      exact hx x (List.mem_cons_of_mem _ hm)
    exact ⟨_, by rw [earlyT, e] <;> rfl⟩
/-! ### the first crowded stretch -/
/-! ### parts of looks -/
end
end Dm
-- text HmLeft
namespace Dm
open PySem L2
theorem cut_drop {ds : List D} {k : Int} (h : 0 ≤ k) : cutD ds (some k) none = ds.drop k.toNat := by
  unfold cutD
  have e : k = (k.toNat : Int) := by omega
  rw [e, HT.sIx_nat, HT.sIx_none, Int.toNat_natCast]
  by_cases c : k.toNat ≤ ds.length
  · rw [Nat.min_eq_left c, List.take_of_length_le (by rw [List.length_drop]; omega)]
  · rw [Nat.min_eq_right (by omega), List.drop_eq_nil_of_le (Nat.le_refl _), List.drop_eq_nil_of_le (by omega), List.take_nil]
/-! ### looks with one more -/
def seen (ls : List (Int × Int)) (m : Int) : Option Int := (ls.find? fun l => l.1 == m).map (·.2)
def seenD : Option Int → D
  | none => .non
  | some o => .int o
def ahead (ls : List (Int × Int)) (m : Int) : List (Int × Int) := ls.filter fun l => decide (l.1 < m)
def withL (ls : List (Int × Int)) (m o : Int) : List (Int × Int) := ahead ls m ++ (m, o) :: ls.drop (ahead ls m).length
section
variable {S : Sto} {os : List Int} {s m o : Int} {ls : List (Int × Int)} {n p : Nat}
theorem offset_seen_ok : m_offset_seen [looksD ls, .int m] S = .ok (seenD (seen ls m)) S := by
  refine pure_of fun Q q => ?_
  refine does_def rfl ?_
  simp
  show Out.DoesE (forL _ _ (ls.map jmpD) _ _) NoEO _ _
  refine forL_cut (fun ds ρ S' => S = S' ∧ ∃ (suf : List (Int × Int)) (x2 x3 : Option D), ds = suf.map jmpD ∧ ρ = [some (looksD ls), some (.int m), x2, x3] ∧ seen ls m = seen suf m) _ ⟨rfl, ls, none, none, rfl, rfl, rfl⟩ ?_ ?_
  · rintro d r ρ _ ⟨rfl, suf, x2, x3, e, rfl, es⟩
    cases suf with
    | nil => cases e
    | cons j suf =>
      obtain ⟨a, b⟩ := j
      injection e with e1 e2
      subst e1
      refine ⟨_, rfl, fun M hM => ?_⟩
      unfold seen at es
      rw [List.find?_cons] at es
      by_cases c : a = m
      · subst c
        simp
        have : seen ls a = some b := by unfold seen; simpa using es
        rw [this] at q
        exact q
      · have cb : (a == m) = false := by simp [c]
        simp only [cb] at es
        simp [c]
        exact hM _ _ ⟨rfl, suf, _, _, e2, rfl, es⟩
  · rintro ρ _ ⟨rfl, suf, x2, x3, e, rfl, es⟩
    cases suf with
    | cons j suf => cases e
    | nil =>
      rw [es] at q
      exact q
theorem ahead_len : (ahead ls m).length ≤ ls.length := List.length_filter_le _ _
theorem with_look_ok (hl : ls.length ≤ 1000) : m_with_look [looksD ls, .int m, .int o] S = .ok (looksD (withL ls m o)) S := by
  refine pure_of fun Q q => ?_
  refine does_def rfl ?_
  have al := ahead_len (ls := ls) (m := m)
  refine seq_cut (fun ρ S' => S = S' ∧ ρ = [some (looksD ls), some (.int m), some (.int o), some (looksD (ahead ls m)), none]) (fun M hM => ?_) ?_
  · simp
    show LcQ _ _ _ _ (ls.map jmpD) _ _
    refine lcQ_filter (fun l => decide (l.1 < m)) jmpD ?_ ?_
    · intro l hl
      refine ⟨_, rfl, fun Q q => ?_, fun Q e q => ?_⟩
      · simpa [wipeD] using q
      · simpa [wipeD] using q
    · exact hM _ _ ⟨rfl, rfl⟩
  rintro ρ _ ⟨rfl, rfl⟩
  simp [looksD]
  rw [cut_drop (by omega), Int.toNat_natCast]
  refine ⟨by omega, by simp; omega, ?_⟩
  have e : looksD (withL ls m o) = .tup (((ahead ls m).map jmpD ++ [.tup [.int m, .int o]]) ++ (ls.map jmpD).drop (ahead ls m).length) := by
    unfold looksD withL
    rw [List.map_append, List.map_cons, List.map_drop, List.append_assoc] <;> rfl
  rw [e] at q
  simpa using q
theorem ahead_split (asc : ls.Pairwise fun a b => a.1 < b.1) : ahead ls m ++ ls.drop (ahead ls m).length = ls ∧ ∀ x, x ∈ ls.drop (ahead ls m).length → m ≤ x.1 := by
  induction ls with
  | nil => exact ⟨rfl, fun x hx => nomatch hx⟩
  | cons l r ih =>
    obtain ⟨a1, a2⟩ := List.pairwise_cons.mp asc
    obtain ⟨i1, i2⟩ := ih a2
    unfold ahead at i1 i2 ⊢
    rw [List.filter_cons]
    by_cases c : l.1 < m
    · rw [if_pos (by simpa using c), List.length_cons, List.drop_succ_cons, List.cons_append, i1]
      exact ⟨rfl, i2⟩
    · rw [if_neg (by simpa using c)]
      have nil : r.filter (fun l => decide (l.1 < m)) = [] := List.filter_eq_nil_iff.mpr fun x hx => by
        have := a1 x hx
        simp; omega
      rw [nil]
      refine ⟨rfl, fun x hx => ?_⟩
      rcases List.mem_cons.mp hx with rfl | hx
      · omega
      · have := a1 x hx; omega
theorem withL_ok (l : LooksOK os ls) (ho : o ∈ os) (hn : seen ls m = none) : LooksOK os (withL ls m o) := by
  obtain ⟨e, late⟩ := ahead_split (m := m) l.asc
  have sub : ∀ x, x ∈ ls.drop (ahead ls m).length → x ∈ ls := fun x hx => List.mem_of_mem_drop hx
  have late' : ∀ x, x ∈ ls.drop (ahead ls m).length → m < x.1 := fun x hx => by
    have h1 := late x hx
    have h2 : x.1 ≠ m := fun z => by
      unfold seen at hn
      rw [Option.map_eq_none_iff, List.find?_eq_none] at hn
      exact hn x (sub x hx) (by simp [z])
    omega
  have early' : ∀ x, x ∈ ahead ls m → x.1 < m := fun x hx => by simpa using (List.mem_filter.mp hx).2
  have asc := l.asc
  rw [← e, List.pairwise_append] at asc
  obtain ⟨p1, p2, p3⟩ := asc
  refine ⟨fun x hx => ?_, ?_⟩
  · unfold withL at hx
    rcases List.mem_append.mp hx with hx | hx
    · exact l.mem x (List.mem_filter.mp hx).1
    · rcases List.mem_cons.mp hx with rfl | hx
      · exact ho
      · exact l.mem x (sub x hx)
  · unfold withL
    rw [List.pairwise_append, List.pairwise_cons]
    refine ⟨p1, ⟨late', p2⟩, fun a ha b hb => ?_⟩
    rcases List.mem_cons.mp hb with rfl | hb
    · exact early' a ha
    · exact p3 a ha b hb
theorem withL_sub (l : LooksOK os ls) : ∀ x, x ∈ ls → x ∈ withL ls m o := fun x hx => by
  obtain ⟨e, _⟩ := ahead_split (m := m) l.asc
  rw [← e] at hx
  unfold withL
  rcases List.mem_append.mp hx with hx | hx
  · exact List.mem_append.mpr (.inl hx)
  · exact List.mem_append.mpr (.inr (List.mem_cons_of_mem _ hx))
theorem withL_len (l : LooksOK os ls) : (withL ls m o).length = ls.length + 1 := by
  obtain ⟨e, _⟩ := ahead_split (m := m) l.asc
  have e2 := congrArg List.length e
  unfold withL
  rw [List.length_append] at e2
  rw [List.length_append, List.length_cons]
  omega
/-- the offsets that are left -/
def leftOf (os : List Int) (s : Int) (ls : List (Int × Int)) (m : Int) : List Int := match seen ls m with
  | some o => if (crow s ls).isNone then [o] else []
  | none => os.filter fun o => (crow s (withL ls m o)).isNone
/-- cells have come -/
def Grow (S S' : Sto) : Prop := ∃ cs, S' = S ++ cs
theorem Grow.refl : Grow S S := ⟨[], (List.append_nil _).symm⟩
theorem Grow.push {S' : Sto} (h : Grow S S') (c : Cell) : Grow S (S' ++ [c]) := by
  obtain ⟨cs, rfl⟩ := h
  exact ⟨cs ++ [c], by rw [List.append_assoc]⟩
theorem Grow.trans {S1 S2 : Sto} (h : Grow S S1) (h2 : Grow S1 S2) : Grow S S2 := by
  obtain ⟨cs, rfl⟩ := h
  obtain ⟨ds, rfl⟩ := h2
  exact ⟨cs ++ ds, by rw [List.append_assoc]⟩
theorem Grow.get {S' : Sto} {c : Cell} (h : Grow S S') (e : S[n]? = some c) : S'[n]? = some c := by
  obtain ⟨cs, rfl⟩ := h
  rw [List.getElem?_append_left (List.getElem?_eq_some_iff.mp e).1]
  exact e
theorem Grow.len {S' : Sto} (h : Grow S S') : S.length ≤ S'.length := by
  obtain ⟨cs, rfl⟩ := h
  rw [List.length_append]; omega
theorem Grow.go {S' : Sto} (h : Grow S S') (hp : Pot p S) : Go p S S' := by
  refine ⟨h.len, fun n hn _ => ?_, ?_⟩
  · obtain ⟨cs, rfl⟩ := h
    rw [List.getElem?_append_left hn]
  · obtain ⟨k, e⟩ := hp
    exact ⟨k, h.get e⟩
theorem lcQ_ext {f : D → Rho → Option Rho} {mt me : ME} {ρ : Rho} {α : Type} {i : α → D} {S0 : Sto} (t : α → Bool) (g : α → D) : ∀ {as : List α} {S : Sto} {Q : List D → Sto → Prop}, Grow S0 S →
    (∀ a, a ∈ as → ∀ S1, Grow S0 S1 → ∃ ρ1, f (i a) ρ = some ρ1 ∧ (mt ρ1 S1).Does (fun d S2 => d = .bl (t a) ∧ Grow S0 S2) ∧ ∀ S2, Grow S0 S2 → t a = true → (me ρ1 S2).Does (fun d S3 => d = g a ∧ Grow S0 S3)) →
    (∀ S', Grow S0 S' → Q ((as.filter t).map g) S') → LcQ f mt me ρ (as.map i) S Q
  | [], S, Q, hS, h, q => by rw [List.map_nil, lcQ_nil]; exact q S hS
  | a :: r, S, Q, hS, h, q => by
    obtain ⟨ρ1, e, k1, k2⟩ := h a List.mem_cons_self S hS
    rw [List.map_cons, lcQ_cons, e]
    refine k1.mono ?_
    rintro _ S1 ⟨rfl, h1⟩
    rw [blQ_bl]
    cases c : t a with
    | true =>
      rw [if_pos rfl]
      refine (k2 S1 h1 c).mono ?_
      rintro _ S2 ⟨rfl, h2⟩
      refine lcQ_ext t g h2 (fun d hd => h d (List.mem_cons_of_mem _ hd)) fun S' h' => ?_
      have := q S' h'
      rw [List.filter_cons, if_pos c] at this
      exact this
    | false =>
      rw [if_neg (by decide)]
      refine lcQ_ext t g h1 (fun d hd => h d (List.mem_cons_of_mem _ hd)) fun S' h' => ?_
      have := q S' h'
      rw [List.filter_cons, if_neg (by rw [c]; decide)] at this
      exact this
theorem choices_at_does {Q : D → Sto → Prop} (z : ZoneOK os s) (l : LooksOK os ls) (hl : ls.length ≤ 900) (q : ∀ n S', Grow S S' → S.length ≤ n → S'[n]? = some (.lst ((leftOf os s ls m).map .int)) → Q (.cell n) S') : (m_choices_at [zoneD os s, looksD ls, .int m] S).Does Q := by
  refine does_def rfl ?_
  simp [offset_seen_ok]
  unfold leftOf at q
  cases e : seen ls m with
  | some o =>
    rw [e] at q
    simp [seenD]
    refine looks_fit_does z l (by omega) fun c => ?_
    cases d : (crow s ls).isNone with
    | true =>
      simp only [d] at q
      simp
      refine q _ _ ⟨[c, .lst [.int o]], rfl⟩ (by simp) ?_
      simp
    | false =>
      simp only [d] at q
      simp
      refine q _ _ ⟨[c, .lst []], rfl⟩ (by simp) ?_
      simp
  | none =>
    rw [e] at q
    simp [seenD]
    refine lcQ_ext (S0 := S) (i := D.int) (fun o => (crow s (withL ls m o)).isNone) D.int .refl ?_ ?_
    · intro o ho S1 h1
      refine ⟨_, rfl, ?_, fun S2 h2 _ => ?_⟩
      · simp [wipeD, with_look_ok (show ls.length ≤ 1000 by omega)]
        refine looks_fit_does z (withL_ok l ho e) (by rw [withL_len l]; omega) fun c => ?_
        exact ⟨rfl, h1.push c⟩
      · simp [wipeD]
        exact h2
    · intro S' h'
      exact q _ _ (h'.push _) h'.len get_new
theorem offsets_left_does {Q : D → Sto → Prop} (z : ZoneOK os s) (l : LooksOK os ls) (hl : ls.length ≤ 900) (q : ∀ n S', Grow S S' → S.length ≤ n → S'[n]? = some (.lst ((leftOf os s ls m).map .int)) → Q (.cell n) S') : (m_offsets_left [zoneD os s, looksD ls, .int m] S).Does Q := by
  refine does_def rfl ?_
  simp [need_zone_ok z, need_looks_ok z l (show ls.length ≤ 1000 by omega)]
  exact choices_at_does z l hl q
end
end Dm
-- text HmAdd
namespace Dm
open PySem L2
section
variable {S : Sto} {os : List Int} {s h m o : Int} {ls js : List (Int × Int)}
/-- F3: some offset can be -/
theorem left_has (z : ZoneOK os s) (l : LooksOK os ls) (t : TabOK os s h js) (hx : ∀ x, x ∈ ls → offAt h js x.1 = x.2) (hn : seen ls m = none) : offAt h js m ∈ leftOf os s ls m := by
  unfold leftOf
  rw [hn]
  simp only
  have om := off_mem (m := m) t.held t.chain
  have lw := withL_ok (m := m) l om hn
  refine List.mem_filter.mpr ⟨om, ?_⟩
  have hf := held_fit (ls := withL ls m (offAt h js m)) z.sp.1 lw.asc t fun x hx' => by
    unfold withL at hx'
    rcases List.mem_append.mp hx' with q | q
    · exact hx x (List.mem_filter.mp q).1
    · rcases List.mem_cons.mp q with rfl | q
      · rfl
      · exact hx x (List.mem_of_mem_drop q)
  rw [(fit_iff z.sp.1 lw.asc).mp hf] <;> rfl
end
end Dm
-- text HmAllT1
namespace Dm
open PySem L2
section
variable {os : List Int} {s h : Int} {ls js : List (Int × Int)}
/-! ### the early table has the fewest and the earliest jumps -/
theorem aft_suf {t : Int} : ∀ {o : Int} {jr : List (Int × Int)}, ∃ pre, jr = pre ++ (aft o jr t).2
  | o, [] => ⟨[], rfl⟩
  | o, (a, b) :: r => by
    rw [aft]
    by_cases c : t < a
    · rw [if_pos c]; exact ⟨[], rfl⟩
    · rw [if_neg c]
      obtain ⟨pre, e⟩ := aft_suf (t := t) (o := b) (jr := r)
      exact ⟨(a, b) :: pre, by rw [List.cons_append, ← e]⟩
def Ahead (a b : List (Int × Int)) : Prop := ∀ (k : Nat) (x y : Int × Int), a[k]? = some x → b[k]? = some y → x.1 ≤ y.1
theorem greedy (hs : 0 < s) : ∀ {suf : List (Int × Int)} {p pr : Option Int} {l : Int × Int} {jr js : List (Int × Int)}, (l :: suf).Pairwise (fun a b => a.1 < b.1) → Chain os s l.2 pr jr → (∀ j, jr.head? = some j → bar s p l.1 ≤ j.1) → (∀ x, x ∈ suf → offAt l.2 jr x.1 = x.2) → early s p l suf = some js → js.length ≤ jr.length ∧ (js.length = jr.length → Ahead js jr)
  | [], p, pr, l, jr, js, _, _, _, _, e => by
    cases e
    refine ⟨Nat.zero_le _, fun _ k x y hx => by simp at hx⟩
  | (h', o') :: r, p, pr, (h, o), jr, js, asc, ch, hb, hx, e => by
    obtain ⟨a1, a2⟩ := List.pairwise_cons.mp asc
    have lt : h < h' := a1 _ List.mem_cons_self
    have ho : offAt o jr h' = o' := hx _ List.mem_cons_self
    obtain ⟨p', ch'⟩ := aft_chain (t := h') hs ch
    have held : (aft o jr h').1 = o' := by rw [aft_held]; exact ho
    rw [held] at ch'
    have hx' : ∀ x, x ∈ r → offAt o' (aft o jr h').2 x.1 = x.2 := fun x hm => by
      have lx : h' ≤ x.1 := Int.le_of_lt ((List.pairwise_cons.mp a2).1 x hm)
      have := aft_off lx (o := o) (jr := jr)
      rw [held] at this
      rw [this]
      exact hx x (List.mem_cons_of_mem _ hm)
    have late := aft_late (t := h') (o := o) (jr := jr)
    rw [early] at e
    by_cases c : o' = o
    · rw [if_pos c] at e
      obtain ⟨g1, g2⟩ := greedy hs (p := p) a2 ch' (fun j hj => by
        have l1 := late j hj
        simp only
        cases p with
        | none => unfold bar; simp only; omega
        | some pv =>
          have : pv + s ≤ j.1 := by
            cases jr with
            | nil => cases hj
            | cons q t =>
              obtain ⟨a, b⟩ := q
              have b1 := hb _ rfl
              have b2 : pv + s ≤ bar s (some pv) h := bar_ge
              rw [aft] at hj
              by_cases g : h' < a
              · rw [if_pos g] at hj; cases hj
                simp only at b1 ⊢
                omega
              · rw [if_neg g] at hj
                have := aft_gap hs ch.2.2.2 j hj
                simp only at b1
                omega
          unfold bar
          simp only
          split <;> omega) hx' e
      simp only at g1 g2
      obtain ⟨pre, ep⟩ := aft_suf (t := h') (o := o) (jr := jr)
      have el : jr.length = pre.length + (aft o jr h').2.length := by
        conv => lhs; rw [ep]
        rw [List.length_append]
      refine ⟨by omega, fun hl => ?_⟩
      have hp : pre = [] := List.length_eq_zero_iff.mp (by omega)
      have ej : jr = (aft o jr h').2 := by
        conv => lhs; rw [ep]
        rw [hp]; rfl
      rw [ej]
      exact g2 (by omega)
    · rw [if_neg c] at e
      cases jr with
      | nil => exact absurd ho.symm c
      | cons q t =>
        obtain ⟨a, b⟩ := q
        have b1 := hb _ rfl
        simp only at b1
        have g : ¬ h' < a := fun g => by
          rw [offAt, if_pos g] at ho
          exact c ho.symm
        rw [if_neg (by omega)] at e
        cases e2 : early s (some (bar s p h)) (h', o') r with
        | none => rw [e2] at e; cases e
        | some js' =>
          rw [e2] at e
          cases e
          obtain ⟨g1, g2⟩ := greedy hs (p := some (bar s p h)) a2 ch' (fun j hj => by
            have l1 := late j hj
            have : bar s p h + s ≤ j.1 := by
              rw [aft, if_neg g] at hj
              have := aft_gap hs ch.2.2.2 j hj
              omega
            simp only
            generalize bar s p h = v at this
            unfold bar
            simp only
            split <;> omega) hx' e2
          have ea : (aft o ((a, b) :: t) h').2 = (aft b t h').2 := by rw [aft, if_neg g]
          simp only at g1 g2
          rw [ea] at g1 g2
          obtain ⟨pre, ep⟩ := aft_suf (t := h') (o := b) (jr := t)
          have el : t.length = pre.length + (aft b t h').2.length := by
            conv => lhs; rw [ep]
            rw [List.length_append]
          refine ⟨by simp only [List.length_cons]; omega, fun hl => ?_⟩
          simp only [List.length_cons] at hl
          have hp : pre = [] := List.length_eq_zero_iff.mp (by omega)
          have ej : t = (aft b t h').2 := by
            conv => lhs; rw [ep]
            rw [hp]; rfl
          have hA := g2 (by omega)
          rw [← ej] at hA
          intro k x y hx hy
          cases k with
          | zero =>
            simp at hx hy
            subst hx hy
            exact b1
          | succ k =>
            simp at hx hy
            exact hA k x y hx hy
/-- among the tables that have the looks -/
theorem fewest {T : Int × List (Int × Int)} (hs : 0 < s) (asc : ls.Pairwise fun a b => a.1 < b.1) (hn : ls ≠ []) (e : earlyT os s ls = some T) (t : TabOK os s h js) (hx : ∀ x, x ∈ ls → offAt h js x.1 = x.2) : T.2.length ≤ js.length ∧ (T.2.length = js.length → Ahead T.2 js) := by
  cases ls with
  | nil => exact absurd rfl hn
  | cons l r =>
    rw [earlyT] at e
    cases e2 : early s none l r with
    | none => rw [e2] at e; cases e
    | some js' =>
      rw [e2] at e
      cases e
      obtain ⟨p', ch⟩ := aft_chain (t := l.1) hs t.chain
      have held : (aft h js l.1).1 = l.2 := by rw [aft_held]; exact hx _ List.mem_cons_self
      rw [held] at ch
      obtain ⟨g1, g2⟩ := greedy hs (p := none) (jr := (aft h js l.1).2) asc ch (fun j hj => by
        have := aft_late j hj
        unfold bar
        simp only
        omega) (fun x hm => by
        have lx : l.1 ≤ x.1 := Int.le_of_lt ((List.pairwise_cons.mp asc).1 x hm)
        have := aft_off lx (o := h) (jr := js)
        rw [held] at this
        rw [this]
        exact hx x (List.mem_cons_of_mem _ hm)) e2
      obtain ⟨pre, ep⟩ := aft_suf (t := l.1) (o := h) (jr := js)
      have el : js.length = pre.length + (aft h js l.1).2.length := by
        conv => lhs; rw [ep]
        rw [List.length_append]
      refine ⟨by simp only; omega, fun hl => ?_⟩
      simp only at hl
      have hp : pre = [] := List.length_eq_zero_iff.mp (by omega)
      have ej : js = (aft h js l.1).2 := by
        conv => lhs; rw [ep]
        rw [hp]; rfl
      rw [ej]
      exact g2 (by omega)
/-! ### the early table lies between the looks -/
theorem early_in {lo hi : Int} : ∀ {suf : List (Int × Int)} {p : Option Int} {l : Int × Int} {js : List (Int × Int)}, early s p l suf = some js → (l :: suf).Pairwise (fun a b => a.1 < b.1) → (∀ x, x ∈ l :: suf → lo ≤ x.1 ∧ x.1 ≤ hi) → ∀ j, j ∈ js → lo ≤ j.1 ∧ j.1 ≤ hi
  | [], p, l, js, e, _, _, j, hj => by
    cases e
    cases hj
  | (h', o') :: r, p, (h, o), js, e, pw, hin, j, hj => by
    have pw2 := List.pairwise_cons.mp pw
    have hr := fun x hx => hin x (List.mem_cons_of_mem _ hx)
    rw [early] at e
    by_cases c : o' = o
    · rw [if_pos c] at e
      exact early_in e pw2.2 hr j hj
    · rw [if_neg c] at e
      split at e
      · cases e
      · rename_i hb
        cases e2 : early s (some (bar s p h)) (h', o') r with
        | none => rw [e2] at e; cases e
        | some js' =>
          rw [e2] at e
          cases e
          rcases List.mem_cons.mp hj with rfl | hj
          · have h1 := hin (h, o) List.mem_cons_self
            have h2 := hr (h', o') List.mem_cons_self
            have h3 : h < bar s p h := bar_gt
            simp only at h1 h2 ⊢
            omega
          · exact early_in e2 pw2.2 hr j hj
theorem earlyT_in {lo hi : Int} {T : Int × List (Int × Int)} (e : earlyT os s ls = some T) (asc : ls.Pairwise fun a b => a.1 < b.1) (hin : ∀ x, x ∈ ls → lo ≤ x.1 ∧ x.1 ≤ hi) : ∀ j, j ∈ T.2 → lo ≤ j.1 ∧ j.1 ≤ hi := by
  cases ls with
  | nil =>
    cases e
    exact fun j h => nomatch h
  | cons l r =>
    rw [earlyT] at e
    cases e2 : early s none l r with
    | none => rw [e2] at e; cases e
    | some js' =>
      rw [e2] at e
      cases e
      exact early_in e2 asc hin
theorem chain_gt3 (hs : 0 < s) : ∀ {js : List (Int × Int)} {h p : Int}, Chain os s h (some p) js → ∀ j, j ∈ js → p < j.1
  | (t, o) :: r, h, p, ⟨_, _, c, d⟩, j, hj => by
    have := c p rfl
    rcases List.mem_cons.mp hj with rfl | hj
    · simp only; omega
    · have := chain_gt3 hs d j hj
      omega
theorem endH_in3 {h : Int} (hh : h ∈ os) : ∀ {js : List (Int × Int)} {p : Option Int}, Chain os s h p js → endH h js ∈ os := by
  intro js
  induction js generalizing h with
  | nil => intro p _; exact hh
  | cons j r ih =>
    obtain ⟨t, o⟩ := j
    intro p c
    exact ih c.1 c.2.2.2
/-! ### all tables whose jumps lie in a stretch -/
def freeT (s t : Int) (c : Int × List (Int × Int)) : Bool := match endP none c.2 with
  | none => true
  | some q => decide (q + s ≤ t)
def moreT (os : List Int) (s t : Int) (cs : List (Int × List (Int × Int))) : List (Int × List (Int × Int)) := cs.flatMap fun c => if freeT s t c = true then (os.filter fun o => !(o == endH c.1 c.2)).map fun o => (c.1, c.2 ++ [(t, o)]) else []
def chartsL (os : List Int) (s lo : Int) : Nat → List (Int × List (Int × Int))
  | 0 => os.map fun o => (o, [])
  | n + 1 => chartsL os s lo n ++ moreT os s (lo + n) (chartsL os s lo n)
theorem chain_un {t o : Int} : ∀ {js : List (Int × Int)} {h : Int} {p : Option Int}, Chain os s h p (js ++ [(t, o)]) → Chain os s h p js ∧ o ∈ os ∧ o ≠ endH h js ∧ ∀ q, endP p js = some q → q + s ≤ t
  | [], h, p, c => ⟨trivial, c.1, c.2.1, c.2.2.1⟩
  | (a, b) :: r, h, p, c => by
    obtain ⟨h1, h2, h3, h4⟩ := chain_un (js := r) c.2.2.2
    exact ⟨⟨c.1, c.2.1, c.2.2.1, h1⟩, h2, h3, h4⟩
theorem chain_bd (hs : 0 < s) {lo t : Int} : ∀ {js : List (Int × Int)} {h : Int} {p : Option Int}, Chain os s h p js → (∀ j, j ∈ js → lo ≤ j.1 ∧ j.1 < t + 1) → (∀ j, j ∈ js → j.1 < t) ∨ ∃ js' o, js = js' ++ [(t, o)] ∧ ∀ j, j ∈ js' → j.1 < t
  | [], h, p, _, _ => .inl fun j h => nomatch h
  | (a, b) :: r, h, p, c, hb => by
    have ha := hb (a, b) List.mem_cons_self
    simp only at ha
    have hgt := chain_gt3 hs c.2.2.2
    by_cases e : a = t
    · subst e
      have hr : r = [] := by
        cases r with
        | nil => rfl
        | cons x r =>
          have h1 := hgt x List.mem_cons_self
          have h2 := hb x (by simp)
          omega
      subst hr
      exact .inr ⟨[], b, rfl, fun j h => nomatch h⟩
    · rcases chain_bd hs (t := t) (lo := lo) c.2.2.2 fun j hj => hb j (List.mem_cons_of_mem _ hj) with h | ⟨js', o, e2, h⟩
      · refine .inl fun j hj => ?_
        rcases List.mem_cons.mp hj with rfl | hj
        · simp only; omega
        · exact h j hj
      · refine .inr ⟨(a, b) :: js', o, by rw [e2]; rfl, fun j hj => ?_⟩
        rcases List.mem_cons.mp hj with rfl | hj
        · simp only; omega
        · exact h j hj
theorem charts_iff (hs : 0 < s) {lo : Int} : ∀ {n : Nat} {c : Int × List (Int × Int)}, c ∈ chartsL os s lo n ↔ TabOK os s c.1 c.2 ∧ ∀ j, j ∈ c.2 → lo ≤ j.1 ∧ j.1 < lo + n
  | 0, c => by
    obtain ⟨h, js⟩ := c
    rw [chartsL, List.mem_map]
    constructor
    · rintro ⟨o, ho, e⟩
      cases e
      exact ⟨⟨ho, trivial⟩, fun j h => nomatch h⟩
    · rintro ⟨t, hj⟩
      cases js with
      | nil => exact ⟨h, t.held, rfl⟩
      | cons x r =>
        have := hj x List.mem_cons_self
        exfalso
        push_cast at this
        omega
  | n + 1, c => by
    rw [chartsL, List.mem_append, charts_iff hs]
    unfold moreT
    rw [List.mem_flatMap]
    constructor
    · rintro (⟨t, hj⟩ | ⟨d, hd, hc⟩)
      · exact ⟨t, fun j h => by have := hj j h; push_cast; omega⟩
      · obtain ⟨td, hjd⟩ := (charts_iff hs).mp hd
        split at hc
        · rename_i hf
          obtain ⟨o, ho, rfl⟩ := List.mem_map.mp hc
          obtain ⟨ho1, ho2⟩ := List.mem_filter.mp ho
          refine ⟨⟨td.held, chain_snoc td.chain ho1 (by simpa using ho2) fun q hq => ?_⟩, fun j hj => ?_⟩
          · unfold freeT at hf
            rw [hq] at hf
            exact of_decide_eq_true hf
          · rcases List.mem_append.mp hj with hj | hj
            · have := hjd j hj; push_cast; omega
            · simp at hj
              subst hj
              push_cast
              omega
        · cases hc
    · rintro ⟨t, hj⟩
      obtain ⟨h, js⟩ := c
      rcases chain_bd hs (t := lo + n) (lo := lo) t.chain (fun j h => by have := hj j h; push_cast at this; omega) with h1 | ⟨js', o, e, h1⟩
      · exact .inl ⟨t, fun j h2 => ⟨(hj j h2).1, h1 j h2⟩⟩
      · simp only at e
        subst e
        obtain ⟨c1, c2, c3, c4⟩ := chain_un t.chain
        refine .inr ⟨(h, js'), (charts_iff hs).mpr ⟨⟨t.held, c1⟩, fun j h2 => ⟨(hj j (List.mem_append_left _ h2)).1, h1 j h2⟩⟩, ?_⟩
        have hf : freeT s (lo + n) (h, js') = true := by
          unfold freeT
          simp only
          cases e : endP none js' with
          | none => rfl
          | some q => exact decide_eq_true (c4 q e)
        rw [if_pos hf]
        exact List.mem_map.mpr ⟨o, List.mem_filter.mpr ⟨c2, by simpa using c3⟩, rfl⟩
end
end Dm
-- text HmAllT2
namespace Dm
open PySem L2
section
variable {os : List Int} {s m : Int} {ls : List (Int × Int)}
/-! ### how many tables there are -/
theorem free_new {t : Int} {n : Nat} (hs : 2 ≤ s) {cs : List (Int × List (Int × Int))} : moreT os s (t + 1) (moreT os s t cs) = [] := by
  unfold moreT
  rw [List.flatMap_eq_nil_iff]
  intro c hc
  obtain ⟨d, hd, hc⟩ := List.mem_flatMap.mp hc
  rw [if_neg]
  split at hc
  · obtain ⟨o, ho, rfl⟩ := List.mem_map.mp hc
    unfold freeT
    simp only [endP_snoc]
    simp
    omega
  · cases hc
theorem ne_less {o : Int} (ho : o ∈ os) : (os.filter fun x => !(x == o)).length + 1 ≤ os.length := by
  induction os with
  | nil => cases ho
  | cons x xs ih =>
    rw [List.filter_cons]
    by_cases c : x = o
    · have : (!(x == o)) = false := by simp [c]
      rw [if_neg (by rw [this]; decide)]
      have := List.length_filter_le (fun x => !(x == o)) xs
      simp only [List.length_cons]
      omega
    · have : (!(x == o)) = true := by simp [c]
      rw [if_pos this]
      rcases List.mem_cons.mp ho with h | h
      · exact absurd h.symm c
      · have := ih h
        simp only [List.length_cons]
        omega
theorem more_len {t : Int} {k : Nat} : ∀ {cs : List (Int × List (Int × Int))}, (∀ c, c ∈ cs → endH c.1 c.2 ∈ os) → os.length ≤ k + 1 → (moreT os s t cs).length ≤ k * cs.length
  | [], _, _ => by simp [moreT]
  | c :: cs, h, hk => by
    have ih := more_len (t := t) (fun d hd => h d (List.mem_cons_of_mem _ hd)) hk (cs := cs)
    unfold moreT at ih ⊢
    rw [List.flatMap_cons, List.length_append, List.length_cons, Nat.mul_succ]
    have h1 := ne_less (h c List.mem_cons_self)
    have h2 : (if freeT s t c = true then (os.filter fun o => !(o == endH c.1 c.2)).map fun o => (c.1, c.2 ++ [(t, o)]) else []).length ≤ k := by
      split
      · rw [List.length_map]; omega
      · simp
    omega
theorem more_app {t : Int} {a b : List (Int × List (Int × Int))} : moreT os s t (a ++ b) = moreT os s t a ++ moreT os s t b := by
  unfold moreT
  rw [List.flatMap_append]
def bnd (m : Nat) : Nat → Nat × Nat
  | 0 => (m, m + (m - 1) * m)
  | n + 1 => ((bnd m n).2, (bnd m n).2 + (m - 1) * (bnd m n).1)
theorem charts_len (z : ZoneOK os s) (hs : 2 ≤ s) {lo : Int} : ∀ n : Nat, (chartsL os s lo n).length ≤ (bnd os.length n).1 ∧ (chartsL os s lo (n + 1)).length ≤ (bnd os.length n).2
  | 0 => by
    have hl := z.len
    have h := more_len (os := os) (s := s) (t := lo + (0 : Nat)) (k := os.length - 1) (cs := chartsL os s lo 0) (fun c hc => by
      have t := ((charts_iff (by omega)).mp hc).1
      exact endH_in3 t.held t.chain) (by omega)
    have e0 : (chartsL os s lo 0).length = os.length := by simp [chartsL]
    refine ⟨by rw [e0]; exact Nat.le_refl _, ?_⟩
    rw [chartsL, List.length_append]
    rw [e0] at h ⊢
    show _ ≤ os.length + (os.length - 1) * os.length
    omega
  | n + 1 => by
    obtain ⟨h1, h2⟩ := charts_len z hs (lo := lo) n
    refine ⟨h2, ?_⟩
    have hl := z.len
    have e : lo + ((n + 1 : Nat) : Int) = lo + (n : Int) + 1 := by push_cast; omega
    have h := more_len (os := os) (s := s) (t := lo + (n : Int) + 1) (k := os.length - 1) (cs := chartsL os s lo n) (fun c hc => by
      have t := ((charts_iff (by omega)).mp hc).1
      exact endH_in3 t.held t.chain) (by omega)
    have em : moreT os s (lo + (n : Int) + 1) (chartsL os s lo (n + 1)) = moreT os s (lo + (n : Int) + 1) (chartsL os s lo n) := by
      rw [chartsL, more_app, free_new (n := n) hs, List.append_nil]
    have ec : chartsL os s lo (n + 1 + 1) = chartsL os s lo (n + 1) ++ moreT os s (lo + ((n + 1 : Nat) : Int)) (chartsL os s lo (n + 1)) := rfl
    rw [ec, List.length_append, e, em]
    show _ ≤ (bnd os.length n).2 + (os.length - 1) * (bnd os.length n).1
    have := Nat.mul_le_mul_left (os.length - 1) h1
    omega
/-! ### those that have the looks -/
def hasB (ls : List (Int × Int)) (c : Int × List (Int × Int)) : Bool := ls.all fun x => offAt c.1 c.2 x.1 == x.2
def havingL (os : List Int) (s lo : Int) (n : Nat) (ls : List (Int × Int)) : List (Int × List (Int × Int)) := (chartsL os s lo n).filter (hasB ls)
theorem having_iff (hs : 0 < s) {lo : Int} {n : Nat} {c : Int × List (Int × Int)} : c ∈ havingL os s lo n ls ↔ TabOK os s c.1 c.2 ∧ (∀ j, j ∈ c.2 → lo ≤ j.1 ∧ j.1 < lo + n) ∧ ∀ x, x ∈ ls → offAt c.1 c.2 x.1 = x.2 := by
  unfold havingL hasB
  rw [List.mem_filter, charts_iff hs, List.all_eq_true]
  constructor
  · rintro ⟨⟨h1, h2⟩, h3⟩
    exact ⟨h1, h2, fun x hx => by simpa using h3 x hx⟩
  · rintro ⟨h1, h2, h3⟩
    exact ⟨⟨h1, h2⟩, fun x hx => by simpa using h3 x hx⟩
theorem early_having (z : ZoneOK os s) (l : LooksOK os ls) {lo : Int} {n : Nat} (hin : ∀ x, x ∈ ls → lo ≤ x.1 ∧ x.1 < lo + n) {T : Int × List (Int × Int)} (e : earlyT os s ls = some T) : T ∈ havingL os s lo n ls := by
  obtain ⟨h, js⟩ := T
  refine (having_iff z.sp.1).mpr ⟨earlyT_tab z l e, fun j hj => ?_, earlyT_holds l e⟩
  have := earlyT_in (lo := lo) (hi := lo + n - 1) e l.asc (fun x hx => by have := hin x hx; omega) j hj
  omega
theorem having_fit (z : ZoneOK os s) (l : LooksOK os ls) {lo : Int} {n : Nat} (hin : ∀ x, x ∈ ls → lo ≤ x.1 ∧ x.1 < lo + n) : (havingL os s lo n ls).isEmpty = !(crow s ls).isNone := by
  cases e : earlyT os s ls with
  | some T =>
    have h1 := early_having z l hin e
    have h2 : crow s ls = none := (fit_iff (os := os) z.sp.1 l.asc).mp ⟨T, e⟩
    rw [h2]
    cases hh : havingL os s lo n ls with
    | nil => rw [hh] at h1; cases h1
    | cons a b => rfl
  | none =>
    have h2 : (crow s ls).isNone = false := by
      cases h : crow s ls with
      | none =>
        obtain ⟨T, e2⟩ := (fit_iff (os := os) z.sp.1 l.asc).mpr h
        rw [e] at e2; cases e2
      | some x => rfl
    rw [h2]
    cases hh : havingL os s lo n ls with
    | nil => rfl
    | cons a b =>
      have ha : a ∈ havingL os s lo n ls := by rw [hh]; simp
      obtain ⟨t, _, hx⟩ := (having_iff z.sp.1).mp ha
      obtain ⟨T, e2⟩ := held_fit z.sp.1 l.asc t hx
      rw [e] at e2; cases e2
theorem seen_some_mem {o : Int} (h : seen ls m = some o) : (m, o) ∈ ls := by
  unfold seen at h
  cases e : ls.find? fun l => l.1 == m with
  | none => rw [e] at h; cases h
  | some x =>
    rw [e] at h
    cases h
    have h1 := List.mem_of_find?_eq_some e
    have h2 := List.find?_some e
    have h3 : x.1 = m := by simpa using h2
    rw [← h3]; exact h1
theorem os_asc (z : ZoneOK os s) : os.Pairwise (· < ·) := by
  cases z with
  | one a s => simp
  | two a b s => simp; omega
  | three a b c s => simp; omega
theorem left_having (z : ZoneOK os s) (l : LooksOK os ls) {lo : Int} {n : Nat} (hin : ∀ x, x ∈ ls → lo ≤ x.1 ∧ x.1 < lo + n) (hm : lo ≤ m ∧ m < lo + n) : leftOf os s ls m = uniq ((havingL os s lo n ls).map fun c => offAt c.1 c.2 m) := by
  refine asc_same ?_ (uniq_asc _) fun o => ?_
  · unfold leftOf
    cases seen ls m with
    | none => exact (os_asc z).filter _
    | some o =>
      simp only
      split <;> simp
  · rw [uniq_mem, List.mem_map]
    constructor
    · intro h
      unfold leftOf at h
      cases hs : seen ls m with
      | some o' =>
        rw [hs] at h
        simp only at h
        split at h
        · rename_i hc
          simp at h
          subst h
          have hc' : crow s ls = none := by simpa using hc
          obtain ⟨T, e⟩ := (fit_iff (os := os) z.sp.1 l.asc).mpr hc'
          have ht := early_having z l hin e
          exact ⟨T, ht, ((having_iff z.sp.1).mp ht).2.2 _ (seen_some_mem hs)⟩
        · cases h
      | none =>
        rw [hs] at h
        obtain ⟨ho, hc⟩ := List.mem_filter.mp h
        have lw := withL_ok (m := m) l ho hs
        have hc' : crow s (withL ls m o) = none := by simpa using hc
        obtain ⟨T, e⟩ := (fit_iff (os := os) z.sp.1 lw.asc).mpr hc'
        have mem : ∀ x, x ∈ withL ls m o → x ∈ ls ∨ x = (m, o) := by
          intro x hx
          unfold withL at hx
          rcases List.mem_append.mp hx with q | q
          · exact .inl (List.mem_filter.mp q).1
          · rcases List.mem_cons.mp q with rfl | q
            · exact .inr rfl
            · exact .inl (List.mem_of_mem_drop q)
        have ht := early_having (lo := lo) (n := n) z lw (fun x hx => by
          rcases mem x hx with hx | rfl
          · exact hin x hx
          · exact hm) e
        obtain ⟨h1, h2, h3⟩ := (having_iff z.sp.1).mp ht
        refine ⟨T, (having_iff z.sp.1).mpr ⟨h1, h2, fun x hx => h3 x (withL_sub l x hx)⟩, ?_⟩
        refine h3 (m, o) ?_
        unfold withL
        simp
    · rintro ⟨c, hc, rfl⟩
      obtain ⟨t, h2, hx⟩ := (having_iff z.sp.1).mp hc
      cases hs : seen ls m with
      | none => exact left_has z l t hx hs
      | some o' =>
        have := hx _ (seen_some_mem hs)
        simp only at this
        rw [this]
        unfold leftOf
        rw [hs]
        simp only
        have hf := (fit_iff (os := os) z.sp.1 l.asc).mp (held_fit z.sp.1 l.asc t hx)
        rw [hf]
        simp
end
end Dm
-- text HmAllT3
namespace Dm
open PySem L2
section
variable {S : Sto} {os : List Int} {s lo : Int}
def tbD (c : Int × List (Int × Int)) : D := tabD c.1 c.2
theorem last_ix {js : List (Int × Int)} (h : js ≠ []) : ∃ q o, atI (js.map jmpD) (-1) = some (jmpD (q, o)) ∧ endP none js = some q := last_at h
theorem end_ix {h : Int} {js : List (Int × Int)} : atI (D.int h :: js.map fun j => D.int j.2) (-1) = some (.int (endH h js)) := by
  by_cases hn : js = []
  · subst hn
    rfl
  · have e := (List.dropLast_concat_getLast hn).symm
    generalize js.dropLast = a at e
    generalize js.getLast hn = b at e
    obtain ⟨x, y⟩ := b
    subst e
    rw [endH_snoc]
    have h1 : (0 : Int) ≤ -1 + ((a.length : Int) + 1 + 1) := by omega
    have h2 : (-1 + ((a.length : Int) + 1 + 1)).toNat = a.length + 1 := by omega
    have h3 : (1 : Int) ≤ (a.length : Int) + 1 + 1 := by omega
    have h4 : (0 : Int) ≤ (a.length : Int) + 1 := by omega
    simp [atI, ixN, h2, h3, h4]
theorem charts_ok {n : Nat} (z : ZoneOK os s) (hn : n ≤ 12) (hlo : -1000000000000 < lo ∧ lo < 999900000000) (hb : ∀ k, k ≤ n → (chartsL os s lo k).length ≤ 4000) (hj : ∀ k, k ≤ n → ∀ c, c ∈ chartsL os s lo k → c.2.length ≤ 100) : m_law_charts [zoneD os s, .int lo, .int (lo + n - 1)] S = .ok (.lst ((chartsL os s lo n).map tbD)) S := by
  have hl := z.len
  have hs := z.sp
  refine pure_of fun Q q => ?_
  refine does_def rfl ?_
  refine seq_cut (fun ρ S' => S = S' ∧ ρ = [some (zoneD os s), some (.int lo), some (.int (lo + n - 1)), some (.lst ((chartsL os s lo 0).map tbD)), none, none, none, none, none, none, none]) (fun M hM => ?_) ?_
  · simp [zoneD, wipeD]
    rw [lcAQ_fix (.inl rfl) (by simp)]
    refine lcQ_filter (as := os) (i := D.int) (fun _ => true) (fun o => tbD (o, [])) ?_ ?_
    · intro o _
      refine ⟨_, rfl, fun Q q => q, fun Q _ q => ?_⟩
      simp
      exact q
    · have e : (os.filter fun _ : Int => true) = os := List.filter_eq_self.mpr fun _ _ => rfl
      rw [e]
      have := hM _ S ⟨rfl, rfl⟩
      have e2 : (chartsL os s lo 0).map tbD = os.map fun o => tbD (o, []) := by
        unfold chartsL
        rw [List.map_map]; rfl
      rw [e2] at this
      exact this
  rintro ρ _ ⟨rfl, rfl⟩
  refine seq_cut (fun ρ S' => S = S' ∧ ∃ x4 x5 x6 x7 x8, ρ = [some (zoneD os s), some (.int lo), some (.int (lo + n - 1)), some (.lst ((chartsL os s lo n).map tbD)), x4, x5, x6, x7, x8, none, none]) (fun M hM => ?_) ?_
  · rw [does_for]
    simp


    refine ⟨by omega, ?_⟩
    have en : (lo + (n : Int) - lo).toNat = n := by omega
    rw [en]
    refine forL_cut (fun ds ρ S' => S = S' ∧ ∃ (k : Nat) (x4 x5 x6 x7 x8 : Option D), ds = rngD (lo + k) (n - k) ∧ k ≤ n ∧ ρ = [some (zoneD os s), some (.int lo), some (.int (lo + n - 1)), some (.lst ((chartsL os s lo k).map tbD)), x4, x5, x6, x7, x8, none, none]) _
      ⟨rfl, 0, none, none, none, none, none, by simp, by omega, rfl⟩ ?_ ?_
    · rintro d ds ρ S1 ⟨rfl, k, x4, x5, x6, x7, x8, e, hk, rfl⟩
      cases hc : n - k with
      | zero => rw [hc] at e; cases e
      | succ j =>
        rw [hc, rngD_cons] at e
        injection e with e1 e2
        subst e1
        refine ⟨_, rfl, fun M2 hM2 => ?_⟩
        have hbk := hb k hk
        have hjk := hj k hk
        generalize hcs : chartsL os s lo k = cs at *
        refine seq_cut (fun ρ S' => S = S' ∧ ρ = [some (zoneD os s), some (.int lo), some (.int (lo + n - 1)), some (.lst (cs.map tbD)), some (.int (lo + k)), some (.lst ([] : List D)), x6, x7, x8, none, none]) (fun M3 hM3 => ?_) ?_
        · simp
          exact hM3 _ _ ⟨rfl, rfl⟩
        rintro ρ _ ⟨rfl, rfl⟩
        refine seq_cut (fun ρ S' => S = S' ∧ ∃ x6 x7 x8, ρ = [some (zoneD os s), some (.int lo), some (.int (lo + n - 1)), some (.lst (cs.map tbD)), some (.int (lo + k)), some (.lst ((moreT os s (lo + k) cs).map tbD)), x6, x7, x8, none, none]) (fun M3 hM3 => ?_) ?_
        · simp only [does_forA, does_var, List.getElem?_cons_succ, List.getElem?_cons_zero, forAS_lst]
          refine forL_cut (fun ds ρ S' => S = S' ∧ ∃ (done rest : List (Int × List (Int × Int))) (x6 x7 x8 : Option D), ds = rest.map tbD ∧ cs = done ++ rest ∧ (moreT os s (lo + k) done).length ≤ 2 * done.length ∧ ρ = [some (zoneD os s), some (.int lo), some (.int (lo + n - 1)), some (.lst (cs.map tbD)), some (.int (lo + k)), some (.lst ((moreT os s (lo + k) done).map tbD)), x6, x7, x8, none, none]) _
            ⟨rfl, [], cs, x6, x7, x8, rfl, rfl, by simp [moreT], rfl⟩ ?_ ?_
          · rintro d ds ρ S1 ⟨rfl, done, rest, x6, x7, x8, e, ec, hml, rfl⟩
            cases rest with
            | nil => cases e
            | cons c rest =>
              rw [List.map_cons] at e
              injection e with e3 e4
              subst e3
              obtain ⟨h, js⟩ := c
              have hjl : js.length ≤ 100 := hjk (h, js) (by rw [ec]; simp)
              have hdl : done.length ≤ 4000 := by
                have := congrArg List.length ec
                rw [List.length_append] at this
                omega
              have hct : endH h js ∈ os := by
                have hin : (h, js) ∈ chartsL os s lo k := by rw [hcs, ec]; simp
                have t := ((charts_iff hs.1).mp hin).1
                exact endH_in3 t.held t.chain
              refine ⟨_, rfl, fun M4 hM4 => ?_⟩
              have em : moreT os s (lo + k) (done ++ [(h, js)]) = moreT os s (lo + k) done ++ (if freeT s (lo + k) (h, js) = true then (os.filter fun o => !(o == endH h js)).map fun o => (h, js ++ [(lo + (k : Int), o)]) else []) := by
                rw [more_app]
                unfold moreT
                simp
              have hnl := ne_less hct
              have hlen : (moreT os s (lo + k) (done ++ [(h, js)])).length ≤ 2 * (done ++ [(h, js)]).length := by
                rw [em, List.length_append, List.length_append, List.length_singleton]
                have : (if freeT s (lo + k) (h, js) = true then (os.filter fun o => !(o == endH h js)).map fun o => (h, js ++ [(lo + (k : Int), o)]) else []).length ≤ 2 := by
                  split
                  · rw [List.length_map]; omega
                  · simp
                omega
              have next : ∀ x8', M4 [some (zoneD os s), some (.int lo), some (.int (lo + n - 1)), some (.lst (cs.map tbD)), some (.int (lo + k)), some (.lst ((moreT os s (lo + k) (done ++ [(h, js)])).map tbD)), some (.int h), some (.tup (js.map jmpD)), x8', none, none] S := fun x8' =>
                hM4 _ _ ⟨rfl, done ++ [(h, js)], rest, _, _, _, e4, by rw [ec]; simp, hlen, rfl⟩
              -- the test
              have hcond : ∀ Q : D → Sto → Prop, Q (.bl (freeT s (lo + k) (h, js))) S → (mOr (mOp gEq (mCallB gLen (mCons (mVar 7) mNil)) (mK (.int 0))) (mOp gLe (mOp gAdd (mOp gIx (mOp gIx (mVar 7) (mK (.int (-1)))) (mK (.int 0))) (mOp gIx (mVar 0) (mK (.int 1)))) (mVar 4)) [some (zoneD os s), some (.int lo), some (.int (lo + n - 1)), some (.lst (cs.map tbD)), some (.int (lo + k)), some (.lst ((moreT os s (lo + k) done).map tbD)), some (.int h), some (.tup (js.map jmpD)), x8, none, none] S).Does Q := by
                intro Q q
                by_cases hn0 : js = []
                · subst hn0
                  simp
                  exact q
                · obtain ⟨qq, o, l1, l2⟩ := last_ix hn0
                  have ln : ¬ ((js.length : Int) = 0) := by
                    have := List.length_pos_iff.mpr hn0
                    omega
                  unfold freeT at q
                  simp only [l2] at q
                  by_cases c : qq + s ≤ lo + k
                  · simp only [c, decide_true] at q
                    simp [hn0, l1, c]
                    exact q
                  · simp only [c, decide_false] at q
                    simp [hn0, l1, c]
                    exact q
              rw [does_ifS]
              refine Res.Does.toE (hcond _ ?_)
              cases hf : freeT s (lo + k) (h, js) with
              | false =>
                have e5 : moreT os s (lo + k) (done ++ [(h, js)]) = moreT os s (lo + k) done := by rw [em, hf]; simp
                have := next x8
                rw [e5] at this
                simp
                exact this
              | true =>
                simp only [blQ_bl, if_true]
                refine seq_cut (fun ρ S' => S = S' ∧ ρ = [some (zoneD os s), some (.int lo), some (.int (lo + n - 1)), some (.lst (cs.map tbD)), some (.int (lo + k)), some (.lst ((moreT os s (lo + k) done).map tbD)), some (.int h), some (.tup (js.map jmpD)), some (.int (endH h js)), none, none]) (fun M5 hM5 => ?_) ?_
                · simp [wipeD]
                  rw [lcAQ_fix (.inl rfl) (by simp)]
                  refine lcQ_filter (as := js) (i := jmpD) (fun _ : Int × Int => true) (fun j : Int × Int => D.int j.2) ?_ ?_
                  · intro j _
                    refine ⟨_, rfl, fun Q q => q, fun Q _ q => ?_⟩
                    simp
                    exact q
                  · have e : (js.filter fun _ : Int × Int => true) = js := List.filter_eq_self.mpr fun _ _ => rfl
                    rw [e]
                    refine ⟨by simp; omega, ?_⟩
                    simp [end_ix]
                    exact hM5 _ _ ⟨rfl, rfl⟩
                rintro ρ _ ⟨rfl, rfl⟩
                have e5 : moreT os s (lo + k) (done ++ [(h, js)]) = moreT os s (lo + k) done ++ (os.filter fun o => !(o == endH h js)).map fun o => (h, js ++ [(lo + (k : Int), o)]) := by rw [em, hf]; simp
                have := next (some (.int (endH h js)))
                rw [e5, List.map_append, List.map_map] at this
                simp [zoneD, wipeD]
                rw [lcAQ_fix (.inl rfl) (by simp)]
                refine lcQ_filter (as := os) (i := D.int) (fun o => !(o == endH h js)) (fun o => tbD (h, js ++ [(lo + (k : Int), o)])) ?_ ?_
                · intro o _
                  refine ⟨_, rfl, fun Q q => ?_, fun Q _ q => ?_⟩
                  · simp
                    exact q
                  · simp
                    refine ⟨by omega, ?_⟩
                    simpa [tbD, tabD, jmpD] using q
                · refine ⟨by simp; omega, ?_⟩
                  exact this
          · rintro ρ S1 ⟨rfl, done, rest, x6, x7, x8, e, ec, hml, rfl⟩
            cases rest with
            | cons c rest => cases e
            | nil =>
              rw [List.append_nil] at ec
              rw [ec]
              exact hM3 _ _ ⟨rfl, _, _, _, by rw [ec]⟩
        rintro ρ _ ⟨rfl, y6, y7, y8, rfl⟩
        have hml : (moreT os s (lo + k) cs).length ≤ 2 * cs.length := by
          refine more_len (fun c hc => ?_) (by omega)
          have hin : c ∈ chartsL os s lo k := by rw [hcs]; exact hc
          have t := ((charts_iff hs.1).mp hin).1
          exact endH_in3 t.held t.chain
        have := hM2 [some (zoneD os s), some (.int lo), some (.int (lo + n - 1)), some (.lst ((chartsL os s lo (k + 1)).map tbD)), some (.int (lo + k)), some (.lst ((moreT os s (lo + k) cs).map tbD)), y6, y7, y8, none, none] S ⟨rfl, k + 1, _, _, _, _, _, by
          rw [e2]
          have : n - (k + 1) = j := by omega
          rw [this]
          congr 1
          push_cast; omega, by omega, rfl⟩
        rw [chartsL, hcs, List.map_append] at this
        simp

        refine ⟨by omega, this⟩
    · rintro ρ S1 ⟨rfl, k, x4, x5, x6, x7, x8, e, hk, rfl⟩
      have hkn : k = n := by
        cases hc : n - k with
        | zero => omega
        | succ j => rw [hc, rngD_cons] at e; cases e
      subst hkn
      exact hM _ _ ⟨rfl, _, _, _, _, _, rfl⟩
  rintro ρ _ ⟨rfl, x4, x5, x6, x7, x8, rfl⟩
  simp
  exact q
end
end Dm
-- text HmBag
namespace Dm
open PySem L2
/-- a bag of draws stands at p, n more can be drawn -/
def Bag (p n : Nat) (S : Sto) : Prop := ∃ a b c : Int, S[p]? = some (.lst [.int a, .int b, .int c]) ∧ 0 ≤ b ∧ b < 2305843009213693951 ∧ 0 ≤ c ∧ c + n ≤ 9223372036854775808
/-- from S to S': cells have come, all but p is as it was -/
structure GoB (p : Nat) (S S' : Sto) : Prop where
  len : S.length ≤ S'.length
  same : ∀ n, n < S.length → n ≠ p → S'[n]? = S[n]?
theorem Bag.lt {p n : Nat} {S : Sto} (h : Bag p n S) : p < S.length := by
  obtain ⟨a, b, c, e, _⟩ := h
  exact (List.getElem?_eq_some_iff.mp e).1
theorem Bag.mono {p n m : Nat} {S : Sto} (h : Bag p n S) (hm : m ≤ n) : Bag p m S := by
  obtain ⟨a, b, c, e, h1, h2, h3, h4⟩ := h
  exact ⟨a, b, c, e, h1, h2, h3, by omega⟩
theorem Bag.push {p n : Nat} {S : Sto} (h : Bag p n S) (c : Cell) : Bag p n (S ++ [c]) := by
  have hl := h.lt
  obtain ⟨a, b, c, e, r⟩ := h
  exact ⟨a, b, c, by rw [List.getElem?_append_left hl]; exact e, r⟩
theorem Bag.set {p n q : Nat} {S : Sto} (h : Bag p n S) (hq : q ≠ p) (c : Cell) : Bag p n (S.set q c) := by
  obtain ⟨a, b, c, e, r⟩ := h
  exact ⟨a, b, c, by rw [List.getElem?_set_ne hq]; exact e, r⟩
theorem GoB.refl {p : Nat} {S : Sto} : GoB p S S := ⟨Nat.le_refl _, fun _ _ _ => rfl⟩
theorem GoB.trans {p : Nat} {S S1 S2 : Sto} (a : GoB p S S1) (b : GoB p S1 S2) : GoB p S S2 :=
  ⟨Nat.le_trans a.len b.len, fun n h hn => (b.same n (Nat.lt_of_lt_of_le h a.len) hn).trans (a.same n h hn)⟩
theorem GoB.push {p : Nat} {S : Sto} (c : Cell) : GoB p S (S ++ [c]) := ⟨by rw [List.length_append]; omega, fun n h _ => List.getElem?_append_left h⟩
theorem GoB.get {p n : Nat} {S S1 : Sto} {c : Cell} (a : GoB p S S1) (h : S[n]? = some c) (hn : n ≠ p) : S1[n]? = some c := by
  rw [a.same n (List.getElem?_eq_some_iff.mp h).1 hn]
  exact h
end Dm
-- text HmBelt
namespace Dm
open PySem L2
end Dm
-- text HmFind
namespace Dm
open PySem L2
section
variable {S : Sto} {os : List Int} {s h r : Int} {js : List (Int × Int)} {fold gap : Str}
/-! ### the law's gap -/
/-! ### what is found -/
@[simp] theorem gDIx_new {kvs : List (Key × D)} {y : D} : gDIx (S ++ [.dic kvs]) (.cell S.length) y = (keyD y).bind fun k => valD kvs k := gDIx_cell (by simp)
def RuleF (x : Str) : Prop := x = "early" ∨ x = "late" ∨ x = "refuse"
def RuleG (x : Str) : Prop := x = "ahead" ∨ x = "behind" ∨ x = "refuse"
@[simp] theorem flatD_str {x : Str} : flatD (.str x) = true := rfl
end
end Dm
-- text HmProg
namespace Dm
open PySem L2
/-! ### programs of steps -/
inductive Kd where
  | mom | rdg | spn
  deriving DecidableEq
inductive Stp where
  | read (i p : Nat) | find (i p : Nat) (f g : Str) | offset (i p : Nat) | edition (i p : Nat)
  | plus (i j : Nat) | less (i j : Nat) | add (i : Nat) (m : Int)
/-- a step behind values of these kinds, beside nz zones -/
def Stp.OK (nz : Nat) (row : List Kd) : Stp → Prop
  | .read i p => row[i]? = some .mom ∧ p < nz
  | .find i p f g => row[i]? = some .rdg ∧ p < nz ∧ RuleF f ∧ RuleG g
  | .offset i p => row[i]? = some .mom ∧ p < nz
  | .edition i p => row[i]? = some .mom ∧ p < nz
  | .plus i j => row[i]? = some .mom ∧ row[j]? = some .spn
  | .less i j => row[i]? = some .rdg ∧ row[j]? = some .spn
  | .add i m => (row[i]? = some .mom ∨ row[i]? = some .rdg) ∧ -100000 ≤ m ∧ m ≤ 100000
/-! ### the parts of a step -/
end Dm
-- text HmProg2
namespace Dm
open PySem L2
abbrev Zs := List (List Int × Int)
end Dm
-- text HmDeed
namespace Dm
open PySem L2
end Dm
-- text HmWanted
namespace Dm
open PySem L2
end Dm
-- text HmPlan
namespace Dm
open PySem L2
end Dm
-- text HmPlan2
namespace Dm
open PySem L2
end Dm
-- text HmEarth
namespace Dm
open PySem L2
/-! ### tables by zones -/
abbrev Tb := Int × List (Int × Int)
def Tb.d (t : Tb) : D := tabD t.1 t.2
def Tb.of (t : Tb) (m : Int) : Int := offAt t.1 t.2 m
structure TbsOK (zs : Zs) (tb : List Tb) : Prop where
  len : tb.length = zs.length
  ok : ∀ (p : Nat) (z : List Int × Int) (t : Tb), zs[p]? = some z → tb[p]? = some t → TabOK z.1 z.2 t.1 t.2
def getT (tb : List Tb) (p : Nat) : Tb := tb.getD p (0, [])
theorem getT_at {tb : List Tb} {i : Nat} (h : i < tb.length) : tb[i]? = some (getT tb i) := by
  unfold getT
  rw [List.getD_eq_getElem?_getD, List.getElem?_eq_getElem h]; rfl
theorem TbsOK.set {zs : Zs} {tb later : List Tb} (h : TbsOK zs tb) (h' : TbsOK zs later) (p : Nat) : TbsOK zs (tb.set p (getT later p)) := by
  refine ⟨by rw [List.length_set]; exact h.len, fun i z t hz ht => ?_⟩
  by_cases e : p = i
  · subst e
    have hp : p < tb.length := by
      have := (List.getElem?_eq_some_iff.mp ht).1
      rw [List.length_set] at this
      exact this
    rw [List.getElem?_set_self hp] at ht
    cases ht
    exact h'.ok p z _ hz (getT_at (by rw [h'.len, ← h.len]; exact hp))
  · rw [List.getElem?_set_ne e] at ht
    exact h.ok i z t hz ht
section
variable {S : Sto} {os : List Int} {s h m r : Int} {js : List (Int × Int)}
@[simp] theorem tgU_jmp {j : Int × Int} {ρ : Rho} {f : List D → Rho → Option Rho} : tgU 2 f (jmpD j) ρ = f [.int j.1, .int j.2] ρ := rfl
@[simp] theorem tgU_zone {ρ : Rho} {f : List D → Rho → Option Rho} : tgU 2 f (zoneD os s) ρ = f [.tup (os.map .int), .int s] ρ := rfl
@[simp] theorem tgU_tab {ρ : Rho} {f : List D → Rho → Option Rho} : tgU 2 f (tabD h js) ρ = f [.int h, .tup (js.map jmpD)] ρ := rfl
/-! ### a find -/
end
end Dm
-- text HmFollow
namespace Dm
open PySem L2
/-! ### a run by the document -/
def Stp.base : Stp → Nat
  | .read i _ => i
  | .find i _ _ _ => i
  | .offset i _ => i
  | .edition i _ => i
  | .plus i _ => i
  | .less i _ => i
  | .add i _ => i
theorem Stp.OK.base {nz : Nat} {row : List Kd} {t : Stp} (h : t.OK nz row) : t.base < row.length := by
  cases t with
  | add i m => rcases h.1 with h | h <;> exact (List.getElem?_eq_some_iff.mp h).1
  | _ => exact (List.getElem?_eq_some_iff.mp h.1).1
section
variable {S : Sto} {zs : Zs} {tb : List Tb} {vs : List Int} {row : List Kd} {n c : Nat} {t : Stp}
/-! ### what is looked at -/
abbrev Lk := Int × Int × Int × Int
def lkD (m : Lk) : D := .tup [.int m.1, .int m.2.1, .int m.2.2.1, .int m.2.2.2]
def edD : Option (Nat × Int) → List (Key × D)
  | none => []
  | some (q, m) => [(.inl q, .int m)]
end
end Dm
-- text HmFollow2
namespace Dm
open PySem L2
theorem shaped_lst {l : List PyData} {k : Nat} (h1 : PyData.canLayAll0 l = true) (h2 : PyData.depthAll l ≤ k) (hk : k ≤ 63) : SeqAt.shaped (.list l) = true := by
  unfold SeqAt.shaped
  simp only [PyData.canLay0, h1, PyData.depth, Bool.true_and]
  exact decide_eq_true (by omega)
end Dm
-- text HmFollow3
namespace Dm
open PySem L2
section
variable {S : Sto} {zs : Zs} {tb later : List Tb} {vs : List Int} {row : List Kd} {n c : Nat} {t : Stp} {ts : List Stp}
/-- the four cells of a run -/
structure Cells (S : Sto) (a : Nat) (tb : List Tb) (ed : Option (Nat × Int)) (vs : List Int) (lk : List Lk) : Prop where
  c4 : S[a]? = some (.lst (tb.map Tb.d))
  c5 : S[a + 1]? = some (.dic (edD ed))
  c6 : S[a + 2]? = some (.lst (vs.map .int))
  c7 : S[a + 3]? = some (.lst (lk.map lkD))
theorem set_at {S : Sto} {n : Nat} {c c' : Cell} (h : S[n]? = some c') : (S.set n c)[n]? = some c := List.getElem?_set_self (List.getElem?_eq_some_iff.mp h).1
theorem Cells.val {S : Sto} {a : Nat} {tb : List Tb} {ed : Option (Nat × Int)} {vs : List Int} {lk : List Lk} (h : Cells S a tb ed vs lk) (vs' : List Int) : Cells (S.set (a + 2) (.lst (vs'.map .int))) a tb ed vs' lk :=
  ⟨by rw [List.getElem?_set_ne (by omega)]; exact h.c4, by rw [List.getElem?_set_ne (by omega)]; exact h.c5, set_at h.c6, by rw [List.getElem?_set_ne (by omega)]; exact h.c7⟩
end
end Dm
-- text HmRun
namespace Dm
open PySem L2
section
variable {S : Sto} {zs : Zs} {tb later : List Tb} {vs : List Int} {row : List Kd} {n c : Nat} {t : Stp} {ts : List Stp}
/-! ### worlds -/
/-! ### a step -/
/-! ### a table ahead of a moment -/
def jmpPy (j : Int × Int) : PyData := .tuple [.int j.1, .int j.2]
theorem jmps_py : ∀ l : List (Int × Int), toPys (l.map jmpD) = some (l.map jmpPy)
  | [] => rfl
  | m :: l => by
    have ih := jmps_py l
    simp only [List.map_cons, toPys, ih, jmpD, toPy, Option.bind_some, Option.map_some]
    rfl
theorem jmps_lay : ∀ l : List (Int × Int), PyData.canLayAll0 (l.map jmpPy) = true
  | [] => rfl
  | m :: l => by
    have ih := jmps_lay l
    simp only [List.map_cons, PyData.canLayAll0, ih, jmpPy, PyData.canLay0, Bool.and_self]
theorem jmps_depth : ∀ l : List (Int × Int), PyData.depthAll (l.map jmpPy) ≤ 1
  | [] => by simp [PyData.depthAll]
  | m :: l => by
    have ih := jmps_depth l
    simp only [List.map_cons, PyData.depthAll, PyData.depth, jmpPy]
    omega
end
end Dm
-- text HmAllT4
namespace Dm
open PySem L2
/-- two rows, item by item -/
inductive Rel2 {α β : Type} (P : α → β → Prop) : List α → List β → Prop
  | nil : Rel2 P [] []
  | cons {a b as bs} : P a b → Rel2 P as bs → Rel2 P (a :: as) (b :: bs)
theorem Rel2.len {α β : Type} {P : α → β → Prop} {as : List α} {bs : List β} (h : Rel2 P as bs) : bs.length = as.length := by
  induction h with
  | nil => rfl
  | cons _ _ ih => rw [List.length_cons, List.length_cons, ih]
theorem Rel2.mem {α β : Type} {P : α → β → Prop} {as : List α} {bs : List β} (h : Rel2 P as bs) {b : β} (hb : b ∈ bs) : ∃ a, a ∈ as ∧ P a b := by
  induction h with
  | nil => cases hb
  | @cons a b' _ _ p _ ih =>
    rcases List.mem_cons.mp hb with rfl | hb
    · exact ⟨a, List.mem_cons_self, p⟩
    · obtain ⟨a, h1, h2⟩ := ih hb
      exact ⟨a, List.mem_cons_of_mem _ h1, h2⟩
/-- a comprehension without a test whose element draws -/
theorem lcQ_rel {f : D → Rho → Option Rho} {me : ME} {ρ : Rho} {α β : Type} {i : α → D} {j : β → D} (I : Sto → Prop) (P : α → β → Prop) : ∀ {as : List α} {S : Sto} {Q : List D → Sto → Prop}, I S →
    (∀ a, a ∈ as → ∀ S1, I S1 → ∃ ρ1, f (i a) ρ = some ρ1 ∧ (me ρ1 S1).Does (fun d S2 => ∃ b, d = j b ∧ P a b ∧ I S2)) →
    (∀ bs S', I S' → Rel2 P as bs → Q (bs.map j) S') → LcQ f mYes me ρ (as.map i) S Q
  | [], S, Q, hS, h, q => by rw [List.map_nil, lcQ_nil]; exact q [] S hS .nil
  | a :: r, S, Q, hS, h, q => by
    obtain ⟨ρ1, e, k⟩ := h a List.mem_cons_self S hS
    rw [List.map_cons, lcQ_cons, e]
    simp only [does_yes, blQ_bl, if_true]
    refine k.mono ?_
    rintro _ S2 ⟨b, rfl, hp, h2⟩
    refine lcQ_rel I P h2 (fun d hd => h d (List.mem_cons_of_mem _ hd)) fun bs S' h' hr => ?_
    exact q (b :: bs) S' h' (.cons hp hr)
theorem rngD_map {lo : Int} {n : Nat} : rngD lo n = ((List.range n).map fun (i : Nat) => lo + i).map D.int := by
  unfold rngD
  rw [List.map_map] <;> rfl
def tbPy (c : Int × List (Int × Int)) : PyData := .tuple [.int c.1, .tuple (c.2.map jmpPy)]
theorem tb_py (c : Int × List (Int × Int)) : toPy (tbD c) = some (tbPy c) := by
  simp only [tbD, tabD, toPy, toPys, jmps_py, Option.bind_some, Option.map_some, tbPy]
theorem tbs_py : ∀ l : List (Int × List (Int × Int)), toPys (l.map tbD) = some (l.map tbPy)
  | [] => rfl
  | m :: l => by
    have ih := tbs_py l
    simp only [List.map_cons, toPys, ih, tb_py, Option.bind_some, Option.map_some]
theorem tb_lay (c : Int × List (Int × Int)) : PyData.canLay0 (tbPy c) = true := by
  simp only [tbPy, PyData.canLay0, PyData.canLayAll0, jmps_lay, Bool.and_self]
theorem tbs_lay : ∀ l : List (Int × List (Int × Int)), PyData.canLayAll0 (l.map tbPy) = true
  | [] => rfl
  | m :: l => by
    have ih := tbs_lay l
    simp only [List.map_cons, PyData.canLayAll0, ih, tb_lay, Bool.and_self]
theorem tb_depth (c : Int × List (Int × Int)) : (tbPy c).depth ≤ 3 := by
  have := jmps_depth c.2
  simp only [tbPy, PyData.depth, PyData.depthAll]
  omega
theorem tbs_depth : ∀ l : List (Int × List (Int × Int)), PyData.depthAll (l.map tbPy) ≤ 3
  | [] => by simp [PyData.depthAll]
  | m :: l => by
    have ih := tbs_depth l
    have := tb_depth m
    simp only [List.map_cons, PyData.depthAll]
    omega
section
variable {S : Sto} {os : List Int} {s : Int}
theorem in_tabs {T : Int × List (Int × Int)} {cs : List (Int × List (Int × Int))} (h : T ∈ cs) : gIn2 true S (tabD T.1 T.2) (.lst (cs.map tbD)) = some (.bl false) := by
  have e1 : toPyS S (tabD T.1 T.2) = some (tbPy T) := by
    have := tb_py T
    exact this
  have e2 : toPyS S (.lst (cs.map tbD)) = some (.list (cs.map tbPy)) := by simp only [toPyS, toPy, tbs_py]; rfl
  unfold gIn2
  simp only [e1, e2]
  have s1 : SeqAt.shaped (tbPy T) = true := by
    have := tb_depth T
    unfold SeqAt.shaped
    rw [tb_lay, Bool.true_and]
    exact decide_eq_true (by omega)
  have s2 : SeqAt.shaped (.list (cs.map tbPy)) = true := shaped_lst (tbs_lay cs) (tbs_depth cs) (by decide)
  rw [if_pos ⟨s1, s2⟩]
  have e3 : ((cs.map tbPy).any fun e => PyData.eqv e (tbPy T)) = true := by
    rw [List.any_eq_true]
    exact ⟨tbPy T, List.mem_map_of_mem h, PySem.SeqAt.eqv_refl _ (tb_lay T)⟩
  rw [e3]
  rfl
theorem small_does {p : Nat} {Q : D → Sto → Prop} (hp : Pot p S) (q : ∀ os s S', Go p S S' → ZoneOK os s → 2 ≤ s → (os.length = 2 ∨ os.length = 3) → Q (zoneD os s) S') : (m_law_small [.cell p] S).Does Q := by
  refine does_def rfl ?_
  refine seq_cut (fun ρ S' => ∃ a : Int, ρ = [some (.cell p), some (.int a), none, none] ∧ Go p S S' ∧ -6 ≤ a ∧ a < 3) (fun M hM => ?_) ?_
  · simp
    refine draw_does hp (by decide) (by decide) fun r S1 g1 h0 h1 => ?_
    simp
    exact hM _ _ ⟨_, rfl, g1, by omega, by omega⟩
  rintro ρ S1 ⟨a, rfl, g1, a0, a1⟩
  refine seq_cut (fun ρ S' => S1 = S' ∧ ρ = [some (.cell p), some (.int a), some (.lst [.tup [.int a, .int (a + 1)], .tup [.int a, .int (a + 2)], .tup [.int a, .int (a + 1), .int (a + 2)], .tup [.int a, .int (a + 3)], .tup [.int a, .int (a + 1), .int (a + 4)]]), none]) (fun M hM => ?_) ?_
  · simp
    exact hM _ _ ⟨rfl, rfl⟩
  rintro ρ _ ⟨rfl, rfl⟩
  refine seq_cut (fun ρ S' => ∃ os x2 b, ρ = [some (.cell p), some (.int a), x2, some (.tup (os.map .int))] ∧ Go p S S' ∧ (os = [a, b] ∧ a < b ∧ b ≤ a + 3 ∨ ∃ c, os = [a, c, b] ∧ a < c ∧ c < b ∧ b ≤ a + 4)) (fun M hM => ?_) ?_
  · simp
    refine draw_does g1.pot (by decide) (by decide) fun r S2 g2 h0 h1 => ?_
    have g := g1.trans g2
    have e : r = 0 ∨ r = 1 ∨ r = 2 ∨ r = 3 ∨ r = 4 := by omega
    rcases e with e | e | e | e | e <;> subst e <;> simp [atI, ixN]
    · exact hM _ _ ⟨[a, a + 1], _, a + 1, rfl, g, .inl ⟨rfl, by omega, by omega⟩⟩
    · exact hM _ _ ⟨[a, a + 2], _, a + 2, rfl, g, .inl ⟨rfl, by omega, by omega⟩⟩
    · exact hM _ _ ⟨[a, a + 1, a + 2], _, a + 2, rfl, g, .inr ⟨_, rfl, by omega, by omega, by omega⟩⟩
    · exact hM _ _ ⟨[a, a + 3], _, a + 3, rfl, g, .inl ⟨rfl, by omega, by omega⟩⟩
    · exact hM _ _ ⟨[a, a + 1, a + 4], _, a + 4, rfl, g, .inr ⟨_, rfl, by omega, by omega, by omega⟩⟩
  rintro ρ S2 ⟨os, x2, b, rfl, g, c⟩
  rcases c with ⟨rfl, c1, c2⟩ | ⟨c, rfl, c0, c1, c2⟩
  · simp
    refine draw_does g.pot (by decide) (by decide) fun r S3 g3 h0 h1 => ?_
    simp
    exact q [a, b] _ _ (g.trans g3) (.two a b _ (by omega) c1 (by omega) (by omega) (by omega)) (by omega) (.inl rfl)
  · simp
    refine draw_does g.pot (by decide) (by decide) fun r S3 g3 h0 h1 => ?_
    simp
    exact q [a, c, b] _ _ (g.trans g3) (.three a c b _ (by omega) c0 c1 (by omega) (by omega) (by omega)) (by omega) (.inr rfl)
theorem any_hour_does2 {p : Nat} {Q : D → Sto → Prop} (hp : Pot p S) (q : ∀ h S', Go p S S' → -1000000000000 < h → h < 999900000000 → Q (.int h) S') : (m_law_any_hour [.cell p] S).Does Q := by
  refine does_def rfl ?_
  simp
  refine draw_does hp (by decide) (by decide) fun r S1 g1 h0 h1 => ?_
  simp
  by_cases c1 : r < 2
  · simp [c1]
    refine draw_does g1.pot (by decide) (by decide) fun r2 S2 g2 a0 a1 => ?_
    simp
    exact q _ _ (g1.trans g2) (by omega) (by omega)
  · simp [c1]
    by_cases c2 : r = 2
    · simp [c2]
      refine draw_does g1.pot (by decide) (by decide) fun r2 S2 g2 a0 a1 => ?_
      simp
      exact q _ _ (g1.trans g2) (by omega) (by omega)
    · simp [c2]
      refine draw_does g1.pot (by decide) (by decide) fun r2 S2 g2 a0 a1 => ?_
      have g := g1.trans g2
      have e : r2 = 0 ∨ r2 = 1 ∨ r2 = 2 ∨ r2 = 3 ∨ r2 = 4 ∨ r2 = 5 ∨ r2 = 6 := by omega
      rcases e with e | e | e | e | e | e | e <;> subst e <;> simp [atI, ixN] <;> exact q _ _ g (by decide) (by decide)
/-- how many tables there are -/
theorem charts_few (z : ZoneOK os s) (h2 : 2 ≤ s) {lo : Int} {n : Nat} (hn : os.length = 2 ∧ n = 11 ∨ os.length = 3 ∧ n = 9) : ∀ k, k ≤ n → (chartsL os s lo k).length ≤ 2049 := by
  intro k hk
  have b := (charts_len z h2 (lo := lo) k).1
  rcases hn with ⟨e, rfl⟩ | ⟨e, rfl⟩ <;> rw [e] at b
  · have : k = 0 ∨ k = 1 ∨ k = 2 ∨ k = 3 ∨ k = 4 ∨ k = 5 ∨ k = 6 ∨ k = 7 ∨ k = 8 ∨ k = 9 ∨ k = 10 ∨ k = 11 := by omega
    rcases this with rfl | rfl | rfl | rfl | rfl | rfl | rfl | rfl | rfl | rfl | rfl | rfl <;> exact Nat.le_trans b (by decide +kernel)
  · have : k = 0 ∨ k = 1 ∨ k = 2 ∨ k = 3 ∨ k = 4 ∨ k = 5 ∨ k = 6 ∨ k = 7 ∨ k = 8 ∨ k = 9 := by omega
    rcases this with rfl | rfl | rfl | rfl | rfl | rfl | rfl | rfl | rfl | rfl <;> exact Nat.le_trans b (by decide +kernel)
/-- the jumps of a table of the stretch are few -/
theorem chain_few (hs : 0 < s) {lo hi : Int} : ∀ {js : List (Int × Int)} {h : Int} {p : Option Int}, Chain os s h p js → (∀ j, j ∈ js → lo ≤ j.1 ∧ j.1 < hi) → (∀ q, p = some q → lo ≤ q + s) → js ≠ [] → (js.length : Int) ≤ hi - lo
  | [], _, _, _, _, _, hn => absurd rfl hn
  | [(t, o)], _, _, _, hj, _, _ => by
    have := hj (t, o) (by simp)
    simp at this ⊢
    omega
  | (t, o) :: (t', o') :: r, h, p, c, hj, hp, _ => by
    have c2 := c.2.2.2
    have h1 := hj (t, o) (by simp)
    have ih := chain_few hs (lo := t + 1) (hi := hi) c2 (fun j hm => ⟨by have := chain_gt3 hs c2 j hm; omega, (hj j (List.mem_cons_of_mem _ hm)).2⟩) (fun q e => by cases e; omega) (by simp)
    simp only [List.length_cons] at ih ⊢
    simp only at h1
    push_cast at ih ⊢
    omega
theorem charts_short (hs : 0 < s) {lo : Int} {n : Nat} {c : Int × List (Int × Int)} (h : c ∈ chartsL os s lo n) : c.2.length ≤ n := by
  obtain ⟨t, hj⟩ := (charts_iff hs).mp h
  by_cases e : c.2 = []
  · rw [e]; simp
  · have := chain_few hs t.chain hj (fun q e => nomatch e) e
    omega
end
end Dm
-- text M_k13
namespace Dm
open PySem L2
theorem left_len3 {os : List Int} {s m : Int} {ls : List (Int × Int)} (z : ZoneOK os s) : (leftOf os s ls m).length ≤ 3 := by
  have := z.len
  unfold leftOf
  cases seen ls m with
  | some o => simp only; split <;> simp
  | none => exact Nat.le_trans (List.length_filter_le _ _) (by omega)
theorem uniq_len : ∀ l : List Int, (uniq l).length ≤ l.length
  | [] => by simp [uniq]
  | x :: r => by
    have h : ∀ l : List Int, (insU x l).length ≤ l.length + 1 := by
      intro l
      induction l with
      | nil => simp [insU]
      | cons y q ih =>
        unfold insU
        split
        · simp
        · split
          · simp
          · simp only [List.length_cons]; omega
    have h1 := h (uniq r)
    have h2 := uniq_len r
    rw [uniq, List.length_cons]
    omega
theorem blsOf_bl {α : Type} (p : α → Bool) : ∀ l : List α, blsOf (l.map fun x => D.bl (p x)) = some (l.map p)
  | [] => rfl
  | a :: l => by
    rw [List.map_cons, blsOf, blsOf_bl p l] <;> rfl
theorem gAll_bl {S : Sto} {α : Type} (p : α → Bool) (l : List α) : gAll S [.lst (l.map fun x => D.bl (p x))] = some (.bl (l.all p)) := by
  unfold gAll
  simp only [lstOf_lst, Option.bind_some, blsOf_bl, Option.map_some]
  congr 2
  rw [List.all_map] <;> rfl
theorem gAny_bl {S : Sto} {α : Type} (p : α → Bool) (l : List α) : gAny S [.lst (l.map fun x => D.bl (p x))] = some (.bl (l.any p)) := by
  unfold gAny
  simp only [lstOf_lst, Option.bind_some, blsOf_bl, Option.map_some]
  congr 2
  rw [List.any_map] <;> rfl
theorem rel_fst {os : List Int} {hs : List Int} {bs : List (Int × Int)} (h : Rel2 (fun (a : Int) (b : Int × Int) => b.1 = a ∧ b.2 ∈ os) hs bs) : bs.map (·.1) = hs := by
  induction h with
  | nil => rfl
  | cons h _ ih => rw [List.map_cons, ih, h.1]
theorem law_k13_whole_all_tables_true : LawTrue m_law_k13_whole_all_tables := by
  refine law_loop (by decide) fun c L xs S hx => ?_
  obtain ⟨x2, x3, x4, x5, x6, x7, x8, x9, x10, x11, x12, x13, x14, x15, x16, x17, x18, rfl⟩ : ∃ x2 x3 x4 x5 x6 x7 x8 x9 x10 x11 x12 x13 x14 x15 x16 x17 x18, xs = [x2, x3, x4, x5, x6, x7, x8, x9, x10, x11, x12, x13, x14, x15, x16, x17, x18] := match xs, hx with
    | [_, _, _, _, _, _, _, _, _, _, _, _, _, _, _, _, _], _ => ⟨_, _, _, _, _, _, _, _, _, _, _, _, _, _, _, _, _, rfl⟩
  refine seq_cut (fun ρ S' => ρ = [some L, some (.int c), some (.cell S.length), x3, x4, x5, x6, x7, x8, x9, x10, x11, x12, x13, x14, x15, x16, x17, x18] ∧ ∃ k, S' = S ++ [.lst [.int k]]) (fun M hM => ?_) ?_
  · simp
    refine digits_does fun k => hM _ _ ⟨rfl, k, rfl⟩
  rintro ρ _ ⟨rfl, k, rfl⟩
  have hp : Pot S.length (S ++ [.lst [.int k]]) := ⟨k, by simp⟩
  generalize S.length = p at hp
  generalize S ++ [.lst [.int k]] = S1 at hp
  refine seq_cut (fun ρ S' => ∃ os s, ρ = [some L, some (.int c), some (.cell p), some (zoneD os s), x4, x5, x6, x7, x8, x9, x10, x11, x12, x13, x14, x15, x16, x17, x18] ∧ Pot p S' ∧ ZoneOK os s ∧ 2 ≤ s ∧ (os.length = 2 ∨ os.length = 3)) (fun M hM => ?_) ?_
  · simp
    exact small_does hp fun os s S2 g z h2 hl => hM _ _ ⟨os, s, rfl, g.pot, z, h2, hl⟩
  rintro ρ S2 ⟨os, s, rfl, hp2, z, h2, hol⟩
  have hs := z.sp
  refine seq_cut (fun ρ S' => ∃ lo, ρ = [some L, some (.int c), some (.cell p), some (zoneD os s), some (.int lo), x5, x6, x7, x8, x9, x10, x11, x12, x13, x14, x15, x16, x17, x18] ∧ Pot p S' ∧ -1000000000000 < lo ∧ lo < 999900000000) (fun M hM => ?_) ?_
  · simp
    exact any_hour_does2 hp2 fun lo S3 g l0 l1 => hM _ _ ⟨lo, rfl, g.pot, l0, l1⟩
  rintro ρ S3 ⟨lo, rfl, hp3, l0, l1⟩
  refine seq_cut (fun ρ S' => S3 = S' ∧ ∃ n : Nat, ρ = [some L, some (.int c), some (.cell p), some (zoneD os s), some (.int lo), some (.int ((n : Int) - 1)), x6, x7, x8, x9, x10, x11, x12, x13, x14, x15, x16, x17, x18] ∧ (os.length = 2 ∧ n = 11 ∨ os.length = 3 ∧ n = 9)) (fun M hM => ?_) ?_
  · rcases hol with e | e
    · simp [zoneD, e, atI, ixN]
      exact hM _ _ ⟨rfl, 11, rfl, .inl ⟨e, rfl⟩⟩
    · simp [zoneD, e, atI, ixN]
      exact hM _ _ ⟨rfl, 9, rfl, .inr ⟨e, rfl⟩⟩
  rintro ρ _ ⟨rfl, n, rfl, hn⟩
  have hn12 : n ≤ 12 ∧ 9 ≤ n := by omega
  refine seq_cut (fun ρ S' => ∃ hs : List Int, ρ = [some L, some (.int c), some (.cell p), some (zoneD os s), some (.int lo), some (.int ((n : Int) - 1)), some (.lst (hs.map .int)), x7, x8, x9, x10, x11, x12, x13, x14, x15, x16, x17, x18] ∧ Pot p S' ∧ hs.Pairwise (· < ·) ∧ (∀ h, h ∈ hs → lo ≤ h ∧ h < lo + n) ∧ hs.length ≤ 5) (fun M hM => ?_) ?_
  · simp
    refine draw_does hp3 (by decide) (by decide) fun r S4 g4 r0 r1 => ?_
    simp [wipeD]
    refine ⟨by omega, ?_⟩
    rw [rngD_map]
    refine lcQ_rel (j := D.int) (Pot p) (fun _ b => lo ≤ b ∧ b < lo + n) g4.pot ?_ ?_
    · intro a _ S5 hp5
      refine ⟨_, rfl, ?_⟩
      simp
      refine draw_does hp5 (by omega) (by omega) fun q S6 g6 q0 q1 => ?_
      simp
      exact ⟨⟨by omega, by omega⟩, g6.pot⟩
    · intro bs S5 hp5 hr
      have hl := hr.len
      have hm := fun b hb => (hr.mem (b := b) hb)
      rw [List.length_map, List.length_range] at hl
      have h5 := uniq_len bs
      rw [gSortSet_ints rfl (by omega) (by omega)]
      refine hM _ _ ⟨uniq bs, rfl, hp5, uniq_asc bs, fun h hh => ?_, by omega⟩
      obtain ⟨_, _, h1⟩ := hm h (uniq_mem.mp hh)
      exact h1
  rintro ρ S4 ⟨hs', rfl, hp4, hasc, hin, hl5⟩
  refine seq_cut (fun ρ S' => ∃ ls : List (Int × Int), ρ = [some L, some (.int c), some (.cell p), some (zoneD os s), some (.int lo), some (.int ((n : Int) - 1)), some (.lst (hs'.map .int)), some (looksD ls), x8, x9, x10, x11, x12, x13, x14, x15, x16, x17, x18] ∧ Pot p S' ∧ LooksOK os ls ∧ (∀ x, x ∈ ls → lo ≤ x.1 ∧ x.1 < lo + n) ∧ ls.length ≤ 5) (fun M hM => ?_) ?_
  · simp [wipeD]
    rw [lcAQ_fix (.inr rfl) (by simp)]
    refine lcQ_rel (j := jmpD) (Pot p) (fun a (b : Int × Int) => b.1 = a ∧ b.2 ∈ os) hp4 ?_ ?_
    · intro a _ S5 hp5
      refine ⟨_, rfl, ?_⟩
      simp [zoneD]
      refine draw_does hp5 (by omega) (by omega) fun q S6 g6 q0 q1 => ?_
      obtain ⟨d, e', hm⟩ := at_some (xs := os.map D.int) q0 (by rw [List.length_map]; exact q1)
      obtain ⟨o, hm2, rfl⟩ := List.mem_map.mp hm
      simp [e']
      exact ⟨a, o, rfl, ⟨rfl, hm2⟩, g6.pot⟩
    · intro bs S5 hp5 hr
      have hl := hr.len
      refine hM _ _ ⟨bs, rfl, hp5, ⟨fun l hl => ?_, ?_⟩, fun x hx => ?_, by omega⟩
      · obtain ⟨_, _, h1⟩ := hr.mem hl
        exact h1.2
      · have key := rel_fst hr
        rw [← key] at hasc
        exact List.pairwise_map.mp hasc
      · obtain ⟨a, ha, h1⟩ := hr.mem hx
        rw [h1.1]
        exact hin a ha
  rintro ρ S5 ⟨ls, rfl, hp5, l, lin, ll⟩
  have few := charts_few (lo := lo) z h2 hn
  refine seq_cut (fun ρ S' => S5 = S' ∧ ρ = [some L, some (.int c), some (.cell p), some (zoneD os s), some (.int lo), some (.int ((n : Int) - 1)), some (.lst (hs'.map .int)), some (looksD ls), some (.lst ((chartsL os s lo n).map tbD)), x9, x10, x11, x12, x13, x14, x15, x16, x17, x18]) (fun M hM => ?_) ?_
  · have ew : lo + ((n : Int) - 1) = lo + n - 1 := by omega
    simp
    rw [ew, charts_ok z (by omega) ⟨l0, l1⟩ (fun k hk => by have := few k hk; omega) (fun k hk c hc => by have := charts_short hs.1 hc; omega)]
    simp
    exact hM _ _ ⟨rfl, rfl⟩
  rintro ρ _ ⟨rfl, rfl⟩
  have fl := few n (Nat.le_refl _)
  have ct : ∀ c, c ∈ chartsL os s lo n → TabOK os s c.1 c.2 := fun c hc => ((charts_iff hs.1).mp hc).1
  refine seq_cut (fun ρ S' => S5 = S' ∧ ρ = [some L, some (.int c), some (.cell p), some (zoneD os s), some (.int lo), some (.int ((n : Int) - 1)), some (.lst (hs'.map .int)), some (looksD ls), some (.lst ((chartsL os s lo n).map tbD)), some (.lst ((havingL os s lo n ls).map tbD)), x10, x11, x12, x13, x14, x15, x16, x17, x18]) (fun M hM => ?_) ?_
  · simp [wipeD]
    rw [lcAQ_fix (.inr rfl) (by simp)]
    refine lcQ_filter (hasB ls) tbD ?_ ?_
    · intro a ha
      refine ⟨_, rfl, fun Q q => ?_, fun Q _ q => ?_⟩
      · simp [wipeD, looksD]
        rw [lcAQ_fix (.inl rfl) (by simp)]
        refine lcQ_filter (fun _ : Int × Int => true) (fun x => D.bl (offAt a.1 a.2 x.1 == x.2)) ?_ ?_
        · intro x _
          refine ⟨_, rfl, fun Q q => q, fun Q _ q => ?_⟩
          have e := shAt_eq (m := x.1) hs.1 (ct a ha).chain
          simp [tbD, shift_at_ok]
          rw [e]
          exact q
        · have e : (ls.filter fun _ : Int × Int => true) = ls := List.filter_eq_self.mpr fun _ _ => rfl
          rw [e]
          rw [gAll_bl]
          exact q
      · simp
        exact q
    · exact hM _ _ ⟨rfl, rfl⟩
  rintro ρ _ ⟨rfl, rfl⟩
  have hv : (havingL os s lo n ls).isEmpty = !(crow s ls).isNone := having_fit z l lin
  have hvl : (havingL os s lo n ls).length ≤ 2049 := Nat.le_trans (List.length_filter_le _ _) fl
  have hvm : ∀ c, c ∈ havingL os s lo n ls → TabOK os s c.1 c.2 ∧ ∀ x, x ∈ ls → offAt c.1 c.2 x.1 = x.2 := fun c hc => by
    have := (having_iff hs.1).mp hc
    exact ⟨this.1, this.2.2⟩
  have hvs : ∀ c, c ∈ havingL os s lo n ls → c.2.length ≤ 12 := fun c hc => by
    have := charts_short hs.1 (List.mem_filter.mp hc).1
    omega
  have hlh : ∀ m, lo ≤ m ∧ m < lo + n → leftOf os s ls m = uniq ((havingL os s lo n ls).map fun c => offAt c.1 c.2 m) := fun m hm => left_having z l lin hm
  have hea : ∀ T, earlyT os s ls = some T → T ∈ havingL os s lo n ls := fun T e => early_having z l lin e
  generalize havingL os s lo n ls = hv' at *
  have dg : decide (0 < hv'.length) = (crow s ls).isNone := by
    cases hv' with
    | nil =>
      simp at hv ⊢
      exact hv
    | cons a b =>
      simp at hv ⊢
      exact hv
  refine seq_cut (fun ρ S' => ρ = [some L, some (.int c), some (.cell p), some (zoneD os s), some (.int lo), some (.int ((n : Int) - 1)), some (.lst (hs'.map .int)), some (looksD ls), some (.lst ((chartsL os s lo n).map tbD)), some (.lst (hv'.map tbD)), x10, x11, x12, x13, x14, x15, x16, x17, x18] ∧ Pot p S') (fun M hM => ?_) ?_
  · simp
    refine can_hold_does z l (by omega) fun cc => ?_
    have e := same_plain (S := S5 ++ [cc]) (n := 1) (d := .bl (crow s ls).isNone) .bl (by decide)
    have hp6 := hp5.push (c := cc)
    rw [dg, e]
    simp
    exact hM _ _ ⟨rfl, hp6⟩
  rintro ρ S6 ⟨rfl, hp6⟩
  refine seq_cut (fun ρ S' => ρ = [some L, some (.int c), some (.cell p), some (zoneD os s), some (.int lo), some (.int ((n : Int) - 1)), some (.lst (hs'.map .int)), some (looksD ls), some (.lst ((chartsL os s lo n).map tbD)), some (.lst (hv'.map tbD)), some (earlyD (earlyT os s ls)), x11, x12, x13, x14, x15, x16, x17, x18] ∧ Pot p S') (fun M hM => ?_) ?_
  · simp
    exact early_table_does z l (by omega) fun cc => hM _ _ ⟨rfl, hp6.push⟩
  rintro ρ S7 ⟨rfl, hp7⟩
  refine seq_cut (fun ρ S' => S7 = S' ∧ ∃ x11 x12, ρ = [some L, some (.int c), some (.cell p), some (zoneD os s), some (.int lo), some (.int ((n : Int) - 1)), some (.lst (hs'.map .int)), some (looksD ls), some (.lst ((chartsL os s lo n).map tbD)), some (.lst (hv'.map tbD)), some (earlyD (earlyT os s ls)), x11, x12, x13, x14, x15, x16, x17, x18]) (fun M hM => ?_) ?_
  · cases et : earlyT os s ls with
    | none =>
      have ec : (crow s ls).isNone = false := by
        have := fit_crow (os := os) hs.1 l
        rw [et] at this
        simpa using this
      have e0 : hv' = [] := by
        rw [ec] at hv
        exact List.isEmpty_iff.mp hv
      subst e0
      simp [earlyD, isNon]
      exact hM _ _ ⟨rfl, _, _, by rw [et]; rfl⟩
    | some T =>
      have hT := hea T et
      have hne : ¬ (hv'.length = 0) := by
        intro e
        rw [List.length_eq_zero_iff.mp e] at hT
        cases hT
      have hne2 : ¬ hv' = [] := fun e => hne (by rw [e]; rfl)
      have tl := hvs T hT
      by_cases hls : ls = []
      · subst hls
        simp [hne, hne2, looksD]
        exact hM _ _ ⟨rfl, _, _, by rw [et]; rfl⟩
      · have hls2 : 0 < ls.length := List.length_pos_iff.mpr hls
        have eD : earlyD (some T) = tabD T.1 T.2 := rfl
        have few2 : ∀ c, c ∈ hv' → c.2.length ≤ T.2.length → T.2.length = c.2.length ∧ Ahead T.2 c.2 := fun c hc hl => by
          obtain ⟨h1, h3⟩ := hvm c hc
          obtain ⟨q1, q2⟩ := fewest hs.1 l.asc hls et h1 h3
          exact ⟨by omega, q2 (by omega)⟩
        simp only [eD]
        simp [hne, hne2, looksD, hls2, hls, in_tabs hT]
        simp [wipeD]
        rw [lcAQ_fix (.inr rfl) (by simp)]
        refine lcQ_filter (fun c : Int × List (Int × Int) => decide (c.2.length ≤ T.2.length)) (fun c => D.tup (c.2.map jmpD)) ?_ ?_
        · intro a ha
          refine ⟨_, rfl, fun Q q => ?_, fun Q _ q => ?_⟩
          · simp [tbD]
            exact q
          · simp [tbD]
            exact q
        have hfm : ∀ c, c ∈ hv'.filter (fun c => decide (c.2.length ≤ T.2.length)) → c.2.length = T.2.length ∧ Ahead T.2 c.2 := fun c hc => by
          obtain ⟨h1, h3⟩ := List.mem_filter.mp hc
          obtain ⟨q1, q2⟩ := few2 c h1 (by simpa using h3)
          exact ⟨q1.symm, q2⟩
        generalize hv'.filter (fun c => decide (c.2.length ≤ T.2.length)) = fw at *
        generalize hfn : fw.map (fun c => D.tup (c.2.map jmpD)) = fd
        refine forL_cut (fun ds ρ S' => S7 = S' ∧ (∃ r : List (Int × List (Int × Int)), ds = (r.map fun c => D.tup (c.2.map jmpD)) ∧ ∀ c, c ∈ r → c ∈ fw) ∧ ∃ x12, ρ = [some L, some (.int c), some (.cell p), some (zoneD os s), some (.int lo), some (.int ((n : Int) - 1)), some (.lst (hs'.map .int)), some (.tup (ls.map jmpD)), some (.lst ((chartsL os s lo n).map tbD)), some (.lst (hv'.map tbD)), some (tabD T.1 T.2), some (.lst fd), x12, x13, x14, x15, x16, x17, x18]) _
          ⟨rfl, ⟨fw, hfn.symm, fun _ h => h⟩, x12, rfl⟩ ?_ ?_
        · rintro d ds ρ S8 ⟨rfl, ⟨r, e, hr⟩, x12, rfl⟩
          cases r with
          | nil => cases e
          | cons a r =>
            rw [List.map_cons] at e
            injection e with e1 e2
            subst e1
            obtain ⟨al, aa⟩ := hfm a (hr a List.mem_cons_self)
            refine ⟨_, rfl, fun M3 hM3 => ?_⟩
            simp [al, wipeD]
            rw [rngD_map]
            refine ⟨by omega, ?_⟩
            refine lcQ_filter (fun _ : Int => true) (fun _ : Int => D.bl false) ?_ ?_
            · intro x hx
              refine ⟨_, rfl, fun Q q => q, fun Q _ q => ?_⟩
              obtain ⟨i, hi, rfl⟩ := List.mem_map.mp hx
              have hi := List.mem_range.mp hi
              have g1 : T.2[i]? = some T.2[i] := List.getElem?_eq_getElem hi
              have g2 : a.2[i]? = some (a.2[i]'(by omega)) := List.getElem?_eq_getElem (by omega)
              have hle := aa i _ _ g1 g2
              have e1 : atI (T.2.map jmpD) ((0 : Int) + (i : Int)) = some (jmpD T.2[i]) := by
                rw [atI_of (by omega) (by rw [List.length_map]; omega)]
                simp [hi]
              have e2 : atI (a.2.map jmpD) ((0 : Int) + (i : Int)) = some (jmpD (a.2[i]'(by omega))) := by
                rw [atI_of (by omega) (by rw [List.length_map]; omega)]
                simp [show i < a.2.length by omega]
              simp [e1, e2]
              simp at e1 e2
              simp [e1, e2]
              have nl : decide ((a.2[i]'(by omega)).1 < T.2[i].1) = false := decide_eq_false (by omega)
              rw [nl]
              exact q
            · rw [gAny_bl]
              have ef : ∀ l : List Int, l.any (fun _ => false) = false := fun l => List.any_eq_false.mpr fun _ _ => by simp
              rw [ef]
              simp
              exact hM3 _ _ ⟨rfl, ⟨r, e2, fun x hx => hr x (List.mem_cons_of_mem _ hx)⟩, _, rfl⟩
        · rintro ρ S8 ⟨rfl, _, x12, rfl⟩
          exact hM _ _ ⟨rfl, _, _, by rw [et]; rfl⟩
  rintro ρ _ ⟨rfl, y11, y12, rfl⟩
  generalize earlyD (earlyT os s ls) = ed
  rw [does_for]
  simp [wipeD]
  rw [rngD_map]
  refine lcQ_rel (j := D.int) (Pot p) (fun _ b => lo ≤ b ∧ b < lo + n) hp7 ?_ ?_
  · intro a _ S8 hp8
    refine ⟨_, rfl, ?_⟩
    simp
    refine draw_does hp8 (by omega) (by omega) fun q S9 g9 q0 q1 => ?_
    simp
    exact ⟨⟨by omega, by omega⟩, g9.pot⟩
  · intro bs S8 hp8 hr
    have hm := fun b hb => (hr.mem (b := b) hb)
    refine forL_cut (fun ds ρ S' => Pot p S' ∧ (∃ r : List Int, ds = r.map .int ∧ ∀ m, m ∈ r → lo ≤ m ∧ m < lo + n) ∧ ∃ x13 x14, ρ = [some L, some (.int c), some (.cell p), some (zoneD os s), some (.int lo), some (.int ((n : Int) - 1)), some (.lst (hs'.map .int)), some (looksD ls), some (.lst ((chartsL os s lo n).map tbD)), some (.lst (hv'.map tbD)), some ed, y11, y12, x13, x14, x15, x16, x17, x18]) _
      ⟨hp8, ⟨bs, rfl, fun m h => by obtain ⟨_, _, h1⟩ := hm m h; exact h1⟩, x13, x14, rfl⟩ ?_ ?_
    · rintro d ds ρ S9 ⟨hp9, ⟨r, e, hr⟩, x13, x14, rfl⟩
      cases r with
      | nil => cases e
      | cons m r =>
        rw [List.map_cons] at e
        injection e with e1 e2
        subst e1
        have hlm := hlh m (hr m List.mem_cons_self)
        have l3 := left_len3 (ls := ls) (m := m) z
        refine ⟨_, rfl, fun M3 hM3 => ?_⟩
        refine seq_cut (fun ρ S' => S9 = S' ∧ ρ = [some L, some (.int c), some (.cell p), some (zoneD os s), some (.int lo), some (.int ((n : Int) - 1)), some (.lst (hs'.map .int)), some (looksD ls), some (.lst ((chartsL os s lo n).map tbD)), some (.lst (hv'.map tbD)), some ed, y11, y12, some (.int m), some (.lst ((leftOf os s ls m).map .int)), x15, x16, x17, x18]) (fun M hM => ?_) ?_
        · simp [wipeD]
          rw [lcAQ_fix (.inr rfl) (by simp)]
          refine lcQ_filter (fun _ : Int × List (Int × Int) => true) (fun c => D.int (offAt c.1 c.2 m)) ?_ ?_
          · intro a ha
            refine ⟨_, rfl, fun Q q => q, fun Q _ q => ?_⟩
            have e := shAt_eq (m := m) hs.1 (hvm a ha).1.chain
            simp [tbD, shift_at_ok]
            rw [e]
            exact q
          · have e : (hv'.filter fun _ : Int × List (Int × Int) => true) = hv' := List.filter_eq_self.mpr fun _ _ => rfl
            rw [e]
            have em : (hv'.map fun c => D.int (offAt c.1 c.2 m)) = (hv'.map fun c => offAt c.1 c.2 m).map D.int := by rw [List.map_map] <;> rfl
            rw [em]
            rw [hlm] at l3
            rw [gSortSet_ints rfl (by rw [List.length_map]; omega) (by omega)]
            rw [hlm] at hM
            exact hM _ _ ⟨rfl, rfl⟩
        rintro ρ _ ⟨rfl, rfl⟩
        simp
        refine offsets_left_does z l (by omega) fun q S10 g10 hq cq => ?_
        simp [same30 (eqv_ints (S := S10) (d := .cell q) (e := .lst ((leftOf os s ls m).map .int)) (lstOf_cell cq) rfl (by omega)) (by omega)]
        exact hM3 _ _ ⟨(g10.go hp9).pot, ⟨r, e2, fun x hx => hr x (List.mem_cons_of_mem _ hx)⟩, _, _, rfl⟩
    · rintro ρ S9 ⟨hp9, _, x13, x14, rfl⟩
      exact ⟨_, _, rfl, rfl⟩
end Dm
-- text E_k13
open PySem PySem.W PyProof.Rows in
set_option maxRecDepth 100000 in
set_option maxHeartbeats 0 in
theorem PySem.Challenge.cw_hoursmeant_k13_whole_all_tables_holds : PySem.Challenge.rw_hoursmeant_k13_whole_all_tables.Holds := by
  w_on; o_law; k_head; (case hw => w_witness2)
  k_fill
  refine V.walk (l := PySem.Challenge.rw_hoursmeant_k13_whole_all_tables) rfl rfl (fun w h Y => PySem.W.kIn_of Y) ?F
  case F =>
    intro w mg fa h KX G hmg
    refine' V.all_mk Dm.law_k13_whole_all_tables_true KX G hmg ?a0 ?l0 ?c0 ?k0 ?a1 ?l1 ?c1 ?k1 ?a2 ?l2 ?c2 ?k2 ?a3 ?l3 ?c3 ?k3 ?a4 ?l4 ?c4 ?k4 ?a5 ?l5 ?c5 ?k5 ?a6 ?l6 ?c6 ?k6 ?a7 ?l7 ?c7 ?k7 ?a8 ?l8 ?c8 ?k8 ?a9 ?l9 ?c9 ?k9 ?a10 ?l10 ?c10 ?k10 ?a11 ?l11 ?c11 ?k11 ?a12 ?l12 ?c12 ?k12 ?a13 ?l13 ?c13 ?k13 ?a14 ?l14 ?c14 ?k14 ?a15 ?l15 ?c15 ?k15 ?a16 ?l16 ?c16 ?k16 ?a17 ?l17 ?c17 ?k17 ?a18 ?l18 ?c18 ?k18 ?a19 ?l19 ?c19 ?k19 ?a20 ?l20 ?c20 ?k20 ?a21 ?l21 ?c21 ?k21 ?a22 ?l22 ?c22 ?k22 ?a23 ?l23 ?c23 ?k23 ?a24 ?l24 ?c24 ?k24 ?z0 ?z1 ?z2 ?z3 ?z4 ?z5 ?z6 ?z7 ?z8 ?z9 ?z10 ?z11 ?z12 ?v0 ?v1 ?xa0 ?xq0 ?xk0 ?xb0 ?xt0 ?xa1 ?xq1 ?xk1 ?xb1 ?xt1 ?xa2 ?xq2 ?xk2 ?xb2 ?xt2
    (case a0 => k_is)
    (case l0 => k_is)
    (case c0 => k_is)
    (case k0 => k_is)
    (case a1 => k_is)
    (case l1 => k_is)
    (case c1 => k_is)
    (case k1 => k_is)
    (case a2 => k_is)
    (case l2 => k_is)
    (case c2 => k_is)
    (case k2 => k_is)
    (case a3 => k_is)
    (case l3 => k_is)
    (case c3 => k_is)
    (case k3 => k_is)
    (case a4 => k_is)
    (case l4 => k_is)
    (case c4 => k_is)
    (case k4 => k_is)
    (case a5 => k_is)
    (case l5 => k_is)
    (case c5 => k_is)
    (case k5 => k_is)
    (case a6 => k_is)
    (case l6 => k_is)
    (case c6 => k_is)
    (case k6 => k_is)
    (case a7 => k_is)
    (case l7 => k_is)
    (case c7 => k_is)
    (case k7 => k_is)
    (case a8 => k_is)
    (case l8 => k_is)
    (case c8 => k_is)
    (case k8 => k_is)
    (case a9 => k_is)
    (case l9 => k_is)
    (case c9 => k_is)
    (case k9 => k_is)
    (case a10 => k_is)
    (case l10 => k_is)
    (case c10 => k_is)
    (case k10 => k_is)
    (case a11 => k_is)
    (case l11 => k_is)
    (case c11 => k_is)
    (case k11 => k_is)
    (case a12 => k_is)
    (case l12 => k_is)
    (case c12 => k_is)
    (case k12 => k_is)
    (case a13 => k_is)
    (case l13 => k_is)
    (case c13 => k_is)
    (case k13 => k_is)
    (case a14 => k_is)
    (case l14 => k_is)
    (case c14 => k_is)
    (case k14 => k_is)
    (case a15 => k_is)
    (case l15 => k_is)
    (case c15 => k_is)
    (case k15 => k_is)
    (case a16 => k_is)
    (case l16 => k_is)
    (case c16 => k_is)
    (case k16 => k_is)
    (case a17 => k_is)
    (case l17 => k_is)
    (case c17 => k_is)
    (case k17 => k_is)
    (case a18 => k_is)
    (case l18 => k_is)
    (case c18 => k_is)
    (case k18 => k_is)
    (case a19 => k_is)
    (case l19 => k_is)
    (case c19 => k_is)
    (case k19 => k_is)
    (case a20 => k_is)
    (case l20 => k_is)
    (case c20 => k_is)
    (case k20 => k_is)
    (case a21 => k_is)
    (case l21 => k_is)
    (case c21 => k_is)
    (case k21 => k_is)
    (case a22 => k_is)
    (case l22 => k_is)
    (case c22 => k_is)
    (case k22 => k_is)
    (case a23 => k_is)
    (case l23 => k_is)
    (case c23 => k_is)
    (case k23 => k_is)
    (case a24 => k_is)
    (case l24 => k_is)
    (case c24 => k_is)
    (case k24 => k_is)
    (case z0 => k_is)
    (case z1 => k_is)
    (case z2 => k_is)
    (case z3 => k_is)
    (case z4 => k_is)
    (case z5 => k_is)
    (case z6 => k_is)
    (case z7 => k_is)
    (case z8 => k_is)
    (case z9 => k_is)
    (case z10 => k_is)
    (case z11 => k_is)
    (case z12 => k_is)
    (case v0 => k_is)
    (case v1 => k_is)
    (case xa0 => k_is)
    (case xq0 => k_exc)
    (case xk0 => k_is)
    (case xb0 => k_is)
    (case xt0 => k_is)
    (case xa1 => k_is)
    (case xq1 => k_exc)
    (case xk1 => k_is)
    (case xb1 => k_is)
    (case xt1 => k_is)
    (case xa2 => k_is)
    (case xq2 => k_exc)
    (case xk2 => k_is)
    (case xb2 => k_is)
    (case xt2 => k_is)
