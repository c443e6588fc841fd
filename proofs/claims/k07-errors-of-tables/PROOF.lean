import PyProof.Rows.All
import Wide.All
import OpenK.AllK
import Wide.FinOn
import HandS.ForMost
import HandS.ForExc
import HandS.Wide
import HandS.IsInst
import HandS.Flow
import HandS.CallSlots
import HandS.ExcIs
import HandS.TupAny
import HandS.Conv
import HandS.Deep
import HandS.ExcField
import KE.GoesEnum
import HandS.Style
import HandS.Ends
import HandS.SortRule
import HandS.SortInts
import HandS.Dict
import HandS.DictComp
import HandS.Defaults
import HandS.MakeKwOnly
import HandS.TryOnly
import HandS.SetFor
import HandS.Strs
import PyProof.P3In
import HandS.More
import PyProof.ReprRoads
import HandS.TryMany
import HandS.ExcInit
import HandS.ClsMeth
import HandS.ExcValue
import HandS.TupMul
import HandS.LawCells
import HandS.JoinGen
import PySem.Challenge.RW_hoursmeant_k07_errors_of_tables
import PyProof.ReprLen
import PyProof.FitsInt
set_option Elab.async false
set_option linter.all false
set_option maxRecDepth 100000
set_option maxHeartbeats 4000000
-- text DmCore
/-! Plain data in place of the heap: values D, a store of cells, programs as Lean functions of both. -/
namespace Dm
open PySem L2
open PySem.W (Frag)
inductive D where
  | non | bl (b : Bool) | int (i : Int) | str (x : Str)
  | tup (xs : List D) | lst (xs : List D)
  | cell (n : Nat) | glo (x : Str)
  | exn (c : Str) (fs : List (Str × Int))
inductive Cell where
  | lst (xs : List D)
  | obj (c : Str) (fs : List (Str × D))
  | exc (c : Str) (fs : List (Str × D))
  | dic (kvs : List (Key × D))
  | set (xs : List Int)
abbrev Sto := List Cell
inductive Res (α : Type) where
  | ok (a : α) (S : Sto)
  | exc (c : Str) (fs : List (Str × D)) (S : Sto)
  | bad
def Res.bind {α β : Type} (r : Res α) (f : α → Sto → Res β) : Res β := match r with
  | .ok a S => f a S
  | .exc c fs S => .exc c fs S
  | .bad => .bad
abbrev Rho := List (Option D)
abbrev ME := Rho → Sto → Res D
abbrev MA := Rho → Sto → Res (List D)
inductive Out where
  | nx (ρ : Rho) (S : Sto) | rt (d : D) (S : Sto) | bk (ρ : Rho) (S : Sto) | ct (ρ : Rho) (S : Sto)
  | exc (c : Str) (fs : List (Str × D)) (ρ : Rho) (S : Sto) | bad
abbrev MS := Rho → Sto → Out
/-! ### what stands for what -/
def KT (K : Frag) (a : Addr) (xs : List V) : Prop := ∃ (o : Obj) (its : Array Value) (n : Nat), K.lookup a = some o ∧ o.cls = .type "tuple" ∧ o.data = .seq its n ∧ its.size ≤ sizeLine ∧ Vals xs its.toList
def KL (K : Frag) (a : Addr) (xs : List V) : Prop := ∃ (o : Obj) (its : Array Value) (n : Nat), K.lookup a = some o ∧ o.cls = .type "list" ∧ o.dict = none ∧ o.data = .seq its n ∧ its.size ≤ sizeLine ∧ Vals xs its.toList
/-- what is fixed: the written part, the module's names, the addresses of lists that are being made -/
structure Fx where
  K : Frag
  mg : Str → Option Value
  ξ : List Addr
abbrev fx (X : Cx) (ξ : List Addr) : Fx := ⟨X.K, X.mg, ξ⟩
def FzT (F : Fx) (μ : List Addr) (H : Hp) (a : Addr) (xs : List V) : Prop := (Rd H a (.tup xs) ∧ a ∉ μ ∧ a ∉ F.ξ) ∨ KT F.K a xs
def FzL (F : Fx) (μ : List Addr) (H : Hp) (a : Addr) (xs : List V) : Prop := (Rd H a (.lst xs) ∧ a ∉ μ ∧ a ∉ F.ξ) ∨ KL F.K a xs
theorem FzT.sq {F : Fx} {μ : List Addr} {H : Hp} {a : Addr} {xs : List V} (h : FzT F μ H a xs) : SqT F.K H a xs := h.imp (·.1) id
theorem FzL.sq {F : Fx} {μ : List Addr} {H : Hp} {a : Addr} {xs : List V} (h : FzL F μ H a xs) : SqL F.K H a xs := h.imp (·.1) id
/-- at a: an exception that was raised once, of the class cls, its dict -/
def ExV (cls : Value) (d : Option Addr) (a : Addr) : HO := .ext fun h => ∃ (oe : Obj) (vs : Array Value), h.get? a = some oe ∧ Zc cls d oe ∧ oe.data = .fields vs
def intFs (ns : List (Str × Int)) : List (Str × V) := ns.map fun p => (p.1, .int p.2)
/-- an own error class: isinstance asks its instances rightly, they are of no plain type -/
def PlX (K : Frag) (cls : Value) : Prop := ∃ D : Addr, cls = .ref D ∧ ExcC K D ∧ ∀ x : String, x ∈ ["tuple", "list", "int", "str", "bool", "dict"] → PySem.W.kitOne K (.ref D) (.type x) = some false
structure ClsK (K : Frag) (mg : Str → Option Value) (c : Str) (cls : Value) : Prop where
  mg : mg c = some cls
  pl : PlX K cls
/-- an exception as a value; without fields: its fields are not known -/
def FzX (F : Fx) (μ : List Addr) (H : Hp) (a : Addr) (c : Str) (ns : List (Str × Int)) : Prop := ∃ cls dd, ClsK F.K F.mg c cls ∧ (H a = some (ExV cls dd a) ∧ a ∉ μ ∧ a ∉ F.ξ) ∧ ((ns = [] ∧ dd = none) ∨ ∃ d fs, dd = some d ∧ H d = some (.xd fs) ∧ (ns = [] ∨ fs = intFs ns) ∧ d ∉ μ ∧ d ∉ F.ξ)
mutual
inductive RD (F : Fx) (μ : List Addr) (H : Hp) : V → D → Prop
  | non : RD F μ H .non .non
  | bl (b : Bool) : RD F μ H (.bl b) (.bl b)
  | int (i : Int) : RD F μ H (.int i) (.int i)
  | str (x : Str) : RD F μ H (.str x) (.str x)
  | tup {a : Addr} {xs : List V} {ds : List D} : FzT F μ H a xs → RDs F μ H xs ds → RD F μ H (.ref a) (.tup ds)
  | lst {a : Addr} {xs : List V} {ds : List D} : FzL F μ H a xs → RDs F μ H xs ds → RD F μ H (.ref a) (.lst ds)
  | cell {a : Addr} {n : Nat} : μ[n]? = some a → RD F μ H (.ref a) (.cell n)
  | glo {a : Addr} {x : Str} : F.mg x = some (.ref a) → RD F μ H (.ref a) (.glo x)
  | exn {a : Addr} {c : Str} {ns : List (Str × Int)} : FzX F μ H a c ns → RD F μ H (.ref a) (.exn c ns)
inductive RDs (F : Fx) (μ : List Addr) (H : Hp) : List V → List D → Prop
  | nil : RDs F μ H [] []
  | cons {v : V} {vs : List V} {d : D} {ds : List D} : RD F μ H v d → RDs F μ H vs ds → RDs F μ H (v :: vs) (d :: ds)
end
/-- what has gone on: new cells behind the old ones, all but the cells is as it was -/
structure Up (μ : List Addr) (H : Hp) (μ' : List Addr) (H' : Hp) : Prop where
  pre : ∃ ν, μ' = μ ++ ν
  new : ∀ a, a ∈ μ' → a ∉ μ → H a = none
  keep : ∀ a o, H a = some o → a ∉ μ → H' a = some o
section
variable {F : Fx} {μ μ' μ1 μ2 : List Addr} {H H' H1 H2 : Hp}
theorem Up.refl : Up μ H μ H := ⟨⟨[], (List.append_nil _).symm⟩, fun _ h n => absurd h n, fun _ _ h _ => h⟩
theorem Up.notin (u : Up μ H μ' H') {a : Addr} {o : HO} (h : H a = some o) (n : a ∉ μ) : a ∉ μ' := fun z => by
  have q := u.new a z n
  rw [h] at q; cases q
theorem Up.trans (u : Up μ H μ1 H1) (v : Up μ1 H1 μ2 H2) : Up μ H μ2 H2 := by
  obtain ⟨ν, e⟩ := u.pre
  obtain ⟨ν', e'⟩ := v.pre
  refine ⟨⟨ν ++ ν', by rw [e', e, List.append_assoc]⟩, fun a h n => ?_, fun a o h n => v.keep a o (u.keep a o h n) (u.notin h n)⟩
  by_cases h1 : a ∈ μ1
  · exact u.new a h1 n
  · have q := v.new a h h1
    cases z : H a with
    | none => rfl
    | some o =>
      rw [u.keep a o z n] at q; cases q
theorem Up.back (u : Up μ H μ' H') {p : Addr} (h : H' p = none) (n : p ∉ μ := by assumption) : H p = none := by
  cases z : H p with
  | none => rfl
  | some o =>
    rw [u.keep p o z n] at h; cases h
theorem Up.mem (u : Up μ H μ' H') {a : Addr} (h : a ∈ μ) : a ∈ μ' := by
  obtain ⟨ν, e⟩ := u.pre
  rw [e]
  exact List.mem_append_left _ h
theorem Up.get (u : Up μ H μ' H') {n : Nat} {a : Addr} (h : μ[n]? = some a) : μ'[n]? = some a := by
  obtain ⟨ν, e⟩ := u.pre
  rw [e, List.getElem?_append_left (List.getElem?_eq_some_iff.mp h).1]
  exact h
theorem FzT.up (u : Up μ H μ' H') {a : Addr} {xs : List V} (h : FzT F μ H a xs) : FzT F μ' H' a xs := by
  rcases h with ⟨h, n, nx⟩ | h
  · rcases h with h | ⟨o, h⟩
    · exact .inl ⟨.inl (u.keep _ _ h n), u.notin h n, nx⟩
    · exact .inl ⟨.inr ⟨o, u.keep _ _ h n⟩, u.notin h n, nx⟩
  · exact .inr h
theorem FzL.up (u : Up μ H μ' H') {a : Addr} {xs : List V} (h : FzL F μ H a xs) : FzL F μ' H' a xs := by
  rcases h with ⟨h, n, nx⟩ | h
  · rcases h with h | ⟨o, h⟩
    · exact .inl ⟨.inl (u.keep _ _ h n), u.notin h n, nx⟩
    · exact .inl ⟨.inr ⟨o, u.keep _ _ h n⟩, u.notin h n, nx⟩
  · exact .inr h
theorem FzX.up (u : Up μ H μ' H') {a : Addr} {c : Str} {ns : List (Str × Int)} (h : FzX F μ H a c ns) : FzX F μ' H' a c ns := by
  obtain ⟨cls, dd, e, ⟨h1, h2, h3⟩, h4⟩ := h
  refine ⟨cls, dd, e, ⟨u.keep _ _ h1 h2, u.notin h1 h2, h3⟩, h4.imp id ?_⟩
  rintro ⟨d, fs, e2, h5, hf, h6, h7⟩
  exact ⟨d, fs, e2, u.keep _ _ h5 h6, hf, u.notin h5 h6, h7⟩
mutual
theorem RD.up (u : Up μ H μ' H') : ∀ {v : V} (d : D), RD F μ H v d → RD F μ' H' v d
  | _, .non, h => by cases h; exact .non
  | _, .bl b, h => by cases h; exact .bl b
  | _, .int i, h => by cases h; exact .int i
  | _, .str x, h => by cases h; exact .str x
  | _, .tup ds, h => by
    cases h with
    | tup f r => exact .tup (f.up u) (RDs.up u ds r)
  | _, .lst ds, h => by
    cases h with
    | lst f r => exact .lst (f.up u) (RDs.up u ds r)
  | _, .cell n, h => by
    cases h with
    | cell e => exact .cell (u.get e)
  | _, .glo x, h => by
    cases h with
    | glo e => exact .glo e
  | _, .exn c ns, h => by
    cases h with
    | exn f => exact .exn (f.up u)
theorem RDs.up (u : Up μ H μ' H') : ∀ {vs : List V} (ds : List D), RDs F μ H vs ds → RDs F μ' H' vs ds
  | _, [], h => by cases h; exact .nil
  | _, d :: ds, h => by
    cases h with
    | cons a b => exact .cons (RD.up u d a) (RDs.up u ds b)
end
theorem RDs.length : ∀ {vs : List V} {ds : List D}, RDs F μ H vs ds → vs.length = ds.length
  | _, [], h => by cases h; rfl
  | _, d :: ds, h => by
    cases h with
    | cons a b => rw [List.length_cons, List.length_cons, RDs.length b]
theorem RDs.get : ∀ {vs : List V} {ds : List D}, RDs F μ H vs ds → ∀ {i : Nat} {d : D}, ds[i]? = some d → ∃ v, vs[i]? = some v ∧ RD F μ H v d
  | _, [], _, i, d, e => by simp at e
  | _, d0 :: ds, h, 0, d, e => by
    cases h with
    | cons a b =>
      simp at e; subst e
      exact ⟨_, rfl, a⟩
  | _, d0 :: ds, h, i + 1, d, e => by
    cases h with
    | cons a b =>
      obtain ⟨v, h1, h2⟩ := RDs.get b (i := i) (d := d) (by simpa using e)
      exact ⟨v, by simpa using h1, h2⟩
theorem RDs.getV : ∀ {vs : List V} {ds : List D}, RDs F μ H vs ds → ∀ {i : Nat} {v : V}, vs[i]? = some v → ∃ d, ds[i]? = some d ∧ RD F μ H v d
  | _, [], h, i, v, e => by cases h; simp at e
  | _, d0 :: ds, h, 0, v, e => by
    cases h with
    | cons a b =>
      simp at e; subst e
      exact ⟨_, rfl, a⟩
  | _, d0 :: ds, h, i + 1, v, e => by
    cases h with
    | cons a b =>
      obtain ⟨d, h1, h2⟩ := RDs.getV b (i := i) (v := v) (by simpa using e)
      exact ⟨d, by simpa using h1, h2⟩
theorem RDs.append : ∀ {vs ws : List V} {ds es : List D}, RDs F μ H vs ds → RDs F μ H ws es → RDs F μ H (vs ++ ws) (ds ++ es)
  | _, _, [], _, h, k => by cases h; exact k
  | _, _, d :: ds, _, h, k => by
    cases h with
    | cons a b => exact .cons a (RDs.append b k)
theorem RDs.take : ∀ {vs : List V} {ds : List D} (n : Nat), RDs F μ H vs ds → RDs F μ H (vs.take n) (ds.take n)
  | _, _, 0, _ => .nil
  | _, [], _ + 1, h => by cases h; exact .nil
  | _, d :: ds, n + 1, h => by
    cases h with
    | cons a b => exact .cons a (RDs.take n b)
theorem RDs.drop : ∀ {vs : List V} {ds : List D} (n : Nat), RDs F μ H vs ds → RDs F μ H (vs.drop n) (ds.drop n)
  | _, _, 0, h => h
  | _, [], _ + 1, h => by cases h; exact .nil
  | _, d :: ds, n + 1, h => by
    cases h with
    | cons a b => exact RDs.drop n b
theorem RDs.reverse : ∀ {vs : List V} {ds : List D}, RDs F μ H vs ds → RDs F μ H vs.reverse ds.reverse
  | _, [], h => by cases h; exact .nil
  | _, d :: ds, h => by
    cases h with
    | cons a b =>
      rw [List.reverse_cons, List.reverse_cons]
      exact RDs.append (RDs.reverse b) (.cons a .nil)
theorem RDs.set : ∀ {vs : List V} {ds : List D} (n : Nat) {v : V} {d : D}, RDs F μ H vs ds → RD F μ H v d → RDs F μ H (vs.set n v) (ds.set n d)
  | _, [], n, _, _, h, _ => by cases h; exact .nil
  | _, d0 :: ds, 0, _, _, h, k => by
    cases h with
    | cons a b => exact .cons k b
  | _, d0 :: ds, n + 1, _, _, h, k => by
    cases h with
    | cons a b => exact .cons a (RDs.set n b k)
end
/-- fields by name -/
def FsR (F : Fx) (μ : List Addr) (H : Hp) (vfs : List (Str × V)) (fs : List (Str × D)) : Prop := Paired (fun p q => p.1 = q.1 ∧ RD F μ H p.2 q.2) vfs fs
def KvR (F : Fx) (μ : List Addr) (H : Hp) (vk : List (Key × V)) (kvs : List (Key × D)) : Prop := Paired (fun p q => p.1 = q.1 ∧ RD F μ H p.2 q.2) vk kvs
theorem FsR.up {F : Fx} {μ μ' : List Addr} {H H' : Hp} (u : Up μ H μ' H') {vfs : List (Str × V)} {fs : List (Str × D)} (h : FsR F μ H vfs fs) : FsR F μ' H' vfs fs :=
  Paired.mapP h fun _ _ z => ⟨z.1, z.2.up u⟩
theorem KvR.up {F : Fx} {μ μ' : List Addr} {H H' : Hp} (u : Up μ H μ' H') {vfs : List (Key × V)} {fs : List (Key × D)} (h : KvR F μ H vfs fs) : KvR F μ' H' vfs fs :=
  Paired.mapP h fun _ _ z => ⟨z.1, z.2.up u⟩
/-- a cell at its address -/
def CellOk (F : Fx) (μ : List Addr) (H : Hp) (a : Addr) : Cell → Prop
  | .lst ds => ∃ xs, H a = some (.lst xs) ∧ RDs F μ H xs ds
  | .obj c fs => ∃ C dx vfs, H a = some (.ins C dx vfs) ∧ F.mg c = some (.ref C) ∧ FsR F μ H vfs fs
  | .dic kvs => ∃ vk, H a = some (.dK vk) ∧ KvR F μ H vk kvs
  | .exc _ _ => False
  | .set _ => False
structure RS (F : Fx) (μ : List Addr) (H : Hp) (S : Sto) : Prop where
  len : μ.length = S.length
  nd : μ.Nodup
  at_ : ∀ (n : Nat) (a : Addr) (c : Cell), μ[n]? = some a → S[n]? = some c → CellOk F μ H a c
  xi : ∀ a, a ∈ F.ξ → a ∉ μ ∧ ∃ o, H a = some o
/-- the slots -/
structure RG (F : Fx) (μ : List Addr) (H : Hp) (σ : St) (ρ : Rho) : Prop where
  len : σ.length = ρ.length
  at_ : ∀ (i : Nat) (d : D), ρ[i]? = some (some d) → ∃ v, σ[i]? = some (some v) ∧ RD F μ H v d
/-- an exception in the air -/
def XR (F : Fx) (μ : List Addr) (H : Hp) (cls : Value) (dd : Option Addr) (c : Str) (fs : List (Str × D)) : Prop :=
  F.mg c = some cls ∧ ((fs = [] ∧ dd = none) ∨ ∃ d vfs, dd = some d ∧ H d = some (.xd vfs) ∧ d ∉ μ ∧ d ∉ F.ξ ∧ FsR F μ H vfs fs)
section
variable {F : Fx} {μ μ' μ1 : List Addr} {H H' H1 : Hp} {S S' S1 : Sto} {σ : St} {ρ : Rho}
theorem RG.up (u : Up μ H μ' H') (g : RG F μ H σ ρ) : RG F μ' H' σ ρ := ⟨g.len, fun i d e => by
  obtain ⟨v, h, r⟩ := g.at_ i d e
  exact ⟨v, h, r.up u⟩⟩
theorem RG.set {v : V} {d : D} (i : Nat) (g : RG F μ H σ ρ) (r : RD F μ H v d) : RG F μ H (σ.set i (some v)) (ρ.set i (some d)) := ⟨by rw [List.length_set, List.length_set, g.len], fun j d' e => by
  by_cases hj : i = j
  · subst hj
    by_cases hl : i < ρ.length
    · rw [List.getElem?_set_self hl] at e; cases e
      exact ⟨v, List.getElem?_set_self (by rw [g.len]; exact hl), r⟩
    · rw [List.getElem?_eq_none (by simpa using hl)] at e; cases e
  · rw [List.getElem?_set_ne hj] at e
    obtain ⟨w, h, r'⟩ := g.at_ j d' e
    exact ⟨w, by rw [List.getElem?_set_ne hj]; exact h, r'⟩⟩
theorem RG.forget {σ' : St} (i : Nat) (g : RG F μ H σ ρ) : RG F μ H (σ.set i none) (ρ.set i none) := ⟨by rw [List.length_set, List.length_set, g.len], fun j d' e => by
  by_cases hj : i = j
  · subst hj
    by_cases hl : i < ρ.length
    · rw [List.getElem?_set_self hl] at e; cases e
    · rw [List.getElem?_eq_none (by simpa using hl)] at e; cases e
  · rw [List.getElem?_set_ne hj] at e
    obtain ⟨w, h, r'⟩ := g.at_ j d' e
    exact ⟨w, by rw [List.getElem?_set_ne hj]; exact h, r'⟩⟩
/-- a new object beside the cells -/
theorem Up.fresh {p : Addr} {o : HO} (h : H p = none) : Up μ H μ (upd H p o) := ⟨⟨[], (List.append_nil _).symm⟩, fun _ h n => absurd h n, fun a u e _ => by rw [upd_ne (ne_of_none e h)]; exact e⟩
theorem CellOk.up (u : Up μ H μ' H') {a : Addr} {c : Cell} (e : H' a = H a) (h : CellOk F μ H a c) : CellOk F μ' H' a c := by
  cases c with
  | lst ds =>
    obtain ⟨xs, h1, h2⟩ := h
    exact ⟨xs, e.trans h1, h2.up u⟩
  | obj c fs =>
    obtain ⟨C, dx, vfs, h1, h2, h3⟩ := h
    exact ⟨C, dx, vfs, e.trans h1, h2, h3.up u⟩
  | dic kvs =>
    obtain ⟨vk, h1, h2⟩ := h
    exact ⟨vk, e.trans h1, h2.up u⟩
  | exc _ _ => exact h.elim
  | set _ => exact h.elim
theorem CellOk.hasO {a : Addr} {c : Cell} (h : CellOk F μ H a c) : ∃ o, H a = some o := by
  cases c with
  | lst ds =>
    obtain ⟨xs, h1, h2⟩ := h
    exact ⟨_, h1⟩
  | obj c fs =>
    obtain ⟨C, dx, vfs, h1, _⟩ := h
    exact ⟨_, h1⟩
  | dic kvs =>
    obtain ⟨vk, h1, h2⟩ := h
    exact ⟨_, h1⟩
  | exc _ _ => exact h.elim
  | set _ => exact h.elim
theorem RS.there (r : RS F μ H S) {n : Nat} {a : Addr} (h : μ[n]? = some a) : ∃ c, S[n]? = some c := by
  have hn := (List.getElem?_eq_some_iff.mp h).1
  rw [r.len] at hn
  exact ⟨S[n], List.getElem?_eq_getElem hn⟩
theorem RS.hasO (r : RS F μ H S) {a : Addr} (h : a ∈ μ) : ∃ o, H a = some o := by
  obtain ⟨n, e⟩ := List.getElem?_of_mem h
  obtain ⟨c, hc⟩ := r.there e
  exact (r.at_ n a c e hc).hasO
theorem RS.out (r : RS F μ H S) {p : Addr} (h : H p = none) : p ∉ μ := fun z => by
  obtain ⟨o, e⟩ := r.hasO z
  rw [h] at e; cases e
theorem RS.outX (r : RS F μ H S) {p : Addr} (h : H p = none) : p ∉ F.ξ := fun z => by
  obtain ⟨_, o, e⟩ := r.xi p z
  rw [h] at e; cases e
theorem RS.fresh (r : RS F μ H S) {p : Addr} {o : HO} (h : H p = none) : RS F μ (upd H p o) S := ⟨r.len, r.nd, fun n a c e1 e2 => by
  have q := r.at_ n a c e1 e2
  refine q.up (.fresh h) (upd_ne ?_)
  intro z
  subst z
  obtain ⟨o', e⟩ := q.hasO
  rw [h] at e; exact (nomatch e), fun a ha => ⟨(r.xi a ha).1, by
    obtain ⟨o', e⟩ := (r.xi a ha).2
    exact ⟨o', by rw [upd_ne (ne_of_none e h)]; exact e⟩⟩⟩
/-- a new cell -/
theorem Up.alloc {p : Addr} {o : HO} (h : H p = none) : Up μ H (μ ++ [p]) (upd H p o) := ⟨⟨[p], rfl⟩, fun a ha n => by
  rcases List.mem_append.mp ha with z | z
  · exact absurd z n
  · rw [List.mem_singleton.mp z]; exact h, fun a u e _ => by rw [upd_ne (ne_of_none e h)]; exact e⟩
theorem RS.alloc (r : RS F μ H S) {p : Addr} {o : HO} {c : Cell} (h : H p = none) (hc : CellOk F (μ ++ [p]) (upd H p o) p c) : RS F (μ ++ [p]) (upd H p o) (S ++ [c]) := by
  refine ⟨by rw [List.length_append, List.length_append, r.len] <;> rfl, ?_, fun n a c' e1 e2 => ?_, fun a ha => ⟨fun z => ?_, ?_⟩⟩
  · refine List.nodup_append.mpr ⟨r.nd, by simp, fun a ha b hb => ?_⟩
    rw [List.mem_singleton.mp hb]
    rintro rfl
    exact r.out h ha
  · by_cases hn : n < μ.length
    · rw [List.getElem?_append_left hn] at e1
      rw [List.getElem?_append_left (by rw [← r.len]; exact hn)] at e2
      have q := r.at_ n a c' e1 e2
      refine q.up (.alloc h) (upd_ne ?_)
      intro z
      subst z
      obtain ⟨o', e⟩ := q.hasO
      rw [h] at e; cases e
    · have hn' : n = μ.length := by
        have q := (List.getElem?_eq_some_iff.mp e1).1
        rw [List.length_append, List.length_singleton] at q
        omega
      subst hn'
      rw [List.getElem?_append_right (Nat.le_refl _), Nat.sub_self] at e1
      rw [List.getElem?_append_right (by rw [r.len]; exact Nat.le_refl _), r.len, Nat.sub_self] at e2
      cases e1; cases e2
      exact hc
  · rcases List.mem_append.mp z with z | z
    · exact (r.xi a ha).1 z
    · rw [List.mem_singleton.mp z] at ha
      exact r.outX h ha
  · obtain ⟨o', e⟩ := (r.xi a ha).2
    exact ⟨o', by rw [upd_ne (ne_of_none e h)]; exact e⟩
theorem alloc_at {p : Addr} : (μ ++ [p])[μ.length]? = some p := by rw [List.getElem?_append_right (Nat.le_refl _), Nat.sub_self]; rfl
/-- a cell is written -/
theorem Up.write {n : Nat} {a : Addr} {o : HO} (h : μ[n]? = some a) : Up μ H μ (upd H a o) := ⟨⟨[], (List.append_nil _).symm⟩, fun _ h n => absurd h n, fun b u e nb => by
  rw [upd_ne]
  · exact e
  · rintro rfl
    exact nb (List.mem_of_getElem? h)⟩
theorem RS.write (r : RS F μ H S) {n : Nat} {a : Addr} {o : HO} {c : Cell} (h : μ[n]? = some a) (hc : CellOk F μ (upd H a o) a c) : RS F μ (upd H a o) (S.set n c) := by
  refine ⟨by rw [List.length_set, r.len], r.nd, fun m b c' e1 e2 => ?_, fun b hb => ⟨(r.xi b hb).1, by
    obtain ⟨o', e⟩ := (r.xi b hb).2
    refine ⟨o', ?_⟩
    rw [upd_ne]
    · exact e
    · rintro rfl
      exact (r.xi b hb).1 (List.mem_of_getElem? h)⟩⟩
  by_cases hm : n = m
  · subst hm
    rw [h] at e1; cases e1
    have hl : n < S.length := by rw [← r.len]; exact (List.getElem?_eq_some_iff.mp h).1
    rw [List.getElem?_set_self hl] at e2; cases e2
    exact hc
  · rw [List.getElem?_set_ne hm] at e2
    refine (r.at_ m b c' e1 e2).up (.write h) (upd_ne ?_)
    rintro rfl
    have h1 := (List.getElem?_eq_some_iff.mp h)
    have h2 := (List.getElem?_eq_some_iff.mp e1)
    exact hm ((List.getElem_inj r.nd).mp (h1.2.trans h2.2.symm))
/-- a list that is being made: reserved, then let go -/
def Fx.hold (F : Fx) (p : Addr) : Fx := ⟨F.K, F.mg, p :: F.ξ⟩
theorem FzT.free {p a : Addr} {xs : List V} (h : FzT (F.hold p) μ H a xs) : FzT F μ H a xs := h.imp (fun z => ⟨z.1, z.2.1, fun q => z.2.2 (List.mem_cons_of_mem _ q)⟩) id
theorem FzL.free {p a : Addr} {xs : List V} (h : FzL (F.hold p) μ H a xs) : FzL F μ H a xs := h.imp (fun z => ⟨z.1, z.2.1, fun q => z.2.2 (List.mem_cons_of_mem _ q)⟩) id
theorem FzX.free {p a : Addr} {c : Str} {ns : List (Str × Int)} (h : FzX (F.hold p) μ H a c ns) : FzX F μ H a c ns := by
  obtain ⟨cls, dd, e, ⟨h1, h2, h3⟩, h4⟩ := h
  refine ⟨cls, dd, e, ⟨h1, h2, fun q => h3 (List.mem_cons_of_mem _ q)⟩, h4.imp id ?_⟩
  rintro ⟨d, fs, e2, h5, hf, h6, h7⟩
  exact ⟨d, fs, e2, h5, hf, h6, fun q => h7 (List.mem_cons_of_mem _ q)⟩
mutual
theorem RD.free {p : Addr} : ∀ {v : V} (d : D), RD (F.hold p) μ H v d → RD F μ H v d
  | _, .non, h => by cases h; exact .non
  | _, .bl b, h => by cases h; exact .bl b
  | _, .int i, h => by cases h; exact .int i
  | _, .str x, h => by cases h; exact .str x
  | _, .tup ds, h => by
    cases h with
    | tup f r => exact .tup f.free (RDs.free ds r)
  | _, .lst ds, h => by
    cases h with
    | lst f r => exact .lst f.free (RDs.free ds r)
  | _, .cell n, h => by
    cases h with
    | cell e => exact .cell e
  | _, .glo x, h => by
    cases h with
    | glo e => exact .glo e
  | _, .exn c ns, h => by
    cases h with
    | exn f => exact .exn f.free
theorem RDs.free {p : Addr} : ∀ {vs : List V} (ds : List D), RDs (F.hold p) μ H vs ds → RDs F μ H vs ds
  | _, [], h => by cases h; exact .nil
  | _, d :: ds, h => by
    cases h with
    | cons a b => exact .cons (RD.free d a) (RDs.free ds b)
end
/-- .. reserved at its making, .. written while it is reserved -/
theorem FzT.holds {p a : Addr} {o : HO} {xs : List V} (hp : H p = none) (h : FzT F μ H a xs) : FzT (F.hold p) μ (upd H p o) a xs := by
  rcases h with ⟨h, n, nx⟩ | h
  · have hne : a ≠ p := by
      rcases h with h | ⟨o, h⟩ <;> exact ne_of_none h hp
    refine .inl ⟨?_, n, fun q => (List.mem_cons.mp q).elim hne nx⟩
    rcases h with h | ⟨o, h⟩
    · exact .inl (by rw [upd_ne hne]; exact h)
    · exact .inr ⟨o, by rw [upd_ne hne]; exact h⟩
  · exact .inr h
theorem FzL.holds {p a : Addr} {o : HO} {xs : List V} (hp : H p = none) (h : FzL F μ H a xs) : FzL (F.hold p) μ (upd H p o) a xs := by
  rcases h with ⟨h, n, nx⟩ | h
  · have hne : a ≠ p := by
      rcases h with h | ⟨o, h⟩ <;> exact ne_of_none h hp
    refine .inl ⟨?_, n, fun q => (List.mem_cons.mp q).elim hne nx⟩
    rcases h with h | ⟨o, h⟩
    · exact .inl (by rw [upd_ne hne]; exact h)
    · exact .inr ⟨o, by rw [upd_ne hne]; exact h⟩
  · exact .inr h
theorem FzT.wr {p a : Addr} {o : HO} {xs : List V} (h : FzT (F.hold p) μ H a xs) : FzT (F.hold p) μ (upd H p o) a xs := by
  rcases h with ⟨h, n, nx⟩ | h
  · have hne : a ≠ p := fun z => nx (z ▸ List.mem_cons_self)
    refine .inl ⟨?_, n, nx⟩
    rcases h with h | ⟨o, h⟩
    · exact .inl (by rw [upd_ne hne]; exact h)
    · exact .inr ⟨o, by rw [upd_ne hne]; exact h⟩
  · exact .inr h
theorem FzL.wr {p a : Addr} {o : HO} {xs : List V} (h : FzL (F.hold p) μ H a xs) : FzL (F.hold p) μ (upd H p o) a xs := by
  rcases h with ⟨h, n, nx⟩ | h
  · have hne : a ≠ p := fun z => nx (z ▸ List.mem_cons_self)
    refine .inl ⟨?_, n, nx⟩
    rcases h with h | ⟨o, h⟩
    · exact .inl (by rw [upd_ne hne]; exact h)
    · exact .inr ⟨o, by rw [upd_ne hne]; exact h⟩
  · exact .inr h
theorem FzX.upHold {p a : Addr} {c : Str} {ns : List (Str × Int)} (u : Up μ H μ' H') (hp : H p = none) (h : FzX F μ H a c ns) : FzX (F.hold p) μ' H' a c ns := by
  obtain ⟨cls, dd, e, ⟨h1, h2, h3⟩, h4⟩ := h
  refine ⟨cls, dd, e, ⟨u.keep _ _ h1 h2, u.notin h1 h2, fun q => (List.mem_cons.mp q).elim (ne_of_none h1 hp) h3⟩, h4.imp id ?_⟩
  rintro ⟨d, fs, e2, h5, hf, h6, h7⟩
  exact ⟨d, fs, e2, u.keep _ _ h5 h6, hf, u.notin h5 h6, fun q => (List.mem_cons.mp q).elim (ne_of_none h5 hp) h7⟩
theorem FzX.holds {p a : Addr} {o : HO} {c : Str} {ns : List (Str × Int)} (hp : H p = none) (h : FzX F μ H a c ns) : FzX (F.hold p) μ (upd H p o) a c ns := by
  obtain ⟨cls, dd, e, ⟨h1, h2, h3⟩, h4⟩ := h
  refine ⟨cls, dd, e, ⟨by rw [upd_ne (ne_of_none h1 hp)]; exact h1, h2, fun q => (List.mem_cons.mp q).elim (ne_of_none h1 hp) h3⟩, h4.imp id ?_⟩
  rintro ⟨d, fs, e2, h5, hf, h6, h7⟩
  exact ⟨d, fs, e2, by rw [upd_ne (ne_of_none h5 hp)]; exact h5, hf, h6, fun q => (List.mem_cons.mp q).elim (ne_of_none h5 hp) h7⟩
theorem FzX.wr {p a : Addr} {o : HO} {c : Str} {ns : List (Str × Int)} (h : FzX (F.hold p) μ H a c ns) : FzX (F.hold p) μ (upd H p o) a c ns := by
  obtain ⟨cls, dd, e, ⟨h1, h2, h3⟩, h4⟩ := h
  have ne : ∀ {b : Addr}, b ∉ (F.hold p).ξ → b ≠ p := fun n z => n (by rw [z]; exact List.mem_cons_self)
  refine ⟨cls, dd, e, ⟨by rw [upd_ne (ne h3)]; exact h1, h2, h3⟩, h4.imp id ?_⟩
  rintro ⟨d, fs, e2, h5, hf, h6, h7⟩
  exact ⟨d, fs, e2, by rw [upd_ne (ne h7)]; exact h5, hf, h6, h7⟩
theorem FzX.asCell {p a : Addr} {c : Str} {ns : List (Str × Int)} (h : FzX (F.hold p) μ H a c ns) : FzX F (μ ++ [p]) H a c ns := by
  have no : ∀ {b : Addr}, b ∉ μ → b ∉ (F.hold p).ξ → b ∉ μ ++ [p] := fun h1 h2 q => (List.mem_append.mp q).elim h1 fun q => h2 (by rw [List.mem_singleton.mp q]; exact List.mem_cons_self)
  obtain ⟨cls, dd, e, ⟨h1, h2, h3⟩, h4⟩ := h
  refine ⟨cls, dd, e, ⟨h1, no h2 h3, fun q => h3 (List.mem_cons_of_mem _ q)⟩, h4.imp id ?_⟩
  rintro ⟨d, fs, e2, h5, hf, h6, h7⟩
  exact ⟨d, fs, e2, h5, hf, no h6 h7, fun q => h7 (List.mem_cons_of_mem _ q)⟩
/-- .. as a cell -/
theorem FzT.asCell {p a : Addr} {xs : List V} (h : FzT (F.hold p) μ H a xs) : FzT F (μ ++ [p]) H a xs :=
  h.imp (fun z => ⟨z.1, fun q => (List.mem_append.mp q).elim z.2.1 fun q => z.2.2 (by rw [List.mem_singleton.mp q]; exact List.mem_cons_self), fun q => z.2.2 (List.mem_cons_of_mem _ q)⟩) id
theorem FzL.asCell {p a : Addr} {xs : List V} (h : FzL (F.hold p) μ H a xs) : FzL F (μ ++ [p]) H a xs :=
  h.imp (fun z => ⟨z.1, fun q => (List.mem_append.mp q).elim z.2.1 fun q => z.2.2 (by rw [List.mem_singleton.mp q]; exact List.mem_cons_self), fun q => z.2.2 (List.mem_cons_of_mem _ q)⟩) id
theorem getl {n : Nat} {a p : Addr} (h : μ[n]? = some a) : (μ ++ [p])[n]? = some a := by
  rw [List.getElem?_append_left (List.getElem?_eq_some_iff.mp h).1]
  exact h
/-- a map of what stands for what -/
structure Mv (F : Fx) (μ : List Addr) (H : Hp) (F' : Fx) (μ' : List Addr) (H' : Hp) : Prop where
  t : ∀ {a : Addr} {xs : List V}, FzT F μ H a xs → FzT F' μ' H' a xs
  l : ∀ {a : Addr} {xs : List V}, FzL F μ H a xs → FzL F' μ' H' a xs
  c : ∀ {n : Nat} {a : Addr}, μ[n]? = some a → μ'[n]? = some a
  g : F'.mg = F.mg
  x : ∀ {a : Addr} {c : Str} {ns : List (Str × Int)}, FzX F μ H a c ns → FzX F' μ' H' a c ns
mutual
theorem RD.mv {F' : Fx} (m : Mv F μ H F' μ' H') : ∀ {v : V} (d : D), RD F μ H v d → RD F' μ' H' v d
  | _, .non, h => by cases h; exact .non
  | _, .bl b, h => by cases h; exact .bl b
  | _, .int i, h => by cases h; exact .int i
  | _, .str x, h => by cases h; exact .str x
  | _, .tup ds, h => by
    cases h with
    | tup f r => exact .tup (m.t f) (RDs.mv m ds r)
  | _, .lst ds, h => by
    cases h with
    | lst f r => exact .lst (m.l f) (RDs.mv m ds r)
  | _, .cell n, h => by
    cases h with
    | cell e => exact .cell (m.c e)
  | _, .glo x, h => by
    cases h with
    | glo e => exact .glo (by rw [m.g]; exact e)
  | _, .exn c ns, h => by
    cases h with
    | exn f => exact .exn (m.x f)
theorem RDs.mv {F' : Fx} (m : Mv F μ H F' μ' H') : ∀ {vs : List V} (ds : List D), RDs F μ H vs ds → RDs F' μ' H' vs ds
  | _, [], h => by cases h; exact .nil
  | _, d :: ds, h => by
    cases h with
    | cons a b => exact .cons (RD.mv m d a) (RDs.mv m ds b)
end
theorem Mv.holds {p : Addr} {o : HO} (hp : H p = none) : Mv F μ H (F.hold p) μ (upd H p o) := ⟨fun h => h.holds hp, fun h => h.holds hp, fun h => h, rfl, fun h => h.holds hp⟩
theorem Mv.wr {p : Addr} {o : HO} : Mv (F.hold p) μ H (F.hold p) μ (upd H p o) := ⟨fun h => h.wr, fun h => h.wr, fun h => h, rfl, fun h => h.wr⟩
theorem Mv.asCell {p : Addr} : Mv (F.hold p) μ H F (μ ++ [p]) H := ⟨fun h => h.asCell, fun h => h.asCell, fun h => getl h, rfl, fun h => h.asCell⟩
theorem Mv.free {p : Addr} : Mv (F.hold p) μ H F μ H := ⟨fun h => h.free, fun h => h.free, fun h => h, rfl, fun h => h.free⟩
theorem CellOk.mv {F' : Fx} (m : Mv F μ H F' μ' H') {a : Addr} {c : Cell} (e : H' a = H a) (h : CellOk F μ H a c) : CellOk F' μ' H' a c := by
  cases c with
  | lst ds =>
    obtain ⟨xs, h1, h2⟩ := h
    exact ⟨xs, e.trans h1, h2.mv m⟩
  | obj c fs =>
    obtain ⟨C, dx, vfs, h1, h2, h3⟩ := h
    exact ⟨C, dx, vfs, e.trans h1, by rw [m.g]; exact h2, Paired.mapP h3 fun _ _ z => ⟨z.1, z.2.mv m⟩⟩
  | dic kvs =>
    obtain ⟨vk, h1, h2⟩ := h
    exact ⟨vk, e.trans h1, Paired.mapP h2 fun _ _ z => ⟨z.1, z.2.mv m⟩⟩
  | exc _ _ => exact h.elim
  | set _ => exact h.elim
theorem RG.mv {F' : Fx} (m : Mv F μ H F' μ' H') (g : RG F μ H σ ρ) : RG F' μ' H' σ ρ := ⟨g.len, fun i d e => by
  obtain ⟨v, h, r⟩ := g.at_ i d e
  exact ⟨v, h, r.mv m⟩⟩
theorem RS.holds (r : RS F μ H S) {p : Addr} {o : HO} (hp : H p = none) : RS (F.hold p) μ (upd H p o) S := ⟨r.len, r.nd, fun n a c e1 e2 => by
  have q := r.at_ n a c e1 e2
  refine q.mv (.holds hp) (upd_ne ?_)
  rintro rfl
  obtain ⟨o', e⟩ := q.hasO
  rw [hp] at e; exact (nomatch e), fun a ha => by
  rcases List.mem_cons.mp ha with z | z
  · rw [z]; exact ⟨r.out hp, o, upd_same⟩
  · obtain ⟨h1, o', e⟩ := r.xi a z
    exact ⟨h1, o', by rw [upd_ne (ne_of_none e hp)]; exact e⟩⟩
theorem RS.wr {p : Addr} {o : HO} (r : RS (F.hold p) μ H S) : RS (F.hold p) μ (upd H p o) S := ⟨r.len, r.nd, fun n a c e1 e2 => by
  have q := r.at_ n a c e1 e2
  refine q.mv .wr (upd_ne fun z => ?_)
  rw [z] at e1
  exact (r.xi p List.mem_cons_self).1 (List.mem_of_getElem? e1), fun a ha => by
  obtain ⟨h1, o', e⟩ := r.xi a ha
  by_cases z : a = p
  · rw [z] at h1 ⊢; exact ⟨h1, o, upd_same⟩
  · exact ⟨h1, o', by rw [upd_ne z]; exact e⟩⟩
theorem RS.free {p : Addr} (r : RS (F.hold p) μ H S) : RS F μ H S := ⟨r.len, r.nd, fun n a c e1 e2 => (r.at_ n a c e1 e2).mv .free rfl, fun a ha => r.xi a (List.mem_cons_of_mem _ ha)⟩
theorem RS.asCell {p : Addr} {ds : List D} {xs : List V} (r : RS (F.hold p) μ H S) (hx : p ∉ F.ξ) (h : H p = some (.lst xs)) (q : RDs (F.hold p) μ H xs ds) : RS F (μ ++ [p]) H (S ++ [.lst ds]) := by
  have np := (r.xi p List.mem_cons_self).1
  refine ⟨by rw [List.length_append, List.length_append, r.len] <;> rfl, ?_, fun n a c' e1 e2 => ?_, fun a ha => ⟨fun z => ?_, (r.xi a (List.mem_cons_of_mem _ ha)).2⟩⟩
  · refine List.nodup_append.mpr ⟨r.nd, by simp, fun a ha b hb => ?_⟩
    rw [List.mem_singleton.mp hb]
    rintro rfl
    exact np ha
  · by_cases hn : n < μ.length
    · rw [List.getElem?_append_left hn] at e1
      rw [List.getElem?_append_left (by rw [← r.len]; exact hn)] at e2
      exact (r.at_ n a c' e1 e2).mv .asCell rfl
    · have hn' : n = μ.length := by
        have q := (List.getElem?_eq_some_iff.mp e1).1
        rw [List.length_append, List.length_singleton] at q
        omega
      subst hn'
      rw [List.getElem?_append_right (Nat.le_refl _), Nat.sub_self] at e1
      rw [List.getElem?_append_right (by rw [r.len]; exact Nat.le_refl _), r.len, Nat.sub_self] at e2
      cases e1; cases e2
      exact ⟨xs, h, q.mv .asCell⟩
  · rcases List.mem_append.mp z with z | z
    · exact (r.xi a (List.mem_cons_of_mem _ ha)).1 z
    · rw [List.mem_singleton.mp z] at ha
      exact hx ha
theorem XR.up (u : Up μ H μ' H') {cls : Value} {dd : Option Addr} {c : Str} {fs : List (Str × D)} (h : XR F μ H cls dd c fs) : XR F μ' H' cls dd c fs := by
  obtain ⟨h1, h2⟩ := h
  refine ⟨h1, h2.imp id ?_⟩
  rintro ⟨d, vfs, e, h3, h4, h6, h5⟩
  exact ⟨d, vfs, e, u.keep _ _ h3 h4, u.notin h3 h4, h6, h5.up u⟩
end
/-! ### what is wanted of a run -/
def WR {α β : Type} (F : Fx) (rel : List Addr → Hp → β → α → Prop) (r : Res α) (Q : β → Hp → Prop) (Wx : Value → Option Addr → Hp → Prop) (μ : List Addr) (H : Hp) : Prop := match r with
  | .ok d S' => ∀ v μ' H', Up μ H μ' H' → RS F μ' H' S' → rel μ' H' v d → Q v H'
  | .exc c fs S' => ∀ cls dd μ' H', Up μ H μ' H' → RS F μ' H' S' → XR F μ' H' cls dd c fs → Wx cls dd H'
  | .bad => False
abbrev WE' (F : Fx) := WR F (fun μ H v d => RD F μ H v d)
abbrev WA' (F : Fx) := WR F (fun μ H v d => RDs F μ H v d)
/-- a fresh list: reserved yet -/
def WL' (F : Fx) (r : Res (List D)) (Q : VK) (Wx : Value → Option Addr → Hp → Prop) (μ : List Addr) (H : Hp) : Prop := match r with
  | .ok ds S' => ∀ p xs μ' H', Up μ H μ' H' → H p = none → RS (F.hold p) μ' H' S' → RDs (F.hold p) μ' H' xs ds → H' p = some (.lst xs) → Q (.ref p) H'
  | .exc c fs S' => ∀ cls dd μ' H', Up μ H μ' H' → RS F μ' H' S' → XR F μ' H' cls dd c fs → Wx cls dd H'
  | .bad => False
/-- a truth value -/
def WT' (F : Fx) (r : Res D) (Q : Bool → Hp → Prop) (Wx : Value → Option Addr → Hp → Prop) (μ : List Addr) (H : Hp) : Prop := match r with
  | .ok (.bl b) S' => ∀ μ' H', Up μ H μ' H' → RS F μ' H' S' → Q b H'
  | .exc c fs S' => ∀ cls dd μ' H', Up μ H μ' H' → RS F μ' H' S' → XR F μ' H' cls dd c fs → Wx cls dd H'
  | _ => False
def WS' (F : Fx) (r : Out) (E : Ends) (W : WX) (μ : List Addr) (H : Hp) : Prop := match r with
  | .nx ρ S => ∀ σ μ' H', Up μ H μ' H' → RS F μ' H' S → RG F μ' H' σ ρ → E.nx σ H'
  | .rt d S => ∀ v μ' H', Up μ H μ' H' → RS F μ' H' S → RD F μ' H' v d → E.rt v H'
  | .bk ρ S => ∀ σ μ' H', Up μ H μ' H' → RS F μ' H' S → RG F μ' H' σ ρ → E.bk σ H'
  | .ct ρ S => ∀ σ μ' H', Up μ H μ' H' → RS F μ' H' S → RG F μ' H' σ ρ → E.ct σ H'
  | .exc c fs ρ S => ∀ cls dd σ μ' H', Up μ H μ' H' → RS F μ' H' S → RG F μ' H' σ ρ → XR F μ' H' cls dd c fs → W cls dd σ H'
  | .bad => False
section
variable {F : Fx} {α β γ δ : Type} {rel : List Addr → Hp → β → α → Prop} {rel' : List Addr → Hp → δ → γ → Prop} {μ μ1 : List Addr} {H H1 : Hp} {Q : β → Hp → Prop} {Wx : Value → Option Addr → Hp → Prop}
theorem WR.shift {r : Res α} (u : Up μ H μ1 H1) (h : WR F rel r Q Wx μ H) : WR F rel r Q Wx μ1 H1 := by
  cases r with
  | ok d S => exact fun v μ' H' u' => h v μ' H' (u.trans u')
  | exc c fs S => exact fun cls dd μ' H' u' => h cls dd μ' H' (u.trans u')
  | bad => exact h
theorem WS'.shift {r : Out} {E : Ends} {W : WX} (u : Up μ H μ1 H1) (h : WS' F r E W μ H) : WS' F r E W μ1 H1 := by
  cases r with
  | nx ρ S => exact fun σ μ' H' u' => h σ μ' H' (u.trans u')
  | rt d S => exact fun v μ' H' u' => h v μ' H' (u.trans u')
  | bk ρ S => exact fun σ μ' H' u' => h σ μ' H' (u.trans u')
  | ct ρ S => exact fun σ μ' H' u' => h σ μ' H' (u.trans u')
  | exc c fs ρ S => exact fun cls dd σ μ' H' u' => h cls dd σ μ' H' (u.trans u')
  | bad => exact h
/-- first r, then f -/
theorem WR.bind {r : Res γ} {f : γ → Sto → Res α} {Q1 : δ → Hp → Prop} (h : WR F rel (r.bind f) Q Wx μ H)
    (k : ∀ x S1 v μ1 H1, Up μ H μ1 H1 → RS F μ1 H1 S1 → rel' μ1 H1 v x → WR F rel (f x S1) Q Wx μ1 H1 → Q1 v H1) : WR F rel' r Q1 Wx μ H := by
  cases r with
  | ok x S1 => exact fun v μ1 H1 u1 s1 r1 => k x S1 v μ1 H1 u1 s1 r1 (WR.shift u1 h)
  | exc c fs S => exact h
  | bad => exact h
theorem WL'.shift {r : Res (List D)} {Q : VK} (u : Up μ H μ1 H1) (h : WL' F r Q Wx μ H) : WL' F r Q Wx μ1 H1 := by
  cases r with
  | ok d S =>
    intro p xs μ' H' u' hp s' r' e'
    have np : p ∉ μ := fun z => (s'.xi p List.mem_cons_self).1 (u'.mem (u.mem z))
    exact h p xs μ' H' (u.trans u') (u.back hp np) s' r' e'
  | exc c fs S => exact fun cls dd μ' H' u' => h cls dd μ' H' (u.trans u')
  | bad => exact h
theorem WL'.bind {r : Res γ} {f : γ → Sto → Res (List D)} {Q : VK} {Q1 : δ → Hp → Prop} (h : WL' F (r.bind f) Q Wx μ H)
    (k : ∀ x S1 v μ1 H1, Up μ H μ1 H1 → RS F μ1 H1 S1 → rel' μ1 H1 v x → WL' F (f x S1) Q Wx μ1 H1 → Q1 v H1) : WR F rel' r Q1 Wx μ H := by
  cases r with
  | ok x S1 => exact fun v μ1 H1 u1 s1 r1 => k x S1 v μ1 H1 u1 s1 r1 (WL'.shift u1 h)
  | exc c fs S => exact h
  | bad => exact h
theorem WT'.shift {r : Res D} {Q : Bool → Hp → Prop} (u : Up μ H μ1 H1) (h : WT' F r Q Wx μ H) : WT' F r Q Wx μ1 H1 := by
  cases r with
  | ok d S =>
    cases d with
    | bl b => exact fun μ' H' u' => h μ' H' (u.trans u')
    | _ => exact h
  | exc c fs S => exact fun cls dd μ' H' u' => h cls dd μ' H' (u.trans u')
  | bad => exact h
/-- first r, then f, whose answer is a truth value -/
theorem WT'.bind {r : Res γ} {f : γ → Sto → Res D} {Q : Bool → Hp → Prop} {Q1 : δ → Hp → Prop} (h : WT' F (r.bind f) Q Wx μ H)
    (k : ∀ x S1 v μ1 H1, Up μ H μ1 H1 → RS F μ1 H1 S1 → rel' μ1 H1 v x → WT' F (f x S1) Q Wx μ1 H1 → Q1 v H1) : WR F rel' r Q1 Wx μ H := by
  cases r with
  | ok x S1 => exact fun v μ1 H1 u1 s1 r1 => k x S1 v μ1 H1 u1 s1 r1 (WT'.shift u1 h)
  | exc c fs S => exact h
  | bad => exact h
/-- first a test, then f -/
theorem WR.bindT {r : Res D} {f : D → Sto → Res α} {Q1 : Bool → Hp → Prop} (h : WR F rel (r.bind f) Q Wx μ H) (hb : ∀ d S, (∀ b, d ≠ .bl b) → f d S = .bad)
    (k : ∀ b S1 μ1 H1, Up μ H μ1 H1 → RS F μ1 H1 S1 → WR F rel (f (.bl b) S1) Q Wx μ1 H1 → Q1 b H1) : WT' F r Q1 Wx μ H := by
  cases r with
  | ok d S =>
    have h : WR F rel (f d S) Q Wx μ H := h
    cases d with
    | bl b => exact fun μ1 H1 u1 s1 => k b S μ1 H1 u1 s1 (WR.shift u1 h)
    | _ =>
      rw [hb _ _ (by intro b e; cases e)] at h
      exact h
  | exc c fs S => exact h
  | bad => exact h
theorem WT'.bindT {r : Res D} {f : D → Sto → Res D} {Q Q1 : Bool → Hp → Prop} (h : WT' F (r.bind f) Q Wx μ H) (hb : ∀ d S, (∀ b, d ≠ .bl b) → f d S = .bad)
    (k : ∀ b S1 μ1 H1, Up μ H μ1 H1 → RS F μ1 H1 S1 → WT' F (f (.bl b) S1) Q Wx μ1 H1 → Q1 b H1) : WT' F r Q1 Wx μ H := by
  cases r with
  | ok d S =>
    have h : WT' F (f d S) Q Wx μ H := h
    cases d with
    | bl b => exact fun μ1 H1 u1 s1 => k b S μ1 H1 u1 s1 (WT'.shift u1 h)
    | _ =>
      rw [hb _ _ (by intro b e; cases e)] at h
      exact h
  | exc c fs S => exact h
  | bad => exact h
/-- as a value -/
theorem WT'.val {r : Res D} {Q : Bool → Hp → Prop} (h : WT' F r Q Wx μ H) : WE' F r (fun x H' => ∃ k, x = .bl k ∧ Q k H') Wx μ H := by
  cases r with
  | ok d S =>
    cases d with
    | bl b =>
      intro v μ' H' u' s' r'
      cases r'
      exact ⟨b, rfl, h μ' H' u' s'⟩
    | _ => exact h.elim
  | exc c fs S => exact h
  | bad => exact h
end
end Dm
-- text DmRules
namespace Dm
open PySem L2
open PySem.W (Frag)
structure DE (X : Cx) (W : WX) (e : Expr) (m : ME) : Prop where
  ex : ∃ te, PE X e te ∧ ∀ ξ μ σ H ρ S Q, RG (fx X ξ) μ H σ ρ → RS (fx X ξ) μ H S → WE' (fx X ξ) (m ρ S) Q (fun cls dd H' => W cls dd σ H') μ H → te σ H Q
structure DT (X : Cx) (W : WX) (e : Expr) (m : ME) : Prop where
  ex : ∃ te, PT X e te ∧ ∀ ξ μ σ H ρ S Q, RG (fx X ξ) μ H σ ρ → RS (fx X ξ) μ H S → WT' (fx X ξ) (m ρ S) Q (fun cls dd H' => W cls dd σ H') μ H → te σ H Q
structure DW (X : Cx) (W : WX) (e : Expr) (m : ME) : Prop where
  ex : ∃ te, PW X e te ∧ ∀ ξ μ σ H ρ S Q, RG (fx X ξ) μ H σ ρ → RS (fx X ξ) μ H S → WT' (fx X ξ) (m ρ S) Q (fun cls dd H' => W cls dd σ H') μ H → te σ H Q
structure DA (X : Cx) (W : WX) (es : List Expr) (m : MA) : Prop where
  ex : ∃ te, PA X es te ∧ ∀ ξ μ σ H ρ S Q, RG (fx X ξ) μ H σ ρ → RS (fx X ξ) μ H S → WA' (fx X ξ) (m ρ S) Q (fun cls dd H' => W cls dd σ H') μ H → te σ H Q
/-- keyword values -/
structure DK (X : Cx) (W : WX) (kws : List Keyword) (m : MA) : Prop where
  ex : ∃ te, PK X kws te ∧ ∀ ξ μ σ H ρ S Q, RG (fx X ξ) μ H σ ρ → RS (fx X ξ) μ H S → WA' (fx X ξ) (m ρ S) Q (fun cls dd H' => W cls dd σ H') μ H → te σ H Q
/-- a fresh list, its items -/
structure DL (X : Cx) (W : WX) (e : Expr) (m : MA) : Prop where
  ex : ∃ te, PE X e te ∧ ∀ ξ μ σ H ρ S Q, RG (fx X ξ) μ H σ ρ → RS (fx X ξ) μ H S →
    WL' (fx X ξ) (m ρ S) Q (fun cls dd H' => W cls dd σ H') μ H → te σ H Q
structure DS (X : Cx) (W : WX) (st : Stmt) (m : MS) : Prop where
  ex : ∃ ts, PS X st ts ∧ ∀ ξ μ σ H ρ S D, RG (fx X ξ) μ H σ ρ → RS (fx X ξ) μ H S → WS' (fx X ξ) (m ρ S) D W μ H → ts D σ H
structure DSs (X : Cx) (W : WX) (st : List Stmt) (m : MS) : Prop where
  ex : ∃ ts, PSs X st ts ∧ ∀ ξ μ σ H ρ S D, RG (fx X ξ) μ H σ ρ → RS (fx X ξ) μ H S → WS' (fx X ξ) (m ρ S) D W μ H → ts D σ H
/-! ### the words -/
def mVar (i : Nat) : ME := fun ρ S => match ρ[i]? with
  | some (some d) => .ok d S
  | _ => .bad
def mK (d : D) : ME := fun _ S => .ok d S
def mOp (g : Sto → D → D → Option D) (a b : ME) : ME := fun ρ S => (a ρ S).bind fun x S1 => (b ρ S1).bind fun y S2 => match g S2 x y with
  | some z => .ok z S2
  | none => .bad
def mUn (g : Sto → D → Option D) (a : ME) : ME := fun ρ S => (a ρ S).bind fun x S1 => match g S1 x with
  | some z => .ok z S1
  | none => .bad
def mAnd (a b : ME) : ME := fun ρ S => (a ρ S).bind fun x S1 => match x with
  | .bl true => b ρ S1
  | .bl false => .ok (.bl false) S1
  | _ => .bad
def mOr (a b : ME) : ME := fun ρ S => (a ρ S).bind fun x S1 => match x with
  | .bl true => .ok (.bl true) S1
  | .bl false => b ρ S1
  | _ => .bad
def mNot (a : ME) : ME := fun ρ S => (a ρ S).bind fun x S1 => match x with
  | .bl c => .ok (.bl (!c)) S1
  | _ => .bad
def mIf (c a b : ME) : ME := fun ρ S => (c ρ S).bind fun x S1 => match x with
  | .bl true => a ρ S1
  | .bl false => b ρ S1
  | _ => .bad
def mNil : MA := fun _ S => .ok [] S
def mCons (a : ME) (r : MA) : MA := fun ρ S => (a ρ S).bind fun x S1 => (r ρ S1).bind fun xs S2 => .ok (x :: xs) S2
def mTup (a : MA) : ME := fun ρ S => (a ρ S).bind fun xs S1 => if xs.length ≤ 16777216 then .ok (.tup xs) S1 else .bad
def mLst (a : MA) : MA := fun ρ S => (a ρ S).bind fun xs S1 => if xs.length ≤ 16777216 then .ok xs S1 else .bad
def mCall (f : List D → Sto → Res D) (a : MA) : ME := fun ρ S => (a ρ S).bind fun xs S1 => f xs S1
/-- a fresh list as plain data; as a cell -/
def mFz (a : MA) : ME := fun ρ S => (a ρ S).bind fun xs S1 => .ok (.lst xs) S1
def mNew (a : MA) : ME := fun ρ S => (a ρ S).bind fun xs S1 => .ok (.cell S1.length) (S1 ++ [.lst xs])
section
variable {X : Cx} {W : WX} {e a b c : Expr} {es : List Expr} {ma mb mc m : ME} {mr : MA} {pos : Pos}
/-- weakening by what a rule asks -/
theorem d_var (i : Nat) {x : Str} (hN : X.N[i]? = some x := by rfl) (hv : Vis X.env.scope x := by first | exact Or.inl rfl | exact Or.inr (Or.inl rfl) | exact Or.inr (Or.inr rfl)) (hd : (x == ("__debug__" : Str)) = false := by decide)
    (hcd : (x == ("__classdict__" : Str)) = false := by decide) : DE X W (.Name x pos) (mVar i) :=
  ⟨_, pe_var hN hv hd hcd, fun ξ μ σ H ρ S Q g s h => by
    unfold mVar at h
    cases e : ρ[i]? with
    | none => rw [e] at h; exact h.elim
    | some o =>
      cases o with
      | none => rw [e] at h; exact h.elim
      | some d =>
        rw [e] at h
        obtain ⟨v, hv, r⟩ := g.at_ i d e
        exact ⟨v, hv, h v μ H .refl s r⟩⟩
theorem d_k {te : TE} {v : V} {d : D} (hp : PE X e te) (ht : te = tC v) (hr : ∀ ξ μ H, RD (fx X ξ) μ H v d) : DE X W e (mK d) :=
  ⟨te, hp, fun ξ μ σ H ρ S Q g s h => by subst ht; exact h v μ H .refl s (hr ξ μ H)⟩
theorem d_int {i : Int} {j} : DE X W (.Constant (.int i) j pos) (mK (.int i)) := d_k pe_int rfl fun _ _ _ => .int i
theorem d_bl {i : Bool} {j} : DE X W (.Constant (.bool i) j pos) (mK (.bl i)) := d_k pe_bl rfl fun _ _ _ => .bl i
theorem d_non {j} : DE X W (.Constant .none j pos) (mK .non) := d_k pe_non rfl fun _ _ _ => .non
theorem d_str {i : Str} {j} : DE X W (.Constant (.str i) j pos) (mK (.str i)) := d_k pe_str rfl fun _ _ _ => .str i
/-- a constant of the module -/
def GlD (X : Cx) (x : Str) (d : D) : Prop := ∃ u v, X.mg x = some u ∧ RelV v u ∧ ∀ ξ μ H, RD (fx X ξ) μ H v d
theorem d_glob {x : Str} {d : D} (hg : Gl X x) (hm : GlD X x d) (hd : (x == ("__debug__" : Str)) = false := by decide) : DE X W (.Name x pos) (mK d) := by
  obtain ⟨u, v, h1, h2, h3⟩ := hm
  exact d_k (pe_glob hg h1 h2 hd) rfl h3
/-! operators -/
def OpD (X : Cx) (r : R2) (g : Sto → D → D → Option D) : Prop :=
  ∀ ξ μ H S x y v u z Q, RS (fx X ξ) μ H S → RD (fx X ξ) μ H v x → RD (fx X ξ) μ H u y → g S x y = some z → (∀ w μ' H', Up μ H μ' H' → RS (fx X ξ) μ' H' S → RD (fx X ξ) μ' H' w z → Q w H') → r v u H Q
theorem op2 {r : R2} {g : Sto → D → D → Option D} {ta tb : TE} {μ ξ : List Addr} {σ : St} {H : Hp} {ρ : Rho} {S : Sto} {Q : VK} (hd : OpD X r g)
    (ka : ∀ ξ μ σ H ρ S Q, RG (fx X ξ) μ H σ ρ → RS (fx X ξ) μ H S → WE' (fx X ξ) (ma ρ S) Q (fun cls dd H' => W cls dd σ H') μ H → ta σ H Q)
    (kb : ∀ ξ μ σ H ρ S Q, RG (fx X ξ) μ H σ ρ → RS (fx X ξ) μ H S → WE' (fx X ξ) (mb ρ S) Q (fun cls dd H' => W cls dd σ H') μ H → tb σ H Q)
    (g0 : RG (fx X ξ) μ H σ ρ) (s : RS (fx X ξ) μ H S) (h : WE' (fx X ξ) (mOp g ma mb ρ S) Q (fun cls dd H' => W cls dd σ H') μ H) : tOp r ta tb σ H Q := by
  refine ka ξ μ σ H ρ S _ g0 s (WR.bind h fun x S1 v μ1 H1 u1 s1 r1 h1 => ?_)
  refine kb ξ μ1 σ H1 ρ S1 _ (g0.up u1) s1 (WR.bind h1 fun y S2 v2 μ2 H2 u2 s2 r2 h2 => ?_)
  cases e : g S2 x y with
  | none => rw [e] at h2; exact h2.elim
  | some z =>
    rw [e] at h2
    exact hd ξ μ2 H2 S2 x y v v2 z Q s2 (r1.up u2) r2 e fun w μ' H' u' s' r' => h2 w μ' H' u' s' r'
theorem d_op {op : Operator} {r : R2} {g : Sto → D → D → Option D} (ho : OpR X (binaryOp op) r) (hd : OpD X r g) (ha : DE X W a ma) (hb : DE X W b mb) : DE X W (.BinOp a op b pos) (mOp g ma mb) := by
  obtain ⟨ta, pa, ka⟩ := ha
  obtain ⟨tb, pb, kb⟩ := hb
  exact ⟨_, pe_op ho pa pb, fun ξ μ σ H ρ S Q g0 s h => op2 (ξ := ξ) hd ka kb g0 s h⟩
theorem d_cmp {op : CmpOp} {r : R2} {g : Sto → D → D → Option D} (ho : OpR X (compareOp op) r) (hd : OpD X r g) (ha : DE X W a ma) (hb : DE X W b mb) (hm : behindInMarks op b = false := by first | exact nomark _ | rfl) : DE X W (.Compare a [op] [b] pos) (mOp g ma mb) := by
  obtain ⟨ta, pa, ka⟩ := ha
  obtain ⟨tb, pb, kb⟩ := hb
  exact ⟨_, pe_cmpR ho pa pb hm, fun ξ μ σ H ρ S Q g0 s h => op2 (ξ := ξ) hd ka kb g0 s h⟩
theorem dt_val (h : DE X W e m) (he : ∀ whole, isTrue e X.env whole = (do let v ← whole; standAt e.pos; holding [v] (truthy v)) := by intro _; rfl) : DT X W e m := by
  obtain ⟨te, p, k⟩ := h
  exact ⟨_, pt_val p he, fun ξ μ σ H ρ S Q g s h => k ξ μ σ H ρ S _ g s (WT'.val h)⟩
theorem dt_cmp {op : CmpOp} {r : R2} {g : Sto → D → D → Option D} (ho : OpR X (compareOp op) r) (hd : OpD X r g) (ha : DE X W a ma) (hb : DE X W b mb) (hm : behindInMarks op b = false := by first | exact nomark _ | rfl) : DT X W (.Compare a [op] [b] pos) (mOp g ma mb) := by
  obtain ⟨ta, pa, ka⟩ := ha
  obtain ⟨tb, pb, kb⟩ := hb
  exact ⟨_, pt_cmpR ho pa pb hm, fun ξ μ σ H ρ S Q g0 s h => op2 (ξ := ξ) hd ka kb g0 s (WT'.val h)⟩
theorem DT.w (h : DW X W e m) : DT X W e m := let ⟨t, p, k⟩ := h; ⟨t, p.pt, k⟩
theorem notb2 {α : Type} {k l : Sto → Res α} : ∀ (d : D) (S : Sto), (∀ b, d ≠ .bl b) → (match d with | .bl true => k S | .bl false => l S | _ => Res.bad) = Res.bad := fun d S h => by
  cases d with
  | bl b => exact absurd rfl (h b)
  | _ => rfl
theorem dw_and1 (ha : DT X W a ma) : DW X W (.BoolOp .And [a] pos) ma := let ⟨_, p, k⟩ := ha; ⟨_, pw_and1 p, k⟩
theorem dw_or1 (ha : DT X W a ma) : DW X W (.BoolOp .Or [a] pos) ma := let ⟨_, p, k⟩ := ha; ⟨_, pw_or1 p, k⟩
theorem dw_and {rest : List Expr} (ha : DT X W a ma) (hb : DW X W (.BoolOp .And (b :: rest) pos) mb) : DW X W (.BoolOp .And (a :: b :: rest) pos) (mAnd ma mb) := by
  obtain ⟨ta, pa, ka⟩ := ha
  obtain ⟨tb, pb, kb⟩ := hb
  refine ⟨_, pw_and pa pb, fun ξ μ σ H ρ S Q g s h => ?_⟩
  refine ka ξ μ σ H ρ S _ g s (WT'.bindT h (fun d S h => notb2 d S h) fun c S1 μ1 H1 u1 s1 h1 => ?_)
  cases c with
  | true => exact kb ξ μ1 σ H1 ρ S1 Q (g.up u1) s1 h1
  | false => exact h1 μ1 H1 .refl s1
theorem dw_or {rest : List Expr} (ha : DT X W a ma) (hb : DW X W (.BoolOp .Or (b :: rest) pos) mb) : DW X W (.BoolOp .Or (a :: b :: rest) pos) (mOr ma mb) := by
  obtain ⟨ta, pa, ka⟩ := ha
  obtain ⟨tb, pb, kb⟩ := hb
  refine ⟨_, pw_or pa pb, fun ξ μ σ H ρ S Q g s h => ?_⟩
  refine ka ξ μ σ H ρ S _ g s (WT'.bindT h (fun d S h => notb2 d S h) fun c S1 μ1 H1 u1 s1 h1 => ?_)
  cases c with
  | false => exact kb ξ μ1 σ H1 ρ S1 Q (g.up u1) s1 h1
  | true => exact h1 μ1 H1 .refl s1
theorem dt_not (ha : DT X W a ma) : DT X W (.UnaryOp .Not a pos) (mNot ma) := by
  obtain ⟨ta, pa, ka⟩ := ha
  refine ⟨_, pt_not pa, fun ξ μ σ H ρ S Q g s h => ?_⟩
  refine ka ξ μ σ H ρ S _ g s (WT'.bindT h (fun d S h => by cases d <;> first | rfl | exact absurd rfl (h _)) fun c S1 μ1 H1 u1 s1 h1 => ?_)
  exact h1 μ1 H1 .refl s1
/-- and, or, not as values -/
theorem d_one {op} (h : DE X W a m) : DE X W (.BoolOp op [a] pos) m := let ⟨_, p, k⟩ := h; ⟨_, pe_one p, k⟩
theorem WE'.boolv {r : Res D} {f : D → Sto → Res D} {Q Q1 : VK} {Wx : Value → Option Addr → Hp → Prop} {μ ξ : List Addr} {H : Hp} (h : WE' (fx X ξ) (r.bind f) Q Wx μ H) (hb : ∀ d S, (∀ b, d ≠ .bl b) → f d S = .bad)
    (k : ∀ b S1 μ1 H1, Up μ H μ1 H1 → RS (fx X ξ) μ1 H1 S1 → WE' (fx X ξ) (f (.bl b) S1) Q Wx μ1 H1 → Q1 (.bl b) H1) : WE' (fx X ξ) r Q1 Wx μ H := by
  refine WR.bind h fun x S1 v μ1 H1 u1 s1 r1 h1 => ?_
  cases r1 with
  | bl b => exact k b S1 μ1 H1 u1 s1 h1
  | _ =>
    rw [hb _ _ (by intro b e; cases e)] at h1
    exact h1.elim
theorem d_and {rest : List Expr} (ha : DE X W a ma) (hb : DE X W (.BoolOp .And (b :: rest) pos) mb) : DE X W (.BoolOp .And (a :: b :: rest) pos) (mAnd ma mb) := by
  obtain ⟨ta, pa, ka⟩ := ha
  obtain ⟨tb, pb, kb⟩ := hb
  refine ⟨_, pe_and pa pb, fun ξ μ σ H ρ S Q g s h => ?_⟩
  refine ka ξ μ σ H ρ S _ g s (WE'.boolv h (fun d S h => notb2 d S h) fun c S1 μ1 H1 u1 s1 h1 => ⟨c, rfl, ?_⟩)
  cases c with
  | true => exact kb ξ μ1 σ H1 ρ S1 Q (g.up u1) s1 h1
  | false => exact h1 _ μ1 H1 .refl s1 (.bl _)
theorem d_not (ha : DE X W a ma) : DE X W (.UnaryOp .Not a pos) (mNot ma) := by
  obtain ⟨ta, pa, ka⟩ := ha
  refine ⟨_, pe_not pa, fun ξ μ σ H ρ S Q g s h => ?_⟩
  exact ka ξ μ σ H ρ S _ g s (WE'.boolv h (fun d S h => by cases d <;> first | rfl | exact absurd rfl (h _)) fun c S1 μ1 H1 u1 s1 h1 => ⟨c, rfl, h1 _ μ1 H1 .refl s1 (.bl _)⟩)
theorem d_ifExp (hc : DT X W c mc) (ha : DE X W a ma) (hb : DE X W b mb) : DE X W (.IfExp c a b pos) (mIf mc ma mb) := by
  obtain ⟨tc, pc, kc⟩ := hc
  obtain ⟨ta, pa, ka⟩ := ha
  obtain ⟨tb, pb, kb⟩ := hb
  refine ⟨_, pe_ifExp pc pa pb, fun ξ μ σ H ρ S Q g s h => ?_⟩
  refine kc ξ μ σ H ρ S _ g s (WR.bindT h (fun d S h => notb2 d S h) fun c S1 μ1 H1 u1 s1 h1 => ?_)
  cases c with
  | true => exact ka ξ μ1 σ H1 ρ S1 Q (g.up u1) s1 h1
  | false => exact kb ξ μ1 σ H1 ρ S1 Q (g.up u1) s1 h1
/-- one-place operators -/
def UnD (X : Cx) (r : V → Hp → VK → Prop) (g : Sto → D → Option D) : Prop :=
  ∀ ξ μ H S x v z Q, RS (fx X ξ) μ H S → RD (fx X ξ) μ H v x → g S x = some z → (∀ w μ' H', Up μ H μ' H' → RS (fx X ξ) μ' H' S → RD (fx X ξ) μ' H' w z → Q w H') → r v H Q
theorem d_un {op : UnaryOp} {r : V → Hp → VK → Prop} {g : Sto → D → Option D} (ho : UnR X (unaryOp op) r) (hd : UnD X r g) (ha : DE X W a ma) : DE X W (.UnaryOp op a pos) (mUn g ma) := by
  obtain ⟨ta, pa, ka⟩ := ha
  refine ⟨_, pe_un ho pa, fun ξ μ σ H ρ S Q g0 s h => ka ξ μ σ H ρ S _ g0 s (WR.bind h fun x S1 v μ1 H1 u1 s1 r1 h1 => ?_)⟩
  cases e : g S1 x with
  | none => rw [e] at h1; exact h1.elim
  | some z =>
    rw [e] at h1
    exact hd ξ μ1 H1 S1 x v z Q s1 r1 e h1
/-- arguments -/
theorem da_nil : DA X W [] mNil := ⟨_, pa_nil, fun ξ μ σ H ρ S Q g s h => h [] μ H .refl s .nil⟩
theorem da_cons (ha : DE X W e ma) (hr : DA X W es mr) (hs : starEach (e :: es) X.env = (false, eval e X.env) :: starEach es X.env := by rfl) : DA X W (e :: es) (mCons ma mr) := by
  obtain ⟨ta, pa, ka⟩ := ha
  obtain ⟨tr, pr, kr⟩ := hr
  refine ⟨_, pa_cons pa pr hs, fun ξ μ σ H ρ S Q g s h => ka ξ μ σ H ρ S _ g s (WR.bind h fun x S1 v μ1 H1 u1 s1 r1 h1 => ?_)⟩
  refine kr ξ μ1 σ H1 ρ S1 _ (g.up u1) s1 (WR.bind h1 fun xs S2 vs μ2 H2 u2 s2 r2 h2 => ?_)
  exact h2 _ μ2 H2 .refl s2 (.cons (r1.up u2) r2)
theorem d_tup {x1} (h : DA X W es mr) : DE X W (.Tuple es x1 pos) (mTup mr) := by
  obtain ⟨ta, pa, ka⟩ := h
  refine ⟨_, pe_tup pa, fun ξ μ σ H ρ S Q g s h => ka ξ μ σ H ρ S _ g s (WR.bind h fun xs S1 vs μ1 H1 u1 s1 r1 h1 => ?_)⟩
  by_cases hz : xs.length ≤ 16777216
  · rw [if_pos hz] at h1
    refine ⟨by rw [r1.length, sizeLine_eq]; exact hz, fun p hp => ?_⟩
    exact h1 _ μ1 _ (.fresh hp) (s1.fresh hp) (.tup (.inl ⟨.inl upd_same, s1.out hp, s1.outX hp⟩) (r1.up (.fresh hp)))
  · rw [if_neg hz] at h1; exact h1.elim
theorem dl_lst (h : DA X W es mr) : DL X W (.List es pos) (mLst mr) := by
  obtain ⟨ta, pa, ka⟩ := h
  refine ⟨_, pe_lst pa, fun ξ μ σ H ρ S Q g s h => ka ξ μ σ H ρ S _ g s (WL'.bind h fun xs S1 vs μ1 H1 u1 s1 r1 h1 => ?_)⟩
  by_cases hz : xs.length ≤ 16777216
  · rw [if_pos hz] at h1
    exact ⟨by rw [r1.length, sizeLine_eq]; exact hz, fun p hp => h1 p vs μ1 _ (.fresh hp) hp (s1.holds hp) (r1.mv (.holds hp)) upd_same⟩
  · rw [if_neg hz] at h1; exact h1.elim
/-- a fresh list as data, as a cell -/
theorem d_fz (h : DL X W e mr) : DE X W e (mFz mr) := by
  obtain ⟨te, p, k⟩ := h
  refine ⟨_, p, fun ξ μ σ H ρ S Q g s h => k ξ μ σ H ρ S Q g s ?_⟩
  unfold mFz at h
  cases e : mr ρ S with
  | bad => rw [e] at h; exact h.elim
  | exc c fs S' => rw [e] at h; exact h
  | ok ds S' =>
    rw [e] at h
    intro q xs μ' H' u' hq s' r' e'
    exact h _ μ' H' u' s'.free (.lst (.inl ⟨.inl e', (s'.xi q List.mem_cons_self).1, s.outX hq⟩) (r'.mv .free))
theorem d_new (h : DL X W e mr) : DE X W e (mNew mr) := by
  obtain ⟨te, p, k⟩ := h
  refine ⟨_, p, fun ξ μ σ H ρ S Q g s h => k ξ μ σ H ρ S Q g s ?_⟩
  unfold mNew at h
  cases e : mr ρ S with
  | bad => rw [e] at h; exact h.elim
  | exc c fs S' => rw [e] at h; exact h
  | ok ds S' =>
    rw [e] at h
    intro q xs μ' H' u' hq s' r' e'
    have l : S'.length = μ'.length := s'.len.symm
    refine h (.ref q) (μ' ++ [q]) H' ⟨?_, fun a ha n => ?_, u'.keep⟩ (s'.asCell (s.outX hq) e' r') (.cell (by rw [l]; exact alloc_at))
    · obtain ⟨ν, z⟩ := u'.pre
      exact ⟨ν ++ [q], by rw [z, List.append_assoc]⟩
    · rcases List.mem_append.mp ha with z | z
      · exact u'.new a z n
      · rw [List.mem_singleton.mp z]; exact hq
end
end Dm
-- text DmOps
namespace Dm
open PySem L2
open PySem.W (Frag)
/-! ### the items of a tuple, a list -/
def lstOf (S : Sto) : D → Option (List D)
  | .lst ds => some ds
  | .cell n => match S[n]? with
    | some (.lst ds) => some ds
    | _ => none
  | _ => none
def seqOf (S : Sto) : D → Option (List D)
  | .tup ds => some ds
  | d => lstOf S d
section
variable {F : Fx} {μ : List Addr} {H : Hp} {S : Sto} {v : V} {d : D} {ds : List D}
theorem RD.lstS (s : RS F μ H S) (r : RD F μ H v d) (h : lstOf S d = some ds) : ∃ a xs, v = .ref a ∧ SqL F.K H a xs ∧ RDs F μ H xs ds := by
  cases r with
  | lst f r =>
    cases h
    exact ⟨_, _, rfl, f.sq, r⟩
  | @cell a n e =>
    simp only [lstOf] at h
    cases q : S[n]? with
    | none => rw [q] at h; exact nomatch h
    | some c =>
      rw [q] at h
      cases c with
      | lst es =>
        cases h
        obtain ⟨xs, h1, h2⟩ := s.at_ n a _ e q
        exact ⟨a, xs, rfl, SqL.of h1, h2⟩
      | _ => exact nomatch h
  | _ => exact nomatch h
theorem RD.seqS (s : RS F μ H S) (r : RD F μ H v d) (h : seqOf S d = some ds) : ∃ a xs, v = .ref a ∧ (SqL F.K H a xs ∨ SqT F.K H a xs) ∧ RDs F μ H xs ds := by
  cases r with
  | tup f r =>
    cases h
    exact ⟨_, _, rfl, .inr f.sq, r⟩
  | lst f r =>
    obtain ⟨a, xs, e, q, z⟩ := RD.lstS s (.lst f r) h
    exact ⟨a, xs, e, .inl q, z⟩
  | cell e =>
    obtain ⟨a, xs, e, q, z⟩ := RD.lstS s (.cell e) h
    exact ⟨a, xs, e, .inl q, z⟩
  | _ => exact nomatch h
theorem RDs.atI {vs : List V} {i : Int} (r : RDs F μ H vs ds) (h : atI ds i = some d) : ∃ v, L2.atI vs i = some v ∧ RD F μ H v d := by
  unfold L2.atI at h ⊢
  rw [r.length]
  cases e : ixN ds.length i with
  | none => rw [e] at h; exact nomatch h
  | some j =>
    rw [e] at h
    exact r.get h
end
/-! ### whole numbers -/
def gI (f : Int → Int → D) : Sto → D → D → Option D := fun _ x y => match x, y with
  | .int i, .int j => some (f i j)
  | _, _ => none
def gIC (C : Int → Int → Prop) [∀ i j, Decidable (C i j)] (f : Int → Int → D) : Sto → D → D → Option D := fun _ x y => match x, y with
  | .int i, .int j => if C i j then some (f i j) else none
  | _, _ => none
section
variable {X : Cx}
theorem opd_I0 {fv : Int → Int → V} {fd : Int → Int → D} (h : ∀ i j ξ μ H, RD (fx X ξ) μ H (fv i j) (fd i j)) : OpD X (rI0 fv) (gI fd) := by
  intro ξ μ H S x y v u z Q s rx ry e k
  cases rx with
  | int i =>
    cases ry with
    | int j =>
      cases e
      exact ⟨i, j, rfl, rfl, k _ μ H .refl s (h i j ξ μ H)⟩
    | _ => exact nomatch e
  | _ => exact nomatch e
theorem opd_I {C : Int → Int → Prop} [∀ i j, Decidable (C i j)] {fv : Int → Int → V} {fd : Int → Int → D} (h : ∀ i j ξ μ H, RD (fx X ξ) μ H (fv i j) (fd i j)) : OpD X (rI C fv) (gIC C fd) := by
  intro ξ μ H S x y v u z Q s rx ry e k
  cases rx with
  | int i =>
    cases ry with
    | int j =>
      unfold gIC at e
      by_cases c : C i j
      · simp only [if_pos c] at e
        cases e
        exact ⟨i, j, rfl, rfl, c, k _ μ H .refl s (h i j ξ μ H)⟩
      · simp only [if_neg c] at e
        exact nomatch e
    | _ => exact nomatch e
  | _ => exact nomatch e
theorem OpD.or {r r' : R2} {g g' : Sto → D → D → Option D} (h : OpD X r g) (h' : OpD X r' g') : OpD X (fun x y H Q => r x y H Q ∨ r' x y H Q) (fun S x y => (g S x y).or (g' S x y)) := by
  intro ξ μ H S x y v u z Q s rx ry e k
  have e : (g S x y).or (g' S x y) = some z := e
  cases q : g S x y with
  | some w =>
    rw [q] at e
    cases e
    exact .inl (h ξ μ H S x y v u _ Q s rx ry q k)
  | none =>
    rw [q] at e
    exact .inr (h' ξ μ H S x y v u z Q s rx ry e k)
abbrev gSub := gI fun i j => .int (i - j)
abbrev gLt := gI fun i j => .bl (decide (i < j))
abbrev gLe := gI fun i j => .bl (decide (i ≤ j))
abbrev gGt := gI fun i j => .bl (decide (j < i))
abbrev gGe := gI fun i j => .bl (decide (j ≤ i))
instance : ∀ i j, Decidable (CMulW i j) := fun i j => inferInstanceAs (Decidable (_ < _))
instance : ∀ i j, Decidable (CDivW i j) := fun i j => inferInstanceAs (Decidable (_ ∧ _))
instance : ∀ i j, Decidable (CPow i j) := fun i j => inferInstanceAs (Decidable (_ ∧ _ ∧ _))
abbrev gMul := gIC CMulW fun i j => .int (i * j)
abbrev gFdiv := gIC CDivW fun i j => .int (i / j)
abbrev gMod := gIC (fun _ j => 0 < j) fun i j => .int (i % j)
abbrev gPow := gIC CPow fun i j => .int (i ^ j.toNat)
theorem o_sub : OpD X (rI0 fun i j => .int (i - j)) gSub := opd_I0 fun _ _ _ _ _ => .int _
theorem o_lt : OpD X (rI0 fun i j => .bl (decide (i < j))) gLt := opd_I0 fun _ _ _ _ _ => .bl _
theorem o_le : OpD X (rI0 fun i j => .bl (decide (i ≤ j))) gLe := opd_I0 fun _ _ _ _ _ => .bl _
theorem o_gt : OpD X (rI0 fun i j => .bl (decide (j < i))) gGt := opd_I0 fun _ _ _ _ _ => .bl _
theorem o_ge : OpD X (rI0 fun i j => .bl (decide (j ≤ i))) gGe := opd_I0 fun _ _ _ _ _ => .bl _
theorem o_mul : OpD X (rI CMulW fun i j => .int (i * j)) gMul := opd_I fun _ _ _ _ _ => .int _
theorem o_fdiv : OpD X (rI CDivW fun i j => .int (i / j)) gFdiv := opd_I fun _ _ _ _ _ => .int _
theorem o_mod : OpD X (rI (fun _ j => 0 < j) fun i j => .int (i % j)) gMod := opd_I fun _ _ _ _ _ => .int _
theorem o_pow : OpD X (rI CPow fun i j => .int (i ^ j.toNat)) gPow := opd_I fun _ _ _ _ _ => .int _
/-- + of ints, of tuples -/
def gCatT : Sto → D → D → Option D := fun _ x y => match x, y with
  | .tup a, .tup b => if a.length + b.length ≤ 16777216 then some (.tup (a ++ b)) else none
  | _, _ => none
def gAdd : Sto → D → D → Option D := fun S x y => (gI (fun i j => .int (i + j)) S x y).or (gCatT S x y)
theorem o_catT : OpD X (rCatA X.K) gCatT := by
  intro ξ μ H S x y v u z Q s rx ry e k
  cases rx with
  | @tup a xs ds f r =>
    cases ry with
    | @tup b ys es f' r' =>
      unfold gCatT at e
      by_cases c : ds.length + es.length ≤ 16777216
      · simp only [if_pos c] at e
        cases e
        refine ⟨a, b, xs, ys, rfl, rfl, f.sq, f'.sq, by rw [r.length, r'.length, sizeLine_eq]; exact c, fun e => ?_, fun _ e => ?_, fun _ _ p hp => ?_⟩
        · subst e
          have e' : ds = [] := List.eq_nil_of_length_eq_zero r.length.symm
          subst e'
          exact k _ μ H .refl s (.tup f' r')
        · subst e
          have e' : es = [] := List.eq_nil_of_length_eq_zero r'.length.symm
          subst e'
          rw [List.append_nil] at k
          exact k _ μ H .refl s (.tup f r)
        · exact k _ μ _ (.fresh hp) (s.fresh hp) (.tup (.inl ⟨.inl upd_same, s.out hp, s.outX hp⟩) ((r.append r').up (.fresh hp)))
      · simp only [if_neg c] at e
        exact nomatch e
    | _ => exact nomatch e
  | _ => exact nomatch e
theorem op_addD : OpR X (binaryOp .Add) (fun x y H Q => rI0 (fun i j => .int (i + j)) x y H Q ∨ rCatA X.K x y H Q) := op_add.or op_catA
theorem o_add : OpD X (fun x y H Q => rI0 (fun i j => .int (i + j)) x y H Q ∨ rCatA X.K x y H Q) gAdd := (opd_I0 fun _ _ _ _ _ => .int _).or o_catT
/-- -i -/
def gNeg : Sto → D → Option D := fun _ x => match x with
  | .int i => some (.int (-i))
  | _ => none
theorem o_neg : UnD X (rU fun i => .int (-i)) gNeg := by
  intro ξ μ H S x v z Q s rx e k
  cases rx with
  | int i =>
    cases e
    exact ⟨i, rfl, k _ μ H .refl s (.int _)⟩
  | _ => exact nomatch e
/-! ### == -/
mutual
def toPy : D → Option PyData
  | .non => some .none
  | .bl b => some (.bool b)
  | .int i => some (.int i)
  | .str x => some (.str x)
  | .tup ds => (toPys ds).map .tuple
  | .lst ds => (toPys ds).map .list
  | .cell _ => none
  | .glo _ => none
  | .exn _ _ => none
def toPys : List D → Option (List PyData)
  | [] => some []
  | d :: ds => (toPy d).bind fun p => (toPys ds).map fun ps => p :: ps
end
/-- a cell's list, its items plain -/
def toPyS (S : Sto) (d : D) : Option PyData := match d with
  | .cell n => match S[n]? with
    | some (.lst ds) => (toPys ds).map .list
    | _ => none
  | d => toPy d
section
variable {F : Fx} {μ : List Addr} {H : Hp} {S : Sto}
mutual
theorem dp_of : ∀ {v : V} (d : D) {p : PyData}, RD F μ H v d → toPy d = some p → Dp F.K H v p
  | _, .non, p, r, e => by cases r; cases e; exact .non
  | _, .bl b, p, r, e => by cases r; cases e; exact .bl b
  | _, .int i, p, r, e => by cases r; cases e; exact .int i
  | _, .str x, p, r, e => by cases r; cases e; exact .str x
  | _, .tup ds, p, r, e => by
    cases r with
    | tup f r =>
      unfold toPy at e
      cases q : toPys ds with
      | none => rw [q] at e; exact nomatch e
      | some ps =>
        rw [q] at e; cases e
        exact .tup f.sq (dps_of ds r q)
  | _, .lst ds, p, r, e => by
    cases r with
    | lst f r =>
      unfold toPy at e
      cases q : toPys ds with
      | none => rw [q] at e; exact nomatch e
      | some ps =>
        rw [q] at e; cases e
        exact .lst f.sq (dps_of ds r q)
  | _, .cell _, p, r, e => nomatch e
  | _, .glo _, p, r, e => nomatch e
  | _, .exn _ _, p, r, e => nomatch e
theorem dps_of : ∀ {vs : List V} (ds : List D) {ps : List PyData}, RDs F μ H vs ds → toPys ds = some ps → DpAll F.K H vs ps
  | _, [], ps, r, e => by cases r; cases e; exact .nil
  | _, d :: ds, ps, r, e => by
    cases r with
    | cons a b =>
      unfold toPys at e
      cases q : toPy d with
      | none => rw [q] at e; exact nomatch e
      | some p =>
        rw [q] at e
        cases q' : toPys ds with
        | none => rw [q'] at e; exact nomatch e
        | some ps' =>
          rw [q'] at e; cases e
          exact .cons (dp_of d a q) (dps_of ds b q')
end
theorem dpS_of {v : V} {d : D} {p : PyData} (s : RS F μ H S) (r : RD F μ H v d) (e : toPyS S d = some p) : Dp F.K H v p := by
  cases d with
  | cell n =>
    unfold toPyS at e
    cases r with
    | @cell a _ ea =>
      cases q : S[n]? with
      | none => simp only [q] at e; exact nomatch e
      | some c =>
        simp only [q] at e
        cases c with
        | lst ds =>
          cases q' : toPys ds with
          | none => simp only [q'] at e; exact nomatch e
          | some ps =>
            simp only [q'] at e; cases e
            obtain ⟨xs, h1, h2⟩ := s.at_ n a _ ea q
            exact .lst (SqL.of h1) (dps_of ds h2 q')
        | _ => exact nomatch e
  | _ => exact dp_of _ r e
end
/-- == of two values; none: no rule -/
def eqD (S : Sto) (x y : D) : Option Bool := match x, y with
  | .int i, .int j => some (i == j)
  | .str i, .str j => some (i == j)
  | x, y => match toPyS S x, toPyS S y with
    | some p, some q => if SeqAt.shaped p = true ∧ SeqAt.shaped q = true then some (PyData.eqv p q) else none
    | _, _ => none
theorem eqD_cases {S : Sto} {x y : D} {b : Bool} (h : eqD S x y = some b) : (∃ i j, x = .int i ∧ y = .int j ∧ b = (i == j)) ∨ (∃ i j, x = .str i ∧ y = .str j ∧ b = (i == j)) ∨
    ∃ p q, toPyS S x = some p ∧ toPyS S y = some q ∧ SeqAt.shaped p = true ∧ SeqAt.shaped q = true ∧ b = PyData.eqv p q := by
  unfold eqD at h
  split at h
  · cases h; exact .inl ⟨_, _, rfl, rfl, rfl⟩
  · cases h; exact .inr (.inl ⟨_, _, rfl, rfl, rfl⟩)
  · split at h
    · rename_i p q hp hq
      split at h
      · rename_i hs
        cases h
        exact .inr (.inr ⟨p, q, hp, hq, hs.1, hs.2, rfl⟩)
      · exact nomatch h
    · exact nomatch h
def gEq : Sto → D → D → Option D := fun S x y => (eqD S x y).map .bl
def gNe : Sto → D → D → Option D := fun S x y => (eqD S x y).map fun b => .bl (!b)
def rEqA (K : Frag) : R2 := fun x y H Q => rEq x y H Q ∨ rEqD K x y H Q
def rNeA (K : Frag) : R2 := fun x y H Q => rNe x y H Q ∨ rNeD K x y H Q
theorem op_eqA (hu : X.A.units + 64 < cLine) : OpR X (compareOp .Eq) (rEqA X.K) := op_eq.or (op_eqD hu)
theorem op_neA (hu : X.A.units + 64 < cLine) : OpR X (compareOp .NotEq) (rNeA X.K) := op_ne.or (op_neD hu)
theorem o_eq : OpD X (rEqA X.K) gEq := by
  intro ξ μ H S x y v u z Q s rx ry e k
  unfold gEq at e
  cases q : eqD S x y with
  | none => rw [q] at e; exact nomatch e
  | some b =>
    rw [q] at e; cases e
    rcases eqD_cases q with ⟨i, j, rfl, rfl, rfl⟩ | ⟨i, j, rfl, rfl, rfl⟩ | ⟨p, q', h1, h2, h3, h4, rfl⟩
    · cases rx; cases ry
      exact .inl ⟨rfl, by rw [dec_int]; exact k _ μ H .refl s (.bl _)⟩
    · cases rx; cases ry
      exact .inl ⟨rfl, by rw [dec_str]; exact k _ μ H .refl s (.bl _)⟩
    · exact .inr ⟨p, q', dpS_of s rx h1, dpS_of s ry h2, h3, h4, k _ μ H .refl s (.bl _)⟩
theorem o_ne : OpD X (rNeA X.K) gNe := by
  intro ξ μ H S x y v u z Q s rx ry e k
  unfold gNe at e
  cases q : eqD S x y with
  | none => rw [q] at e; exact nomatch e
  | some b =>
    rw [q] at e; cases e
    rcases eqD_cases q with ⟨i, j, rfl, rfl, rfl⟩ | ⟨i, j, rfl, rfl, rfl⟩ | ⟨p, q', h1, h2, h3, h4, rfl⟩
    · cases rx; cases ry
      exact .inl ⟨rfl, by rw [dec_int]; exact k _ μ H .refl s (.bl _)⟩
    · cases rx; cases ry
      exact .inl ⟨rfl, by rw [dec_str]; exact k _ μ H .refl s (.bl _)⟩
    · exact .inr ⟨p, q', dpS_of s rx h1, dpS_of s ry h2, h3, h4, k _ μ H .refl s (.bl _)⟩
/-! ### in -/
def flatD : D → Bool
  | .non => true
  | .bl _ => true
  | .int _ => true
  | .str _ => true
  | _ => false
def eqF : D → D → Bool
  | .non, .non => true
  | .bl a, .bl b => a == b
  | .bl a, .int b => (if a then 1 else 0) == b
  | .int a, .bl b => a == (if b then 1 else 0)
  | .int a, .int b => a == b
  | .str a, .str b => a == b
  | _, _ => false
theorem flat_of {F : Fx} {μ : List Addr} {H : Hp} {v : V} {d : D} (r : RD F μ H v d) : flatV v = flatD d := by cases r <;> rfl
theorem eqF_of {F : Fx} {μ : List Addr} {H : Hp} {v u : V} {d e : D} (r : RD F μ H v d) (r' : RD F μ H u e) : eqV v u = eqF d e := by cases r <;> cases r' <;> rfl
theorem flats_of {F : Fx} {μ : List Addr} {H : Hp} : ∀ {vs : List V} {ds : List D}, RDs F μ H vs ds → vs.all flatV = ds.all flatD
  | _, [], r => by cases r; rfl
  | _, d :: ds, r => by
    cases r with
    | cons a b => rw [List.all_cons, List.all_cons, flat_of a, flats_of b]
theorem anyF_of {F : Fx} {μ : List Addr} {H : Hp} {u : V} {e : D} (r' : RD F μ H u e) : ∀ {vs : List V} {ds : List D}, RDs F μ H vs ds → inV u vs = ds.any (eqF · e)
  | _, [], r => by cases r; rfl
  | _, d :: ds, r => by
    cases r with
    | cons a b =>
      have q := anyF_of r' b
      unfold inV at q ⊢
      rw [List.any_cons, List.any_cons, eqF_of a r', q]
def gIn (neg : Bool) : Sto → D → D → Option D := fun S x y => match seqOf S y with
  | some ds => if flatD x = true ∧ ds.all flatD = true then some (.bl (if neg then !ds.any (eqF · x) else ds.any (eqF · x))) else none
  | none => none
theorem o_in {neg : Bool} : OpD X (rIn X.K neg) (gIn neg) := by
  intro ξ μ H S x y v u z Q s rx ry e k
  unfold gIn at e
  cases q : seqOf S y with
  | none => rw [q] at e; exact nomatch e
  | some ds =>
    rw [q] at e
    by_cases c : flatD x = true ∧ ds.all flatD = true
    · simp only [if_pos c] at e
      cases e
      obtain ⟨a, xs, rfl, h1, h2⟩ := RD.seqS s ry q
      refine ⟨a, xs, rfl, h1, by rw [flat_of rx]; exact c.1, by rw [flats_of h2]; exact c.2, ?_⟩
      rw [anyF_of rx h2]
      exact k _ μ H .refl s (.bl _)
    · simp only [if_neg c] at e
      exact nomatch e
/-! ### is None -/
def isNon : D → Bool
  | .non => true
  | _ => false
def gIsN (neg : Bool) : Sto → D → D → Option D := fun _ x y => match y with
  | .non => some (.bl (if neg then !isNon x else isNon x))
  | _ => none
theorem isNon_of {F : Fx} {μ : List Addr} {H : Hp} {v : V} {d : D} (r : RD F μ H v d) : decide (v = .non) = isNon d := by cases r <;> rfl
theorem o_isN : OpD X (fun x y H Q => y = .non ∧ Q (.bl (decide (x = .non))) H) (gIsN false) := by
  intro ξ μ H S x y v u z Q s rx ry e k
  cases ry with
  | non =>
    cases e
    exact ⟨rfl, by rw [isNon_of rx]; exact k _ μ H .refl s (.bl _)⟩
  | _ => exact nomatch e
theorem o_notN : OpD X (fun x y H Q => y = .non ∧ Q (.bl (!decide (x = .non))) H) (gIsN true) := by
  intro ξ μ H S x y v u z Q s rx ry e k
  cases ry with
  | non =>
    cases e
    exact ⟨rfl, by rw [isNon_of rx]; exact k _ μ H .refl s (.bl _)⟩
  | _ => exact nomatch e
end
/-! ### chains -/
def mChain (g g' : Sto → D → D → Option D) (a b c : ME) : ME := fun ρ S => (a ρ S).bind fun x S1 => (b ρ S1).bind fun y S2 => match g S2 x y with
  | some (.bl true) => (c ρ S2).bind fun z S3 => match g' S3 y z with
    | some w => .ok w S3
    | none => .bad
  | some (.bl false) => .ok (.bl false) S2
  | _ => .bad
section
variable {X : Cx} {W : WX} {e a b c : Expr} {es : List Expr} {ma mb mc m : ME} {mr : MA} {pos : Pos}
theorem chain2 {r r' : R2} {g g' : Sto → D → D → Option D} {ta tb tc : TE} {ξ μ : List Addr} {σ : St} {H : Hp} {ρ : Rho} {S : Sto} {Q : VK} (hd : OpD X r g) (hd' : OpD X r' g')
    (ka : ∀ ξ μ σ H ρ S Q, RG (fx X ξ) μ H σ ρ → RS (fx X ξ) μ H S → WE' (fx X ξ) (ma ρ S) Q (fun cls dd H' => W cls dd σ H') μ H → ta σ H Q)
    (kb : ∀ ξ μ σ H ρ S Q, RG (fx X ξ) μ H σ ρ → RS (fx X ξ) μ H S → WE' (fx X ξ) (mb ρ S) Q (fun cls dd H' => W cls dd σ H') μ H → tb σ H Q)
    (kc : ∀ ξ μ σ H ρ S Q, RG (fx X ξ) μ H σ ρ → RS (fx X ξ) μ H S → WE' (fx X ξ) (mc ρ S) Q (fun cls dd H' => W cls dd σ H') μ H → tc σ H Q)
    (g0 : RG (fx X ξ) μ H σ ρ) (s : RS (fx X ξ) μ H S) (h : WE' (fx X ξ) (mChain g g' ma mb mc ρ S) Q (fun cls dd H' => W cls dd σ H') μ H) : tChain r r' ta tb tc σ H Q := by
  refine ka ξ μ σ H ρ S _ g0 s (WR.bind h fun x S1 v μ1 H1 u1 s1 r1 h1 => ?_)
  refine kb ξ μ1 σ H1 ρ S1 _ (g0.up u1) s1 (WR.bind h1 fun y S2 v2 μ2 H2 u2 s2 r2 h2 => ?_)
  cases e : g S2 x y with
  | none => rw [e] at h2; exact h2.elim
  | some z =>
    rw [e] at h2
    refine hd ξ μ2 H2 S2 x y v v2 z _ s2 (r1.up u2) r2 e fun w μ' H' u' s' r' => ?_
    cases r' with
    | bl k =>
      refine ⟨k, rfl, ?_⟩
      cases k with
      | false => exact h2 _ μ' H' u' s' (.bl false)
      | true =>
        refine kc ξ μ' σ H' ρ S2 _ (g0.up (u1.trans (u2.trans u'))) s' (WR.bind (WR.shift u' h2) fun z S3 v3 μ3 H3 u3 s3 r3 h3 => ?_)
        cases e3 : g' S3 y z with
        | none => rw [e3] at h3; exact h3.elim
        | some w =>
          rw [e3] at h3
          exact hd' ξ μ3 H3 S3 y z v2 v3 w Q s3 (r2.up (u'.trans u3)) r3 e3 h3
    | _ => exact h2.elim
theorem d_chain {op op' : CmpOp} {r r' : R2} {g g' : Sto → D → D → Option D} (ho : OpR X (compareOp op) r) (ho' : OpR X (compareOp op') r') (hd : OpD X r g) (hd' : OpD X r' g') (ha : DE X W a ma) (hb : DE X W b mb) (hc : DE X W c mc)
    (hm : lastMarks [op, op'] [b, c] = false := by with_unfolding_all rfl) : DE X W (.Compare a [op, op'] [b, c] pos) (mChain g g' ma mb mc) := by
  obtain ⟨ta, pa, ka⟩ := ha
  obtain ⟨tb, pb, kb⟩ := hb
  obtain ⟨tc, pc, kc⟩ := hc
  exact ⟨_, pe_chain ho ho' pa pb pc hm, fun ξ μ σ H ρ S Q g0 s h => chain2 hd hd' ka kb kc g0 s h⟩
theorem dt_chain {op op' : CmpOp} {r r' : R2} {g g' : Sto → D → D → Option D} (ho : OpR X (compareOp op) r) (ho' : OpR X (compareOp op') r') (hd : OpD X r g) (hd' : OpD X r' g') (ha : DE X W a ma) (hb : DE X W b mb) (hc : DE X W c mc)
    (hm : lastMarks [op, op'] [b, c] = false := by with_unfolding_all rfl) : DT X W (.Compare a [op, op'] [b, c] pos) (mChain g g' ma mb mc) := by
  obtain ⟨ta, pa, ka⟩ := ha
  obtain ⟨tb, pb, kb⟩ := hb
  obtain ⟨tc, pc, kc⟩ := hc
  exact ⟨_, pt_chain ho ho' pa pb pc hm, fun ξ μ σ H ρ S Q g0 s h => chain2 hd hd' ka kb kc g0 s (WT'.val h)⟩
/-! ### subscripts -/
def gIx : Sto → D → D → Option D := fun S x i => match i with
  | .int k => match x with
    | .str z => if z.length ≤ 16777216 then (atI z.cps.toList k).map fun c => .str ⟨#[c]⟩ else none
    | x => (seqOf S x).bind fun ds => atI ds k
  | _ => none
theorem o_ix : OpD X (rIx X.K) gIx := by
  intro ξ μ H S x y v u z Q s rx ry e k
  unfold gIx at e
  cases ry with
  | int i =>
    have main : ∀ ds, seqOf S x = some ds → atI ds i = some z → rIx X.K v (.int i) H Q := fun ds h1 h2 => by
      obtain ⟨a, xs, rfl, h3, h4⟩ := RD.seqS s rx h1
      obtain ⟨w, h5, h6⟩ := h4.atI h2
      rcases h3 with h3 | h3
      · exact .inl ⟨a, xs, i, w, rfl, rfl, h3, h5, k w μ H .refl s h6⟩
      · exact .inr (.inl ⟨a, xs, i, w, rfl, rfl, h3, h5, k w μ H .refl s h6⟩)
    cases rx with
    | str z =>
      simp only at e
      by_cases c : z.length ≤ 16777216
      · rw [if_pos c] at e
        cases q : atI z.cps.toList i with
        | none => rw [q] at e; exact nomatch e
        | some w =>
          rw [q] at e; cases e
          exact .inr (.inr ⟨z, i, w, rfl, rfl, by rw [sizeLine_eq]; exact c, q, k _ μ H .refl s (.str _)⟩)
      · rw [if_neg c] at e; exact nomatch e
    | tup f r =>
      exact main _ rfl e
    | @lst _ _ ds f r => exact main ds rfl e
    | @cell a n ea =>
      simp only at e
      cases q : seqOf S (.cell n) with
      | none => rw [q] at e; exact nomatch e
      | some ds => rw [q] at e; exact main ds q e
    | _ => exact nomatch e
  | _ => exact nomatch e
theorem d_ix {r : R2} {g : Sto → D → D → Option D} (hr : IxR X r) (hd : OpD X r g) (ha : DE X W a ma) (hb : DE X W b mb) (hs : PlainIx b := by exact fun _ _ => rfl) : DE X W (.Subscript a b pos) (mOp g ma mb) := by
  obtain ⟨ta, pa, ka⟩ := ha
  obtain ⟨tb, pb, kb⟩ := hb
  exact ⟨_, pe_ix hr pa pb hs, fun ξ μ σ H ρ S Q g0 s h => op2 (ξ := ξ) hd ka kb g0 s h⟩
/-- slices -/
abbrev MO := Rho → Sto → Res (Option Int)
structure DO (X : Cx) (W : WX) (e : Option Expr) (m : MO) : Prop where
  ex : ∃ te, PO X e te ∧ ∀ ξ μ σ H ρ S Q, RG (fx X ξ) μ H σ ρ → RS (fx X ξ) μ H S → WR (fx X ξ) (fun _ _ (o : Option Int) o' => o = o') (m ρ S) Q (fun cls dd H' => W cls dd σ H') μ H → te σ H Q
def mPart (m : ME) : MO := fun ρ S => (m ρ S).bind fun x S1 => match x with
  | .int i => .ok (some i) S1
  | _ => .bad
def mNoPart : MO := fun _ S => .ok none S
theorem do_none : DO X W none mNoPart := ⟨_, po_none, fun ξ μ σ H ρ S Q g s h => h none μ H .refl s rfl⟩
theorem do_some (h : DE X W e m) : DO X W (some e) (mPart m) := by
  obtain ⟨te, p, k⟩ := h
  refine ⟨_, po_some p, fun ξ μ σ H ρ S Q g s h => k ξ μ σ H ρ S _ g s (WR.bind h fun x S1 v μ1 H1 u1 s1 r1 h1 => ?_)⟩
  cases r1 with
  | int i => exact ⟨i, rfl, h1 _ μ1 H1 .refl s1 rfl⟩
  | _ => exact h1.elim
def cutD (ds : List D) (lo hi : Option Int) : List D := (ds.drop (HT.sIx ds.length 0 lo)).take (HT.sIx ds.length ds.length hi - HT.sIx ds.length 0 lo)
theorem cut_of {F : Fx} {μ : List Addr} {H : Hp} {vs : List V} {ds : List D} {lo hi : Option Int} (r : RDs F μ H vs ds) : RDs F μ H (cutV vs lo hi) (cutD ds lo hi) := by
  unfold cutV cutD
  rw [r.length]
  exact (r.drop _).take _
def mSlT (a : ME) (lo hi : MO) : ME := fun ρ S => (a ρ S).bind fun x S1 => (lo ρ S1).bind fun l S2 => (hi ρ S2).bind fun h S3 => match x with
  | .tup ds => .ok (.tup (cutD ds l h)) S3
  | _ => .bad
def mSlL (a : ME) (lo hi : MO) : MA := fun ρ S => (a ρ S).bind fun x S1 => (lo ρ S1).bind fun l S2 => (hi ρ S2).bind fun h S3 => match lstOf S3 x with
  | some ds => .ok (cutD ds l h) S3
  | none => .bad
variable {lo hi : Option Expr} {ml mh : MO} {p2 : Pos}
theorem cut_whole {ds : List D} {lo hi : Option Int} (h : HT.sIx ds.length 0 lo = 0 ∧ HT.sIx ds.length ds.length hi = ds.length) : cutD ds lo hi = ds := by
  unfold cutD
  rw [h.1, h.2, List.drop_zero, Nat.sub_zero, List.take_length]
theorem d_slT (ha : DE X W a ma) (hl : DO X W lo ml) (hh : DO X W hi mh) : DE X W (.Subscript a (.Slice lo hi none p2) pos) (mSlT ma ml mh) := by
  obtain ⟨ta, pa, ka⟩ := ha
  obtain ⟨tl, pl, kl⟩ := hl
  obtain ⟨th, ph, kh⟩ := hh
  refine ⟨_, pe_slice sl_tupA pa pl ph, fun ξ μ σ H ρ S Q g s h => ka ξ μ σ H ρ S _ g s (WR.bind h fun x S1 v μ1 H1 u1 s1 r1 h1 => ?_)⟩
  refine kl ξ μ1 σ H1 ρ S1 _ (g.up u1) s1 (WR.bind h1 fun l S2 l' μ2 H2 u2 s2 r2 h2 => ?_)
  subst r2
  refine kh ξ μ2 σ H2 ρ S2 _ (g.up (u1.trans u2)) s2 (WR.bind h2 fun u S3 u' μ3 H3 u3 s3 r3 h3 => ?_)
  subst r3
  have rx := r1.up (u2.trans u3)
  cases rx with
  | @tup a xs ds f r =>
    refine ⟨a, xs, rfl, f.sq, fun hw => ?_, fun _ p hp => ?_⟩
    · rw [r.length] at hw
      have e := cut_whole hw
      exact h3 _ μ3 H3 .refl s3 (by rw [e]; exact .tup f r)
    · exact h3 _ μ3 _ (.fresh hp) (s3.fresh hp) (.tup (.inl ⟨.inl upd_same, s3.out hp, s3.outX hp⟩) ((cut_of r).up (.fresh hp)))
  | _ => exact h3.elim
theorem dl_slL (ha : DE X W a ma) (hl : DO X W lo ml) (hh : DO X W hi mh) : DL X W (.Subscript a (.Slice lo hi none p2) pos) (mSlL ma ml mh) := by
  obtain ⟨ta, pa, ka⟩ := ha
  obtain ⟨tl, pl, kl⟩ := hl
  obtain ⟨th, ph, kh⟩ := hh
  refine ⟨_, pe_slice sl_list pa pl ph, fun ξ μ σ H ρ S Q g s h => ka ξ μ σ H ρ S _ g s (WL'.bind h fun x S1 v μ1 H1 u1 s1 r1 h1 => ?_)⟩
  refine kl ξ μ1 σ H1 ρ S1 _ (g.up u1) s1 (WL'.bind h1 fun l S2 l' μ2 H2 u2 s2 r2 h2 => ?_)
  subst r2
  refine kh ξ μ2 σ H2 ρ S2 _ (g.up (u1.trans u2)) s2 (WL'.bind h2 fun u S3 u' μ3 H3 u3 s3 r3 h3 => ?_)
  subst r3
  have rx := r1.up (u2.trans u3)
  cases e : lstOf S3 x with
  | none => rw [e] at h3; exact h3.elim
  | some ds =>
    rw [e] at h3
    obtain ⟨a, xs, rfl, h4, h5⟩ := RD.lstS s3 rx e
    exact ⟨a, xs, rfl, h4, fun p hp => h3 p _ μ3 _ (.fresh hp) hp (s3.holds hp) ((cut_of h5).mv (.holds hp)) upd_same⟩
end
end Dm
-- text DmIsV
/-! isinstance of an exception that was made or raised once -/
namespace Dm
open PySem L2 PySem.Spec PyProof.Rows
open PySem.W (Frag)
/-! ### isinstance(e, X) -/
section
variable {prog : Program} {w : World} {A : Around} {E : Value → Shared → Prop} {s : Shared} {K : Frag} {x D : Addr} {ox : Obj} {od : Option Obj}
open PySem.W in
theorem findObj_dataO {C : Addr} {name : Str} {a g : Value} (hc : (clsIn K C).isSome = true) (ha : findIn K (.ref C) name = some (some a)) (hg : specialIn K a "__get__" = some (some g)) (ht : takesIn K a = some true) : findObj K C od name = some (.bind g a) := by
  obtain ⟨cd, hc⟩ := Option.isSome_iff_exists.mp hc
  unfold findObj
  rw [hc, Option.bind_some, ha, Option.bind_some]
  simp [hg, ht]
open PySem.W PySem.Calls in
theorem kin_classO {Q : Option Value → Shared → Prop} (hga : findIn K (.ref D) "__getattribute__" = some (some (.builtin "BaseException.__getattribute__"))) (hgt : findIn K (.ref D) "__getattr__" = some none) (hsub : subIn K (.ref D) (.type "BaseException") = some true)
    (hdct : hasDictIn K D = true) (ha : findIn K (.ref D) "__class__" = some (some (.builtin "object.__class__")))
    (hn : specialIn K (.builtin "object.__class__") "__get__" = some (some (.builtin "getset_descriptor.__get__"))) (htk : takesIn K (.builtin "object.__class__") = some true) (hm : mroIn K D (.type "object") = some true)
    (X : K.In s.heap) (I : InstAt s.heap x ox D od) (h : Q (some (.ref D)) { s with toks := s.toks + 1 }) : wpAny (model prog w) A (getAttr? (.ref x) "__class__") Q E s := by
  have hf : findObj K D od "__class__" = some (.bind (.builtin "getset_descriptor.__get__") (.builtin "object.__class__")) := findObj_dataO (by obtain ⟨cd, hc, _⟩ := any_some hdct; rw [hc]; rfl) ha hn htk
  obtain ⟨hp, g, d, t, os⟩ := s
  have L0 := I.type (M := model prog w)
  have L1 := looks_findIn (M := model prog w) X hga
  have L2 := looks_findIn (M := model prog w) X hgt
  have L3 := looks_find (M := model prog w) X I hf
  have sub : Looks (model prog w) hp (isInstance (.ref x) (.type "BaseException")) true := L0.andThen (looks_subIn X hsub)
  have hx0 : (false && onTheHeap (Value.builtin "BaseException.__getattribute__")) = false := rfl
  have hx2 : (Value.builtin "BaseException.__getattribute__" == Value.builtin "object.__getattribute__") = false := by decide +kernel
  have hx1 : (onTheHeap (Value.ref D) && Value.builtin "BaseException.__getattribute__" == Value.builtin "object.__getattribute__") = false := by rw [hx2]; rfl
  unfold getAttr? getAttrBy? getAttrBy
  refine wpAny_bind (wpAny_mkText (wpAny_bind (wpAny_attempt (wpAny_holding (wpAny_bind (L0.at (wpAny_bind (L1.at ?_))))))))
  show wpAny _ _ (if (onTheHeap (Value.ref D) && Value.builtin "BaseException.__getattribute__" == Value.builtin "object.__getattribute__") = true then _ else _) _ _ _
  rw [hx1, if_neg Bool.false_ne_true]
  unfold getAttrByItsOwn hookBefore
  refine wpAny_bind ?_
  rw [if_pos (show onTheHeap (Value.ref D) = true from rfl)]
  refine L2.at ?_
  refine wpAny_bind (wpAny_attempt (wpAny_holding ?_))
  unfold callGetattribute
  rw [hx0, if_neg Bool.false_ne_true]
  unfold boundAndCalled
  rw [PySem.F.excAttr_ValueError.ga.bind (.ref x)]
  refine wpAny_bind (wpAny_pure ?_)
  show wpAny _ _ (call (.builtin "BaseException.__getattribute__") [.ref x, .str "__class__" t]) _ _ _
  refine wpAny_call (codeAny_call_builtin PySem.F.excAttr_ValueError.ga.plain PySem.F.entry_bexc_ga ?_)
  refine @check_slot (model prog w) _ _ ⟨hp, g, d, t + 1, os⟩ "BaseException.__getattribute__" "BaseException" "__getattribute__" (.ref x) [.str "__class__" t] [] _ (by decide +kernel) (by decide +kernel) sub (PySem.F.args_bexc_ga (.ref x) (.str "__class__" t)) ?_
  unfold Builtin.«object.__getattribute__»
  refine wpAny_bind (wpAny_of_eq (a := ((Value.ref x : Value), [Value.str "__class__" t])) (by first | rfl | (simp only [slotArgs]; rfl)) ?_)
  refine wpAny_bind (wpAny_pure (wpAny_bind (L0.at (wpAny_bind (L3.at ?_)))))
  show wpAny _ _ (holding [Value.builtin "object.__class__"] (call (.builtin "getset_descriptor.__get__") [.builtin "object.__class__", .ref x, .ref D]) >>= ret) _ _ _
  refine wpAny_bind (wpAny_holding (wpAny_call (class_get (s := ⟨hp, g, d, t + 1, os⟩) (ox := ox) (od := od) X I hm ?_)))
  refine wpAny_pure ?_
  show wpAny _ _ (handedOut (.ref D)) _ _ _
  rw [handedOut_of (v := .ref D) rfl]
  first
    | exact wpAny_pure (wpAny_pure h)
    | exact wpAny_pure h
    | exact wpAny_pure (wpAny_bind (wpAny_pure (wpAny_pure h)))
open PySem.W in
theorem kitx_excO (C : ExcC K D) : KitX K (.ref x) (.ref D) (fun h => InstAt h x ox D od) where
  ty := fun _ _ _ I => I.type
  it := fun _ _ X _ => by
    obtain ⟨cdD, hcD, _⟩ := any_some C.hd
    unfold clsIn at hcD
    split at hcD
    · rename_i c' d' cd' sl' ho
      intro A' Q' E' s' k q
      unfold isType loadHead
      exact wpAny_bind (wpAny_loadPart (k _ _ (X _ _ ho)) (wpAny_pure q))
    · cases hcD
  ne := (handS_kitx_exc (x := x) (ox := ox) C.hg C.hk C.hs C.hd C.ha C.hn C.ht C.hm).ne
  ca := fun X I k => kin_classO C.hg C.hk C.hs C.hd C.ha C.hn C.ht C.hm X I k
end
/-- isinstance(e, c), e an exception that was raised once -/
def rIsV (K : Frag) : List V → Hp → VK → Prop := fun xs H Q => ∃ (a D : Addr) (dd : Option Addr) (c : V) (cv : Value) (b : Bool), xs = [.ref a, c] ∧ H a = some (ExV (.ref D) dd a) ∧ ExcC K D ∧ (dd = none ∨ ∃ d fs, dd = some d ∧ H d = some (.xd fs)) ∧
  (∀ u, RelV c u → u = cv) ∧ PySem.W.kitOne K (.ref D) cv = some b ∧ Q (.bl b) H
theorem call_isV {X : Cx} : CallR X (.builtin "isinstance") (rIsV X.K) := by
  intro pins s σ H xs us Q I r h
  obtain ⟨a, D, dd, c, cv, b, rfl, ea, C, ed, hcv, e, q⟩ := h
  cases r with
  | cons rx rr =>
    cases rr with
    | cons rt rr =>
      cases rr
      cases rx
      have ec := hcv _ rt
      subst ec
      have xa : ObjOk X.prog X.w H s.heap a (.ext fun h => ∃ (oe : Obj) (vs : Array Value), h.get? a = some oe ∧ Zc (.ref D) dd oe ∧ oe.data = .fields vs) := I.hok a _ ea
      obtain ⟨oe, vs, hget, hz, hv⟩ := xa.1
      have J : ∃ od, PySem.W.InstAt s.heap a oe D od := by
        rcases ed with rfl | ⟨d, fs, rfl, ed⟩
        · exact ⟨none, hget, hz.1, by unfold PySem.W.notCls; rw [hv] <;> rfl, by rw [hz.2]; trivial⟩
        · have hx : ObjOk X.prog X.w H s.heap d (.xd fs) := I.hok d _ ed
          obtain ⟨mA, hns, hr⟩ := hx
          obtain ⟨od, ho, hl⟩ := lookIn_ns hns
          exact ⟨some od, hget, hz.1, by unfold PySem.W.notCls; rw [hv] <;> rfl, by rw [hz.2]; exact ho⟩
      obtain ⟨od, J⟩ := J
      exact PySem.W.kia_one (kitx_excO C) I.kIn J e (fun z => nomatch z) fun tk => ⟨.bl b, H, I.kept (t' := tk) fun _ _ z => z, rfl, q⟩
/-- isinstance(e, (c, ..)) -/
def rIsVT (K : Frag) : List V → Hp → VK → Prop := fun xs H Q => ∃ (a D tp : Addr) (dd : Option Addr) (cs : List V) (us : List Value) (b : Bool), xs = [.ref a, .ref tp] ∧ H a = some (ExV (.ref D) dd a) ∧ ExcC K D ∧ (dd = none ∨ ∃ d fs, dd = some d ∧ H d = some (.xd fs)) ∧
  H tp = some (.tup cs) ∧ Paired ClsV cs us ∧ PySem.W.kitAny K (.ref D) us = some b ∧ Q (.bl b) H
theorem call_isVT {X : Cx} : CallR X (.builtin "isinstance") (rIsVT X.K) := by
  intro pins s σ H xs us Q I r h
  obtain ⟨a, D, tp, dd, cs, ws, b, rfl, ea, C, ed, hT, k, e, q⟩ := h
  obtain ⟨u1, u2, rfl, rx, r2⟩ := vals2 r
  cases (show u2 = Value.ref tp from r2)
  cases (show u1 = Value.ref a from rx)
  have xa : ObjOk X.prog X.w H s.heap a (.ext fun h => ∃ (oe : Obj) (vs : Array Value), h.get? a = some oe ∧ Zc (.ref D) dd oe ∧ oe.data = .fields vs) := I.hok a _ ea
  obtain ⟨oe, vs, hget, hz, hv⟩ := xa.1
  have J : ∃ od, PySem.W.InstAt s.heap a oe D od := by
    rcases ed with rfl | ⟨d, fs, rfl, ed⟩
    · exact ⟨none, hget, hz.1, by unfold PySem.W.notCls; rw [hv] <;> rfl, by rw [hz.2]; trivial⟩
    · have hx : ObjOk X.prog X.w H s.heap d (.xd fs) := I.hok d _ ed
      obtain ⟨mA, hns, hr⟩ := hx
      obtain ⟨od, ho, hl⟩ := lookIn_ns hns
      exact ⟨some od, hget, hz.1, by unfold PySem.W.notCls; rw [hv] <;> rfl, by rw [hz.2]; exact ho⟩
  obtain ⟨od, J⟩ := J
  obtain ⟨_, its, rv, o, h1, h2, n, h3⟩ := (show ObjOk X.prog X.w H s.heap tp (.tup cs) from I.hok tp _ hT)
  have e3 := ClsV.all k rv
  subst e3
  obtain ⟨oc, od', dt, sl⟩ := o
  simp only at h2 h3
  subst h2 h3
  exact PySem.W.kia_tup (kitx_excO C) I.kIn J h1 e (fun z => nomatch z) fun tk => ⟨.bl b, H, I.kept (t' := tk) fun _ _ z => z, rfl, q⟩
theorem call_or {X : Cx} {f : Value} {r1 r2 : List V → Hp → VK → Prop} (h1 : CallR X f r1) (h2 : CallR X f r2) : CallR X f (fun xs H Q => r1 xs H Q ∨ r2 xs H Q) :=
  fun pins s σ H xs us Q I r h => h.elim (h1 pins s σ H xs us Q I r) (h2 pins s σ H xs us Q I r)
end Dm
-- text DmStm
namespace Dm
open PySem L2
open PySem.W (Frag)
/-! ### isinstance -/
inductive Tn where | non | bl | int | str | tup | lst | dic | exn
  deriving DecidableEq
def tnName : Tn → String
  | .non => "NoneType" | .bl => "bool" | .int => "int" | .str => "str" | .tup => "tuple" | .lst => "list" | .dic => "dict" | .exn => "BaseException"
def isTn : Tn → Tn → Bool
  | .bl, .int => true
  | a, b => decide (a = b)
theorem kit_tn (a b : Tn) (h : b ≠ .non) (h2 : b ≠ .exn) (h3 : a ≠ .exn) : kitB (tnName a) (tnName b) = some (isTn a b) := by
  cases b <;> first | exact absurd rfl h | exact absurd rfl h2 | (cases a <;> first | exact absurd rfl h3 | decide +kernel)
def tyOf (S : Sto) : D → Option Tn
  | .non => some .non
  | .bl _ => some .bl
  | .int _ => some .int
  | .str _ => some .str
  | .tup _ => some .tup
  | .lst _ => some .lst
  | .cell n => match S[n]? with
    | some (.lst _) => some .lst
    | some (.dic _) => some .dic
    | _ => none
  | .glo _ => none
  | .exn _ _ => some .exn
theorem tyX_of {F : Fx} {μ : List Addr} {H : Hp} {S : Sto} {v : V} {d : D} {t : Tn} (s : RS F μ H S) (r : RD F μ H v d) (e : tyOf S d = some t) (ht : t ≠ .exn) : TyX F.K H v (.type (tnName t)) := by
  cases r with
  | non => cases e; exact .base .non
  | bl b => cases e; exact .base (.bl b)
  | int i => cases e; exact .base (.int i)
  | str x => cases e; exact .base (.str x)
  | tup f r =>
    cases e
    rcases f with ⟨h | ⟨o, h⟩, _⟩ | ⟨o, its, n, h1, h2, _⟩
    · exact .base (.tup h)
    · exact .fTuple h
    · exact .kTuple h1 h2
  | lst f r =>
    cases e
    rcases f with ⟨h | ⟨o, h⟩, _⟩ | ⟨o, its, n, h1, h2, _⟩
    · exact .base (.lst h)
    · exact .base (.frz h)
    · exact .kList h1 h2
  | @cell a n ea =>
    simp only [tyOf] at e
    cases q : S[n]? with
    | none => rw [q] at e; exact nomatch e
    | some c =>
      rw [q] at e
      cases c with
      | lst ds =>
        cases e
        obtain ⟨xs, h1, _⟩ := s.at_ n a _ ea q
        exact .base (.lst h1)
      | dic kvs =>
        cases e
        obtain ⟨xs, h1, _⟩ := s.at_ n a _ ea q
        exact .base (.dK h1)
      | _ => exact nomatch e
  | glo _ => exact nomatch e
  | exn f => cases e; exact absurd rfl ht
theorem tyOf_exn {S : Sto} {d : D} (e : tyOf S d = some .exn) : ∃ c fs, d = .exn c fs := by
  cases d with
  | exn c fs => exact ⟨c, fs, rfl⟩
  | cell n =>
    simp only [tyOf] at e
    cases q : S[n]? with
    | none => rw [q] at e; exact nomatch e
    | some c => rw [q] at e; cases c <;> cases e
  | _ => cases e
theorem tn_plain {T : Tn} (h : T ≠ .non) (h2 : T ≠ .exn) : tnName T ∈ ["tuple", "list", "int", "str", "bool", "dict"] ∧ isTn .exn T = false := by
  cases T <;> first | exact absurd rfl h | exact absurd rfl h2 | exact ⟨by decide, rfl⟩
def mIsi (T : Tn) (m : ME) : ME := mUn (fun S d => (tyOf S d).map fun t => .bl (isTn t T)) m
def mIsiT (Ts : List Tn) (m : ME) : ME := mUn (fun S d => (tyOf S d).map fun t => .bl (Ts.any (isTn t ·))) m
section
variable {X : Cx} {W : WX} {e a b c : Expr} {es : List Expr} {ma mb mc m : ME} {mr : MA} {pos p p1 p2 p3 : Pos}
theorem d_isi (T : Tn) {x : Str} (h : DE X W e m) (hm : X.mg "isinstance" = none) (hx : X.mg x = none) (hv : bootBuiltins x = some (.type (tnName T)) := by decide +kernel) (hT : T ≠ .non := by decide) (hT2 : T ≠ .exn := by decide) (hg : Gl X "isinstance" := by rfl) (hgx : Gl X x := by rfl)
    (hn : x ≠ "__name__" := by decide) (hd : (x == ("__debug__" : Str)) = false := by decide)
    (he : starEach [e, .Name x p1] X.env = (false, eval e X.env) :: starEach [.Name x p1] X.env := by rfl) (hpl : (backTo pos (starEach [.Name x p1] X.env)).any (·.1) = false := by rfl)
    (hs2 : starEach [.Name x p1] X.env = (false, eval (.Name x p1) X.env) :: starEach [] X.env := by rfl) :
    DE X W (.Call (.Name "isinstance" p) [e, .Name x p1] [] pos) (mIsi T m) := by
  obtain ⟨te, pe, k⟩ := h
  refine ⟨_, pe_callB (call_or call_isi call_isV) hg hm (by decide +kernel) (pa_cons pe (pa_cons (pe_bltn (v := .ty (tnName T)) hgx hx hv rfl hn hd) pa_nil hs2) he) (he := he) (hpl := hpl), fun ξ μ σ H ρ S Q g s h => k ξ μ σ H ρ S _ g s (WR.bind h fun x S1 v μ1 H1 u1 s1 r1 h1 => ?_)⟩
  cases q : tyOf S1 x with
  | none => simp only [q] at h1; exact h1.elim
  | some t =>
    simp only [q] at h1
    by_cases hx : t = .exn
    · subst hx
      obtain ⟨c, ns, rfl⟩ := tyOf_exn q
      obtain ⟨p1, p2⟩ := tn_plain hT hT2
      cases r1 with
      | @exn a _ _ z =>
        obtain ⟨cls, dd, ⟨z1, D, rfl, z5, z6⟩, ⟨z2, z3, z4⟩, z7⟩ := z
        refine .inr ⟨a, D, dd, .ty (tnName T), .type (tnName T), _, rfl, z2, z5, ?_, fun u hu => hu, z6 _ p1, ?_⟩
        · rcases z7 with ⟨_, rfl⟩ | ⟨d, fs, q1, q2, _⟩
          · exact .inl rfl
          · exact .inr ⟨d, _, q1, q2⟩
        · have h1 := h1 _ μ1 H1 .refl s1 (.bl _)
          rw [p2] at h1
          exact h1
    · exact .inl ⟨v, .ty (tnName T), _, _, _, rfl, .ty _, tyX_of s1 r1 q hx, kit_ty (kit_tn t T hT hT2 hx), h1 _ μ1 H1 .refl s1 (.bl _)⟩
theorem kitAny_tn {K : Frag} (t : Tn) (ht : t ≠ .exn) : ∀ Ts : List Tn, (∀ T ∈ Ts, T ≠ .non ∧ T ≠ .exn) → PySem.W.kitAny K (.type (tnName t)) (Ts.map fun T => .type (tnName T)) = some (Ts.any (isTn t ·))
  | [], _ => kitAny_nil
  | T :: Ts, h => kitAny_cons (b := isTn t T) (kit_ty (kit_tn t T (h T List.mem_cons_self).1 (h T List.mem_cons_self).2 ht)) (fun e => by rw [List.any_cons, e, Bool.false_or]; exact kitAny_tn t ht Ts fun T' h' => h T' (List.mem_cons_of_mem _ h')) fun e => by rw [List.any_cons, e, Bool.true_or]
theorem kitAny_exn {K : Frag} {D : Addr} (hp : ∀ x : String, x ∈ ["tuple", "list", "int", "str", "bool", "dict"] → PySem.W.kitOne K (.ref D) (.type x) = some false) : ∀ Ts : List Tn, (∀ T ∈ Ts, T ≠ .non ∧ T ≠ .exn) → PySem.W.kitAny K (.ref D) (Ts.map fun T => .type (tnName T)) = some (Ts.any (isTn .exn ·))
  | [], _ => kitAny_nil
  | T :: Ts, h => by
    obtain ⟨p1, p2⟩ := tn_plain (h T List.mem_cons_self).1 (h T List.mem_cons_self).2
    refine kitAny_cons (b := false) (hp _ p1) (fun _ => ?_) fun e => nomatch e
    rw [List.any_cons, p2, Bool.false_or]
    exact kitAny_exn hp Ts fun T' h' => h T' (List.mem_cons_of_mem _ h')
theorem clsV_all : ∀ Ts : List Tn, Paired ClsV (Ts.map fun T => V.ty (tnName T)) (Ts.map fun T => Value.type (tnName T))
  | [] => .nil
  | T :: Ts => .cons (.ty _) (clsV_all Ts)
/-- isinstance(x, (T, ..)); ht: the classes' names as arguments -/
theorem d_isiT (Ts : List Tn) {ts : List Expr} {tt : TA} {k1} (h : DE X W e m) (ht : PA X ts tt) (htt : ∀ σ H Q, tt σ H Q = Q (Ts.map fun T => V.ty (tnName T)) H) (hm : X.mg "isinstance" = none) (hT : ∀ T ∈ Ts, T ≠ .non ∧ T ≠ .exn := by decide) (hl : Ts.length ≤ 100 := by decide) (hg : Gl X "isinstance" := by rfl)
    (he : starEach [e, .Tuple ts k1 p1] X.env = (false, eval e X.env) :: starEach [.Tuple ts k1 p1] X.env := by rfl) (hpl : (backTo pos (starEach [.Tuple ts k1 p1] X.env)).any (·.1) = false := by rfl)
    (hs2 : starEach [.Tuple ts k1 p1] X.env = (false, eval (.Tuple ts k1 p1) X.env) :: starEach [] X.env := by rfl) :
    DE X W (.Call (.Name "isinstance" p) [e, .Tuple ts k1 p1] [] pos) (mIsiT Ts m) := by
  obtain ⟨te, pe, k⟩ := h
  refine ⟨_, pe_callB (call_or call_isiT call_isVT) hg hm (by decide +kernel) (pa_cons pe (pa_cons (pe_tup ht) pa_nil hs2) he) (he := he) (hpl := hpl), fun ξ μ σ H ρ S Q g s h => k ξ μ σ H ρ S _ g s (WR.bind h fun x S1 v μ1 H1 u1 s1 r1 h1 => ?_)⟩
  cases q : tyOf S1 x with
  | none => simp only [q] at h1; exact h1.elim
  | some t =>
    simp only [q] at h1
    unfold tCons tTup
    rw [htt]
    refine ⟨by rw [List.length_map, sizeLine_eq]; omega, fun p hp => ?_⟩
    have s2 := s1.fresh (o := .tup (Ts.map fun T => V.ty (tnName T))) hp
    by_cases hx : t = .exn
    · subst hx
      obtain ⟨c, ns, rfl⟩ := tyOf_exn q
      cases r1.up (.fresh hp) with
      | @exn a _ _ z =>
        obtain ⟨cls, dd, ⟨z1, D, rfl, z5, z6⟩, ⟨z2, z3, z4⟩, z7⟩ := z
        refine .inr ⟨a, D, p, dd, _, _, _, rfl, z2, z5, ?_, upd_same, clsV_all Ts, kitAny_exn z6 Ts hT, h1 _ μ1 _ (.fresh hp) s2 (.bl _)⟩
        rcases z7 with ⟨_, rfl⟩ | ⟨d, fs, q1, q2, _⟩
        · exact .inl rfl
        · exact .inr ⟨d, _, q1, q2⟩
    · exact .inl ⟨v, p, _, _, _, _, rfl, upd_same, clsV_all Ts, tyX_of s2 (r1.up (.fresh hp)) q hx, kitAny_tn t hx Ts hT, h1 _ μ1 _ (.fresh hp) s2 (.bl _)⟩
/-! ### built-in functions and types called -/
def CallD (X : Cx) (r : List V → Hp → VK → Prop) (g : Sto → List D → Option D) : Prop :=
  ∀ ξ μ H S ds vs z Q, RS (fx X ξ) μ H S → RDs (fx X ξ) μ H vs ds → g S ds = some z → (∀ w μ' H', Up μ H μ' H' → RS (fx X ξ) μ' H' S → RD (fx X ξ) μ' H' w z → Q w H') → r vs H Q
/-- .. that give a fresh list -/
def CallDL (X : Cx) (r : List V → Hp → VK → Prop) (g : Sto → List D → Option (List D)) : Prop :=
  ∀ ξ μ H S ds vs zs Q, RS (fx X ξ) μ H S → RDs (fx X ξ) μ H vs ds → g S ds = some zs → (∀ p xs μ' H', Up μ H μ' H' → H p = none → RS ((fx X ξ).hold p) μ' H' S → RDs ((fx X ξ).hold p) μ' H' xs zs → H' p = some (.lst xs) → Q (.ref p) H') → r vs H Q
def mCallB (g : Sto → List D → Option D) (a : MA) : ME := fun ρ S => (a ρ S).bind fun xs S1 => match g S1 xs with
  | some z => .ok z S1
  | none => .bad
def mCallBL (g : Sto → List D → Option (List D)) (a : MA) : MA := fun ρ S => (a ρ S).bind fun xs S1 => match g S1 xs with
  | some z => .ok z S1
  | none => .bad
theorem d_callB {id : String} {x : Str} {r : List V → Hp → VK → Prop} {g : Sto → List D → Option D} (hc : CallR X (.builtin id) r) (hd : CallD X r g) (hm : X.mg x = none) (ha : DA X W (e :: es) mr) (hv : bootBuiltins x = some (.builtin id) := by decide +kernel) (hg : Gl X x := by rfl)
    (hn : x ≠ "__name__" := by decide) (hdb : (x == ("__debug__" : Str)) = false := by decide)
    (he : starEach (e :: es) X.env = (false, eval e X.env) :: starEach es X.env := by rfl) (hpl : (backTo pos (starEach es X.env)).any (·.1) = false := by rfl) : DE X W (.Call (.Name x p) (e :: es) [] pos) (mCallB g mr) := by
  obtain ⟨ta, pa, ka⟩ := ha
  refine ⟨_, pe_callB hc hg hm hv pa hn hdb he hpl, fun ξ μ σ H ρ S Q g0 s h => ka ξ μ σ H ρ S _ g0 s (WR.bind h fun xs S1 vs μ1 H1 u1 s1 r1 h1 => ?_)⟩
  cases q : g S1 xs with
  | none => rw [q] at h1; exact h1.elim
  | some z =>
    rw [q] at h1
    exact hd ξ μ1 H1 S1 xs vs z Q s1 r1 q h1
theorem d_callTy {T : String} {x : Str} {r : List V → Hp → VK → Prop} {g : Sto → List D → Option D} (hc : CallR X (.type T) r) (hd : CallD X r g) (hm : X.mg x = none) (ha : DA X W (e :: es) mr) (hv : bootBuiltins x = some (.type T) := by decide +kernel) (hg : Gl X x := by rfl)
    (hn : x ≠ "__name__" := by decide) (hdb : (x == ("__debug__" : Str)) = false := by decide)
    (he : starEach (e :: es) X.env = (false, eval e X.env) :: starEach es X.env := by rfl) (hpl : (backTo pos (starEach es X.env)).any (·.1) = false := by rfl) : DE X W (.Call (.Name x p) (e :: es) [] pos) (mCallB g mr) := by
  obtain ⟨ta, pa, ka⟩ := ha
  refine ⟨_, pe_callTy hc hg hm hv pa hn hdb he hpl, fun ξ μ σ H ρ S Q g0 s h => ka ξ μ σ H ρ S _ g0 s (WR.bind h fun xs S1 vs μ1 H1 u1 s1 r1 h1 => ?_)⟩
  cases q : g S1 xs with
  | none => rw [q] at h1; exact h1.elim
  | some z =>
    rw [q] at h1
    exact hd ξ μ1 H1 S1 xs vs z Q s1 r1 q h1
theorem dl_callTy {T : String} {x : Str} {r : List V → Hp → VK → Prop} {g : Sto → List D → Option (List D)} (hc : CallR X (.type T) r) (hd : CallDL X r g) (hm : X.mg x = none) (ha : DA X W (e :: es) mr) (hv : bootBuiltins x = some (.type T) := by decide +kernel) (hg : Gl X x := by rfl)
    (hn : x ≠ "__name__" := by decide) (hdb : (x == ("__debug__" : Str)) = false := by decide)
    (he : starEach (e :: es) X.env = (false, eval e X.env) :: starEach es X.env := by rfl) (hpl : (backTo pos (starEach es X.env)).any (·.1) = false := by rfl) : DL X W (.Call (.Name x p) (e :: es) [] pos) (mCallBL g mr) := by
  obtain ⟨ta, pa, ka⟩ := ha
  refine ⟨_, pe_callTy hc hg hm hv pa hn hdb he hpl, fun ξ μ σ H ρ S Q g0 s h => ka ξ μ σ H ρ S _ g0 s (WL'.bind h fun xs S1 vs μ1 H1 u1 s1 r1 h1 => ?_)⟩
  cases q : g S1 xs with
  | none => rw [q] at h1; exact h1.elim
  | some z =>
    rw [q] at h1
    exact hd ξ μ1 H1 S1 xs vs z Q s1 r1 q h1
def gLen : Sto → List D → Option D := fun S ds => match ds with
  | [.str z] => if z.length ≤ 16777216 then some (.int z.length) else none
  | [d] => (seqOf S d).map fun ds => .int ds.length
  | _ => none
theorem c_len : CallD X (fun xs H Q => ∃ x n, xs = [x] ∧ LenV X.K x H n ∧ Q (.int n) H) gLen := by
  intro ξ μ H S ds vs z Q s r e k
  unfold gLen at e
  cases r with
  | nil => exact nomatch e
  | @cons v vs d ds r rr =>
    cases rr with
    | cons _ _ => cases d <;> exact nomatch e
    | nil =>
      have main : ∀ es, seqOf S d = some es → D.int es.length = z → ∃ x n, [v] = [x] ∧ LenV X.K x H n ∧ Q (.int n) H := fun es h1 h2 => by
        obtain ⟨a, xs, rfl, h3, h4⟩ := RD.seqS s r h1
        refine ⟨.ref a, xs.length, rfl, h3.imp (fun z => ⟨xs, z, rfl⟩) fun z => ⟨xs, z, rfl⟩, ?_⟩
        rw [h4.length]
        subst h2
        exact k _ μ H .refl s (.int _)
      cases r with
      | str x =>
        simp only at e
        by_cases c : x.length ≤ 16777216
        · rw [if_pos c] at e; cases e
          exact ⟨_, _, rfl, ⟨by rw [sizeLine_eq]; exact c, rfl⟩, k _ μ H .refl s (.int _)⟩
        · rw [if_neg c] at e; exact nomatch e
      | tup f r => exact main _ rfl (Option.some.inj e)
      | lst f r => exact main _ rfl (Option.some.inj e)
      | @cell a n ea =>
        simp only at e
        cases q : seqOf S (.cell n) with
        | none => rw [q] at e; exact nomatch e
        | some es => rw [q] at e; exact main es q (Option.some.inj e)
      | _ => exact nomatch e
def gInt1 : Sto → List D → Option D := fun _ ds => match ds with
  | [.int i] => some (.int i)
  | [.bl b] => some (.int (if b then 1 else 0))
  | _ => none
theorem c_int1 : CallD X (fun xs H Q => (∃ i, xs = [.int i] ∧ Q (.int i) H) ∨ ∃ k, xs = [.bl k] ∧ Q (.int (if k then 1 else 0)) H) gInt1 := by
  intro ξ μ H S ds vs z Q s r e k
  unfold gInt1 at e
  cases r with
  | nil => exact nomatch e
  | @cons v vs d ds r rr =>
    cases rr with
    | cons _ _ => cases d <;> exact nomatch e
    | nil =>
      cases r with
      | int i => cases e; exact .inl ⟨i, rfl, k _ μ H .refl s (.int _)⟩
      | bl b => cases e; exact .inr ⟨b, rfl, k _ μ H .refl s (.int _)⟩
      | _ => exact nomatch e
def gII (f : Int → Int → Int) : Sto → List D → Option D := fun _ ds => match ds with
  | [.int i, .int j] => some (.int (f i j))
  | _ => none
theorem c_II {f : Int → Int → Int} : CallD X (fun xs H Q => ∃ i j, xs = [.int i, .int j] ∧ Q (.int (f i j)) H) (gII f) := by
  intro ξ μ H S ds vs z Q s r e k
  unfold gII at e
  cases r with
  | nil => exact nomatch e
  | @cons v vs d ds r rr =>
    cases rr with
    | nil => cases d <;> exact nomatch e
    | @cons v2 vs2 d2 ds2 r2 rr2 =>
      cases rr2 with
      | cons _ _ => cases d <;> cases d2 <;> exact nomatch e
      | nil =>
        cases r with
        | int i =>
          cases r2 with
          | int j => cases e; exact ⟨i, j, rfl, k _ μ H .refl s (.int _)⟩
          | _ => exact nomatch e
        | _ => exact nomatch e
abbrev gMax2 := gII fun i j => if j > i then j else i
abbrev gMin2 := gII fun i j => if j < i then j else i
def gTuple : Sto → List D → Option D := fun S ds => match ds with
  | [d] => (seqOf S d).map .tup
  | _ => none
theorem c_tuple : CallD X (fun xs H Q => ∃ p ys, xs = [.ref p] ∧ ((SqL X.K H p ys ∧ ∀ l, H l = none → Q (.ref l) (upd H l (.tup ys))) ∨ (SqT X.K H p ys ∧ Q (.ref p) H))) gTuple := by
  intro ξ μ H S ds vs z Q s r e k
  unfold gTuple at e
  cases r with
  | nil => exact nomatch e
  | @cons v vs d ds r rr =>
    cases rr with
    | cons _ _ => exact nomatch e
    | nil =>
      simp only at e
      have lst : ∀ es, lstOf S d = some es → D.tup es = z → ∃ p ys, [v] = [.ref p] ∧ ((SqL X.K H p ys ∧ ∀ l, H l = none → Q (.ref l) (upd H l (.tup ys))) ∨ (SqT X.K H p ys ∧ Q (.ref p) H)) := fun es h1 h2 => by
        obtain ⟨a, xs, rfl, h3, h4⟩ := RD.lstS s r h1
        subst h2
        exact ⟨a, xs, rfl, .inl ⟨h3, fun l hl => k _ μ _ (.fresh hl) (s.fresh hl) (.tup (.inl ⟨.inl upd_same, s.out hl, s.outX hl⟩) (h4.up (.fresh hl)))⟩⟩
      cases r with
      | tup f r =>
        cases Option.some.inj e
        exact ⟨_, _, rfl, .inr ⟨f.sq, k _ μ H .refl s (.tup f r)⟩⟩
      | lst f r => exact lst _ rfl (Option.some.inj e)
      | @cell a n ea =>
        cases q : lstOf S (.cell n) with
        | none =>
          have e : (lstOf S (.cell n)).map D.tup = some z := e
          rw [q] at e; exact nomatch e
        | some es =>
          have e : (lstOf S (.cell n)).map D.tup = some z := e
          rw [q] at e; exact lst es q (Option.some.inj e)
      | _ => exact nomatch e
def gList : Sto → List D → Option (List D) := fun S ds => match ds with
  | [d] => seqOf S d
  | _ => none
theorem c_list : CallDL X (fun xs H Q => ∃ p ys, xs = [.ref p] ∧ (SqL X.K H p ys ∨ SqT X.K H p ys) ∧ ∀ l, H l = none → Q (.ref l) (upd H l (.lst ys))) gList := by
  intro ξ μ H S ds vs z Q s r e k
  unfold gList at e
  cases r with
  | nil => exact nomatch e
  | @cons v vs d ds r rr =>
    cases rr with
    | cons _ _ => exact nomatch e
    | nil =>
      obtain ⟨a, xs, rfl, h1, h2⟩ := RD.seqS s r e
      exact ⟨a, xs, rfl, h1, fun l hl => k l xs μ _ (.fresh hl) hl (s.holds hl) (h2.mv (.holds hl)) upd_same⟩
def blsOf : List D → Option (List Bool)
  | [] => some []
  | .bl b :: ds => (blsOf ds).map (b :: ·)
  | _ :: _ => none
theorem bls_of {F : Fx} {μ : List Addr} {H : Hp} : ∀ {vs : List V} {ds : List D} {bs : List Bool}, RDs F μ H vs ds → blsOf ds = some bs → vs = bs.map V.bl
  | _, [], bs, r, e => by cases r; cases e; rfl
  | _, d :: ds, bs, r, e => by
    cases r with
    | cons a b =>
      cases a with
      | bl x =>
        have e : (blsOf ds).map (x :: ·) = some bs := e
        cases q : blsOf ds with
        | none => rw [q] at e; exact nomatch e
        | some cs =>
          rw [q] at e; cases e
          rw [bls_of b q] <;> rfl
      | _ => exact nomatch e
def gAll : Sto → List D → Option D := fun S ds => match ds with
  | [d] => (lstOf S d).bind fun es => (blsOf es).map fun bs => .bl (bs.all id)
  | _ => none
theorem c_all : CallD X (rAll X.K) gAll := by
  intro ξ μ H S ds vs z Q s r e k
  unfold gAll at e
  cases r with
  | nil => exact nomatch e
  | @cons v vs d ds r rr =>
    cases rr with
    | cons _ _ => exact nomatch e
    | nil =>
      simp only at e
      cases q : lstOf S d with
      | none => rw [q] at e; exact nomatch e
      | some es =>
        rw [q] at e
        have e : (blsOf es).map (fun bs => D.bl (bs.all id)) = some z := e
        cases q' : blsOf es with
        | none => rw [q'] at e; exact nomatch e
        | some bs =>
          rw [q'] at e; cases e
          obtain ⟨a, xs, rfl, h1, h2⟩ := RD.lstS s r q
          have e := bls_of h2 q'
          subst e
          exact ⟨a, bs, rfl, h1, k _ μ H .refl s (.bl _)⟩
/-! ### lists put together -/
def mCatL (a b : MA) : MA := fun ρ S => (a ρ S).bind fun xs S1 => (b ρ S1).bind fun ys S2 => if xs.length + ys.length ≤ 16777216 then .ok (xs ++ ys) S2 else .bad
theorem WL'.bindL {F : Fx} {Q : VK} {Q1 : VK} {Wx : Value → Option Addr → Hp → Prop} {μ : List Addr} {H : Hp} {r : Res (List D)} {f : List D → Sto → Res (List D)} (h : WL' F (r.bind f) Q Wx μ H)
    (k : ∀ ds S1 p xs μ1 H1, Up μ H μ1 H1 → H p = none → RS (F.hold p) μ1 H1 S1 → RDs (F.hold p) μ1 H1 xs ds → H1 p = some (.lst xs) → WL' F (f ds S1) Q Wx μ1 H1 → Q1 (.ref p) H1) : WL' F r Q1 Wx μ H := by
  cases r with
  | ok x S1 => exact fun p xs μ1 H1 u1 hp s1 r1 e1 => k x S1 p xs μ1 H1 u1 hp s1 r1 e1 (WL'.shift u1 h)
  | exc c fs S => exact h
  | bad => exact h
theorem XR.hold {F : Fx} {μ : List Addr} {H : Hp} {cls : Value} {dd : Option Addr} {c : Str} {fs : List (Str × D)} {p : Addr} (h : XR (F.hold p) μ H cls dd c fs) : XR F μ H cls dd c fs := by
  obtain ⟨h1, h2⟩ := h
  refine ⟨h1, h2.imp id ?_⟩
  rintro ⟨d, vfs, e, h3, h4, h6, h5⟩
  exact ⟨d, vfs, e, h3, h4, fun q => h6 (List.mem_cons_of_mem _ q), Paired.mapP h5 fun _ _ z => ⟨z.1, z.2.mv .free⟩⟩
theorem dl_cat {na nb : MA} (ha : DL X W a na) (hb : DL X W b nb) : DL X W (.BinOp a .Add b pos) (mCatL na nb) := by
  obtain ⟨ta, pa, ka⟩ := ha
  obtain ⟨tb, pb, kb⟩ := hb
  refine ⟨_, pe_op op_cat pa pb, fun ξ μ σ H ρ S Q g s h => ka ξ μ σ H ρ S _ g s (WL'.bindL h fun ds S1 p xs μ1 H1 u1 hp s1 r1 e1 h1 => ?_)⟩
  refine kb (p :: ξ) μ1 σ H1 ρ S1 _ ?_ s1 ?_
  · exact ⟨g.len, fun i d e => by
      obtain ⟨v, h, r⟩ := (g.up u1).at_ i d e
      obtain ⟨v', h', r'⟩ := g.at_ i d e
      rw [h] at h'; cases h'
      have m : Mv (fx X ξ) μ H ((fx X ξ).hold p) μ1 H1 := ⟨fun {a xs} q => by
        rcases q.up u1 with ⟨z, n, nx⟩ | z
        · rcases q with ⟨z0, _⟩ | z0
          · refine .inl ⟨z, n, fun m => (List.mem_cons.mp m).elim (fun e => ?_) nx⟩
            subst e
            rcases z0 with z0 | ⟨o, z0⟩ <;> (rw [hp] at z0; cases z0)
          · exact .inr z0
        · exact .inr z, fun {a xs} q => by
        rcases q.up u1 with ⟨z, n, nx⟩ | z
        · rcases q with ⟨z0, _⟩ | z0
          · refine .inl ⟨z, n, fun m => (List.mem_cons.mp m).elim (fun e => ?_) nx⟩
            subst e
            rcases z0 with z0 | ⟨o, z0⟩ <;> (rw [hp] at z0; cases z0)
          · exact .inr z0
        · exact .inr z, fun q => u1.get q, rfl, fun q => q.upHold u1 hp⟩
      exact ⟨v, h, r'.mv m⟩⟩
  cases e : nb ρ S1 with
  | bad => rw [e] at h1; exact h1.elim
  | exc c fs S2 =>
    rw [e] at h1
    exact fun cls dd μ' H' u' s' x' => h1 cls dd μ' H' u' (RS.free (F := fx X ξ) (p := p) s') (XR.hold (F := fx X ξ) (p := p) x')
  | ok es S2 =>
    rw [e] at h1
    intro q ys μ2 H2 u2 hq s2 r2 e2
    have hpq : p ∉ μ1 := (s1.xi p List.mem_cons_self).1
    have ep := u2.keep _ _ e1 hpq
    by_cases c : ds.length + es.length ≤ 16777216
    · have h1 : WL' (fx X ξ) (if ds.length + es.length ≤ 16777216 then Res.ok (ds ++ es) S2 else .bad) Q (fun cls dd H' => W cls dd σ H') μ1 H1 := h1
      rw [if_pos c] at h1
      refine ⟨p, q, xs, ys, rfl, rfl, ep, e2, by rw [r1.length, r2.length, sizeLine_eq]; exact c, fun r hr => ?_⟩
      have rr : RDs (fx X ξ) μ2 H2 (xs ++ ys) (ds ++ es) := RDs.append ((r1.mv .free).up u2) ((RDs.free (F := fx X ξ) (p := p) es (RDs.free (F := fx X (p :: ξ)) (p := q) es r2)))
      have ss : RS (fx X ξ) μ2 H2 S2 := RS.free (F := fx X ξ) (p := p) (RS.free (F := fx X (p :: ξ)) (p := q) s2)
      have nr : r ∉ μ1 := fun z => ss.out hr (u2.mem z)
      exact h1 r _ μ2 _ (u2.trans (.fresh hr)) (u2.back hr nr) (ss.holds hr) (rr.mv (.holds hr)) upd_same
    · have h1 : WL' (fx X ξ) (if ds.length + es.length ≤ 16777216 then Res.ok (ds ++ es) S2 else .bad) Q (fun cls dd H' => W cls dd σ H') μ1 H1 := h1
      rw [if_neg c] at h1
      exact h1.elim
end
/-! ### statements -/
def mNop : MS := fun ρ S => .nx ρ S
def mSeq (a b : MS) : MS := fun ρ S => match a ρ S with
  | .nx ρ1 S1 => b ρ1 S1
  | o => o
def ofRes {α : Type} (r : Res α) (ρ : Rho) (k : α → Sto → Out) : Out := match r with
  | .ok a S => k a S
  | .exc c fs S => .exc c fs ρ S
  | .bad => .bad
def mAsg (i : Nat) (m : ME) : MS := fun ρ S => ofRes (m ρ S) ρ fun d S1 => .nx (ρ.set i (some d)) S1
def mRet (m : ME) : MS := fun ρ S => ofRes (m ρ S) ρ fun d S1 => .rt d S1
def mRetN : MS := fun _ S => .rt .non S
def mDrop (m : ME) : MS := fun ρ S => ofRes (m ρ S) ρ fun _ S1 => .nx ρ S1
def mIfS (c : ME) (a b : MS) : MS := fun ρ S => ofRes (c ρ S) ρ fun d S1 => match d with
  | .bl true => a ρ S1
  | .bl false => b ρ S1
  | _ => .bad
def mBrk : MS := fun ρ S => .bk ρ S
def mCont : MS := fun ρ S => .ct ρ S
section
variable {F : Fx} {α β : Type} {rel : List Addr → Hp → β → α → Prop} {μ : List Addr} {H : Hp} {E : Ends} {W : WX} {σ : St} {ρ : Rho}
/-- first r, then the statement's rest -/
theorem WS'.bind {r : Res α} {f : α → Sto → Out} {Q1 : β → Hp → Prop} (g : RG F μ H σ ρ) (h : WS' F (ofRes r ρ f) E W μ H)
    (k : ∀ x S1 v μ1 H1, Up μ H μ1 H1 → RS F μ1 H1 S1 → rel μ1 H1 v x → WS' F (f x S1) E W μ1 H1 → Q1 v H1) : WR F rel r Q1 (fun cls dd H' => W cls dd σ H') μ H := by
  cases r with
  | ok x S1 => exact fun v μ1 H1 u1 s1 r1 => k x S1 v μ1 H1 u1 s1 r1 (WS'.shift u1 h)
  | exc c fs S => exact fun cls dd μ' H' u' s' x' => h cls dd σ μ' H' u' s' (g.up u') x'
  | bad => exact h
theorem WS'.bindT {r : Res D} {f : D → Sto → Out} {Q1 : Bool → Hp → Prop} (g : RG F μ H σ ρ) (h : WS' F (ofRes r ρ f) E W μ H) (hb : ∀ d S, (∀ b, d ≠ .bl b) → f d S = .bad)
    (k : ∀ b S1 μ1 H1, Up μ H μ1 H1 → RS F μ1 H1 S1 → WS' F (f (.bl b) S1) E W μ1 H1 → Q1 b H1) : WT' F r Q1 (fun cls dd H' => W cls dd σ H') μ H := by
  cases r with
  | ok d S1 =>
    have h : WS' F (f d S1) E W μ H := h
    cases d with
    | bl b => exact fun μ1 H1 u1 s1 => k b S1 μ1 H1 u1 s1 (WS'.shift u1 h)
    | _ =>
      rw [hb _ _ (by intro b e; cases e)] at h
      exact h
  | exc c fs S => exact fun cls dd μ' H' u' s' x' => h cls dd σ μ' H' u' s' (g.up u') x'
  | bad => exact h
end
section
variable {X : Cx} {W : WX} {e a b c : Expr} {es : List Expr} {st : Stmt} {sts ts : List Stmt} {ma mb mc m : ME} {mr : MA} {m1 m2 : MS} {pos p p1 p2 p3 : Pos}
theorem dss_nil : DSs X W [] mNop := ⟨_, pss_nil, fun ξ μ σ H ρ S D g s h => h σ μ H .refl s g⟩
theorem WS'.seq {F : Fx} {μ : List Addr} {H : Hp} {D : Ends} {W : WX} {o : Out} {k : Rho → Sto → Out} {u : TS} (h : WS' F (match o with | .nx ρ1 S1 => k ρ1 S1 | o => o) D W μ H)
    (hu : ∀ σ ρ1 S1 μ1 H1, Up μ H μ1 H1 → RS F μ1 H1 S1 → RG F μ1 H1 σ ρ1 → WS' F (k ρ1 S1) D W μ1 H1 → u D σ H1) : WS' F o { D with nx := u D } W μ H := by
  cases o with
  | nx ρ1 S1 => exact fun σ μ1 H1 u1 s1 g1 => hu σ ρ1 S1 μ1 H1 u1 s1 g1 (WS'.shift u1 h)
  | _ => exact h
theorem dss_cons (h1 : DS X W st m1) (h2 : DSs X W sts m2) : DSs X W (st :: sts) (mSeq m1 m2) := by
  obtain ⟨ta, pa, ka⟩ := h1
  obtain ⟨tb, pb, kb⟩ := h2
  exact ⟨_, pss_cons pa pb, fun ξ μ σ H ρ S D g s h => ka ξ μ σ H ρ S _ g s (WS'.seq h fun σ' ρ1 S1 μ1 H1 u1 s1 g1 h1 => kb ξ μ1 σ' H1 ρ1 S1 D g1 s1 h1)⟩
theorem dss_one (h1 : DS X W st m1) : DSs X W [st] m1 := let ⟨_, p, k⟩ := h1; ⟨_, pss_one p, k⟩
theorem ds_break : DS X W (.Break pos) mBrk := ⟨_, ps_break, fun ξ μ σ H ρ S D g s h => h σ μ H .refl s g⟩
theorem ds_set (i : Nat) {x : Str} {pos' : Pos} (hN : X.N.Nodup) (he : DE X W e m) (hi : X.N[i]? = some x := by rfl) (hx : Loc X.env.scope x := by first | exact Or.inl rfl | exact Or.inr rfl) (hs : swapsWith e (some (.Name x pos')) pos.line X.env = pure false := by rfl)
    (hf : X.fn x = true ∨ X.env.scope.names.lookup x = some .local := by first | exact .inl rfl | exact .inr rfl) : DS X W (.Assign [.Name x pos'] e pos) (mAsg i m) := by
  obtain ⟨te, p, k⟩ := he
  refine ⟨_, ps_set hN hi hx p hs hf, fun ξ μ σ H ρ S D g s h => k ξ μ σ H ρ S _ g s (WS'.bind g h fun x S1 v μ1 H1 u1 s1 r1 h1 => ?_)⟩
  exact h1 _ μ1 H1 .refl s1 ((g.up u1).set i r1)
theorem ds_ret (he : DE X W e m) : DS X W (.Return (some e) pos) (mRet m) := by
  obtain ⟨te, p, k⟩ := he
  exact ⟨_, ps_ret p, fun ξ μ σ H ρ S D g s h => k ξ μ σ H ρ S _ g s (WS'.bind g h fun x S1 v μ1 H1 u1 s1 r1 h1 => h1 _ μ1 H1 .refl s1 r1)⟩
theorem ds_expr (he : DE X W e m) (hs : swapsWith e none pos.line X.env = pure false := by rfl) : DS X W (.Expr e pos) (mDrop m) := by
  obtain ⟨te, p, k⟩ := he
  exact ⟨_, ps_expr p hs, fun ξ μ σ H ρ S D g s h => k ξ μ σ H ρ S _ g s (WS'.bind g h fun x S1 v μ1 H1 u1 s1 r1 h1 => h1 _ μ1 H1 .refl s1 (g.up u1))⟩
theorem ds_if (hc : DT X W c mc) (ha : DSs X W sts m1) (hb : DSs X W ts m2) : DS X W (.If c sts ts pos) (mIfS mc m1 m2) := by
  obtain ⟨tc, pc, kc⟩ := hc
  obtain ⟨ta, pa, ka⟩ := ha
  obtain ⟨tb, pb, kb⟩ := hb
  refine ⟨_, ps_if pc pa pb, fun ξ μ σ H ρ S D g s h => kc ξ μ σ H ρ S _ g s (WS'.bindT g h (fun d S h => by cases d <;> first | rfl | exact absurd rfl (h _)) fun c S1 μ1 H1 u1 s1 h1 => ?_)⟩
  cases c with
  | true => exact ka ξ μ1 σ H1 ρ S1 D (g.up u1) s1 h1
  | false => exact kb ξ μ1 σ H1 ρ S1 D (g.up u1) s1 h1
/-! ### targets -/
structure DG (X : Cx) (tg : Expr) (f : D → Rho → Option Rho) (is : List Nat) : Prop where
  ex : ∃ t, PG X tg t ∧ ∀ ξ μ σ H ρ v d ρ' (Q : St → Hp → Prop), RG (fx X ξ) μ H σ ρ → RD (fx X ξ) μ H v d → f d ρ = some ρ' →
    (∀ σ', RG (fx X ξ) μ H σ' ρ' → (∀ js : List Nat, (∀ i ∈ is, i ∈ js) → wipe σ' js = wipe σ js) → Q σ' H) → t v σ H Q
structure DGs (X : Cx) (tg : List Expr) (f : List D → Rho → Option Rho) (is : List Nat) : Prop where
  ex : ∃ t, PGs X tg t ∧ ∀ ξ μ σ H ρ vs ds ρ' (Q : St → Hp → Prop), RG (fx X ξ) μ H σ ρ → RDs (fx X ξ) μ H vs ds → f ds ρ = some ρ' →
    (∀ σ', RG (fx X ξ) μ H σ' ρ' → (∀ js : List Nat, (∀ i ∈ is, i ∈ js) → wipe σ' js = wipe σ js) → Q σ' H) → t vs σ H Q
theorem wipe_get (σ : St) (i : Nat) : ∀ js : List Nat, (wipe σ js)[i]? = if i ∈ js ∧ i < σ.length then some none else σ[i]?
  | [] => by simp [wipe]
  | j :: js => by
    unfold wipe
    have ih := wipe_get σ i js
    by_cases hj : j = i
    · subst hj
      by_cases hl : j < σ.length
      · rw [List.getElem?_set_self (by rw [wipe_length]; exact hl), if_pos ⟨List.mem_cons_self, hl⟩]
      · rw [List.getElem?_eq_none (by rw [List.length_set, wipe_length]; omega), if_neg (fun z => hl z.2), List.getElem?_eq_none (by omega)]
    · rw [List.getElem?_set_ne hj, ih]
      have e : (i ∈ j :: js ∧ i < σ.length) ↔ (i ∈ js ∧ i < σ.length) := by
        constructor
        · rintro ⟨z, l⟩
          exact ⟨(List.mem_cons.mp z).resolve_left fun q => hj q.symm, l⟩
        · rintro ⟨z, l⟩
          exact ⟨List.mem_cons_of_mem _ z, l⟩
      by_cases q : i ∈ js ∧ i < σ.length
      · rw [if_pos q, if_pos (e.mpr q)]
      · rw [if_neg q, if_neg fun z => q (e.mp z)]
theorem wipe_set {σ : St} {i : Nat} {o : Option V} {js : List Nat} (h : i ∈ js) : wipe (σ.set i o) js = wipe σ js := by
  refine List.ext_getElem? fun k => ?_
  rw [wipe_get, wipe_get, List.length_set]
  by_cases q : k ∈ js ∧ k < σ.length
  · rw [if_pos q, if_pos q]
  · rw [if_neg q, if_neg q]
    by_cases e : i = k
    · subst e
      have l : ¬ i < σ.length := fun l => q ⟨h, l⟩
      rw [List.getElem?_eq_none (by rw [List.length_set]; omega), List.getElem?_eq_none (by omega)]
    · rw [List.getElem?_set_ne e]
def tgN (i : Nat) : D → Rho → Option Rho := fun d ρ => some (ρ.set i (some d))
theorem dg_name (i : Nat) {x : Str} (hN : X.N.Nodup) (hi : X.N[i]? = some x := by rfl) (hx : Loc X.env.scope x := by first | exact Or.inl rfl | exact Or.inr rfl) (hf : X.fn x = true ∨ X.env.scope.names.lookup x = some .local := by first | exact .inl rfl | exact .inr rfl) : DG X (.Name x pos) (tgN i) [i] :=
  ⟨_, pg_name hN hi hx hf, fun ξ μ σ H ρ v d ρ' Q g r e k => by
    cases e
    exact k _ (g.set i r) fun js h => wipe_set (h i List.mem_cons_self)⟩
def tgNil : List D → Rho → Option Rho := fun ds ρ => match ds with
  | [] => some ρ
  | _ => none
def tgCons (f : D → Rho → Option Rho) (g : List D → Rho → Option Rho) : List D → Rho → Option Rho := fun ds ρ => match ds with
  | d :: ds => (f d ρ).bind fun ρ1 => g ds ρ1
  | [] => none
theorem dgs_nil : DGs X [] tgNil [] := ⟨_, pgs_nil, fun ξ μ σ H ρ vs ds ρ' Q g r e k => by
  cases r with
  | nil => cases e; exact ⟨rfl, k σ g fun _ _ => rfl⟩
  | cons _ _ => exact nomatch e⟩
theorem dgs_cons {f : D → Rho → Option Rho} {fs : List D → Rho → Option Rho} {is js : List Nat} (h1 : DG X e f is) (h2 : DGs X es fs js) (hs : (assignEach (e :: es) X.env).map (·.2) = assign e X.env :: (assignEach es X.env).map (·.2) := by rfl) : DGs X (e :: es) (tgCons f fs) (is ++ js) := by
  obtain ⟨t1, p1, k1⟩ := h1
  obtain ⟨t2, p2, k2⟩ := h2
  refine ⟨_, pgs_cons p1 p2 hs, fun ξ μ σ H ρ vs ds ρ' Q g r e k => ?_⟩
  cases r with
  | nil => exact nomatch e
  | @cons v vs d ds r rr =>
    have e : (f d ρ).bind (fun ρ1 => fs ds ρ1) = some ρ' := e
    cases q : f d ρ with
    | none => rw [q] at e; exact nomatch e
    | some ρ1 =>
      rw [q] at e
      refine ⟨v, vs, rfl, k1 ξ μ σ H ρ v d ρ1 _ g r q fun σ1 g1 w1 => ?_⟩
      refine k2 ξ μ σ1 H ρ1 vs ds ρ' Q g1 rr e fun σ2 g2 w2 => k σ2 g2 fun ks hk => ?_
      rw [w2 ks fun i hi => hk i (List.mem_append_right _ hi), w1 ks fun i hi => hk i (List.mem_append_left _ hi)]
def tgT (n : Nat) (f : List D → Rho → Option Rho) : D → Rho → Option Rho := fun d ρ => match d with
  | .tup ds => if ds.length = n then f ds ρ else none
  | _ => none
theorem dg_tup {k n : Nat} {f : List D → Rho → Option Rho} {is : List Nat} {tp : Pos} (hc : X.calm = true) (h : DGs X es f is) (hn : (assignEach es X.env).length = n := by rfl) (hst : (assignEach es X.env).findIdx? (·.1) = none := by rfl) : DG X (.Tuple es k tp) (tgT n f) is := by
  obtain ⟨t, p, k⟩ := h
  refine ⟨_, pg_tup hc p hn hst, fun ξ μ σ H ρ v d ρ' Q g r e kk => ?_⟩
  cases r with
  | @tup a xs ds fz r =>
    unfold tgT at e
    by_cases c : ds.length = n
    · simp only [if_pos c] at e
      exact ⟨a, xs, rfl, fz.sq, by rw [r.length]; exact c, k ξ μ σ H ρ xs ds ρ' Q g r e kk⟩
    · simp only [if_neg c] at e
      exact nomatch e
  | _ => exact nomatch e
/-- target = e -/
def mAsgG (f : D → Rho → Option Rho) (m : ME) : MS := fun ρ S => ofRes (m ρ S) ρ fun d S1 => match f d ρ with
  | some ρ1 => .nx ρ1 S1
  | none => .bad
theorem ds_asg {tg : Expr} {f : D → Rho → Option Rho} {is : List Nat} (he : DE X W e m) (hg : DG X tg f is) (hs : swapsWithSole [tg] e pos.line X.env = pure false := by rfl) (hw : swappedStores [tg] e X.env = pure none := by rfl) (h1 : (assignEach [tg] X.env).map (·.2) = [assign tg X.env] := by rfl) : DS X W (.Assign [tg] e pos) (mAsgG f m) := by
  obtain ⟨te, p, k⟩ := he
  obtain ⟨tg, pg, kg⟩ := hg
  refine ⟨_, ps_asg p pg hs hw h1, fun ξ μ σ H ρ S D g s h => k ξ μ σ H ρ S _ g s (WS'.bind g h fun x S1 v μ1 H1 u1 s1 r1 h1 => ?_)⟩
  cases q : f x ρ with
  | none => rw [q] at h1; exact h1.elim
  | some ρ1 =>
    rw [q] at h1
    exact kg ξ μ1 σ H1 ρ v x ρ1 _ (g.up u1) r1 q fun σ' g' _ => h1 σ' μ1 H1 .refl s1 g'
/-- o[i] = e, o a list's cell -/
def mSetIx (m o i : ME) : MS := fun ρ S => ofRes (m ρ S) ρ fun d S1 => ofRes (o ρ S1) ρ fun x S2 => ofRes (i ρ S2) ρ fun y S3 => match x, y with
  | .cell n, .int j => match S3[n]? with
    | some (.lst ds) => match ixN ds.length j with
      | some k => .nx ρ (S3.set n (.lst (ds.set k d)))
      | none => .bad
    | _ => .bad
  | _, _ => .bad
theorem ds_setIx {o i : Expr} {mo mi : ME} (he : DE X W e m) (ho : DE X W o mo) (hi : DE X W i mi)
    (ha : ∀ v, assign (.Subscript o i p) X.env v = (do
      let ov ← holding [v] (eval o X.env)
      let iv ← holding [v, ov] (eval i X.env)
      standAt p
      holding [v, ov, iv] (setItem ov iv v)
      release [v, ov, iv] []) := by intro _; rfl) (hs : swapsWithSole [.Subscript o i p] e pos.line X.env = pure false := by rfl) (hw : swappedStores [.Subscript o i p] e X.env = pure none := by rfl) : DS X W (.Assign [.Subscript o i p] e pos) (mSetIx m mo mi) := by
  obtain ⟨te, pe, ke⟩ := he
  obtain ⟨to, po, ko⟩ := ho
  obtain ⟨ti, pi, ki⟩ := hi
  refine ⟨_, ps_asg pe (pg_sub po pi set_list ha) hs hw, fun ξ μ σ H ρ S D g s h => ke ξ μ σ H ρ S _ g s (WS'.bind g h fun d S1 v μ1 H1 u1 s1 r1 h1 => ?_)⟩
  refine ko ξ μ1 σ H1 ρ S1 _ (g.up u1) s1 (WS'.bind (g.up u1) h1 fun x S2 v2 μ2 H2 u2 s2 r2 h2 => ?_)
  refine ki ξ μ2 σ H2 ρ S2 _ (g.up (u1.trans u2)) s2 (WS'.bind (g.up (u1.trans u2)) h2 fun y S3 v3 μ3 H3 u3 s3 r3 h3 => ?_)
  have rd := r1.up (u2.trans u3)
  have rx := r2.up u3
  cases rx with
  | @cell a n ea =>
    cases r3 with
    | int j =>
      simp only at h3
      cases q : S3[n]? with
      | none => rw [q] at h3; exact h3.elim
      | some c =>
        rw [q] at h3
        cases c with
        | lst ds =>
          simp only at h3
          cases q2 : ixN ds.length j with
          | none => rw [q2] at h3; exact h3.elim
          | some k =>
            rw [q2] at h3
            obtain ⟨xs, e1, e2⟩ := s3.at_ n a _ ea q
            refine ⟨a, xs, j, k, rfl, rfl, e1, by rw [e2.length]; exact q2, ?_⟩
            exact h3 σ μ3 _ (.write ea) (s3.write ea ⟨_, upd_same, ((e2.set k rd).up (.write ea))⟩) (g.up (u1.trans (u2.trans (u3.trans (.write ea)))))
        | _ => exact h3.elim
    | _ => exact h3.elim
  | _ => exact h3.elim
/-- o.append(e), o a list's cell -/
def mApp (o m : ME) : MS := fun ρ S => ofRes (o ρ S) ρ fun x S1 => match x with
  | .cell n => match S1[n]? with
    | some (.lst _) => ofRes (m ρ S1) ρ fun d S2 => match S2[n]? with
      | some (.lst ds) => if ds.length < 16777216 then .nx ρ (S2.set n (.lst (ds ++ [d]))) else .bad
      | _ => .bad
    | _ => .bad
  | _ => .bad
theorem ds_app {o : Expr} {mo : ME} (ho : DE X W o mo) (he : DE X W e m) (hp : ∀ {to te : TE}, PE X o to → PE X e te → PS X st (tDrop (tBM X.K "list" rAppend to (tCons te tNil)))) : DS X W st (mApp mo m) := by
  obtain ⟨to, po, ko⟩ := ho
  obtain ⟨te, pe, ke⟩ := he
  refine ⟨_, hp po pe, fun ξ μ σ H ρ S D g s h => ?_⟩
  refine ko ξ μ σ H ρ S _ g s (WS'.bind g h fun x S1 v μ1 H1 u1 s1 r1 h1 => ?_)
  cases r1 with
  | @cell a n ea =>
    simp only at h1
    cases q : S1[n]? with
    | none => rw [q] at h1; exact h1.elim
    | some c =>
      rw [q] at h1
      cases c with
      | lst ds0 =>
        simp only at h1
        obtain ⟨xs0, e1, _⟩ := s1.at_ n a _ ea q
        refine ⟨.inl ⟨rfl, _, SqL.of e1⟩, ?_⟩
        refine ke ξ μ1 σ H1 ρ S1 _ (g.up u1) s1 (WS'.bind (g.up u1) h1 fun d S2 v2 μ2 H2 u2 s2 r2 h2 => ?_)
        cases q2 : S2[n]? with
        | none => simp only [q2] at h2; exact h2.elim
        | some c2 =>
          simp only [q2] at h2
          cases c2 with
          | lst ds =>
            simp only at h2
            by_cases l : ds.length < 16777216
            · rw [if_pos l] at h2
              have ea2 := u2.get ea
              obtain ⟨xs, e2, e3⟩ := s2.at_ n a _ ea2 q2
              refine ⟨a, xs, v2, rfl, rfl, e2, by rw [e3.length, sizeLine_eq]; exact l, ?_⟩
              exact h2 σ μ2 _ (.write ea2) (s2.write ea2 ⟨_, upd_same, (e3.append (.cons r2 .nil)).up (.write ea2)⟩) (g.up (u1.trans (u2.trans (.write ea2))))
            · rw [if_neg l] at h2; exact h2.elim
          | _ => exact h2.elim
      | _ => exact h1.elim
  | _ => exact h1.elim
end
end Dm
-- text DmLoop
namespace Dm
open PySem L2
open PySem.W (Frag)
/-- more may be reserved later -/
structure Ext (F F' : Fx) (H : Hp) : Prop where
  k : F'.K = F.K
  g : F'.mg = F.mg
  x : ∀ a, a ∈ F'.ξ → a ∈ F.ξ ∨ H a = none
theorem Ext.refl {F : Fx} {H : Hp} : Ext F F H := ⟨rfl, rfl, fun _ h => .inl h⟩
theorem Mv.ext {F F' : Fx} {μ μ' : List Addr} {H H' : Hp} (e : Ext F F' H) (u : Up μ H μ' H') : Mv F μ H F' μ' H' := ⟨fun {a xs} q => by
    rcases q.up u with ⟨z, n, nx⟩ | z
    · rcases q with ⟨z0, _⟩ | z0
      · refine .inl ⟨z, n, fun m => ?_⟩
        rcases e.x _ m with q | q
        · exact nx q
        · rcases z0 with z0 | ⟨o, z0⟩ <;> (rw [q] at z0; cases z0)
      · exact .inr (by rw [e.k]; exact z0)
    · exact .inr (by rw [e.k]; exact z), fun {a xs} q => by
    rcases q.up u with ⟨z, n, nx⟩ | z
    · rcases q with ⟨z0, _⟩ | z0
      · refine .inl ⟨z, n, fun m => ?_⟩
        rcases e.x _ m with q | q
        · exact nx q
        · rcases z0 with z0 | ⟨o, z0⟩ <;> (rw [q] at z0; cases z0)
      · exact .inr (by rw [e.k]; exact z0)
    · exact .inr (by rw [e.k]; exact z), fun q => u.get q, e.g, fun {a c ns} h => by
    obtain ⟨cls, dd, e0, ⟨h1, h2, h3⟩, h4⟩ := h
    have no : ∀ {b : Addr} {o : HO}, H b = some o → b ∉ F.ξ → b ∉ F'.ξ := fun {b o} hb n m => (e.x b m).elim n fun q => by
      rw [q] at hb; cases hb
    refine ⟨cls, dd, by rw [e.g, e.k]; exact e0, ⟨u.keep _ _ h1 h2, u.notin h1 h2, no h1 h3⟩, h4.imp id ?_⟩
    rintro ⟨d, fs, e2, h5, hf, h6, h7⟩
    exact ⟨d, fs, e2, u.keep _ _ h5 h6, hf, u.notin h5 h6, no h5 h7⟩⟩
/-- an iterator gives these items -/
def ItOk (F : Fx) (μ : List Addr) (H : Hp) (J : It) (ds : List D) : Prop := ds.length ≤ 16777216 ∧
  ∀ (F' : Fx) (μ' : List Addr) (H' : Hp) (S' : Sto) (i : Nat), Ext F F' H → Up μ H μ' H' → RS F' μ' H' S' → i ≤ ds.length →
    (∀ d, ds[i]? = some d → J.go i H' ∧ ∀ x H'', J.yld i H' x H'' → Up μ' H' μ' H'' ∧ RS F' μ' H'' S' ∧ RD F' μ' H'' x d) ∧ (i = ds.length → J.stop i H')
structure DI (X : Cx) (W : WX) (tg iter : Expr) (m : MA) : Prop where
  ex : ∃ wi, PI X tg iter wi ∧ ∀ ξ μ σ H ρ S R, RG (fx X ξ) μ H σ ρ → RS (fx X ξ) μ H S → WR (fx X ξ) (fun μ H (J : It) (ds : List D) => ItOk (fx X ξ) μ H J ds) (m ρ S) R (fun cls dd H' => W cls dd σ H') μ H → wi σ H R
section
variable {X : Cx} {W : WX} {tg e a b c : Expr} {es : List Expr} {st : Stmt} {sts ts : List Stmt} {ma mb mc m : ME} {mr : MA} {m1 m2 : MS} {pos p p1 p2 p3 : Pos}
def Sized (K : Frag) (H : Hp) : Prop := ∀ a xs, SqL K H a xs ∨ SqT K H a xs → xs.length ≤ 16777216
theorem sized_of {pins : List (Addr × Obj)} {σ : St} {H : Hp} {s : Shared} (I : Inv X pins σ H s) : Sized X.K H := fun a xs h => by
  rcases h with h | h
  · obtain ⟨_, _, _, z⟩ := I.list h
    rw [sizeLine_eq] at z; exact z
  · obtain ⟨_, _, _, z⟩ := I.tuple h
    rw [sizeLine_eq] at z; exact z
theorem piSized {wi : TI} (h : PI X tg e wi) : PI X tg e (fun σ H R => wi σ H fun J H1 => Sized X.K H1 → R J H1) := ⟨fun pins s σ H R I hw =>
  thn (h.run pins s σ H _ I hw) fun v s1 h1 => thn h1 fun itv s2 ⟨it, fp, tn, J, H', a1, a2, a3, a4, a5, a6⟩ => ⟨it, fp, tn, J, H', a1, a2, a3, a4, a5, a6 (sized_of a2)⟩⟩
theorem piOr {wi wj : TI} (h : PI X tg e wi) (h' : PI X tg e wj) : PI X tg e (fun σ H R => wi σ H R ∨ wj σ H R) := ⟨fun pins s σ H R I hw =>
  hw.elim (h.run pins s σ H R I) (h'.run pins s σ H R I)⟩
theorem itt_ok {F : Fx} {μ : List Addr} {H : Hp} {a : Addr} {xs : List V} {ds : List D} (f : FzT F μ H a xs) (r : RDs F μ H xs ds) (z : Sized F.K H) : ItOk F μ H (Itt F.K a) ds := by
  refine ⟨by rw [← r.length]; exact z a xs (.inr f.sq), fun F' μ' H' S' i e u s hi => ⟨fun d hd => ?_, fun hi => ?_⟩⟩
  · obtain ⟨v, h1, h2⟩ := r.get hd
    refine ⟨⟨xs, v, (f.up u).sq, h1⟩, fun x H'' y => ?_⟩
    obtain ⟨e1, y⟩ := y
    subst e1
    have q := y xs (f.up u).sq
    rw [h1] at q; cases q
    exact ⟨.refl, s, h2.mv (.ext e u)⟩
  · exact ⟨xs, (f.up u).sq, by rw [r.length, hi]; exact Nat.le_refl _⟩
theorem itl_ok {F : Fx} {μ : List Addr} {H : Hp} {a : Addr} {xs : List V} {ds : List D} (f : FzL F μ H a xs) (r : RDs F μ H xs ds) (z : Sized F.K H) : ItOk F μ H (Itl F.K a) ds := by
  refine ⟨by rw [← r.length]; exact z a xs (.inl f.sq), fun F' μ' H' S' i e u s hi => ⟨fun d hd => ?_, fun hi => ?_⟩⟩
  · obtain ⟨v, h1, h2⟩ := r.get hd
    refine ⟨⟨xs, v, (f.up u).sq, h1⟩, fun x H'' y => ?_⟩
    obtain ⟨e1, y⟩ := y
    subst e1
    have q := y xs (f.up u).sq
    rw [h1] at q; cases q
    exact ⟨.refl, s, h2.mv (.ext e u)⟩
  · exact ⟨xs, (f.up u).sq, by rw [r.length, hi]; exact Nat.le_refl _⟩
/-- over a tuple, a list that stands still -/
def iSeq (m : ME) : MA := fun ρ S => (m ρ S).bind fun d S1 => match d with
  | .tup ds => .ok ds S1
  | .lst ds => .ok ds S1
  | _ => .bad
theorem di_seq (h : DE X W e m) : DI X W tg e (iSeq m) := by
  obtain ⟨te, pe, k⟩ := h
  refine ⟨_, piOr (piSized (pi_tup pe)) (piSized (pi_list pe)), fun ξ μ σ H ρ S R g s h => ?_⟩
  cases e1 : m ρ S with
  | bad => unfold iSeq at h; rw [e1] at h; exact h.elim
  | exc c fs S1 =>
    unfold iSeq at h; rw [e1] at h
    refine .inl (k ξ μ σ H ρ S _ g s ?_)
    rw [e1]; exact h
  | ok d S1 =>
    cases d with
    | tup ds =>
      refine .inl (k ξ μ σ H ρ S _ g s ?_)
      unfold iSeq at h
      rw [e1] at h ⊢
      intro v μ1 H1 u1 s1 r1
      cases r1 with
      | @tup a xs _ f r => exact ⟨a, rfl, ⟨xs, f.sq⟩, fun z => h _ μ1 H1 u1 s1 (itt_ok f r z)⟩
    | lst ds =>
      refine .inr (k ξ μ σ H ρ S _ g s ?_)
      unfold iSeq at h
      rw [e1] at h ⊢
      intro v μ1 H1 u1 s1 r1
      cases r1 with
      | @lst a xs _ f r => exact ⟨a, rfl, ⟨xs, f.sq⟩, fun z => h _ μ1 H1 u1 s1 (itl_ok f r z)⟩
    | _ => unfold iSeq at h; rw [e1] at h; exact h.elim
/-- over range(n), range(a, n) -/
def rngD (lo : Int) (n : Nat) : List D := (List.range n).map fun (i : Nat) => D.int (lo + i)
theorem rngD_length {lo : Int} {n : Nat} : (rngD lo n).length = n := by unfold rngD; rw [List.length_map, List.length_range]
theorem itr_ok {F : Fx} {μ : List Addr} {H : Hp} {lo : Int} {n : Nat} (hn : n ≤ 16777216) : ItOk F μ H (Itr lo n) (rngD lo n) := by
  refine ⟨by rw [rngD_length]; exact hn, fun F' μ' H' S' i e u s hi => ⟨fun d hd => ?_, fun hi => ?_⟩⟩
  · have hl : i < n := by
      have q := (List.getElem?_eq_some_iff.mp hd).1
      rw [rngD_length] at q; exact q
    refine ⟨hl, fun x H'' y => ?_⟩
    obtain ⟨e1, y⟩ := y
    subst e1
    subst y
    have e2 : d = .int (lo + i) := by
      unfold rngD at hd
      rw [List.getElem?_map, List.getElem?_range hl] at hd
      exact (Option.some.inj hd).symm
    subst e2
    exact ⟨.refl, s, .int _⟩
  · rw [rngD_length] at hi
    exact Nat.le_of_eq hi.symm
noncomputable def iRange1 (a : MA) : MA := fun ρ S => (a ρ S).bind fun ds S1 => match ds with
  | [.int j] => @ite _ (j ≤ 16777216 ∧ -4611686018427387904 ≤ j) (Classical.propDecidable _) (.ok (rngD 0 j.toNat) S1) .bad
  | _ => .bad
theorem di_range1 (ha : DA X W [a] mr) (hm : X.mg "range" = none) (hg : Gl X "range" := by rfl) (hs : starEach [a] X.env = [(false, eval a X.env)] := by rfl) : DI X W tg (.Call (.Name "range" p) [a] [] pos) (iRange1 mr) := by
  obtain ⟨ta, pa, ka⟩ := ha
  refine ⟨_, pi_range1 hg hm pa hs, fun ξ μ σ H ρ S R g s h => ka ξ μ σ H ρ S _ g s (WR.bind h fun ds S1 vs μ1 H1 u1 s1 r1 h1 => ?_)⟩
  cases r1 with
  | nil => exact h1.elim
  | @cons v vs d ds r rr =>
    cases rr with
    | cons _ _ => cases d <;> exact h1.elim
    | nil =>
      cases r with
      | int j =>
        simp only at h1
        by_cases c : j ≤ 16777216 ∧ -4611686018427387904 ≤ j
        · rw [if_pos c] at h1
          exact ⟨j, rfl, by omega, by omega, h1 _ μ1 H1 .refl s1 (itr_ok (by omega))⟩
        · rw [if_neg c] at h1; exact h1.elim
      | _ => exact h1.elim
noncomputable def iRange2 (a : MA) : MA := fun ρ S => (a ρ S).bind fun ds S1 => match ds with
  | [.int i, .int j] => @ite _ (-1000000000000 ≤ i ∧ i ≤ 1000000000000 ∧ -1000000000000 ≤ j ∧ j ≤ 1000000000000 ∧ j - i ≤ 16777216) (Classical.propDecidable _) (.ok (rngD i (j - i).toNat) S1) .bad
  | _ => .bad
theorem di_range2 (ha : DA X W [a, b] mr) (hm : X.mg "range" = none) (hg : Gl X "range" := by rfl) (hs : starEach [a, b] X.env = [(false, eval a X.env), (false, eval b X.env)] := by rfl) (hs2 : starEach [b] X.env = [(false, eval b X.env)] := by rfl) :
    DI X W tg (.Call (.Name "range" p) [a, b] [] pos) (iRange2 mr) := by
  obtain ⟨ta, pa, ka⟩ := ha
  refine ⟨_, pi_range2 hg hm pa hs hs2, fun ξ μ σ H ρ S R g s h => ka ξ μ σ H ρ S _ g s (WR.bind h fun ds S1 vs μ1 H1 u1 s1 r1 h1 => ?_)⟩
  cases r1 with
  | nil => exact h1.elim
  | @cons v vs d ds r rr =>
    cases rr with
    | nil => cases d <;> exact h1.elim
    | @cons v2 vs2 d2 ds2 r2 rr2 =>
      cases rr2 with
      | cons _ _ => cases d <;> cases d2 <;> exact h1.elim
      | nil =>
        cases r with
        | int i =>
          cases r2 with
          | int j =>
            simp only at h1
            by_cases c : -1000000000000 ≤ i ∧ i ≤ 1000000000000 ∧ -1000000000000 ≤ j ∧ j ≤ 1000000000000 ∧ j - i ≤ 16777216
            · rw [if_pos c] at h1
              exact ⟨i, j, rfl, ⟨by omega, by omega, by omega, by omega⟩, h1 _ μ1 H1 .refl s1 (itr_ok (by omega))⟩
            · rw [if_neg c] at h1; exact h1.elim
          | _ => exact h1.elim
        | _ => exact h1.elim
/-! ### for -/
def forL (f : D → Rho → Option Rho) (mb : MS) : List D → Rho → Sto → Out
  | [], ρ, S => .nx ρ S
  | d :: r, ρ, S => match f d ρ with
    | none => .bad
    | some ρ1 => match mb ρ1 S with
      | .nx ρ2 S2 => forL f mb r ρ2 S2
      | .ct ρ2 S2 => forL f mb r ρ2 S2
      | .bk ρ2 S2 => .nx ρ2 S2
      | .rt d S2 => .rt d S2
      | .exc c fs ρ2 S2 => .exc c fs ρ2 S2
      | .bad => .bad
def mFor (mi : MA) (f : D → Rho → Option Rho) (mb : MS) : MS := fun ρ S => ofRes (mi ρ S) ρ fun ds S1 => forL f mb ds ρ S1
theorem ds_for {f : D → Rho → Option Rho} {is : List Nat} {mb : MS} (hp : PassesOwn (model X.prog X.w) X.A X.env X.xe) (hc : X.calm = true) (hi : DI X W tg e mr) (hg : DG X tg f is) (hb : DSs X W sts mb)
    (hs : ∀ x, foldedSetIterable e X.env x = pure x := by intro _; rfl) : DS X W (.For tg e sts [] pos) (mFor mr f mb) := by
  obtain ⟨wi, pi, ki⟩ := hi
  obtain ⟨tg', pg, kg⟩ := hg
  obtain ⟨tb, pb, kb⟩ := hb
  refine ⟨_, ps_for hp hc pi pg pb hs, fun ξ μ σ H ρ S D g s h => ki ξ μ σ H ρ S _ g s (WS'.bind g h fun ds S1 J μ1 H1 u1 s1 r1 h1 => ?_)⟩
  refine ⟨fun i m σ' H' => ∃ μ' ρ' S', Up μ1 H1 μ' H' ∧ RS (fx X ξ) μ' H' S' ∧ RG (fx X ξ) μ' H' σ' ρ' ∧ i ≤ ds.length ∧ m = ds.length - i ∧ WS' (fx X ξ) (forL f mb (ds.drop i) ρ' S') D W μ' H',
    ⟨_, μ1, ρ, S1, .refl, s1, g.up u1, Nat.zero_le _, rfl, by rw [List.drop_zero]; exact h1⟩, ?_⟩
  rintro i m σ' H' ⟨μ', ρ', S', u', s', g', hi, rfl, w⟩
  obtain ⟨t1, t2⟩ := r1.2 (fx X ξ) μ' H' S' i .refl u' s' hi
  by_cases hl : i < ds.length
  · have hd : ds[i]? = some ds[i] := List.getElem?_eq_getElem hl
    obtain ⟨go, yl⟩ := t1 _ hd
    rw [List.drop_eq_getElem_cons hl] at w
    unfold forL at w
    cases ef : f ds[i] ρ' with
    | none => rw [ef] at w; exact w.elim
    | some ρ1 =>
      rw [ef] at w
      simp only at w
      refine .inr ⟨go, fun σ2 H2 => ∃ μ' ρ' S', Up μ1 H1 μ' H2 ∧ RS (fx X ξ) μ' H2 S' ∧ RG (fx X ξ) μ' H2 σ2 ρ' ∧ WS' (fx X ξ) (forL f mb (ds.drop (i + 1)) ρ' S') D W μ' H2,
        fun σ2 H2 ⟨μ2, ρ2, S2, a1, a2, a3, a4⟩ => ⟨_, by omega, μ2, ρ2, S2, a1, a2, a3, hl, rfl, a4⟩, fun x H2 y => ?_⟩
      obtain ⟨u2, s2, r2⟩ := yl x H2 y
      refine kg ξ μ' σ' H2 ρ' x _ ρ1 _ (g'.up u2) r2 ef fun σ2 g2 _ => ?_
      refine kb ξ μ' σ2 H2 ρ1 S' _ g2 s2 ?_
      have w := WS'.shift u2 w
      cases eb : mb ρ1 S' with
      | nx ρ2 S2 =>
        rw [eb] at w
        exact fun σ3 μ3 H3 u3 s3 g3 => ⟨μ3, ρ2, S2, u'.trans (u2.trans u3), s3, g3, w.shift u3⟩
      | ct ρ2 S2 =>
        rw [eb] at w
        exact fun σ3 μ3 H3 u3 s3 g3 => ⟨μ3, ρ2, S2, u'.trans (u2.trans u3), s3, g3, w.shift u3⟩
      | bk ρ2 S2 => rw [eb] at w; exact w
      | rt d S2 => rw [eb] at w; exact w
      | exc c fs ρ2 S2 => rw [eb] at w; exact w
      | bad => rw [eb] at w; exact w
  · have e : i = ds.length := by omega
    rw [e, List.drop_length] at w
    exact .inl ⟨t2 e, w σ' μ' H' .refl s' g'⟩
/-! ### for over a list's cell, as it stands at each turn -/
/-! ### while -/
end
/-! ### comprehensions -/
def wipeD (ρ : Rho) : List Nat → Rho
  | [] => ρ
  | v :: vs => (wipeD ρ vs).set v none
theorem RG.wipe {F : Fx} {μ : List Addr} {H : Hp} {σ : St} {ρ : Rho} (g : RG F μ H σ ρ) : ∀ vs : List Nat, RG F μ H (L2.wipe σ vs) (wipeD ρ vs)
  | [] => g
  | v :: vs => (RG.wipe g vs).forget (σ' := σ) v
def lcL (f : D → Rho → Option Rho) (mt me : ME) (ρ : Rho) : List D → Sto → Option (List D × Sto)
  | [], S => some ([], S)
  | d :: r, S => match f d ρ with
    | none => none
    | some ρ1 => match mt ρ1 S with
      | .ok (.bl true) S1 => match me ρ1 S1 with
        | .ok y S2 => match lcL f mt me ρ r S2 with
          | some (ys, S3) => some (y :: ys, S3)
          | none => none
        | _ => none
      | .ok (.bl false) S1 => lcL f mt me ρ r S1
      | _ => none
def mLc (mi : MA) (f : D → Rho → Option Rho) (mt me : ME) (vs : List Nat) : MA := fun ρ S => (mi ρ S).bind fun ds S1 => match lcL f mt me (wipeD ρ vs) ds S1 with
  | some (ys, S2) => .ok ys S2
  | none => .bad
def mYes : ME := fun _ S => .ok (.bl true) S
abbrev W0 : WX := fun _ _ _ _ => False
structure DTs (X : Cx) (W : WX) (es : List Expr) (m : ME) : Prop where
  ex : ∃ te, PTs X es te ∧ ∀ ξ μ σ H ρ S Q, RG (fx X ξ) μ H σ ρ → RS (fx X ξ) μ H S → WT' (fx X ξ) (m ρ S) Q (fun cls dd H' => W cls dd σ H') μ H → te σ H Q
section
variable {X : Cx} {W : WX} {tg e a b c : Expr} {es : List Expr} {st : Stmt} {sts ts : List Stmt} {ma mb mc m : ME} {mr : MA} {m1 m2 : MS} {pos p p1 p2 p3 : Pos}
theorem dts_nil : DTs X W [] mYes := ⟨_, pts_nil, fun ξ μ σ H ρ S Q g s h => h μ H .refl s⟩
theorem dts_one (h : DT X W c mc) : DTs X W [c] mc := let ⟨_, p, k⟩ := h; ⟨_, pts_one p, k⟩
/-- one word for all contexts of a family -/
theorem de_all {ι : Type} {Xf : ι → Cx} {e : Expr} {m : ME} {K : Frag} {mg : Str → Option Value} (hK : ∀ i, (Xf i).K = K) (hg : ∀ i, (Xf i).mg = mg) (h : ∀ i, DE (Xf i) W e m) :
    ∃ te, (∀ i, PE (Xf i) e te) ∧ ∀ ξ μ σ H ρ S Q, RG ⟨K, mg, ξ⟩ μ H σ ρ → RS ⟨K, mg, ξ⟩ μ H S → WE' ⟨K, mg, ξ⟩ (m ρ S) Q (fun cls dd H' => W cls dd σ H') μ H → te σ H Q := by
  refine ⟨fun σ H Q => ∀ i, ∃ te, PE (Xf i) e te ∧ te σ H Q, fun i => ⟨fun pins s σ H Q I hw => ?_⟩, fun ξ μ σ H ρ S Q g s hw i => ?_⟩
  · obtain ⟨te, p, q⟩ := hw i
    exact p.run pins s σ H Q I q
  · obtain ⟨te, p, k⟩ := h i
    refine ⟨te, p, k ξ μ σ H ρ S Q ?_ ?_ ?_⟩
    all_goals (unfold fx; rw [hK, hg]; assumption)
theorem dts_all {ι : Type} {Xf : ι → Cx} {es : List Expr} {m : ME} {K : Frag} {mg : Str → Option Value} (hK : ∀ i, (Xf i).K = K) (hg : ∀ i, (Xf i).mg = mg) (h : ∀ i, DTs (Xf i) W es m) :
    ∃ te, (∀ i, PTs (Xf i) es te) ∧ ∀ ξ μ σ H ρ S Q, RG ⟨K, mg, ξ⟩ μ H σ ρ → RS ⟨K, mg, ξ⟩ μ H S → WT' ⟨K, mg, ξ⟩ (m ρ S) Q (fun cls dd H' => W cls dd σ H') μ H → te σ H Q := by
  refine ⟨fun σ H Q => ∀ i, ∃ te, PTs (Xf i) es te ∧ te σ H Q, fun i => ⟨fun pins s σ H Q I hw => ?_⟩, fun ξ μ σ H ρ S Q g s hw i => ?_⟩
  · obtain ⟨te, p, q⟩ := hw i
    exact p.run pins s σ H Q I q
  · obtain ⟨te, p, k⟩ := h i
    refine ⟨te, p, k ξ μ σ H ρ S Q ?_ ?_ ?_⟩
    all_goals (unfold fx; rw [hK, hg]; assumption)
theorem dg_all {ι : Type} {Xf : ι → Cx} {tg : Expr} {f : D → Rho → Option Rho} {is : List Nat} {K : Frag} {mg : Str → Option Value} (hK : ∀ i, (Xf i).K = K) (hg : ∀ i, (Xf i).mg = mg) (h : ∀ i, DG (Xf i) tg f is) :
    ∃ t, (∀ i, PG (Xf i) tg t) ∧ ∀ ξ μ σ H ρ v d ρ' (Q : St → Hp → Prop), RG ⟨K, mg, ξ⟩ μ H σ ρ → RD ⟨K, mg, ξ⟩ μ H v d → f d ρ = some ρ' →
    (∀ σ', RG ⟨K, mg, ξ⟩ μ H σ' ρ' → (∀ js : List Nat, (∀ i ∈ is, i ∈ js) → wipe σ' js = wipe σ js) → Q σ' H) → t v σ H Q := by
  refine ⟨fun v σ H Q => ∀ i, ∃ t, PG (Xf i) tg t ∧ t v σ H Q, fun i => ⟨fun pins s σ H v u Q I r hw => ?_⟩, fun ξ μ σ H ρ v d ρ' Q g r e k i => ?_⟩
  · obtain ⟨t, p, q⟩ := hw i
    exact p.run pins s σ H v u Q I r q
  · obtain ⟨t, p, kk⟩ := h i
    refine ⟨t, p, kk ξ μ σ H ρ v d ρ' Q ?_ ?_ e fun σ' g' w => k σ' ?_ w⟩
    · unfold fx; rw [hK, hg]; exact g
    · unfold fx; rw [hK, hg]; exact r
    · have g'' := g'
      unfold fx at g''
      rw [hK, hg] at g''
      exact g''
abbrev Blk := Shared × Hp × Addr × List (Str × Addr) × List Addr
abbrev blkOf (X : Cx) (scope : Scope) (i : Blk) : Cx := X.blk i.1 i.2.1 scope (compEnvC scope i.2.2.2.1 i.2.2.1 X.env) i.2.2.2.2
/-- the reading of a comprehension -/
theorem lc_read {wi : TI} {tg' : TG} {tt : TT} {te : TE} {f : D → Rho → Option Rho} {is vs : List Nat} {ξ μ : List Addr} {σ : St} {H : Hp} {ρ : Rho} {S : Sto} {Q : VK} {Wx : Value → Option Addr → Hp → Prop} {mi : MA} {mt me : ME}
    (ki : ∀ R, WR (fx X ξ) (fun μ H (J : It) (ds : List D) => ItOk (fx X ξ) μ H J ds) (mi ρ S) R Wx μ H → wi σ H R)
    (kg : ∀ ξ μ σ H ρ v d ρ' (Q : St → Hp → Prop), RG (fx X ξ) μ H σ ρ → RD (fx X ξ) μ H v d → f d ρ = some ρ' → (∀ σ', RG (fx X ξ) μ H σ' ρ' → (∀ js : List Nat, (∀ i ∈ is, i ∈ js) → wipe σ' js = wipe σ js) → Q σ' H) → tg' v σ H Q)
    (kt : ∀ ξ μ σ H ρ S Q, RG (fx X ξ) μ H σ ρ → RS (fx X ξ) μ H S → WT' (fx X ξ) (mt ρ S) Q (fun cls dd H' => W0 cls dd σ H') μ H → tt σ H Q)
    (ke : ∀ ξ μ σ H ρ S Q, RG (fx X ξ) μ H σ ρ → RS (fx X ξ) μ H S → WE' (fx X ξ) (me ρ S) Q (fun cls dd H' => W0 cls dd σ H') μ H → te σ H Q)
    (hv : ∀ i ∈ is, i ∈ vs) (g : RG (fx X ξ) μ H σ ρ) (s : RS (fx X ξ) μ H S) (h : WL' (fx X ξ) (mLc mi f mt me vs ρ S) Q Wx μ H) : tLc wi tg' tt te vs σ H Q := by
  refine ki _ (WL'.bind h fun ds S1 J μ1 H1 u1 s1 r1 h1 => ?_)
  intro D hD
  obtain ⟨hz, r1⟩ := r1
  have n1 : D ∉ μ1 := s1.out hD
  have x1 : D ∉ ξ := s1.outX hD
  have ext : Ext (fx X ξ) ((fx X ξ).hold D) H1 := ⟨rfl, rfl, fun a ha => (List.mem_cons.mp ha).elim (fun z => .inr (by rw [z]; exact hD)) .inl⟩
  have main : WL' (fx X ξ) (match lcL f mt me (wipeD ρ vs) ds S1 with
    | some (ys, S2) => Res.ok ys S2
    | none => .bad) Q Wx μ1 H1 := h1
  refine ⟨fun i m H' => ∃ μ' S' acc dacc, Up μ1 H1 μ' H' ∧ RS ((fx X ξ).hold D) μ' H' S' ∧ H' D = some (.lst acc) ∧ RDs ((fx X ξ).hold D) μ' H' acc dacc ∧ acc.length ≤ i ∧ i ≤ ds.length ∧ m = ds.length - i ∧
      ∃ ys S2, lcL f mt me (wipeD ρ vs) (ds.drop i) S' = some (ys, S2) ∧ ∀ μ2 H2 xs, Up μ1 H1 μ2 H2 → RS ((fx X ξ).hold D) μ2 H2 S2 → RDs ((fx X ξ).hold D) μ2 H2 xs (dacc ++ ys) → H2 D = some (.lst xs) → Q (.ref D) H2,
    ⟨_, μ1, S1, [], [], .fresh hD, s1.holds hD, upd_same, .nil, Nat.le_refl _, Nat.zero_le _, rfl, ?_⟩, ?_⟩
  · rw [List.drop_zero]
    cases q : lcL f mt me (wipeD ρ vs) ds S1 with
    | none => rw [q] at main; exact main.elim
    | some r =>
      obtain ⟨ys, S2⟩ := r
      rw [q] at main
      exact ⟨ys, S2, rfl, fun μ2 H2 xs u2 s2 r2 e2 => main D xs μ2 H2 u2 hD s2 r2 e2⟩
  rintro i m H' ⟨μ', S', acc, dacc, u', s', hacc, racc, hla, hi, rfl, ys, S2, eL, fin⟩
  obtain ⟨t1, t2⟩ := r1 ((fx X ξ).hold D) μ' H' S' i ext u' s' hi
  by_cases hl : i < ds.length
  · obtain ⟨go, yl⟩ := t1 _ (List.getElem?_eq_getElem hl)
    rw [List.drop_eq_getElem_cons hl] at eL
    unfold lcL at eL
    cases ef : f ds[i] (wipeD ρ vs) with
    | none => rw [ef] at eL; exact nomatch eL
    | some ρ1 =>
      rw [ef] at eL
      simp only at eL
      refine .inr ⟨go, fun H2 => ∃ μ' S' acc dacc, Up μ1 H1 μ' H2 ∧ RS ((fx X ξ).hold D) μ' H2 S' ∧ H2 D = some (.lst acc) ∧ RDs ((fx X ξ).hold D) μ' H2 acc dacc ∧ acc.length ≤ i + 1 ∧
          ∃ ys S2, lcL f mt me (wipeD ρ vs) (ds.drop (i + 1)) S' = some (ys, S2) ∧ ∀ μ2 H2 xs, Up μ1 H1 μ2 H2 → RS ((fx X ξ).hold D) μ2 H2 S2 → RDs ((fx X ξ).hold D) μ2 H2 xs (dacc ++ ys) → H2 D = some (.lst xs) → Q (.ref D) H2,
        fun H2 ⟨μ2, S3, acc2, dacc2, a1, a2, a3, a4, a5, a6⟩ => ⟨_, by omega, μ2, S3, acc2, dacc2, a1, a2, a3, a4, a5, hl, rfl, a6⟩, fun x H2 y => ?_⟩
      obtain ⟨u2, s2, r2⟩ := yl x H2 y
      have g2 : RG (fx X (D :: ξ)) μ' H2 (wipe σ vs) (wipeD ρ vs) := (((g.up u1).mv (.ext ext (u'.trans u2)))).wipe vs
      refine kg (D :: ξ) μ' (wipe σ vs) H2 (wipeD ρ vs) x _ ρ1 _ g2 r2 ef fun σ3 g3 w3 => ?_
      have nD : D ∉ μ' := (s'.xi D List.mem_cons_self).1
      have eD : H2 D = some (.lst acc) := u2.keep _ _ hacc nD
      have ww : wipe (wipe σ vs) vs = wipe σ vs := by
        refine List.ext_getElem? fun k => ?_
        rw [wipe_get, wipe_get, wipe_length]
        by_cases q : k ∈ vs ∧ k < σ.length
        · rw [if_pos q, if_pos q]
        · rw [if_neg q, if_neg q]
      refine ⟨by rw [w3 vs hv, ww], ?_⟩
      refine kt (D :: ξ) μ' σ3 H2 ρ1 S' _ g3 s2 ?_
      have racc2 := racc.up u2
      cases et : mt ρ1 S' with
      | bad => rw [et] at eL; exact nomatch eL
      | exc c fs S3 => rw [et] at eL; exact nomatch eL
      | ok d S3 =>
        rw [et] at eL
        cases d with
        | bl b =>
          intro μ3 H3 u3 s3
          have eD3 : H3 D = some (.lst acc) := u3.keep _ _ eD nD
          cases b with
          | false =>
            exact ⟨μ3, S3, acc, dacc, u'.trans (u2.trans u3), s3, eD3, racc2.up u3, Nat.le_succ_of_le hla, ys, S2, eL, fin⟩
          | true =>
            simp only at eL
            refine ke (D :: ξ) μ3 σ3 H3 ρ1 S3 _ (g3.up u3) s3 ?_
            cases ee : me ρ1 S3 with
            | bad => rw [ee] at eL; exact nomatch eL
            | exc c fs S4 => rw [ee] at eL; exact nomatch eL
            | ok y S4 =>
              rw [ee] at eL
              intro v μ4 H4 u4 s4 r4
              simp only at eL
              cases er : lcL f mt me (wipeD ρ vs) (ds.drop (i + 1)) S4 with
              | none => rw [er] at eL; exact nomatch eL
              | some q =>
                obtain ⟨zs, S5⟩ := q
                rw [er] at eL
                cases eL
                have nD3 : D ∉ μ3 := (s3.xi D List.mem_cons_self).1
                have eD4 : H4 D = some (.lst acc) := u4.keep _ _ eD3 nD3
                refine ⟨acc, eD4, by rw [sizeLine_eq]; omega, μ4, S4, acc ++ [v], dacc ++ [y], ?_, RS.wr (F := fx X ξ) (p := D) s4, upd_same, RDs.mv (Mv.wr (F := fx X ξ) (p := D)) _ (RDs.append (F := (fx X ξ).hold D) ((racc2.up u3).up u4) (.cons r4 .nil)), by rw [List.length_append, List.length_singleton]; omega, zs, S2, er, fun μ5 H5 xs u5 s5 r5 e5 => fin μ5 H5 xs u5 s5 (by rw [List.append_assoc] at r5; exact r5) e5⟩
                have U := u'.trans (u2.trans (u3.trans u4))
                exact ⟨U.pre, U.new, fun a o ha na => by
                  rw [upd_ne (ne_of_none ha hD)]
                  exact U.keep a o ha na⟩
        | _ => exact nomatch eL
  · have e : i = ds.length := by omega
    rw [e, List.drop_length] at eL
    cases eL
    exact .inl ⟨t2 e, fin μ' H' acc u' s' (by rw [List.append_nil]; exact racc) hacc⟩
theorem dl_lc {elt : Expr} {ifs : List Expr} {scope : Scope} {own : List (Str × Nat)} {f : D → Rho → Option Rho} {is : List Nat} {mt me : ME} (hc : X.calm = true) (hN : X.N.Nodup) (hi : DI X W tg e mr) (ok : BlkOk X.N X.env.scope scope own)
    (hg : ∀ (s : Shared) (H : Hp) (C : Addr) (cl : List (Str × Addr)) (fp : List Addr), DG (X.blk s H scope (compEnvC scope cl C X.env) fp) tg f is)
    (ht : ∀ (s : Shared) (H : Hp) (C : Addr) (cl : List (Str × Addr)) (fp : List Addr), DTs (X.blk s H scope (compEnvC scope cl C X.env) fp) W0 ifs mt)
    (he : ∀ (s : Shared) (H : Hp) (C : Addr) (cl : List (Str × Addr)) (fp : List Addr), DE (X.blk s H scope (compEnvC scope cl C X.env) fp) W0 elt me)
    (hv : ∀ i ∈ is, i ∈ own.map (·.2) := by decide) (hs : ∀ x, foldedSetIterable e X.env x = pure x := by intro _; rfl) : DL X W (.ListComp elt [⟨tg, e, ifs, 0⟩] scope pos) (mLc mr f mt me (own.map (·.2))) := by
  obtain ⟨wi, pi, ki⟩ := hi
  obtain ⟨tg', pg, kg⟩ := dg_all (Xf := blkOf X scope) (K := X.K) (mg := X.mg) (fun _ => rfl) (fun _ => rfl) fun i => hg i.1 i.2.1 i.2.2.1 i.2.2.2.1 i.2.2.2.2
  obtain ⟨tt, pt, kt⟩ := dts_all (Xf := blkOf X scope) (K := X.K) (mg := X.mg) (fun _ => rfl) (fun _ => rfl) fun i => ht i.1 i.2.1 i.2.2.1 i.2.2.2.1 i.2.2.2.2
  obtain ⟨te, pe, ke⟩ := de_all (Xf := blkOf X scope) (K := X.K) (mg := X.mg) (fun _ => rfl) (fun _ => rfl) fun i => he i.1 i.2.1 i.2.2.1 i.2.2.2.1 i.2.2.2.2
  refine ⟨_, pe_lc hc hN pi ok (fun s H C cl fp => pg (s, H, C, cl, fp)) (fun s H C cl fp => pt (s, H, C, cl, fp)) (fun s H C cl fp => pe (s, H, C, cl, fp)) hs, fun ξ μ σ H ρ S Q g s h => ?_⟩
  exact lc_read (fun R => ki ξ μ σ H ρ S R g s) kg kt ke hv g s h
end
end Dm
-- text DmDef
namespace Dm
open PySem L2 PySem.Spec PyProof.Rows
open PySem.W (Frag)
/-! ### defs -/
def mDef (np nN : Nat) (b : MS) (ds : List D) (S : Sto) : Res D := if ds.length = np then
    match b (ds.map some ++ List.replicate (nN - np) none) S with
    | .nx _ S' => .ok .non S'
    | .rt d S' => .ok d S'
    | .exc c fs _ S' => .exc c fs S'
    | _ => .bad
  else .bad
/-- a def's promise: what its word says -/
def spD (K : Frag) (mg : Str → Option Value) (m : List D → Sto → Res D) : Sp := fun vs H Q E => ∃ ξ μ ds S, RS ⟨K, mg, ξ⟩ μ H S ∧ RDs ⟨K, mg, ξ⟩ μ H vs ds ∧ WE' ⟨K, mg, ξ⟩ (m ds S) Q (fun cls dd H' => E cls dd H') μ H
structure FnD (P : Program) (w : World) (K : Frag) (mg : Str → Option Value) (base : Heap) (k : Nat) (x : Str) (st : Stmt) (ps : List Str) (m : List D → Sto → Res D) : Prop where
  ex : ∃ f fd, mg x = some (.ref f) ∧ Fun K x x st f fd ∧ Binds K fd ps [] ∧ FnOk P w K mg base (L2.CX P w) k f fd ps (spD K mg m)
section
variable {P : Program} {w : World} {K : Frag} {mg : Str → Option Value} {base : Heap}
theorem FnD.mono {j k : Nat} {x : Str} {st : Stmt} {ps : List Str} {m : List D → Sto → Res D} (F : FnD P w K mg base j x st ps m) (h : j ≤ k) : FnD P w K mg base k x st ps m :=
  let ⟨f, fd, a, b, c, d⟩ := F; ⟨f, fd, a, b, c, d.mono h⟩
theorem rg_start {F : Fx} {μ : List Addr} {H : Hp} {N : List Str} {vs : List V} {ds : List D} (r : RDs F μ H vs ds) : RG F μ H (L2.start N vs) (ds.map some ++ List.replicate (N.length - ds.length) none) := by
  refine ⟨by unfold L2.start; rw [List.length_append, List.length_append, List.length_map, List.length_map, List.length_replicate, List.length_replicate, r.length], fun i d e => ?_⟩
  by_cases h : i < ds.length
  · rw [List.getElem?_append_left (by rw [List.length_map]; exact h), List.getElem?_map] at e
    cases q : ds[i]? with
    | none => rw [q] at e; exact nomatch e
    | some d' =>
      rw [q] at e
      cases e
      obtain ⟨v, h1, h2⟩ := r.get q
      refine ⟨v, ?_, h2⟩
      unfold L2.start
      rw [List.getElem?_append_left (by rw [List.length_map, r.length]; exact h), List.getElem?_map, h1] <;> rfl
  · rw [List.getElem?_append_right (by rw [List.length_map]; omega), List.getElem?_replicate] at e
    split at e <;> cases e
theorem fnd_mk {x : Str} {st : Stmt} {f : Addr} {fd : FuncData} {N ps : List Str} {k np nN : Nat} {mb : MS} (hm : mg x = some (.ref f)) (F : Fun K x x st f fd) (B : Binds K fd ps []) (S : FnScope N ps (defScope st)) (hnp : ps.length = np) (hnN : N.length = nN)
    (hb : ∀ (cdv : Value) (A : Around) (outer : List Env) (s : Shared) (H : Hp) (E : XK), Room k (A.deeper (envOfC x (defScope st) s.heap.objs.size f cdv)) →
      DSs (cxOf (L2.CX P w) P w K mg base N x (defScope st) f cdv A outer s H E) (fun cls d _ H => E cls d H) (defBody st) mb) : FnD P w K mg base (k + 1) x st ps (mDef np nN mb) := by
  subst hnp hnN
  refine ⟨f, fd, hm, F, B, F.okX S (fun vs H Q E h => ?_) (fun cdv A outer s H vs Q E hr h => ?_)⟩
  · obtain ⟨ξ, μ, ds, S0, s0, r0, w0⟩ := h
    unfold mDef at w0
    by_cases c : ds.length = ps.length
    · rw [r0.length]; exact c
    · rw [if_neg c] at w0; exact w0.elim
  · obtain ⟨ξ, μ, ds, S0, s0, r0, w0⟩ := h
    obtain ⟨ts, pt, kt⟩ := hb cdv A outer s H E hr
    refine ⟨ts, pt, ?_⟩
    unfold mDef at w0
    by_cases c : ds.length = ps.length
    · rw [if_pos c] at w0
      refine kt ξ μ _ H _ S0 _ (rg_start r0) s0 ?_
      show WS' ⟨K, mg, ξ⟩ _ _ _ μ H
      rw [c]
      cases e : mb (ds.map some ++ List.replicate (N.length - ps.length) none) S0 with
      | nx ρ S' => rw [e] at w0; exact fun σ μ' H' u s g => w0 _ μ' H' u s .non
      | rt d S' => rw [e] at w0; exact w0
      | exc c fs ρ S' => rw [e] at w0; exact fun cls dd σ μ' H' u s g x => w0 cls dd μ' H' u s x
      | bk ρ S' => rw [e] at w0; exact w0.elim
      | ct ρ S' => rw [e] at w0; exact w0.elim
      | bad => rw [e] at w0; exact w0.elim
    · rw [if_neg c] at w0; exact w0.elim
/-- nothing is promised -/
theorem fnd_bad {x : Str} {st : Stmt} {f : Addr} {fd : FuncData} {ps : List Str} {k : Nat} (hm : mg x = some (.ref f)) (F : Fun K x x st f fd) (B : Binds K fd ps []) : FnD P w K mg base k x st ps (fun _ _ => .bad) :=
  ⟨f, fd, hm, F, B, ⟨fun vs H Q E h => (let ⟨_, _, _, _, _, _, w0⟩ := h; False.elim w0), fun A outer s H args us vs Q E hr he hb hv h => (let ⟨_, _, _, _, _, _, w0⟩ := h; False.elim w0)⟩⟩
end
/-! ### calls of defs -/
theorem vals_perm : ∀ (p : List Nat) {vs : List V} {us : List Value}, Vals vs us → Vals (p.filterMap (vs[·]?)) (p.filterMap (us[·]?))
  | [], _, _, _ => .nil
  | i :: p, vs, us, r => by
    rw [List.filterMap_cons, List.filterMap_cons]
    cases e : vs[i]? with
    | none =>
      rw [r.none_of e]
      exact vals_perm p r
    | some v =>
      obtain ⟨u, h1, h2⟩ := r.get e
      rw [h1]
      exact .cons h2 (vals_perm p r)
theorem rds_perm {F : Fx} {μ : List Addr} {H : Hp} : ∀ (p : List Nat) {vs : List V} {ds : List D}, RDs F μ H vs ds → RDs F μ H (p.filterMap (vs[·]?)) (p.filterMap (ds[·]?))
  | [], _, _, _ => .nil
  | i :: p, vs, ds, r => by
    rw [List.filterMap_cons, List.filterMap_cons]
    cases e : vs[i]? with
    | none =>
      have e' : ds[i]? = none := by
        rw [List.getElem?_eq_none_iff] at e ⊢
        rw [← r.length]; exact e
      rw [e']
      exact rds_perm p r
    | some v =>
      obtain ⟨d, h1, h2⟩ := r.getV e
      rw [h1]
      exact .cons h2 (rds_perm p r)
section
variable {X : Cx} {W : WX} {tg e a b c : Expr} {es : List Expr} {kws : List Keyword} {st : Stmt} {sts ts : List Stmt} {ma mb mc m : ME} {mr mk : MA} {m1 m2 : MS} {pos p p1 p2 p3 kpos : Pos} {nm : Option Str}
/-- f(e, ..) -/
theorem d_call {j k : Nat} {x : Str} {ps : List Str} {f : List D → Sto → Res D} (F : FnD X.prog X.w X.K X.mg X.base j x st ps f) (hr : Room k X.A) (tk : Takes X W) (ha : DA X W (e :: es) mr) (hj : j ≤ k := by decide) (hg : Gl X x := by rfl)
    (hdb : (x == ("__debug__" : Str)) = false := by decide) (he : starEach (e :: es) X.env = (false, eval e X.env) :: starEach es X.env := by rfl) (hpl : (backTo pos (starEach es X.env)).any (·.1) = false := by rfl) :
    DE X W (.Call (.Name x p) (e :: es) [] pos) (mCall f mr) := by
  obtain ⟨fa, fd, hm, Fu, B, G⟩ := F
  obtain ⟨ta, pa, ka⟩ := ha
  refine ⟨_, pe_callSD G (hr.mono hj) hg hm Fu.kp B .nil (fun σ => passAt tk σ) pa hdb he hpl, fun ξ μ σ H ρ S Q g s h => ka ξ μ σ H ρ S _ g s (WR.bind h fun xs S1 vs μ1 H1 u1 s1 r1 h1 => ?_)⟩
  rw [List.append_nil]
  exact ⟨ξ, μ1, xs, S1, s1, r1, h1⟩
theorem dk_nil : DK X W [] mNil := ⟨_, pk_nil, fun ξ μ σ H ρ S Q g s h => h [] μ H .refl s .nil⟩
theorem dk_cons (ha : DE X W e ma) (hr : DK X W kws mr) : DK X W (⟨nm, e, kpos⟩ :: kws) (mCons ma mr) := by
  obtain ⟨ta, pa, ka⟩ := ha
  obtain ⟨tr, pr, kr⟩ := hr
  refine ⟨_, pk_cons pa pr, fun ξ μ σ H ρ S Q g s h => ka ξ μ σ H ρ S _ g s (WR.bind h fun x S1 v μ1 H1 u1 s1 r1 h1 => ?_)⟩
  refine kr ξ μ1 σ H1 ρ S1 _ (g.up u1) s1 (WR.bind h1 fun xs S2 vs μ2 H2 u2 s2 r2 h2 => ?_)
  exact h2 _ μ2 H2 .refl s2 (.cons (r1.up u2) r2)
/-- f(e, .., k = v, ..): perm puts the written values, then the keywords', in the parameters' order; n, q: how many of each -/
def mCallK (f : List D → Sto → Res D) (n q : Nat) (perm : List Nat) (a k : MA) : ME := fun ρ S => (a ρ S).bind fun xs S1 => (k ρ S1).bind fun zs S2 => if xs.length = n ∧ zs.length = q then f (perm.filterMap ((xs ++ zs)[·]?)) S2 else .bad
/-! ### raise X('..') -/
structure XcOk (K : Frag) (mg : Str → Option Value) (x : Str) : Prop where
  ex : ∃ C : Addr, mg x = some (.ref C) ∧ PySem.W.excIn K C [.type "ValueError", .type "Exception", .type "BaseException", .type "object"] "ValueError.__new__" = true ∧ PySem.W.keepIn K (.ref C) = true ∧ PySem.W.subIn K (.ref C) (.type "BaseException") = some true ∧ PySem.W.typeIn K (.ref C) = some (.type "type")
def mRaise (c : Str) : MS := fun ρ S => .exc c [] ρ S
theorem ds_raise {x msg : Str} {jj : Nat} {pos2 : Pos} (C : XcOk X.K X.mg x) (hc : X.calm = true) (tk : Takes X W) (hg : Gl X x := by rfl) (hdb : (x == ("__debug__" : Str)) = false := by decide) :
    DS X W (.Raise (some (.Call (.Name x p) [.Constant (.str msg) jj p2] [] pos)) none pos2) (mRaise x) := by
  obtain ⟨C, h1, h2, h3, h4, h5⟩ := C
  exact ⟨_, ps_raise hc tk (pmk_own PySem.F.excBase_ValueError h2 h1 h3 (raises_own h4 h5) hg hdb), fun ξ μ σ H ρ S D g s h => h _ none σ μ H .refl s g ⟨h1, .inl ⟨rfl, rfl⟩⟩⟩
/-- x += e -/
def mAug (i : Nat) (f : Int → Int → Int) (m : ME) : MS := fun ρ S => match ρ[i]? with
  | some (some (.int a)) => ofRes (m ρ S) ρ fun d S1 => match d with
    | .int b => .nx (ρ.set i (some (.int (f a b)))) S1
    | _ => .bad
  | _ => .bad
end
end Dm
-- text DmIter
namespace Dm
open PySem L2 PySem.Spec PyProof.Rows
open PySem.W (Frag)
/-! ### enumerate of a tuple -/
theorem enumNew1 {v : Value} {o : Obj} {Hh : Heap → Prop} (B : Begins v o Hh) :
    Meets (Builtin.«enumerate.__new__» ⟨[.type "enumerate", v], []⟩) (fun _ R s => Hh s.heap ∧
      R (.ok (.ret (.ref (s.heap.push o).objs.size))) { s with heap := (s.heap.push o).push { cls := .type "enumerate", data := .fields #[.none, .bool false, .ref s.heap.objs.size, rawInt 0, .none, .none] } }) :=
  .of_wp fun prog w A R s hh => by
    obtain ⟨hp, g, d, tk, os⟩ := s
    obtain ⟨ha, hb⟩ := hh
    have hsub := sub_enumerate
    have q1 : ∀ {A' : Around} {E : Value → Shared → Prop} {Q : Value → Shared → Prop}, Q (.ref hp.objs.size) ⟨hp.push o, g, d, tk, os⟩ → wpAny (model prog w) A' (pyIter v) Q E ⟨hp, g, d, tk, os⟩ :=
      fun q => B.iter prog w _ _ ⟨hp, g, d, tk, os⟩ _ ha q
    wp_walk using q1
    refine wpAny_stack_any fun st => wpAny_pure ?_
    split
    · rename_i c _ _ _ _ _
      cases (c == Value.type "enumerate") <;> (wp_walk using q1; exact ⟨_, rfl, hb⟩)
    · (wp_walk using q1); exact ⟨_, rfl, hb⟩
theorem enumBegin1 {prog : Program} {w : World} {A : Around} {E : Value → Shared → Prop} {s : Shared} {v : Value} {o : Obj} {Hh : Heap → Prop} {Q : Value → Shared → Prop} (B : Begins v o Hh) (ha : Hh s.heap)
    (k : ∀ h', IsEnum h' (s.heap.objs.size + 1) s.heap.objs.size 0 .none → h'.get? s.heap.objs.size = some o → (∀ b u, s.heap.get? b = some u → h'.get? b = some u) → Q (.ref (s.heap.objs.size + 1)) { s with heap := h' }) :
    wpAny (model prog w) A (call (.type "enumerate") [v]) Q E s := by
  refine callType_new F.called_enumerate (by decide) (F.typeCall_enumerate_1 _) (F.newCall_enumerate_1 _) (fun obj => F.args_object_init_2 obj _) F.entry_enumerate_new (enumNew1 B) ⟨ha, ?_⟩
  have z : (s.heap.push o).objs.size = s.heap.objs.size + 1 := Heap.size_push ..
  have en := Heap.get?_push_size (s.heap.push o) (o := { cls := .type "enumerate", data := .fields #[.none, .bool false, .ref s.heap.objs.size, rawInt 0, .none, .none] }) rfl
  rw [z] at en
  show _ ∧ _
  rw [z]
  exact ⟨⟨_, en, rfl⟩, k _ en (Heap.get?_push_of_some _ (Heap.get?_push_size _ B.free)) fun b u q => Heap.get?_push_of_some _ (Heap.get?_push_of_some _ q)⟩
def IteT (K : Frag) (a : Addr) : It :=
  ⟨fun i H => ∃ (xs : List V) (x : V), SqT K H a xs ∧ xs[i]? = some x, fun i H v H' => ∃ T x, v = .ref T ∧ H T = none ∧ H' = upd H T (.tup [.int (i : Nat), x]) ∧ ∀ xs, SqT K H a xs → xs[i]? = some x, fun i H => ∃ xs : List V, SqT K H a xs ∧ xs.length ≤ i⟩
theorem turn_enumT {P : Program} {w : World} {K : Frag} {elts : List Expr} {kk : Nat} {tpos : Pos} (a e it : Addr) (hne : e ≠ it) :
    Turn P w K (.Tuple elts kk tpos) (IteT K a) [e, it] e (fun i h => (∃ old, IsEnum h e it ((i : Nat) : Int) old) ∧ h.IsTupleIter it a i) where
  mem := List.mem_cons_self
  obj := fun i h st b hb => by
    obtain ⟨⟨old, he⟩, ⟨o, ho, hc, hd⟩⟩ := st
    rcases List.mem_cons.mp hb with z | z
    · rw [z]; exact ⟨_, he, fun v q => nomatch q⟩
    · rw [List.mem_singleton.mp z]; exact ⟨o, ho, fun v q => by rw [hd] at q; cases q⟩
  keep := fun i h h' st k => by
    obtain ⟨⟨old, he⟩, ⟨o, ho, r⟩⟩ := st
    exact ⟨⟨old, k e List.mem_cons_self _ he⟩, ⟨o, k it (List.mem_cons_of_mem _ List.mem_cons_self) o ho, r⟩⟩
  item := by
    intro X hP hw hK hc i pins s σ H E I hf st hg
    subst hP hw hK
    obtain ⟨⟨old, he⟩, hit⟩ := st
    obtain ⟨xs, x, hq, hx⟩ := hg
    obtain ⟨its, rv, ht, hz⟩ := I.tuple hq
    obtain ⟨u, hu, ru⟩ := rv.get hx
    have hel : e < s.heap.objs.size := Heap.lt_size he
    have hil : it < s.heap.objs.size := by obtain ⟨_, q, _⟩ := hit; exact Heap.lt_size q
    have nai : a ≠ it := by
      rintro rfl
      obtain ⟨o1, q1, c1, _⟩ := ht
      obtain ⟨o2, q2, c2, _⟩ := hit
      rw [q1] at q2; cases q2
      rw [c1] at c2
      exact absurd (Value.type.inj c2) (by decide)
    have nae : e ∉ [it, a] := fun z => by
      rcases List.mem_cons.mp z with z | z
      · exact hne z
      · rw [List.mem_singleton.mp z] at he
        obtain ⟨o1, q1, c1, _⟩ := ht
        have he' : s.heap.get? a = some _ := he
        rw [q1] at he'; cases he'
        exact absurd (Value.type.inj c1) (by decide)
    have D := Draws.tuple (prog := X.prog) (w := X.w) (A := X.A.in1) (by exact I.ok.hd hc) it a nai its.toArray
    have hlt : i < its.toArray.size := by
      have q := (List.getElem?_eq_some_iff.mp hu).1
      rw [List.size_toArray]; exact q
    refine wpAny_pyNext_enum_itemD D he ⟨hit, ht⟩ hlt hne nae fun x' h' tk hx' ho hit' hT hsz hk => ?_
    have ex : x' = u := by
      have hx'' : its.toArray[i]? = some x' := hx'
      rw [List.getElem?_toArray, hu] at hx''
      exact (Option.some.inj hx'').symm
    subst ex
    refine ⟨_, rfl, wpAny_letOwnedTupleGo_enum (s := { s with heap := h', toks := tk + 1 }) ho fun h'' he' sb => ?_⟩
    have hT2 : h''.get? s.heap.objs.size = some { cls := .type "tuple", data := .seq #[.int i tk, x'] } := (sb.2 _ (Nat.ne_of_gt hel)).trans hT
    have new : ObjOk X.prog X.w (upd H s.heap.objs.size (.tup [.int (i : Nat), x])) h'' s.heap.objs.size (.tup [.int (i : Nat), x]) :=
      ⟨by rw [sizeLine_eq]; show 2 ≤ 16777216; decide, [.int i tk, x'], .cons ⟨_, rfl⟩ (.cons ru .nil), ⟨_, hT2, rfl, _, rfl⟩⟩
    have I1 : Inv X pins σ (upd H s.heap.objs.size (.tup [.int (i : Nat), x])) { s with heap := h'', toks := tk + 1 } :=
      I.turnedNew (ch := [e, it]) (fun b ob hb q => (sb.2 b fun z => hb (by rw [z]; exact List.mem_cons_self)).trans (hk b ob (fun z => hb (by rw [z]; exact List.mem_cons_self)) (fun z => hb (by rw [z]; exact List.mem_cons_of_mem _ List.mem_cons_self)) q)) hf (Nat.le_refl _) new
    refine ⟨.ref s.heap.objs.size, _, I1, rfl, ⟨_, x, rfl, I.hok.fresh (Nat.le_refl _), rfl, fun ys hy => by rw [I.tuple_inj hy hq]; exact hx⟩, ⟨⟨x', ?_⟩, ?_⟩, fun b hb => ?_⟩
    · have e1 : ((i + 1 : Nat) : Int) = (i : Int) + 1 := by omega
      rw [e1]; exact he'
    · obtain ⟨⟨o1, q1, r1⟩, _⟩ := hit'
      exact ⟨o1, (sb.2 it hne.symm).trans q1, r1⟩
    · have hb' : b < s.heap.objs.size := by
        rcases List.mem_cons.mp hb with z | z
        · rw [z]; exact hel
        · rw [List.mem_singleton.mp z]; exact hil
      rw [upd_ne (Nat.ne_of_lt hb')]
      exact (hf b hb).1
  done := by
    intro X hP hw hK hc i pins s σ H E I hf st hg
    subst hP hw hK
    obtain ⟨⟨old, he⟩, hit⟩ := st
    obtain ⟨xs, hq, hx⟩ := hg
    obtain ⟨its, rv, ht, hz⟩ := I.tuple hq
    obtain ⟨f0, f1, f2, f3, f4, f5⟩ := hf it (List.mem_cons_of_mem _ List.mem_cons_self)
    have hl := rv.length
    have nx : its.toArray[i]? = none := by
      rw [List.getElem?_toArray]
      exact List.getElem?_eq_none_iff.mpr (by omega)
    have D : Draws X.prog X.w X.A.in1 it [it, a] i (fun _ _ => False) (fun j hh => j = i ∧ hh.IsTupleIter it a i ∧ hh.IsTuple a its.toArray) :=
      { live := fun j hh z => let ⟨o, ho, _⟩ := z.2.1; ⟨o, ho⟩
        frame := fun j hh h' z k => by
          obtain ⟨z1, ⟨o1, e1, r1⟩, ⟨o2, e2, r2⟩⟩ := z
          exact ⟨z1, ⟨o1, k it List.mem_cons_self o1 e1, r1⟩, ⟨o2, k a (List.mem_cons_of_mem _ List.mem_cons_self) o2 e2, r2⟩⟩
        item := fun j s Q E hj z => absurd z.1 (Nat.ne_of_lt hj)
        done := fun s Q E z kE => wpAny_nextOf_tuple_end (I.ok.hd hc) z.2.1 z.2.2 nx kE }
    exact wpAny_pyNext_enum_endD D he ⟨rfl, hit, ht⟩ fun h' eb => ⟨rfl, I.turned (t' := s.toks) (fun b o hb q => eb b o hb q) f0 f1 f3 f4 f5⟩
  self := fun A i s Q E st k => let ⟨⟨_, he⟩, _⟩ := st; wpAny_pyIter_enum he k
def iEnumT (K : Frag) (ta : TA) : TI := fun σ H R => ta σ H fun vs H1 => ∃ a xs, vs = [.ref a] ∧ SqT K H1 a xs ∧ R (IteT K a) H1
theorem pi_enumT {X : Cx} {e : Expr} {ta : TA} {p pos tpos : Pos} {elts : List Expr} {kk : Nat} (hg : Gl X "enumerate") (hm : X.mg "enumerate" = none) (ha : PA X [e] ta) (hs : starEach [e] X.env = [(false, eval e X.env)] := by rfl) :
    PI X (.Tuple elts kk tpos) (.Call (.Name "enumerate" p) [e] [] pos) (iEnumT X.K ta) := by
  refine ⟨fun pins s σ H R I hw => ?_⟩
  refine Call_ (ld_blt I hg hm boot_enumerate (PyProof.Rows.callWith_type1 (thn (ha.run pos pins s σ H _ I hw) fun us s1 hh => ?_) hs rfl))
  obtain ⟨vs, H1, I1, r1, a, xs, ex, hq, q⟩ := hh
  subst ex
  cases r1 with
  | cons r rr =>
    cases rr
    cases r
    obtain ⟨its, rv, ht, hz⟩ := I1.tuple hq
    refine enumBegin1 (begins_tuple a its.toArray) ht fun h' he ho hk => wpAny_pyIter_enum he ?_
    have I2 : Inv X pins σ H1 { s1 with heap := h' } := I1.kept (t' := s1.toks) hk
    refine ⟨s1.heap.objs.size + 1, [s1.heap.objs.size + 1, s1.heap.objs.size], _, _, H1, rfl, I2, turn_enumT a (s1.heap.objs.size + 1) s1.heap.objs.size (Nat.succ_ne_self _), ⟨⟨.none, he⟩, ⟨_, ho, rfl, rfl⟩⟩, fun b hb => ?_, q⟩
    have hle : s1.heap.objs.size ≤ b := by
      rcases List.mem_cons.mp hb with z | z
      · rw [z]; exact Nat.le_succ _
      · rw [List.mem_singleton.mp z]; exact Nat.le_refl _
    exact I1.fpOk hle (I1.hok.fresh hle)
/-- enumerate(v): a tuple, a list that stands still -/
def enumD (ds : List D) : List D := ds.zipIdx.map fun p => .tup [.int (p.2 : Nat), p.1]
theorem enumD_length {ds : List D} : (enumD ds).length = ds.length := by unfold enumD; rw [List.length_map, List.length_zipIdx]
theorem enumD_get {ds : List D} {i : Nat} {d : D} (h : (enumD ds)[i]? = some d) : ∃ x, ds[i]? = some x ∧ d = .tup [.int (i : Nat), x] := by
  unfold enumD at h
  rw [List.getElem?_map, List.getElem?_zipIdx] at h
  cases q : ds[i]? with
  | none => rw [q] at h; exact nomatch h
  | some x =>
    rw [q] at h
    refine ⟨x, rfl, ?_⟩
    have h' := Option.some.inj h
    rw [← h', Nat.zero_add]
def iEnumS (m : ME) : MA := fun ρ S => (m ρ S).bind fun d S1 => match d with
  | .tup ds => .ok (enumD ds) S1
  | .lst ds => .ok (enumD ds) S1
  | _ => .bad
section
variable {X : Cx} {W : WX} {tg e a b c : Expr} {m : ME} {pos p tpos : Pos}
theorem di_enum {elts : List Expr} {kk : Nat} (h : DE X W e m) (hm : X.mg "enumerate" = none) (hg : Gl X "enumerate" := by rfl) (hs : starEach [e] X.env = [(false, eval e X.env)] := by rfl)
    (hs1 : starEach [e] X.env = (false, eval e X.env) :: starEach [] X.env := by rfl) : DI X W (.Tuple elts kk tpos) (.Call (.Name "enumerate" p) [e] [] pos) (iEnumS m) := by
  obtain ⟨te, pe, k⟩ := h
  refine ⟨_, piOr (piSized (pi_enumT hg hm (pa_cons pe pa_nil hs1) hs)) (piSized (pi_enum hg hm (pa_cons pe pa_nil hs1) hs)), fun ξ μ σ H ρ S R g s h => ?_⟩
  cases e1 : m ρ S with
  | bad => unfold iEnumS at h; rw [e1] at h; exact h.elim
  | exc c fs S1 =>
    unfold iEnumS at h; rw [e1] at h
    refine .inl (k ξ μ σ H ρ S _ g s ?_)
    rw [e1]; exact h
  | ok d S1 =>
    cases d with
    | tup ds =>
      refine .inl (k ξ μ σ H ρ S _ g s ?_)
      unfold iEnumS at h
      rw [e1] at h ⊢
      intro v μ1 H1 u1 s1 r1
      cases r1 with
      | @tup a xs _ f r =>
        refine ⟨a, xs, rfl, f.sq, fun z => h _ μ1 H1 u1 s1 ⟨by rw [enumD_length, ← r.length]; exact z a xs (.inr f.sq), fun F' μ' H' S' i ex u s hi => ⟨fun d hd => ?_, fun hi => ?_⟩⟩⟩
        · obtain ⟨x, hx, rfl⟩ := enumD_get hd
          obtain ⟨v, h1, h2⟩ := r.get hx
          refine ⟨⟨xs, v, (f.up u).sq, h1⟩, fun y H'' yy => ?_⟩
          obtain ⟨T, x', e2, e3, e4, e5⟩ := yy
          subst e2 e4
          have q := e5 xs (f.up u).sq
          rw [h1] at q; cases q
          exact ⟨.fresh e3, s.fresh e3, .tup (.inl ⟨.inl upd_same, s.out e3, s.outX e3⟩) (.cons (.int _) (.cons ((h2.mv (.ext ex u)).up (.fresh e3)) .nil))⟩
        · rw [enumD_length] at hi
          exact ⟨xs, (f.up u).sq, by rw [r.length, hi]; exact Nat.le_refl _⟩
    | lst ds =>
      refine .inr (k ξ μ σ H ρ S _ g s ?_)
      unfold iEnumS at h
      rw [e1] at h ⊢
      intro v μ1 H1 u1 s1 r1
      cases r1 with
      | @lst a xs _ f r =>
        refine ⟨a, xs, rfl, f.sq, fun z => h _ μ1 H1 u1 s1 ⟨by rw [enumD_length, ← r.length]; exact z a xs (.inl f.sq), fun F' μ' H' S' i ex u s hi => ⟨fun d hd => ?_, fun hi => ?_⟩⟩⟩
        · obtain ⟨x, hx, rfl⟩ := enumD_get hd
          obtain ⟨v, h1, h2⟩ := r.get hx
          refine ⟨⟨xs, v, (f.up u).sq, h1⟩, fun y H'' yy => ?_⟩
          obtain ⟨T, x', e2, e3, e4, e5⟩ := yy
          subst e2 e4
          have q := e5 xs (f.up u).sq
          rw [h1] at q; cases q
          exact ⟨.fresh e3, s.fresh e3, .tup (.inl ⟨.inl upd_same, s.out e3, s.outX e3⟩) (.cons (.int _) (.cons ((h2.mv (.ext ex u)).up (.fresh e3)) .nil))⟩
        · rw [enumD_length] at hi
          exact ⟨xs, (f.up u).sq, by rw [r.length, hi]; exact Nat.le_refl _⟩
    | _ => unfold iEnumS at h; rw [e1] at h; exact h.elim
end
end Dm
-- text DmRev
namespace Dm
open PySem L2 PySem.Spec PyProof.Rows
open PySem.W (Frag)
/-! ### t[::-1] of a tuple -/
section
variable {prog : Program} {w : World} {A : Around} {E : Value → Shared → Prop} {s : Shared}
theorem backPlaces (n : Nat) : Builtin.Slice.sliceAdjust none none (-1) (n : Int) = ((n : Int) - 1, -1) ∧ Builtin.Slice.slicePlaces ((n : Int) - 1) (-1) (-1) = n := by
  refine ⟨rfl, ?_⟩
  unfold Builtin.Slice.slicePlaces
  rw [if_neg (by decide)]
  by_cases hn : n = 0
  · subst hn; decide
  · rw [if_pos (by omega)]
    have e : ((n : Int) - 1 - -1 - 1) / (- -1) = (n : Int) - 1 := by
      rw [show (- -1 : Int) = 1 from rfl, Int.ediv_one]; omega
    rw [e]; omega
theorem fm_congr {α β : Type} {f g : α → Option β} : ∀ l : List α, (∀ x ∈ l, f x = g x) → l.filterMap f = l.filterMap g
  | [], _ => rfl
  | x :: l, h => by rw [List.filterMap_cons, List.filterMap_cons, h x List.mem_cons_self, fm_congr l fun y hy => h y (List.mem_cons_of_mem _ hy)]
theorem backPick (xs : Array Value) : ((List.range xs.size).filterMap fun (m : Nat) => xs[(((xs.size : Nat) : Int) - 1 + (m : Int) * -1).toNat]?) = xs.toList.reverse := by
  refine List.ext_getElem? fun k => ?_
  have e : ((List.range xs.size).filterMap fun (m : Nat) => xs[(((xs.size : Nat) : Int) - 1 + (m : Int) * -1).toNat]?) = (List.range xs.size).map fun m => xs.toList.reverse.getD m .none := by
    rw [← List.filterMap_eq_map]
    refine fm_congr _ fun m hm => ?_
    have hl : m < xs.size := List.mem_range.mp hm
    have e1 : (((xs.size : Nat) : Int) - 1 + (m : Int) * -1).toNat = xs.size - 1 - m := by omega
    rw [e1]
    have hr : m < xs.toList.reverse.length := by rw [List.length_reverse, Array.length_toList]; exact hl
    have h2 : xs.size - 1 - m < xs.size := by omega
    rw [Array.getElem?_eq_getElem h2]
    show some _ = some (xs.toList.reverse.getD m .none)
    rw [List.getD_eq_getElem?_getD, List.getElem?_eq_getElem hr, List.getElem_reverse]
    simp
  rw [e, List.getElem?_map]
  by_cases hk : k < xs.size
  · rw [List.getElem?_range hk]
    have hr : k < xs.toList.reverse.length := by rw [List.length_reverse, Array.length_toList]; exact hk
    rw [List.getElem?_eq_getElem hr]
    show some (xs.toList.reverse.getD k .none) = _
    rw [List.getD_eq_getElem?_getD, List.getElem?_eq_getElem hr] <;> rfl
  · rw [List.getElem?_eq_none (by rw [List.length_range]; omega), List.getElem?_eq_none (by rw [List.length_reverse, Array.length_toList]; omega)] <;> rfl
theorem backSlice {t sl : Addr} {items : Array Value} {vl vu vs : Value} {Q : Value → Shared → Prop} (ht : IsTup s.heap t items) (hs : s.heap.IsSliceOf sl vl vu vs) (pl : IsPart vl none) (pu : IsPart vu none) (ps : IsPart vs (some (-1)))
    (h : Q (.ref s.heap.objs.size) { s with heap := s.heap.push { cls := .type "tuple", data := .seq items.toList.reverse.toArray } }) (hsz : items.size ≤ sizeLine) : wpAny (model prog w) A (getItem (.ref t) (.ref sl)) Q E s := by
  have fits : sizeOk (.seq items.toList.reverse.toArray) := by
    show items.toList.reverse.toArray.size ≤ sizeLine
    rw [List.size_toArray, List.length_reverse, Array.length_toList]; exact hsz
  obtain ⟨os, hos, hcs, hds⟩ := id hs
  have tS : s.TypeIs (.ref sl) "slice" := ⟨os, hos, hcs⟩
  unfold getItem
  try with_reducible refine wpAny_holding ?_
  first | refine wpAny_bind (wpAny_pure ?_) | skip
  refine wpAny_bind (wpAny_sequenceKey ht.typeIs (by decide) ?_)
  refine wpAny_bind (wpAny_callSpecial?_slot (name := Str.ofString "__getitem__") ht.typeIs PyProof.Rows.slot_tuple_getitem (wpAny_call_entry PyProof.Rows.slot_tuple_getitem ht.typeIs entry_tuple_getitem ?_ (args_tuple_getitem _ _)))
  show wpAny _ _ (Builtin.Tuple.tupleItemsOf (.ref t) >>= _) _ _ s
  refine wpAny_bind (tupleItemsOf_ ht (wpAny_bind (wpAny_typeOf tS ?_)))
  rw [if_pos (by decide)]
  have app : ∀ {Q' : Int × Int × Nat → Shared → Prop} {E' : Value → Shared → Prop} {A' : Around}, Q' ((items.size : Int) - 1, -1, items.size) s → wpAny (model prog w) A' (Builtin.Slice.sliceApplied (.ref sl) (pure (items.size : Int))) Q' E' s := fun {Q' E' A'} hq => by
    unfold Builtin.Slice.sliceApplied Builtin.Slice.sliceFields
    refine wpAny_bind (wpAny_bind (wpAny_field hos hds (x := vl) rfl (wpAny_bind (wpAny_field hos hds (x := vu) rfl (wpAny_bind (wpAny_field hos hds (x := vs) rfl (wpAny_pure ?_)))))))
    refine wpAny_bind (HT.slicePart_ ps ?_)
    show wpAny _ _ (if ((-1 : Int) == 0) = true then _ else _) _ _ s
    rw [if_neg (by decide)]
    refine wpAny_bind (HT.slicePart_ pl (wpAny_bind (HT.slicePart_ pu (wpAny_bind (wpAny_pure ?_)))))
    show wpAny _ _ (match Builtin.Slice.sliceAdjust none none (-1) (items.size : Int) with | (lo, hi) => pure (lo, (-1 : Int), Builtin.Slice.slicePlaces lo hi (-1))) _ _ s
    rw [(backPlaces items.size).1]
    show wpAny _ _ (pure ((items.size : Int) - 1, (-1 : Int), Builtin.Slice.slicePlaces ((items.size : Int) - 1) (-1) (-1))) _ _ s
    rw [(backPlaces items.size).2]
    exact wpAny_pure hq
  refine wpAny_bind (app ?_)
  have no : ¬ ((((items.size : Int) - 1) == 0 && (-1 : Int) == 1 && items.size == items.size) = true) := by
    intro q
    rw [Bool.and_eq_true, Bool.and_eq_true] at q
    exact absurd q.1.2 (by decide)
  show wpAny _ _ (if (((items.size : Int) - 1) == 0 && (-1 : Int) == 1 && items.size == items.size) = true then _ else _) _ _ s
  rw [if_neg no]
  rw [backPick]
  first
    | exact wpAny_bind (m := Builtin.Tuple.tupleExact _) (wpAny_newObj_type (wpAny_pure ⟨_, rfl, wpAny_pure h⟩) fits)
    | exact wpAny_bind (m := Builtin.Tuple.tupleExact _) (wpAny_newObj_type (wpAny_bind (wpAny_pure (wpAny_pure ⟨_, rfl, wpAny_pure h⟩))) fits)
    | exact wpAny_bind (wpAny_bind (m := Builtin.Tuple.tupleExact _) (wpAny_newObj_type (wpAny_pure (wpAny_pure ⟨_, rfl, wpAny_pure h⟩)) fits))
    | exact wpAny_bind (wpAny_bind (m := Builtin.Tuple.tupleExact _) (wpAny_newObj_type (wpAny_pure ⟨_, rfl, wpAny_pure h⟩) fits))
end
def tBackT (K : Frag) (te : TE) : TE := fun σ H Q => te σ H fun x H1 => ∃ a xs, x = .ref a ∧ SqT K H1 a xs ∧ ∀ p, H1 p = none → Q (.ref p) (upd H1 p (.tup xs.reverse))
section
variable {X : Cx} {W : WX} {e : Expr} {m : ME} {te : TE} {k : Nat} {p1 p2 p3 pos : Pos}
theorem pe_backT (he : PE X e te) : PE X (.Subscript e (.Slice none none (some (.UnaryOp .USub (.Constant (.int 1) k p1) p2)) p3) pos) (tBackT X.K te) := by
  refine ⟨fun pins s σ H Q I hw => ?_⟩
  refine Subscript_ (thn (he.run pins s σ H _ I hw) fun v s1 hh => ?_)
  obtain ⟨x, H1, I1, r1, a, xs, ex, hx, q⟩ := hh
  subst ex
  cases r1
  have stp : PO X (some (.UnaryOp .USub (.Constant (.int 1) k p1) p2)) (tPart (tUn (rU fun i => .int (-i)) (tC (.int 1)))) := po_some (pe_un un_neg pe_int)
  refine wpAny_Slice (thn (po_none.run pins s1 σ H1 (fun o H2 => o = none ∧ H2 = H1) I1 ⟨rfl, rfl⟩) fun vl s2 hh => ?_)
  obtain ⟨l, H2, I2, pl, el, e2⟩ := hh
  subst el e2
  refine thn (po_none.run pins s2 σ H2 (fun o H3 => o = none ∧ H3 = H2) I2 ⟨rfl, rfl⟩) fun vu s3 hh => ?_
  obtain ⟨u, H3, I3, pu, eu, e3⟩ := hh
  subst eu e3
  refine thn (stp.run pins s3 σ H3 (fun o H4 => o = some (-1) ∧ H4 = H3) I3 ⟨1, rfl, -1, rfl, rfl, rfl⟩) fun vs s4 hh => ?_
  obtain ⟨o, H4, I4, ps, eo, e4⟩ := hh
  subst eo e4
  have I5 : Inv X pins σ H4 { s4 with heap := s4.heap.push { cls := .type "slice", data := .fields #[vl, vu, vs] } } := I4.kept (t' := s4.toks) fun b ob q => Heap.get?_push_of_some _ q
  obtain ⟨its, r, ht, hz⟩ := I5.tuple hx
  have hlen := r.length
  show wpAny (model X.prog X.w) X.A (subscriptTail e (.Slice none none (some (.UnaryOp .USub (.Constant (.int 1) k p1) p2)) p3) (.ref a) (.ref s4.heap.objs.size)) (EP X pins σ Q) X.xe { s4 with heap := s4.heap.push { cls := .type "slice", data := .fields #[vl, vu, vs] } }
  refine tail_any (ops := [.ref a, .ref s4.heap.objs.size]) ht.typeIs (PyProof.Rows.slot_tuple_getitem.lookup) ?_ (by with_unfolding_all rfl)
  refine backSlice ht (Heap.IsSliceOf.new _ vl vu vs) pl pu ps ?_ (by rw [List.size_toArray]; omega)
  refine ⟨.ref _, _, I5.laid (t' := s4.toks) (o := .tup xs.reverse) (fun b ob q => Heap.get?_push_of_some _ q) (Nat.le_refl _) ?_, rfl, q _ (I5.hok.fresh (Nat.le_refl _))⟩
  exact ⟨by rw [List.length_reverse]; exact hz, its.reverse, r.reverse, ⟨_, Heap.get?_push_size _ rfl, rfl, _, rfl⟩⟩
def mBack (m : ME) : ME := fun ρ S => (m ρ S).bind fun x S1 => match x with
  | .tup ds => .ok (.tup ds.reverse) S1
  | _ => .bad
theorem d_back (h : DE X W e m) : DE X W (.Subscript e (.Slice none none (some (.UnaryOp .USub (.Constant (.int 1) k p1) p2)) p3) pos) (mBack m) := by
  obtain ⟨te, pe, ke⟩ := h
  refine ⟨_, pe_backT pe, fun ξ μ σ H ρ S Q g s h => ke ξ μ σ H ρ S _ g s (WR.bind h fun x S1 v μ1 H1 u1 s1 r1 h1 => ?_)⟩
  cases r1 with
  | @tup a xs ds f r =>
    exact ⟨a, xs, rfl, f.sq, fun p hp => h1 _ μ1 _ (.fresh hp) (s1.fresh hp) (.tup (.inl ⟨.inl upd_same, s1.out hp, s1.outX hp⟩) (r.reverse.up (.fresh hp)))⟩
  | _ => exact h1.elim
end
end Dm
-- text DmEnd
namespace Dm
open PySem L2 PySem.Spec PyProof.Rows
open PySem.W (Frag)
theorem d_fold {X : Cx} {W : WX} {e : Expr} {m : ME} {d : D} (h : DE X W e m) (hm : ∀ ρ S, m ρ S = .ok d S) : DE X W e (mK d) := by
  have q : m = mK d := funext fun ρ => funext fun S => hm ρ S
  rw [← q]; exact h
def LawTrue (m : List D → Sto → Res D) : Prop := ∀ ns : List Int, ns.length ≤ 63 → ∃ S', m [.lst (ns.map .int)] [] = .ok (.bl true) S'
def spLaw (K : Frag) : Sp := fun vs H Q _ => ∃ (a : Addr) (ns : List Int), vs = [.ref a] ∧ SqL K H a (ns.map V.int) ∧ ns.length ≤ 63 ∧ ∀ H', Q (.bl true) H'
section
variable {P : Program} {w : World} {K : Frag} {mg : Str → Option Value} {base : Heap}
theorem rds_ints {F : Fx} {μ : List Addr} {H : Hp} : ∀ ns : List Int, RDs F μ H (ns.map V.int) (ns.map D.int)
  | [] => .nil
  | n :: ns => .cons (.int n) (rds_ints ns)
theorem law_ok {x sp : Str} {st : Stmt} {f : Addr} {fd : FuncData} {k : Nat} {m : List D → Sto → Res D} (hm : mg x = some (.ref f)) (F : Fun K x x st f fd) (G : FnD P w K mg base k x st [sp] m) (h : LawTrue m) :
    FnOk P w K mg base (L2.CX P w) k f fd [sp] (spLaw K) := by
  obtain ⟨f', fd', hm', F', B', G'⟩ := G
  rw [hm] at hm'
  cases hm'
  have e : fd = fd' := by
    obtain ⟨oc, od, kV, doc, pm, an, cdv, ct, osl, e1, lk, hcd⟩ := F.ex
    obtain ⟨oc', od', kV', doc', pm', an', cdv', ct', osl', e1', lk', hcd'⟩ := F'.ex
    rw [lk] at lk'
    have q := Option.some.inj lk'
    injection q with q1 q2 q3 q4
    injection q3
  subst e
  refine G'.imp fun vs H Q E hh => ?_
  obtain ⟨a, ns, rfl, hS, hl, q⟩ := hh
  obtain ⟨S', e⟩ := h ns hl
  refine ⟨[], [], [.lst (ns.map .int)], [], ⟨rfl, .nil, (fun n a c e _ => nomatch e), (fun a h => nomatch h)⟩, .cons (.lst ?_ (rds_ints ns)) .nil, ?_⟩
  · exact hS.imp (fun z => ⟨z, List.not_mem_nil, List.not_mem_nil⟩) id
  · rw [e]
    intro v μ' H' u s r
    cases r
    exact q H'
theorem cx_no {P : Program} {w : World} {H : Hp} {s s' : Shared} {e : Value} (z : L2.CX P w [] H s (fun _ _ _ => False) e s') : False := by
  obtain ⟨_, _, _, _, _, _, _, _, _, _, _, _, z⟩ := z
  exact z
end
end Dm
-- text DmMore
namespace Dm
open PySem L2
open PySem.W (Frag)
section
variable {X : Cx} {W : WX} {tg e a b c : Expr} {es : List Expr} {ma mb mc m : ME} {pos p p1 p2 p3 : Pos}
/-! ### a list some times -/
def mRepL (a : MA) (b : ME) : MA := fun ρ S => (a ρ S).bind fun xs S1 => (b ρ S1).bind fun y S2 => match y with
  | .int k => if k < 1000000 ∧ xs.length * k.toNat ≤ 16777216 ∧ -1000000 < k then .ok (List.replicate k.toNat xs).flatten S2 else .bad
  | _ => .bad
theorem RDs.rep {F : Fx} {μ : List Addr} {H : Hp} {vs : List V} {ds : List D} (h : RDs F μ H vs ds) : ∀ k : Nat, RDs F μ H (List.replicate k vs).flatten (List.replicate k ds).flatten
  | 0 => .nil
  | k + 1 => by
    rw [List.replicate_succ, List.replicate_succ, List.flatten_cons, List.flatten_cons]
    exact RDs.append h (RDs.rep h k)
theorem mv_hold {ξ : List Addr} {μ μ1 : List Addr} {H H1 : Hp} {p : Addr} {xs : List V} (u1 : Up μ H μ1 H1) (hp : H p = none) (e1 : H1 p = some (.lst xs)) : Mv (fx X ξ) μ H ((fx X ξ).hold p) μ1 H1 :=
  ⟨fun {a xs} q => by
    rcases q.up u1 with ⟨z, n, nx⟩ | z
    · rcases q with ⟨z0, _⟩ | z0
      · refine .inl ⟨z, n, fun m => (List.mem_cons.mp m).elim (fun e => ?_) nx⟩
        subst e
        rcases z0 with z0 | ⟨o, z0⟩ <;> (rw [hp] at z0; cases z0)
      · exact .inr z0
    · exact .inr z, fun {a xs} q => by
    rcases q.up u1 with ⟨z, n, nx⟩ | z
    · rcases q with ⟨z0, _⟩ | z0
      · refine .inl ⟨z, n, fun m => (List.mem_cons.mp m).elim (fun e => ?_) nx⟩
        subst e
        rcases z0 with z0 | ⟨o, z0⟩ <;> (rw [hp] at z0; cases z0)
      · exact .inr z0
    · exact .inr z, fun q => u1.get q, rfl, fun q => q.upHold u1 hp⟩
theorem dl_rep {na : MA} (ha : DL X W a na) (hb : DE X W b mb) : DL X W (.BinOp a .Mult b pos) (mRepL na mb) := by
  obtain ⟨ta, pa, ka⟩ := ha
  obtain ⟨tb, pb, kb⟩ := hb
  refine ⟨_, pe_op op_rep pa pb, fun ξ μ σ H ρ S Q g s h => ka ξ μ σ H ρ S _ g s (WL'.bindL h fun ds S1 p xs μ1 H1 u1 hp s1 r1 e1 h1 => ?_)⟩
  refine kb (p :: ξ) μ1 σ H1 ρ S1 _ ?_ s1 ?_
  · exact ⟨g.len, fun i d e => by
      obtain ⟨v, h, r⟩ := (g.up u1).at_ i d e
      obtain ⟨v', h', r'⟩ := g.at_ i d e
      rw [h] at h'; cases h'
      exact ⟨v, h, r'.mv (mv_hold u1 hp e1)⟩⟩
  cases e : mb ρ S1 with
  | bad => rw [e] at h1; exact h1.elim
  | exc c fs S2 =>
    rw [e] at h1
    exact fun cls dd μ' H' u' s' x' => h1 cls dd μ' H' u' (RS.free (F := fx X ξ) (p := p) s') (XR.hold (F := fx X ξ) (p := p) x')
  | ok y S2 =>
    rw [e] at h1
    intro v μ2 H2 u2 s2 r2
    have hpq : p ∉ μ1 := (s1.xi p List.mem_cons_self).1
    have ep := u2.keep _ _ e1 hpq
    cases y with
    | int k =>
      cases r2
      by_cases c : k < 1000000 ∧ ds.length * k.toNat ≤ 16777216 ∧ -1000000 < k
      · have h1 : WL' (fx X ξ) (if k < 1000000 ∧ ds.length * k.toNat ≤ 16777216 ∧ -1000000 < k then Res.ok (List.replicate k.toNat ds).flatten S2 else .bad) Q (fun cls dd H' => W cls dd σ H') μ1 H1 := h1
        rw [if_pos c] at h1
        refine ⟨p, k, xs, rfl, rfl, ep, by omega, by omega, by rw [r1.length, sizeLine_eq]; exact c.2.1, fun r hr => ?_⟩
        have rr : RDs (fx X ξ) μ2 H2 (List.replicate k.toNat xs).flatten (List.replicate k.toNat ds).flatten := RDs.rep ((r1.mv .free).up u2) _
        have ss : RS (fx X ξ) μ2 H2 S2 := RS.free (F := fx X ξ) (p := p) s2
        have nr : r ∉ μ1 := fun z => ss.out hr (u2.mem z)
        exact h1 r _ μ2 _ (u2.trans (.fresh hr)) (u2.back hr nr) (ss.holds hr) (rr.mv (.holds hr)) upd_same
      · have h1 : WL' (fx X ξ) (if k < 1000000 ∧ ds.length * k.toNat ≤ 16777216 ∧ -1000000 < k then Res.ok (List.replicate k.toNat ds).flatten S2 else .bad) Q (fun cls dd H' => W cls dd σ H') μ1 H1 := h1
        rw [if_neg c] at h1
        exact h1.elim
    | _ => exact h1.elim
/-! ### a comprehension that is kept by a name -/
abbrev RdL (X : Cx) (W : WX) (te : TE) (mr : MA) : Prop := ∀ ξ μ σ H ρ S Q, RG (fx X ξ) μ H σ ρ → RS (fx X ξ) μ H S → WL' (fx X ξ) (mr ρ S) Q (fun cls dd H' => W cls dd σ H') μ H → te σ H Q
abbrev RdE (X : Cx) (W : WX) (te : TE) (m : ME) : Prop := ∀ ξ μ σ H ρ S Q, RG (fx X ξ) μ H σ ρ → RS (fx X ξ) μ H S → WE' (fx X ξ) (m ρ S) Q (fun cls dd H' => W cls dd σ H') μ H → te σ H Q
theorem rd_fz {te : TE} {mr : MA} (k : RdL X W te mr) : RdE X W te (mFz mr) := by
  intro ξ μ σ H ρ S Q g s h
  refine k ξ μ σ H ρ S Q g s ?_
  unfold mFz at h
  cases e : mr ρ S with
  | bad => rw [e] at h; exact h.elim
  | exc c fs S' => rw [e] at h; exact h
  | ok ds S' =>
    rw [e] at h
    exact fun q xs μ' H' u' hq s' r' e' => h _ μ' H' u' s'.free (.lst (.inl ⟨.inl e', (s'.xi q List.mem_cons_self).1, s.outX hq⟩) (r'.mv .free))
/-- .. the ways to keep it: as it is, or as a cell -/
theorem ds_setLc {mr : MA} (i : Nat) {y : Str} {py spos : Pos} {elt : Expr} {ifs : List Expr} {scope : Scope} {own : List (Str × Nat)} {f : D → Rho → Option Rho} {is : List Nat} {mt me : ME} {mw : MA → ME} (hw : ∀ {te : TE} {mr : MA}, RdL X W te mr → RdE X W te (mw mr)) (hc : X.calm = true) (hN : X.N.Nodup) (hi : DI X W tg e mr) (ok : BlkOk X.N X.env.scope scope own)
    (hg : ∀ (s : Shared) (H : Hp) (C : Addr) (cl : List (Str × Addr)) (fp : List Addr), DG (X.blk s H scope (compEnvC scope cl C X.env) fp) tg f is)
    (ht : ∀ (s : Shared) (H : Hp) (C : Addr) (cl : List (Str × Addr)) (fp : List Addr), DTs (X.blk s H scope (compEnvC scope cl C X.env) fp) W0 ifs mt)
    (he : ∀ (s : Shared) (H : Hp) (C : Addr) (cl : List (Str × Addr)) (fp : List Addr), DE (X.blk s H scope (compEnvC scope cl C X.env) fp) W0 elt me)
    (hv : ∀ i ∈ is, i ∈ own.map (·.2) := by decide) (hy : X.N[i]? = some y := by rfl) (hyl : X.env.scope.names.lookup y = some .local := by rfl)
    (hsw : swapsWith (.ListComp elt [⟨tg, e, ifs, 0⟩] scope pos) (some (.Name y py)) spos.line X.env = pure true := by rfl) (hs : ∀ x, foldedSetIterable e X.env x = pure x := by intro _; rfl) :
    DS X W (.Assign [.Name y py] (.ListComp elt [⟨tg, e, ifs, 0⟩] scope pos) spos) (mAsg i (mw (mLc mr f mt me (own.map (·.2))))) := by
  obtain ⟨wi, pi, ki⟩ := hi
  obtain ⟨tg', pg, kg⟩ := dg_all (Xf := blkOf X scope) (K := X.K) (mg := X.mg) (fun _ => rfl) (fun _ => rfl) fun i => hg i.1 i.2.1 i.2.2.1 i.2.2.2.1 i.2.2.2.2
  obtain ⟨tt, pt, kt⟩ := dts_all (Xf := blkOf X scope) (K := X.K) (mg := X.mg) (fun _ => rfl) (fun _ => rfl) fun i => ht i.1 i.2.1 i.2.2.1 i.2.2.2.1 i.2.2.2.2
  obtain ⟨te, pe, ke⟩ := de_all (Xf := blkOf X scope) (K := X.K) (mg := X.mg) (fun _ => rfl) (fun _ => rfl) fun i => he i.1 i.2.1 i.2.2.1 i.2.2.2.1 i.2.2.2.2
  have rd : RdL X W (tLc wi tg' tt te (own.map (·.2))) (mLc mr f mt me (own.map (·.2))) := fun ξ μ σ H ρ S Q g s h => lc_read (fun R => ki ξ μ σ H ρ S R g s) kg kt ke hv g s h
  refine ⟨_, ps_setLc (i := i) hc hN hy hyl hsw pi ok (fun s H C cl fp => pg (s, H, C, cl, fp)) (fun s H C cl fp => pt (s, H, C, cl, fp)) (fun s H C cl fp => pe (s, H, C, cl, fp)) hs, fun ξ μ σ H ρ S D g s h => ?_⟩
  exact hw rd ξ μ σ H ρ S _ g s (WS'.bind g h fun x S1 v μ1 H1 u1 s1 r1 h1 => h1 _ μ1 H1 .refl s1 ((g.up u1).set i r1))
/-! ### a kept list and a new one behind it -/
def mCatC (a : ME) (b : MA) : MA := fun ρ S => (a ρ S).bind fun x S1 => (b ρ S1).bind fun ys S2 => match x with
  | .cell n => match S2[n]? with
    | some (.lst xs) => if xs.length + ys.length ≤ 16777216 then .ok (xs ++ ys) S2 else .bad
    | _ => .bad
  | _ => .bad
theorem dl_catC {nb : MA} (ha : DE X W a ma) (hb : DL X W b nb) : DL X W (.BinOp a .Add b pos) (mCatC ma nb) := by
  obtain ⟨ta, pa, ka⟩ := ha
  obtain ⟨tb, pb, kb⟩ := hb
  refine ⟨_, pe_op op_cat pa pb, fun ξ μ σ H ρ S Q g s h => ka ξ μ σ H ρ S _ g s (WL'.bind h fun x S1 v μ1 H1 u1 s1 r1 h1 => ?_)⟩
  refine kb ξ μ1 σ H1 ρ S1 _ (g.up u1) s1 (WL'.bindL h1 fun es S2 q ys μ2 H2 u2 hq s2 r2 e2 h2 => ?_)
  cases r1 with
  | @cell a n ea =>
    cases c : S2[n]? with
    | none => simp only [c] at h2; exact h2.elim
    | some cc =>
      cases cc with
      | lst ds =>
        simp only [c] at h2
        obtain ⟨xs, e3, r3⟩ := s2.at_ n a _ (u2.get ea) c
        by_cases l : ds.length + es.length ≤ 16777216
        · rw [if_pos l] at h2
          refine ⟨a, q, xs, ys, rfl, rfl, e3, e2, by rw [r3.length, r2.length, sizeLine_eq]; exact l, fun r hr => ?_⟩
          have rr : RDs (fx X ξ) μ2 H2 (xs ++ ys) (ds ++ es) := RDs.free (F := fx X ξ) (p := q) _ (RDs.append r3 r2)
          have ss : RS (fx X ξ) μ2 H2 S2 := RS.free (F := fx X ξ) (p := q) s2
          exact h2 r _ μ2 _ (.fresh hr) hr (ss.holds hr) (rr.mv (.holds hr)) upd_same
        · rw [if_neg l] at h2
          exact h2.elim
      | _ => simp only [c] at h2; exact h2.elim
  | _ => exact h2.elim
end
end Dm
-- text DmCat
namespace Dm
open PySem L2 PySem.Spec PyProof.Rows
open PySem.W (Frag)
section
variable {X : Cx} {W : WX} {tg e a b c : Expr} {es : List Expr} {ma mb mc m : ME} {pos p p1 p2 p3 : Pos}
def rCatB (K : Frag) : R2 := fun x y H Q => ∃ l b xs zs, x = .ref l ∧ y = .ref b ∧ SqL K H l xs ∧ SqL K H b zs ∧ xs.length + zs.length ≤ sizeLine ∧ ∀ p, H p = none → Q (.ref p) (upd H p (.lst (xs ++ zs)))
theorem op_catB : OpR X (binaryOp .Add) (rCatB X.K) := by
  intro pins s σ H x y v u Q I rx ry h
  obtain ⟨l, b, xs, zs, rfl, rfl, hl, hb, hz, q⟩ := h
  cases rx
  cases ry
  obtain ⟨its, r, ⟨o, n, ho, hc, hd, hs⟩, z⟩ := I.list hl
  obtain ⟨its2, r2, ⟨o2, n2, ho2, hc2, hd2, hs2⟩, z2⟩ := I.list hb
  obtain ⟨cls, dd, data, sl⟩ := o
  obtain ⟨cls2, dd2, data2, sl2⟩ := o2
  simp only at hc hd hs hc2 hd2 hs2
  subst hc hd hs hc2 hd2 hs2
  have ea : its.toArray ++ its2.toArray = (its ++ its2).toArray := by simp
  refine concat_meets ⟨_, ho, rfl⟩ ⟨_, ho2, rfl⟩ noFill_list_add seq_list_add PySem.F.slot_list_add PySem.F.entry_list_add (PySem.F.args_list_add_2 _ _) (list_addW l b its.toArray its2.toArray n n2 none none sl sl2 (by rw [List.size_toArray, List.size_toArray, ← r.length, ← r2.length]; exact hz)) ⟨ho, ho2, ?_⟩
  rw [ea]
  exact ⟨.ref _, _, I.lnew (t' := s.toks) (r.append r2) (by rw [List.length_append]; exact hz), rfl, q _ I.fresh⟩
/-- a list that stands somewhere and a new one behind it -/
def mCatV (a : ME) (b : MA) : MA := fun ρ S => (a ρ S).bind fun x S1 => (b ρ S1).bind fun ys S2 => match lstOf S2 x with
  | some xs => if xs.length + ys.length ≤ 16777216 then .ok (xs ++ ys) S2 else .bad
  | none => .bad
theorem dl_catV {nb : MA} (ha : DE X W a ma) (hb : DL X W b nb) : DL X W (.BinOp a .Add b pos) (mCatV ma nb) := by
  obtain ⟨ta, pa, ka⟩ := ha
  obtain ⟨tb, pb, kb⟩ := hb
  refine ⟨_, pe_op op_catB pa pb, fun ξ μ σ H ρ S Q g s h => ka ξ μ σ H ρ S _ g s (WL'.bind h fun x S1 v μ1 H1 u1 s1 r1 h1 => ?_)⟩
  refine kb ξ μ1 σ H1 ρ S1 _ (g.up u1) s1 (WL'.bindL h1 fun es S2 q ys μ2 H2 u2 hq s2 r2 e2 h2 => ?_)
  cases c : lstOf S2 x with
  | none => simp only [c] at h2; exact h2.elim
  | some ds =>
    simp only [c] at h2
    have ss : RS (fx X ξ) μ2 H2 S2 := RS.free (F := fx X ξ) (p := q) s2
    obtain ⟨l, xs, rfl, h4, r3⟩ := RD.lstS ss (r1.up u2) c
    by_cases l : ds.length + es.length ≤ 16777216
    · rw [if_pos l] at h2
      refine ⟨_, q, xs, ys, rfl, rfl, h4, SqL.of e2, by rw [r3.length, r2.length, sizeLine_eq]; exact l, fun r hr => ?_⟩
      have rr : RDs (fx X ξ) μ2 H2 (xs ++ ys) (ds ++ es) := RDs.append r3 (RDs.free (F := fx X ξ) (p := q) _ r2)
      exact h2 r _ μ2 _ (.fresh hr) hr (ss.holds hr) (rr.mv (.holds hr)) upd_same
    · rw [if_neg l] at h2
      exact h2.elim
end
end Dm
-- text DmAll

-- text Hw
namespace Dm
open PySem L2
noncomputable section
def m_is_integer : List D → Sto → Res D := mDef 1 1 (mRet (mAnd (mIsi .int (mVar 0)) (mNot (mIsi .bl (mVar 0)))))
def m_is_zone : List D → Sto → Res D := mDef 1 5 (mSeq (mIfS (mOr (mNot (mIsi .tup (mVar 0))) (mOp gNe (mCallB gLen (mCons (mVar 0) mNil)) (mK (.int 2)))) (mRet (mK (.bl false))) mNop) (mSeq (mAsgG (tgT 2 (tgCons (tgN 1) (tgCons (tgN 2) tgNil))) (mVar 0)) (mSeq (mIfS (mOr (mNot (mIsi .tup (mVar 1))) (mNot (mChain gLe gLe (mK (.int 1)) (mCallB gLen (mCons (mVar 1) mNil)) (mK (.int 3))))) (mRet (mK (.bl false))) mNop) (mSeq (mFor (iSeq (mVar 1)) (tgN 3) (mIfS (mOr (mNot (mCall m_is_integer (mCons (mVar 3) mNil))) (mNot (mChain gLe gLe (mUn gNeg (mK (.int 900))) (mVar 3) (mK (.int 900))))) (mRet (mK (.bl false))) mNop)) (mSeq (mFor (iRange2 (mCons (mK (.int 1)) (mCons (mCallB gLen (mCons (mVar 1) mNil)) mNil))) (tgN 4) (mIfS (mOp gLe (mOp gIx (mVar 1) (mVar 4)) (mOp gIx (mVar 1) (mOp gSub (mVar 4) (mK (.int 1))))) (mRet (mK (.bl false))) mNop)) (mRet (mAnd (mCall m_is_integer (mCons (mVar 2) mNil)) (mChain gLt gLe (mOp gSub (mOp gIx (mVar 1) (mK (.int (-1)))) (mOp gIx (mVar 1) (mK (.int 0)))) (mVar 2) (mK (.int 1000000))))))))))
def m_need_zone : List D → Sto → Res D := mDef 1 1 (mIfS (mNot (mCall m_is_zone (mCons (mVar 0) mNil))) (mRaise "InvalidZone") mNop)
def m_need_number : List D → Sto → Res D := mDef 1 1 (mIfS (mNot (mCall m_is_integer (mCons (mVar 0) mNil))) (mRaise "InvalidNumber") mNop)
def m_is_offset : List D → Sto → Res D := mDef 2 2 (mRet (mAnd (mCall m_is_integer (mCons (mVar 1) mNil)) (mOp (gIn false) (mVar 1) (mOp gIx (mVar 0) (mK (.int 0))))))
def m_is_mark : List D → Sto → Res D := mDef 2 2 (mRet (mAnd (mIsi .tup (mVar 1)) (mAnd (mOp gEq (mCallB gLen (mCons (mVar 1) mNil)) (mK (.int 2))) (mAnd (mCall m_is_integer (mCons (mOp gIx (mVar 1) (mK (.int 0))) mNil)) (mCall m_is_offset (mCons (mVar 0) (mCons (mOp gIx (mVar 1) (mK (.int 1))) mNil)))))))
def m_is_table : List D → Sto → Res D := mDef 2 6 (mSeq (mDrop (mCall m_need_zone (mCons (mVar 0) mNil))) (mSeq (mIfS (mOr (mNot (mIsi .tup (mVar 1))) (mOr (mOp gNe (mCallB gLen (mCons (mVar 1) mNil)) (mK (.int 2))) (mNot (mCall m_is_offset (mCons (mVar 0) (mCons (mOp gIx (mVar 1) (mK (.int 0))) mNil)))))) (mRet (mK (.bl false))) mNop) (mSeq (mAsgG (tgT 2 (tgCons (tgN 2) (tgCons (tgN 3) tgNil))) (mVar 1)) (mSeq (mIfS (mNot (mIsi .tup (mVar 3))) (mRet (mK (.bl false))) mNop) (mSeq (mFor (iEnumS (mVar 3)) (tgT 2 (tgCons (tgN 4) (tgCons (tgN 5) tgNil))) (mSeq (mIfS (mOr (mNot (mCall m_is_mark (mCons (mVar 0) (mCons (mVar 5) mNil)))) (mOp gEq (mOp gIx (mVar 5) (mK (.int 1))) (mVar 2))) (mRet (mK (.bl false))) mNop) (mSeq (mIfS (mAnd (mOp gGt (mVar 4) (mK (.int 0))) (mOp gLt (mOp gSub (mOp gIx (mVar 5) (mK (.int 0))) (mOp gIx (mOp gIx (mVar 3) (mOp gSub (mVar 4) (mK (.int 1)))) (mK (.int 0)))) (mOp gIx (mVar 0) (mK (.int 1))))) (mRet (mK (.bl false))) mNop) (mAsg 2 (mOp gIx (mVar 5) (mK (.int 1))))))) (mRet (mK (.bl true))))))))
def m_need_table : List D → Sto → Res D := mDef 2 2 (mIfS (mNot (mCall m_is_table (mCons (mVar 0) (mCons (mVar 1) mNil)))) (mRaise "InvalidTable") mNop)
def m_offset_in : List D → Sto → Res D := mDef 2 5 (mSeq (mAsg 2 (mOp gIx (mVar 0) (mK (.int 0)))) (mSeq (mFor (iSeq (mOp gIx (mVar 0) (mK (.int 1)))) (tgT 2 (tgCons (tgN 3) (tgCons (tgN 4) tgNil))) (mSeq (mIfS (mOp gGt (mVar 3) (mVar 1)) mBrk mNop) (mAsg 2 (mVar 4)))) (mRet (mVar 2))))
def m_offset_at : List D → Sto → Res D := mDef 3 3 (mSeq (mDrop (mCall m_need_zone (mCons (mVar 0) mNil))) (mSeq (mDrop (mCall m_need_table (mCons (mVar 0) (mCons (mVar 1) mNil)))) (mSeq (mDrop (mCall m_need_number (mCons (mVar 2) mNil))) (mRet (mCall m_offset_in (mCons (mVar 1) (mCons (mVar 2) mNil)))))))
def m_reading_at : List D → Sto → Res D := mDef 3 3 (mRet (mOp gAdd (mVar 2) (mCall m_offset_at (mCons (mVar 0) (mCons (mVar 1) (mCons (mVar 2) mNil))))))
def m_law_digits : List D → Sto → Res D := mDef 1 4 (mSeq (mIfS (mOp gGe (mVar 0) (mK (.int 1000000000000000000))) (mRet (mNew (mLst (mCons (mOp gSub (mVar 0) (mK (.int 1000000000000000000))) mNil)))) mNop) (mSeq (mAsg 1 (mOp gAdd (mOp gMod (mCallB gInt1 (mCons (mVar 0) mNil)) (mK (.int 100000000000000000000000000000000000133))) (mK (.int 7)))) (mSeq (mAsg 2 (mK (.int 1))) (mSeq (mFor (iRange1 (mCons (mK (.int 19)) mNil)) (tgN 3) (mSeq (mAsg 1 (mOp gMod (mOp gAdd (mOp gAdd (mOp gAdd (mOp gMul (mVar 1) (mVar 1)) (mOp gMul (mK (.int 31415926535)) (mVar 1))) (mOp gMul (mK (.int 271829)) (mVar 3))) (mK (.int 17))) (mK (.int 100000000000000000000000000000000000000009)))) (mIfS (mOp gGt (mVar 3) (mK (.int 2))) (mAsg 2 (mOp gAdd (mOp gMul (mVar 2) (mK (.int 100000000000000000000000000000000000000000))) (mVar 1))) mNop))) (mRet (mNew (mLst (mCons (mVar 2) mNil))))))))
def m_law_draw : List D → Sto → Res D := mDef 2 3 (mSeq (mAsg 2 (mOp gMod (mCallB gInt1 (mCons (mOp gIx (mVar 0) (mK (.int 0))) mNil)) (mVar 1))) (mSeq (mSetIx (mOp gFdiv (mOp gIx (mVar 0) (mK (.int 0))) (mVar 1)) (mVar 0) (mK (.int 0))) (mRet (mVar 2))))
def m_law_any_hour : List D → Sto → Res D := mDef 1 2 (mSeq (mAsg 1 (mCall m_law_draw (mCons (mVar 0) (mCons (mK (.int 4)) mNil)))) (mSeq (mIfS (mOp gLt (mVar 1) (mK (.int 2))) (mRet (mOp gSub (mCall m_law_draw (mCons (mVar 0) (mCons (mK (.int 241)) mNil))) (mK (.int 120)))) mNop) (mSeq (mIfS (mOp gEq (mVar 1) (mK (.int 2))) (mRet (mOp gSub (mCall m_law_draw (mCons (mVar 0) (mCons (mK (.int 1800000000001)) mNil))) (mK (.int 900000000000)))) mNop) (mRet (mOp gIx (mFz (mLst (mCons (mK (.int 0)) (mCons (mK (.int 1)) (mCons (mK (.int (-1))) (mCons (mK (.int 1440)) (mCons (mK (.int (-525600))) (mCons (mK (.int 999799999999)) (mCons (mK (.int (-999999999999))) mNil))))))))) (mCall m_law_draw (mCons (mVar 0) (mCons (mK (.int 7)) mNil))))))))
def m_law_make_region : List D → Sto → Res D := mDef 1 11 (mSeq (mAsg 1 (mCall m_law_draw (mCons (mVar 0) (mCons (mK (.int 6)) mNil)))) (mSeq (mAsg 2 (mK (.int (-900)))) (mSeq (mIfS (mOp gLt (mVar 1) (mK (.int 2))) (mAsg 2 (mOp gSub (mCall m_law_draw (mCons (mVar 0) (mCons (mK (.int 7)) mNil))) (mK (.int 3)))) (mIfS (mOp gEq (mVar 1) (mK (.int 2))) (mAsg 2 (mOp gMul (mK (.int 30)) (mOp gSub (mCall m_law_draw (mCons (mVar 0) (mCons (mK (.int 45)) mNil))) (mK (.int 22))))) (mIfS (mOp gEq (mVar 1) (mK (.int 4))) (mAsg 2 (mOp gSub (mCall m_law_draw (mCons (mVar 0) (mCons (mK (.int 1201)) mNil))) (mK (.int 900)))) mNop))) (mSeq (mAsgG (tgT 2 (tgCons (tgN 3) (tgCons (tgN 4) tgNil))) (mOp gIx (mFz (mLst (mCons (mTup (mCons (mK (.int 1)) (mCons (mK (.int 4)) mNil))) (mCons (mTup (mCons (mK (.int 1)) (mCons (mK (.int 4)) mNil))) (mCons (mTup (mCons (mK (.int 30)) (mCons (mK (.int 4)) mNil))) (mCons (mTup (mCons (mK (.int 1)) (mCons (mK (.int 900)) mNil))) (mCons (mTup (mCons (mK (.int 1)) (mCons (mK (.int 300)) mNil))) (mCons (mTup (mCons (mK (.int 900)) (mCons (mK (.int 1)) mNil))) mNil)))))))) (mVar 1))) (mSeq (mAsg 5 (mOp gAdd (mVar 2) (mOp gMul (mVar 3) (mOp gAdd (mK (.int 1)) (mCall m_law_draw (mCons (mVar 0) (mCons (mVar 4) mNil))))))) (mSeq (mAsg 6 (mOp gAdd (mVar 5) (mOp gMul (mVar 3) (mOp gAdd (mK (.int 1)) (mCall m_law_draw (mCons (mVar 0) (mCons (mVar 4) mNil))))))) (mSeq (mAsg 7 (mFz (mLst (mCons (mTup (mCons (mVar 2) (mCons (mVar 5) mNil))) (mCons (mTup (mCons (mVar 2) (mCons (mVar 5) (mCons (mVar 6) mNil)))) (mCons (mTup (mCons (mVar 2) (mCons (mVar 6) mNil))) (mCons (mTup (mCons (mVar 2) (mCons (mVar 5) (mCons (mVar 6) mNil)))) (mCons (mTup (mCons (mVar 6) mNil)) mNil)))))))) (mSeq (mAsg 7 (mOp gIx (mVar 7) (mOp gFdiv (mCall m_law_draw (mCons (mVar 0) (mCons (mK (.int 9)) mNil))) (mK (.int 2))))) (mSeq (mIfS (mOp gEq (mCall m_law_draw (mCons (mVar 0) (mCons (mK (.int 2)) mNil))) (mK (.int 1))) (mAsg 7 (mCallB gTuple (mCons (mFz (mLc (iSeq (mBack (mVar 7))) (tgN 10) mYes (mUn gNeg (mVar 10)) [10])) mNil))) mNop) (mSeq (mAsg 8 (mOp gSub (mOp gIx (mVar 7) (mK (.int (-1)))) (mOp gIx (mVar 7) (mK (.int 0))))) (mSeq (mAsg 9 (mFz (mLst (mCons (mK (.int 0)) (mCons (mK (.int 0)) (mCons (mK (.int 1)) (mCons (mCall m_law_draw (mCons (mVar 0) (mCons (mK (.int 1000)) mNil))) (mCons (mCall m_law_draw (mCons (mVar 0) (mCons (mOp gSub (mK (.int 1000000)) (mVar 8)) mNil))) (mCons (mOp gSub (mK (.int 999999)) (mVar 8)) mNil))))))))) (mRet (mTup (mCons (mVar 7) (mCons (mOp gAdd (mOp gAdd (mVar 8) (mK (.int 1))) (mOp gIx (mVar 9) (mCall m_law_draw (mCons (mVar 0) (mCons (mK (.int 6)) mNil))))) mNil)))))))))))))))
def m_law_make_chart : List D → Sto → Res D := mDef 3 11 (mSeq (mAsgG (tgT 2 (tgCons (tgN 3) (tgCons (tgN 4) tgNil))) (mVar 1)) (mSeq (mAsg 5 (mCall m_law_draw (mCons (mVar 0) (mCons (mCallB gLen (mCons (mVar 3) mNil)) mNil)))) (mSeq (mAsg 6 (mOp gIx (mVar 3) (mVar 5))) (mSeq (mAsg 7 (mCall m_law_any_hour (mCons (mVar 0) mNil))) (mSeq (mAsg 8 (mNew (mLst mNil))) (mSeq (mFor (iRange1 (mCons (mOp gMul (mCall m_law_draw (mCons (mVar 0) (mCons (mOp gAdd (mVar 2) (mK (.int 1))) mNil))) (mCallB gInt1 (mCons (mOp gGt (mCallB gLen (mCons (mVar 3) mNil)) (mK (.int 1))) mNil))) mNil)) (tgN 9) (mSeq (mAsg 5 (mOp gMod (mCallB gInt1 (mCons (mOp gAdd (mOp gAdd (mVar 5) (mK (.int 1))) (mCall m_law_draw (mCons (mVar 0) (mCons (mOp gSub (mCallB gLen (mCons (mVar 3) mNil)) (mK (.int 1))) mNil)))) mNil)) (mCallB gLen (mCons (mVar 3) mNil)))) (mSeq (mApp (mVar 8) (mTup (mCons (mVar 7) (mCons (mOp gIx (mVar 3) (mVar 5)) mNil)))) (mSeq (mAsg 7 (mOp gAdd (mVar 7) (mVar 4))) (mSeq (mAsg 10 (mCall m_law_draw (mCons (mVar 0) (mCons (mK (.int 5)) mNil)))) (mIfS (mOp gGt (mVar 10) (mK (.int 2))) (mAsg 7 (mOp gAdd (mVar 7) (mCall m_law_draw (mCons (mVar 0) (mCons (mOp gIx (mFz (mLst (mCons (mK (.int 0)) (mCons (mK (.int 0)) (mCons (mK (.int 0)) (mCons (mK (.int 5)) (mCons (mOp gMul (mK (.int 2)) (mVar 4)) mNil))))))) (mVar 10)) mNil))))) mNop)))))) (mRet (mTup (mCons (mVar 6) (mCons (mCallB gTuple (mCons (mVar 8) mNil)) mNil))))))))))
def m_law_shift_at : List D → Sto → Res D := mDef 2 5 (mSeq (mAsg 2 (mOp gIx (mVar 0) (mK (.int 0)))) (mSeq (mFor (iSeq (mOp gIx (mVar 0) (mK (.int 1)))) (tgT 2 (tgCons (tgN 3) (tgCons (tgN 4) tgNil))) (mIfS (mOp gLe (mVar 3) (mVar 1)) (mAsg 2 (mVar 4)) mNop)) (mRet (mVar 2))))
def m_law_near : List D → Sto → Res D := mDef 3 7 (mSeq (mAsg 3 (mOp gIx (mVar 2) (mK (.int 1)))) (mSeq (mIfS (mOr (mOp gEq (mCallB gLen (mCons (mVar 3) mNil)) (mK (.int 0))) (mOp gEq (mCall m_law_draw (mCons (mVar 0) (mCons (mK (.int 8)) mNil))) (mK (.int 7)))) (mRet (mCall m_law_any_hour (mCons (mVar 0) mNil))) mNop) (mSeq (mAsg 4 (mOp gIx (mOp gIx (mVar 3) (mCall m_law_draw (mCons (mVar 0) (mCons (mCallB gLen (mCons (mVar 3) mNil)) mNil)))) (mK (.int 0)))) (mSeq (mAsg 5 (mOp gSub (mOp gIx (mOp gIx (mVar 1) (mK (.int 0))) (mK (.int (-1)))) (mOp gIx (mOp gIx (mVar 1) (mK (.int 0))) (mK (.int 0))))) (mSeq (mAsg 6 (mOp gSub (mOp gSub (mCall m_law_draw (mCons (mVar 0) (mCons (mOp gAdd (mOp gMul (mK (.int 2)) (mVar 5)) (mK (.int 5))) mNil))) (mVar 5)) (mK (.int 2)))) (mSeq (mAsg 4 (mOp gAdd (mVar 4) (mOp gIx (mFz (mLst (mCons (mK (.int 0)) (mCons (mK (.int (-1))) (mCons (mK (.int 1)) (mCons (mVar 5) (mCons (mUn gNeg (mVar 5)) (mCons (mOp gSub (mVar 5) (mK (.int 1))) (mCons (mOp gSub (mK (.int 1)) (mVar 5)) (mCons (mVar 6) mNil)))))))))) (mCall m_law_draw (mCons (mVar 0) (mCons (mK (.int 8)) mNil)))))) (mRet (mCallB gMax2 (mCons (mK (.int (-999999999999))) (mCons (mCallB gMin2 (mCons (mK (.int 999999999999)) (mCons (mVar 4) mNil))) mNil))))))))))
def m_law_whole : List D → Sto → Res D := mDef 1 1 (mRet (mAnd (mIsi .int (mVar 0)) (mNot (mIsi .bl (mVar 0)))))
def m_law_same : Nat → List D → Sto → Res D
  | 0 => fun _ _ => .bad
  | n + 1 => mDef 2 3 (mSeq (mIfS (mIsiT [.tup, .lst] (mVar 1)) (mSeq (mIfS (mOr (mNot (mIsiT [.tup, .lst] (mVar 0))) (mOp gNe (mIsi .lst (mVar 0)) (mIsi .lst (mVar 1)))) (mRet (mK (.bl false))) mNop) (mRet (mAnd (mOp gEq (mCallB gLen (mCons (mVar 0) mNil)) (mCallB gLen (mCons (mVar 1) mNil))) (mCallB gAll (mCons (mFz (mLc (iRange1 (mCons (mCallB gLen (mCons (mVar 1) mNil)) mNil)) (tgN 2) mYes (mCall (m_law_same n) (mCons (mOp gIx (mVar 0) (mVar 2)) (mCons (mOp gIx (mVar 1) (mVar 2)) mNil))) [2])) mNil))))) mNop) (mSeq (mIfS (mOp (gIsN false) (mVar 1) (mK .non)) (mRet (mOp (gIsN false) (mVar 0) (mK .non))) mNop) (mSeq (mIfS (mIsi .bl (mVar 1)) (mRet (mAnd (mIsi .bl (mVar 0)) (mOp gEq (mVar 0) (mVar 1)))) mNop) (mSeq (mIfS (mIsi .int (mVar 1)) (mRet (mAnd (mCall m_law_whole (mCons (mVar 0) mNil)) (mOp gEq (mVar 0) (mVar 1)))) mNop) (mSeq (mIfS (mIsi .str (mVar 1)) (mRet (mAnd (mIsi .str (mVar 0)) (mOp gEq (mVar 0) (mVar 1)))) mNop) (mRet (mAnd (mNot (mIsiT [.tup, .lst, .int, .str] (mVar 0))) (mOp (gIsN true) (mVar 0) (mK .non)))))))))
def m_moments_of : List D → Sto → Res D := mDef 3 4 (mSeq (mDrop (mCall m_need_zone (mCons (mVar 0) mNil))) (mSeq (mDrop (mCall m_need_table (mCons (mVar 0) (mCons (mVar 1) mNil)))) (mSeq (mDrop (mCall m_need_number (mCons (mVar 2) mNil))) (mRet (mNew (mLc (iSeq (mBack (mOp gIx (mVar 0) (mK (.int 0))))) (tgN 3) (mOp gEq (mCall m_offset_in (mCons (mVar 1) (mCons (mOp gSub (mVar 2) (mVar 3)) mNil))) (mVar 3)) (mOp gSub (mVar 2) (mVar 3)) [3]))))))
def m_law_hours_of : List D → Sto → Res D := mDef 2 7 (mSeq (mAsg 2 (mOp gIx (mVar 0) (mK (.int 1)))) (mSeq (mAsg 3 (mNew (mLst mNil))) (mSeq (mAsg 4 (mOp gIx (mVar 0) (mK (.int 0)))) (mSeq (mFor (iRange1 (mCons (mOp gAdd (mCallB gLen (mCons (mVar 2) mNil)) (mK (.int 1))) mNil)) (tgN 5) (mSeq (mAsg 6 (mOp gSub (mVar 1) (mVar 4))) (mSeq (mIfS (mAnd (mOr (mOp gEq (mVar 5) (mK (.int 0))) (mOp gLe (mOp gIx (mOp gIx (mVar 2) (mOp gSub (mVar 5) (mK (.int 1)))) (mK (.int 0))) (mVar 6))) (mOr (mOp gEq (mVar 5) (mCallB gLen (mCons (mVar 2) mNil))) (mOp gLt (mVar 6) (mOp gIx (mOp gIx (mVar 2) (mVar 5)) (mK (.int 0)))))) (mApp (mVar 3) (mVar 6)) mNop) (mIfS (mOp gLt (mVar 5) (mCallB gLen (mCons (mVar 2) mNil))) (mAsg 4 (mOp gIx (mOp gIx (mVar 2) (mVar 5)) (mK (.int 1)))) mNop)))) (mRet (mVar 3))))))
def m_law_among : List D → Sto → Res D := mDef 2 2 (mRet (mAnd (mCall m_law_whole (mCons (mVar 0) mNil)) (mOp (gIn false) (mVar 0) (mVar 1))))
def m_law_is_chart : List D → Sto → Res D := mDef 2 7 (mSeq (mAsgG (tgT 2 (tgCons (tgN 2) (tgCons (tgN 3) tgNil))) (mVar 0)) (mSeq (mIfS (mOr (mNot (mIsi .tup (mVar 1))) (mOr (mOp gNe (mCallB gLen (mCons (mVar 1) mNil)) (mK (.int 2))) (mNot (mCall m_law_among (mCons (mOp gIx (mVar 1) (mK (.int 0))) (mCons (mVar 2) mNil)))))) (mRet (mK (.bl false))) mNop) (mSeq (mIfS (mNot (mIsi .tup (mOp gIx (mVar 1) (mK (.int 1))))) (mRet (mK (.bl false))) mNop) (mSeq (mAsg 4 (mOp gIx (mVar 1) (mK (.int 0)))) (mSeq (mAsg 5 (mNew (mLst mNil))) (mSeq (mFor (iSeq (mOp gIx (mVar 1) (mK (.int 1)))) (tgN 6) (mSeq (mIfS (mOr (mNot (mIsi .tup (mVar 6))) (mOr (mOp gNe (mCallB gLen (mCons (mVar 6) mNil)) (mK (.int 2))) (mNot (mCall m_law_whole (mCons (mOp gIx (mVar 6) (mK (.int 0))) mNil))))) (mRet (mK (.bl false))) mNop) (mSeq (mIfS (mOr (mNot (mCall m_law_among (mCons (mOp gIx (mVar 6) (mK (.int 1))) (mCons (mVar 2) mNil)))) (mOp gEq (mOp gIx (mVar 6) (mK (.int 1))) (mVar 4))) (mRet (mK (.bl false))) mNop) (mSeq (mIfS (mAnd (mOp gGt (mCallB gLen (mCons (mVar 5) mNil)) (mK (.int 0))) (mOp gLt (mOp gIx (mVar 6) (mK (.int 0))) (mOp gAdd (mOp gIx (mVar 5) (mK (.int (-1)))) (mVar 3)))) (mRet (mK (.bl false))) mNop) (mSeq (mAsg 4 (mOp gIx (mVar 6) (mK (.int 1)))) (mApp (mVar 5) (mOp gIx (mVar 6) (mK (.int 0))))))))) (mRet (mK (.bl true)))))))))
end
end Dm
-- text DmSort
namespace Dm
open PySem L2 PySem.Spec PyProof.Rows
open PySem.W (Frag)
/-! ### sorted of ints, of pairs of ints -/
def insP (x : Int × Int) : List (Int × Int) → List (Int × Int)
  | [] => [x]
  | y :: r => if SrtO.lexB y x then y :: insP x r else x :: y :: r
def srtP : List (Int × Int) → List (Int × Int)
  | [] => []
  | x :: r => insP x (srtP r)
def insN (x : Int) : List Int → List Int
  | [] => [x]
  | y :: r => if y < x then y :: insN x r else x :: y :: r
def srtN : List Int → List Int
  | [] => []
  | x :: r => insN x (srtN r)
theorem IsPair.inj {h : Heap} {v : Value} {x y x' y' : Int} (a : Srt.IsPair h v x y) (b : Srt.IsPair h v x' y') : x = x' ∧ y = y' := by
  obtain ⟨a1, o, t, u, n, rfl, e1, e2, e3⟩ := a
  obtain ⟨a2, o', t', u', n', e0, f1, f2, f3⟩ := b
  cases e0
  rw [e1] at f1; cases f1
  rw [e3] at f3
  cases f3
  exact ⟨rfl, rfl⟩
section
variable {X : Cx}
def intsOf : List D → Option (List Int)
  | [] => some []
  | .int i :: ds => (intsOf ds).map (i :: ·)
  | _ :: _ => none
def pairsOf : List D → Option (List (Int × Int))
  | [] => some []
  | .tup [.int i, .int j] :: ds => (pairsOf ds).map ((i, j) :: ·)
  | _ :: _ => none
def prD (p : Int × Int) : D := .tup [.int p.1, .int p.2]
@[simp] theorem intsOf_map {ns : List Int} : intsOf (ns.map .int) = some ns := by
  induction ns with
  | nil => rfl
  | cons n ns ih => rw [List.map_cons]; show (intsOf _).map _ = _; rw [ih] <;> rfl
@[simp] theorem pairsOf_map {ps : List (Int × Int)} : pairsOf (ps.map prD) = some ps := by
  induction ps with
  | nil => rfl
  | cons n ns ih => rw [List.map_cons]; show (pairsOf _).map _ = _; rw [ih] <;> rfl
def sortD (ds : List D) : Option (List D) := match intsOf ds with
  | some ns => some ((srtN ns).map .int)
  | none => (pairsOf ds).map fun ps => (srtP ps).map prD
def gSort : Sto → List D → Option (List D) := fun S ds => match ds with
  | [d] => (lstOf S d).bind sortD
  | _ => none
theorem CallR.or {f : Value} {r r' : List V → Hp → VK → Prop} (h : CallR X f r) (h' : CallR X f r') : CallR X f (fun vs H Q => r vs H Q ∨ r' vs H Q) := by
  intro pins s σ H vs us Q I rv z
  rcases z with z | z
  · exact h pins s σ H vs us Q I rv z
  · exact h' pins s σ H vs us Q I rv z
end
@[simp] theorem gSort_ints {S : Sto} {d : D} {ns : List Int} (h : lstOf S d = some (ns.map .int)) : gSort S [d] = some ((srtN ns).map .int) := by
  show (lstOf S d).bind sortD = _
  rw [h]
  show sortD _ = _
  unfold sortD
  rw [intsOf_map]
end Dm
-- text DmWp
namespace Dm
open PySem L2
/-! ### what a word does -/
abbrev EX := Str → List (Str × D) → Sto → Prop
abbrev EXO := Str → List (Str × D) → Rho → Sto → Prop
def NoE : EX := fun _ _ _ => False
def NoEO : EXO := fun _ _ _ _ => False
/-- what is wished of an exception: of an expression's at these slots; of a def's body -/
def eAt (E : EXO) (ρ : Rho) : EX := fun c fs S => E c fs ρ S
def eOut (E : EX) : EXO := fun c fs _ S => E c fs S
@[simp] theorem eAt_out {E : EX} {ρ : Rho} : eAt (eOut E) ρ = E := rfl
@[simp] theorem eAt_no {ρ : Rho} : eAt NoEO ρ = NoE := rfl
@[simp] theorem eOut_no : eOut NoE = NoEO := rfl
@[simp] theorem noE_app {c : Str} {fs : List (Str × D)} {S : Sto} : NoE c fs S = False := rfl
@[simp] theorem noEO_app {c : Str} {fs : List (Str × D)} {ρ : Rho} {S : Sto} : NoEO c fs ρ S = False := rfl
def Res.DoesE {α : Type} (r : Res α) (E : EX) (Q : α → Sto → Prop) : Prop := match r with
  | .ok a S => Q a S
  | .exc c fs S => E c fs S
  | .bad => False
def Out.DoesE (o : Out) (E : EXO) (N : Rho → Sto → Prop) (R : D → Sto → Prop) (B : Rho → Sto → Prop := fun _ _ => False) (C : Rho → Sto → Prop := fun _ _ => False) : Prop := match o with
  | .nx ρ S => N ρ S
  | .rt d S => R d S
  | .bk ρ S => B ρ S
  | .ct ρ S => C ρ S
  | .exc c fs ρ S => E c fs ρ S
  | .bad => False
abbrev Res.Does {α : Type} (r : Res α) (Q : α → Sto → Prop) : Prop := r.DoesE NoE Q
abbrev Out.Does (o : Out) (N : Rho → Sto → Prop) (R : D → Sto → Prop) (B : Rho → Sto → Prop := fun _ _ => False) (C : Rho → Sto → Prop := fun _ _ => False) : Prop := o.DoesE NoEO N R B C
section
variable {α β : Type} {a : α} {S : Sto} {ρ : Rho} {Q : α → Sto → Prop} {N B C : Rho → Sto → Prop} {R : D → Sto → Prop} {E : EX} {EO : EXO}
@[simp] theorem does_ok : (Res.ok a S).DoesE E Q = Q a S := rfl
@[simp] theorem does_bind {r : Res β} {f : β → Sto → Res α} : (r.bind f).DoesE E Q = r.DoesE E fun b S => (f b S).DoesE E Q := by cases r <;> rfl
@[simp] theorem bind_ok {f : α → Sto → Res β} : (Res.ok a S).bind f = f a S := rfl
@[simp] theorem ofRes_ok {k : α → Sto → Out} : ofRes (.ok a S) ρ k = k a S := rfl
@[simp] theorem does_ofRes {r : Res α} {k : α → Sto → Out} : (ofRes r ρ k).DoesE EO N R B C = r.DoesE (eAt EO ρ) fun a S => (k a S).DoesE EO N R B C := by cases r <;> rfl
@[simp] theorem does_nx : (Out.nx ρ S).DoesE EO N R B C = N ρ S := rfl
@[simp] theorem does_rt {d : D} : (Out.rt d S).DoesE EO N R B C = R d S := rfl
@[simp] theorem does_bk : (Out.bk ρ S).DoesE EO N R B C = B ρ S := rfl
@[simp] theorem does_ct : (Out.ct ρ S).DoesE EO N R B C = C ρ S := rfl
theorem Res.DoesE.mono {r : Res α} {Q Q' : α → Sto → Prop} (h : r.DoesE E Q) (k : ∀ a S, Q a S → Q' a S) : r.DoesE E Q' := by
  cases r with
  | ok a S => exact k a S h
  | _ => exact h
theorem Res.DoesE.monoE {r : Res α} {E' : EX} {Q Q' : α → Sto → Prop} (h : r.DoesE E Q) (e : ∀ c fs S, E c fs S → E' c fs S) (k : ∀ a S, Q a S → Q' a S) : r.DoesE E' Q' := by
  cases r with
  | ok a S => exact k a S h
  | exc c fs S => exact e _ _ _ h
  | bad => exact h
theorem Res.DoesE.toE {r : Res α} {Q : α → Sto → Prop} (h : r.DoesE NoE Q) : r.DoesE E Q := h.monoE (fun _ _ _ z => z.elim) fun _ _ z => z
theorem Res.Does.toE {r : Res α} {Q : α → Sto → Prop} (h : r.Does Q) : r.DoesE E Q := Res.DoesE.toE h
theorem Res.Does.mono {r : Res α} {Q Q' : α → Sto → Prop} (h : r.Does Q) (k : ∀ a S, Q a S → Q' a S) : r.Does Q' := Res.DoesE.mono h k
theorem Res.DoesE.eq {r : Res α} {Q : α → Sto → Prop} (h : r.DoesE NoE Q) : ∃ a S, r = .ok a S ∧ Q a S := by
  cases r with
  | ok a S => exact ⟨a, S, rfl, h⟩
  | _ => exact h.elim
theorem Res.Does.eq {r : Res α} {Q : α → Sto → Prop} (h : r.Does Q) : ∃ a S, r = .ok a S ∧ Q a S := Res.DoesE.eq h
theorem Out.DoesE.mono {o : Out} {N' B' C' : Rho → Sto → Prop} {R' : D → Sto → Prop} (h : o.DoesE EO N R B C) (hN : ∀ ρ S, N ρ S → N' ρ S) (hR : ∀ d S, R d S → R' d S) (hB : ∀ ρ S, B ρ S → B' ρ S) (hC : ∀ ρ S, C ρ S → C' ρ S) : o.DoesE EO N' R' B' C' := by
  cases o with
  | nx ρ S => exact hN _ _ h
  | rt d S => exact hR _ _ h
  | bk ρ S => exact hB _ _ h
  | ct ρ S => exact hC _ _ h
  | _ => exact h
theorem Out.Does.mono {o : Out} {N' B' C' : Rho → Sto → Prop} {R' : D → Sto → Prop} (h : o.Does N R B C) (hN : ∀ ρ S, N ρ S → N' ρ S) (hR : ∀ d S, R d S → R' d S) (hB : ∀ ρ S, B ρ S → B' ρ S) (hC : ∀ ρ S, C ρ S → C' ρ S) : o.Does N' R' B' C' := Out.DoesE.mono h hN hR hB hC
end
section
variable {S : Sto} {ρ : Rho} {Q : D → Sto → Prop} {N B C : Rho → Sto → Prop} {R : D → Sto → Prop} {E : EX} {EO : EXO}
@[simp] theorem does_seq {a b : MS} : (mSeq a b ρ S).DoesE EO N R B C = (a ρ S).DoesE EO (fun ρ S => (b ρ S).DoesE EO N R B C) R B C := by
  unfold mSeq
  cases a ρ S <;> rfl
@[simp] theorem does_asg {i : Nat} {m : ME} : (mAsg i m ρ S).DoesE EO N R B C = (m ρ S).DoesE (eAt EO ρ) fun d S => N (ρ.set i (some d)) S := by
  unfold mAsg
  rw [does_ofRes] <;> rfl
@[simp] theorem does_ret {m : ME} : (mRet m ρ S).DoesE EO N R B C = (m ρ S).DoesE (eAt EO ρ) R := by
  unfold mRet
  rw [does_ofRes] <;> rfl
@[simp] theorem does_retN : (mRetN ρ S).DoesE EO N R B C = R .non S := rfl
@[simp] theorem does_drop {m : ME} : (mDrop m ρ S).DoesE EO N R B C = (m ρ S).DoesE (eAt EO ρ) fun _ S => N ρ S := by
  unfold mDrop
  rw [does_ofRes] <;> rfl
@[simp] theorem does_nop : (mNop ρ S).DoesE EO N R B C = N ρ S := rfl
@[simp] theorem does_brk : (mBrk ρ S).DoesE EO N R B C = B ρ S := rfl
@[simp] theorem does_cont : (mCont ρ S).DoesE EO N R B C = C ρ S := rfl
/-- an if by what its test says -/
def BlQ (k : Bool → Sto → Prop) : D → Sto → Prop := fun d S => match d with
  | .bl b => k b S
  | _ => False
@[simp] theorem blQ_bl {k : Bool → Sto → Prop} {b : Bool} : BlQ k (.bl b) S = k b S := rfl
@[simp] theorem does_ifS {c : ME} {a b : MS} : (mIfS c a b ρ S).DoesE EO N R B C = (c ρ S).DoesE (eAt EO ρ) (BlQ fun k S => if k = true then (a ρ S).DoesE EO N R B C else (b ρ S).DoesE EO N R B C) := by
  unfold mIfS
  rw [does_ofRes]
  congr 1
  funext d S
  cases d with
  | bl k => cases k <;> rfl
  | _ => rfl
@[simp] theorem does_var {i : Nat} : (mVar i ρ S).DoesE E Q = match ρ[i]? with
    | some (some d) => Q d S
    | _ => False := by
  unfold mVar
  cases ρ[i]? with
  | none => rfl
  | some o => cases o <;> rfl
@[simp] theorem does_k {d : D} : (mK d ρ S).DoesE E Q = Q d S := rfl
@[simp] theorem var_eq {i : Nat} : mVar i ρ S = match ρ[i]? with
    | some (some d) => .ok d S
    | _ => .bad := rfl
@[simp] theorem k_eq {d : D} : mK d ρ S = .ok d S := rfl
def OptQ (o : Option D) (k : D → Prop) : Prop := match o with
  | some d => k d
  | none => False
@[simp] theorem optQ_some {d : D} {k : D → Prop} : OptQ (some d) k = k d := rfl
@[simp] theorem does_op {g : Sto → D → D → Option D} {a b : ME} : (mOp g a b ρ S).DoesE E Q = (a ρ S).DoesE E fun x S1 => (b ρ S1).DoesE E fun y S2 => OptQ (g S2 x y) fun z => Q z S2 := by
  unfold mOp
  rw [does_bind]
  congr 1
  funext x S1
  rw [does_bind]
  congr 1
  funext y S2
  cases g S2 x y <;> rfl
@[simp] theorem does_un {g : Sto → D → Option D} {a : ME} : (mUn g a ρ S).DoesE E Q = (a ρ S).DoesE E fun x S1 => OptQ (g S1 x) fun z => Q z S1 := by
  unfold mUn
  rw [does_bind]
  congr 1
  funext x S1
  cases g S1 x <;> rfl
@[simp] theorem does_and {a b : ME} : (mAnd a b ρ S).DoesE E Q = (a ρ S).DoesE E (BlQ fun k S1 => if k = true then (b ρ S1).DoesE E Q else Q (.bl false) S1) := by
  unfold mAnd
  rw [does_bind]
  congr 1
  funext d S
  cases d with
  | bl k => cases k <;> rfl
  | _ => rfl
@[simp] theorem does_or {a b : ME} : (mOr a b ρ S).DoesE E Q = (a ρ S).DoesE E (BlQ fun k S1 => if k = true then Q (.bl true) S1 else (b ρ S1).DoesE E Q) := by
  unfold mOr
  rw [does_bind]
  congr 1
  funext d S
  cases d with
  | bl k => cases k <;> rfl
  | _ => rfl
@[simp] theorem does_not {a : ME} : (mNot a ρ S).DoesE E Q = (a ρ S).DoesE E (BlQ fun k S1 => Q (.bl (!k)) S1) := by
  unfold mNot
  rw [does_bind]
  congr 1
  funext d S
  cases d <;> rfl
@[simp] theorem does_if {c a b : ME} : (mIf c a b ρ S).DoesE E Q = (c ρ S).DoesE E (BlQ fun k S1 => if k = true then (a ρ S1).DoesE E Q else (b ρ S1).DoesE E Q) := by
  unfold mIf
  rw [does_bind]
  congr 1
  funext d S
  cases d with
  | bl k => cases k <;> rfl
  | _ => rfl
@[simp] theorem does_nil {Q : List D → Sto → Prop} : (mNil ρ S).DoesE E Q = Q [] S := rfl
@[simp] theorem does_cons {a : ME} {r : MA} {Q : List D → Sto → Prop} : (mCons a r ρ S).DoesE E Q = (a ρ S).DoesE E fun x S1 => (r ρ S1).DoesE E fun xs S2 => Q (x :: xs) S2 := by
  unfold mCons
  rw [does_bind]
  congr 1
  funext x S1
  rw [does_bind] <;> rfl
@[simp] theorem does_tup {a : MA} : (mTup a ρ S).DoesE E Q = (a ρ S).DoesE E fun xs S1 => xs.length ≤ 16777216 ∧ Q (.tup xs) S1 := by
  unfold mTup
  rw [does_bind]
  congr 1
  funext xs S1
  by_cases h : xs.length ≤ 16777216
  · rw [if_pos h]; simp [h]
  · rw [if_neg h]; simp [h, Res.DoesE]
@[simp] theorem does_lst {a : MA} {Q : List D → Sto → Prop} : (mLst a ρ S).DoesE E Q = (a ρ S).DoesE E fun xs S1 => xs.length ≤ 16777216 ∧ Q xs S1 := by
  unfold mLst
  rw [does_bind]
  congr 1
  funext xs S1
  by_cases h : xs.length ≤ 16777216
  · rw [if_pos h]; simp [h]
  · rw [if_neg h]; simp [h, Res.DoesE]
@[simp] theorem does_fz {a : MA} : (mFz a ρ S).DoesE E Q = (a ρ S).DoesE E fun xs S1 => Q (.lst xs) S1 := by
  unfold mFz
  rw [does_bind] <;> rfl
@[simp] theorem does_new {a : MA} : (mNew a ρ S).DoesE E Q = (a ρ S).DoesE E fun xs S1 => Q (.cell S1.length) (S1 ++ [.lst xs]) := by
  unfold mNew
  rw [does_bind] <;> rfl
@[simp] theorem does_call {f : List D → Sto → Res D} {a : MA} : (mCall f a ρ S).DoesE E Q = (a ρ S).DoesE E fun xs S1 => (f xs S1).DoesE E Q := by
  unfold mCall
  rw [does_bind] <;> rfl
@[simp] theorem does_callB {g : Sto → List D → Option D} {a : MA} : (mCallB g a ρ S).DoesE E Q = (a ρ S).DoesE E fun xs S1 => OptQ (g S1 xs) fun z => Q z S1 := by
  unfold mCallB
  rw [does_bind]
  congr 1
  funext x S1
  cases g S1 x <;> rfl
@[simp] theorem does_callK {f : List D → Sto → Res D} {n q : Nat} {p : List Nat} {a k : MA} : (mCallK f n q p a k ρ S).DoesE E Q = (a ρ S).DoesE E fun xs S1 => (k ρ S1).DoesE E fun zs S2 => (xs.length = n ∧ zs.length = q) ∧ (f (p.filterMap ((xs ++ zs)[·]?)) S2).DoesE E Q := by
  unfold mCallK
  rw [does_bind]
  congr 1
  funext xs S1
  rw [does_bind]
  congr 1
  funext zs S2
  by_cases h : xs.length = n ∧ zs.length = q
  · rw [if_pos h]; simp [h]
  · rw [if_neg h]; simp [h, Res.DoesE]
@[simp] theorem does_chain {g g' : Sto → D → D → Option D} {a b c : ME} : (mChain g g' a b c ρ S).DoesE E Q = (a ρ S).DoesE E fun x S1 => (b ρ S1).DoesE E fun y S2 => OptQ (g S2 x y) fun z => BlQ (fun k S2 => if k = true then (c ρ S2).DoesE E fun w S3 => OptQ (g' S3 y w) fun z => Q z S3 else Q (.bl false) S2) z S2 := by
  unfold mChain
  rw [does_bind]
  congr 1
  funext x S1
  rw [does_bind]
  congr 1
  funext y S2
  cases g S2 x y with
  | none => rfl
  | some z =>
    cases z with
    | bl k =>
      cases k with
      | false => rfl
      | true =>
        show ((c ρ S2).bind _).DoesE E Q = _
        rw [does_bind]
        show _ = (c ρ S2).DoesE E _
        congr 1
        funext w S3
        cases g' S3 y w <;> rfl
    | _ => rfl
@[simp] theorem does_isi {T : Tn} {m : ME} : (mIsi T m ρ S).DoesE E Q = (m ρ S).DoesE E fun d S1 => OptQ ((tyOf S1 d).map fun t => .bl (isTn t T)) fun z => Q z S1 := by
  unfold mIsi
  rw [does_un]
@[simp] theorem does_isiT {T : List Tn} {m : ME} : (mIsiT T m ρ S).DoesE E Q = (m ρ S).DoesE E fun d S1 => OptQ ((tyOf S1 d).map fun t => .bl (T.any (isTn t ·))) fun z => Q z S1 := by
  unfold mIsiT
  rw [does_un]
@[simp] theorem does_asgG {f : D → Rho → Option Rho} {m : ME} : (mAsgG f m ρ S).DoesE EO N R B C = (m ρ S).DoesE (eAt EO ρ) fun d S1 => match f d ρ with
    | some ρ1 => N ρ1 S1
    | none => False := by
  unfold mAsgG
  rw [does_ofRes]
  congr 1
  funext d S1
  cases f d ρ <;> rfl
/-- a def -/
theorem does_def {np nN : Nat} {b : MS} {ds : List D} (h : ds.length = np) (hb : (b (ds.map some ++ List.replicate (nN - np) none) S).DoesE (eOut E) (fun _ S' => Q .non S') Q) : (mDef np nN b ds S).DoesE E Q := by
  unfold mDef
  rw [if_pos h]
  cases e : b (ds.map some ++ List.replicate (nN - np) none) S <;> rw [e] at hb <;> exact hb
@[simp] theorem does_for {mi : MA} {f : D → Rho → Option Rho} {mb : MS} : (mFor mi f mb ρ S).DoesE EO N R B C = (mi ρ S).DoesE (eAt EO ρ) fun ds S1 => (forL f mb ds ρ S1).DoesE EO N R B C := by
  unfold mFor
  rw [does_ofRes]
@[simp] theorem does_forL_nil {f : D → Rho → Option Rho} {mb : MS} : (forL f mb [] ρ S).DoesE EO N R B C = N ρ S := rfl
@[simp] theorem does_forL_cons {f : D → Rho → Option Rho} {mb : MS} {d : D} {r : List D} : (forL f mb (d :: r) ρ S).DoesE EO N R B C = match f d ρ with
    | none => False
    | some ρ1 => (mb ρ1 S).DoesE EO (fun ρ S => (forL f mb r ρ S).DoesE EO N R B C) R N (fun ρ S => (forL f mb r ρ S).DoesE EO N R B C) := by
  rw [forL]
  cases f d ρ with
  | none => rfl
  | some ρ1 =>
    simp only
    cases mb ρ1 S <;> rfl
/-- a loop by what holds ahead of each turn -/
theorem forL_does {f : D → Rho → Option Rho} {mb : MS} (I : List D → Rho → Sto → Prop) (step : ∀ d r ρ S, I (d :: r) ρ S → ∃ ρ1, f d ρ = some ρ1 ∧ (mb ρ1 S).DoesE EO (I r) R N (I r)) (stop : ∀ ρ S, I [] ρ S → N ρ S) :
    ∀ (ds : List D) (ρ : Rho) (S : Sto), I ds ρ S → (forL f mb ds ρ S).DoesE EO N R B C
  | [], ρ, S, h => stop ρ S h
  | d :: r, ρ, S, h => by
    obtain ⟨ρ1, e, k⟩ := step d r ρ S h
    unfold forL
    rw [e]
    simp only
    cases q : mb ρ1 S with
    | nx ρ2 S2 => rw [q] at k; exact forL_does I step stop r ρ2 S2 k
    | ct ρ2 S2 => rw [q] at k; exact forL_does I step stop r ρ2 S2 k
    | bk ρ2 S2 => rw [q] at k; exact k
    | rt d S2 => rw [q] at k; exact k
    | exc c fs ρ2 S2 => rw [q] at k; exact k
    | bad => rw [q] at k; exact k
theorem forL_cut {f : D → Rho → Option Rho} {mb : MS} (I : List D → Rho → Sto → Prop) (ds : List D) (start : I ds ρ S) (step : ∀ d r ρ S, I (d :: r) ρ S → ∃ ρ1, f d ρ = some ρ1 ∧ ∀ M : Rho → Sto → Prop, (∀ ρ S, I r ρ S → M ρ S) → (mb ρ1 S).DoesE EO M R N M) (stop : ∀ ρ S, I [] ρ S → N ρ S) :
    (forL f mb ds ρ S).DoesE EO N R B C :=
  forL_does I (fun d r ρ S h => let ⟨ρ1, e, k⟩ := step d r ρ S h; ⟨ρ1, e, k _ fun _ _ h => h⟩) stop ds ρ S start
@[simp] theorem does_iSeq {m : ME} {Q : List D → Sto → Prop} : (iSeq m ρ S).DoesE E Q = (m ρ S).DoesE E fun d S1 => match d with
    | .tup ds => Q ds S1
    | .lst ds => Q ds S1
    | _ => False := by
  unfold iSeq
  rw [does_bind]
  congr 1
  funext d S1
  cases d <;> rfl
@[simp] theorem does_iEnumS {m : ME} {Q : List D → Sto → Prop} : (iEnumS m ρ S).DoesE E Q = (m ρ S).DoesE E fun d S1 => match d with
    | .tup ds => Q (enumD ds) S1
    | .lst ds => Q (enumD ds) S1
    | _ => False := by
  unfold iEnumS
  rw [does_bind]
  congr 1
  funext d S1
  cases d <;> rfl
@[simp] theorem does_iRange1 {a : MA} {Q : List D → Sto → Prop} : (iRange1 a ρ S).DoesE E Q = (a ρ S).DoesE E fun ds S1 => match ds with
    | [.int j] => (j ≤ 16777216 ∧ -4611686018427387904 ≤ j) ∧ Q (rngD 0 j.toNat) S1
    | _ => False := by
  unfold iRange1
  rw [does_bind]
  congr 1
  funext ds S1
  split
  · rename_i j
    by_cases h : j ≤ 16777216 ∧ -4611686018427387904 ≤ j
    · rw [if_pos h]; simp [h]
    · rw [if_neg h]; simp [h, Res.DoesE]
  · rename_i h
    first
    | rfl
    | (split <;> first
      | rfl
      | (rename_i j; exact absurd rfl (h j)))
@[simp] theorem does_iRange2 {a : MA} {Q : List D → Sto → Prop} : (iRange2 a ρ S).DoesE E Q = (a ρ S).DoesE E fun ds S1 => match ds with
    | [.int i, .int j] => (-1000000000000 ≤ i ∧ i ≤ 1000000000000 ∧ -1000000000000 ≤ j ∧ j ≤ 1000000000000 ∧ j - i ≤ 16777216) ∧ Q (rngD i (j - i).toNat) S1
    | _ => False := by
  unfold iRange2
  rw [does_bind]
  congr 1
  funext ds S1
  split
  · rename_i i j
    by_cases h : -1000000000000 ≤ i ∧ i ≤ 1000000000000 ∧ -1000000000000 ≤ j ∧ j ≤ 1000000000000 ∧ j - i ≤ 16777216
    · rw [if_pos h]; simp [h]
    · rw [if_neg h]; simp [h, Res.DoesE]
  · rename_i h
    first
    | rfl
    | (split <;> first
      | rfl
      | (rename_i i j; exact absurd rfl (h i j)))
/-- what a comprehension gives -/
def LcQ (f : D → Rho → Option Rho) (mt me : ME) (ρ : Rho) (ds : List D) (S : Sto) (Q : List D → Sto → Prop) : Prop := ∃ ys S2, lcL f mt me ρ ds S = some (ys, S2) ∧ Q ys S2
@[simp] theorem lcQ_nil {f : D → Rho → Option Rho} {mt me : ME} {Q : List D → Sto → Prop} : LcQ f mt me ρ [] S Q = Q [] S := by
  refine propext ⟨?_, fun q => ⟨[], S, rfl, q⟩⟩
  rintro ⟨ys, S2, e, q⟩
  cases e
  exact q
@[simp] theorem lcQ_cons {f : D → Rho → Option Rho} {mt me : ME} {d : D} {r : List D} {Q : List D → Sto → Prop} : LcQ f mt me ρ (d :: r) S Q = match f d ρ with
    | none => False
    | some ρ1 => (mt ρ1 S).Does (BlQ fun k S1 => if k = true then (me ρ1 S1).Does fun y S2 => LcQ f mt me ρ r S2 fun ys S3 => Q (y :: ys) S3 else LcQ f mt me ρ r S1 Q) := by
  unfold LcQ
  rw [lcL]
  cases f d ρ with
  | none => simp
  | some ρ1 =>
    simp only
    cases mt ρ1 S with
    | ok v S1 =>
      cases v with
      | bl b =>
        cases b with
        | true =>
          simp only [does_ok, blQ_bl, if_true]
          cases me ρ1 S1 with
          | ok y S2 =>
            simp only [does_ok]
            cases lcL f mt me ρ r S2 with
            | none => simp
            | some z =>
              obtain ⟨ys, S3⟩ := z
              refine propext ⟨?_, ?_⟩
              · rintro ⟨ys', S', e, q⟩
                cases e
                exact ⟨_, _, rfl, q⟩
              · rintro ⟨ys', S', e, q⟩
                cases e
                exact ⟨_, _, rfl, q⟩
          | _ => simp [Res.DoesE]
        | false => simp [does_ok, blQ_bl]
      | _ => simp [does_ok, BlQ]
    | _ => simp [Res.DoesE]
@[simp] theorem does_yes {Q : D → Sto → Prop} : (mYes ρ S).DoesE E Q = Q (.bl true) S := rfl
@[simp] theorem does_lc {mi : MA} {f : D → Rho → Option Rho} {mt me : ME} {vs : List Nat} {Q : List D → Sto → Prop} : (mLc mi f mt me vs ρ S).DoesE E Q = (mi ρ S).DoesE E fun ds S1 => LcQ f mt me (wipeD ρ vs) ds S1 Q := by
  unfold mLc
  rw [does_bind]
  congr 1
  funext ds S1
  unfold LcQ
  cases e : lcL f mt me (wipeD ρ vs) ds S1 with
  | none => simp [Res.DoesE]
  | some r =>
    obtain ⟨ys, S2⟩ := r
    refine propext ⟨fun q => ⟨ys, S2, rfl, q⟩, ?_⟩
    rintro ⟨ys', S2', e', q⟩
    cases e'
    exact q
/-- a comprehension without a test whose element changes no cell -/
theorem lcQ_map {f : D → Rho → Option Rho} {me : ME} {ds : List D} {Q : List D → Sto → Prop} (g : D → D) (h : ∀ d, d ∈ ds → ∃ ρ1, f d ρ = some ρ1 ∧ ∀ Q : D → Sto → Prop, Q (g d) S → (me ρ1 S).Does Q) (q : Q (ds.map g) S) : LcQ f mYes me ρ ds S Q := by
  induction ds generalizing Q with
  | nil => rw [lcQ_nil]; exact q
  | cons d r ih =>
    obtain ⟨ρ1, e, k⟩ := h d List.mem_cons_self
    rw [lcQ_cons, e]
    simp only [does_yes, blQ_bl, if_true]
    exact k _ (ih (fun d hd => h d (List.mem_cons_of_mem _ hd)) q)
@[simp] theorem does_slT {a : ME} {lo hi : MO} : (mSlT a lo hi ρ S).DoesE E Q = (a ρ S).DoesE E fun x S1 => (lo ρ S1).DoesE E fun l S2 => (hi ρ S2).DoesE E fun h S3 => match x with
    | .tup ds => Q (.tup (cutD ds l h)) S3
    | _ => False := by
  unfold mSlT
  rw [does_bind]; congr 1; funext x S1
  rw [does_bind]; congr 1; funext l S2
  rw [does_bind]; congr 1; funext h S3
  cases x <;> rfl
@[simp] theorem does_slL {a : ME} {lo hi : MO} {Q : List D → Sto → Prop} : (mSlL a lo hi ρ S).DoesE E Q = (a ρ S).DoesE E fun x S1 => (lo ρ S1).DoesE E fun l S2 => (hi ρ S2).DoesE E fun h S3 => match lstOf S3 x with
    | some ds => Q (cutD ds l h) S3
    | none => False := by
  unfold mSlL
  rw [does_bind]; congr 1; funext x S1
  rw [does_bind]; congr 1; funext l S2
  rw [does_bind]; congr 1; funext h S3
  cases lstOf S3 x <;> rfl
@[simp] theorem does_part {m : ME} {Q : Option Int → Sto → Prop} : (mPart m ρ S).DoesE E Q = (m ρ S).DoesE E fun x S1 => match x with
    | .int i => Q (some i) S1
    | _ => False := by
  unfold mPart
  rw [does_bind]; congr 1; funext x S1
  cases x <;> rfl
@[simp] theorem does_noPart {Q : Option Int → Sto → Prop} : (mNoPart ρ S).DoesE E Q = Q none S := rfl
@[simp] theorem does_back {m : ME} : (mBack m ρ S).DoesE E Q = (m ρ S).DoesE E fun x S1 => match x with
    | .tup ds => Q (.tup ds.reverse) S1
    | _ => False := by
  unfold mBack
  rw [does_bind]; congr 1; funext x S1
  cases x <;> rfl
@[simp] theorem does_catL {a b : MA} {Q : List D → Sto → Prop} : (mCatL a b ρ S).DoesE E Q = (a ρ S).DoesE E fun xs S1 => (b ρ S1).DoesE E fun ys S2 => xs.length + ys.length ≤ 16777216 ∧ Q (xs ++ ys) S2 := by
  unfold mCatL
  rw [does_bind]; congr 1; funext xs S1
  rw [does_bind]; congr 1; funext ys S2
  by_cases h : xs.length + ys.length ≤ 16777216
  · rw [if_pos h]; simp [h]
  · rw [if_neg h]; simp [h, Res.DoesE]
@[simp] theorem does_app {o m : ME} : (mApp o m ρ S).DoesE EO N R B C = (o ρ S).DoesE (eAt EO ρ) fun x S1 => match x with
    | .cell n => ∃ ds0, S1[n]? = some (.lst ds0) ∧ (m ρ S1).DoesE (eAt EO ρ) fun d S2 => ∃ ds, S2[n]? = some (.lst ds) ∧ ds.length < 16777216 ∧ N ρ (S2.set n (.lst (ds ++ [d])))
    | _ => False := by
  unfold mApp
  rw [does_ofRes]; congr 1; funext x S1
  cases x with
  | cell n =>
    simp only
    cases e : S1[n]? with
    | none => simp [Out.DoesE]
    | some c =>
      cases c with
      | lst ds0 =>
        simp only [does_ofRes]
        refine propext ⟨fun q => ⟨ds0, rfl, q.mono fun d S2 z => ?_⟩, ?_⟩
        · revert z
          cases e2 : S2[n]? with
          | none => exact fun z => z.elim
          | some c2 =>
            cases c2 with
            | lst ds =>
              intro z
              by_cases l : ds.length < 16777216
              · simp only [if_pos l] at z
                exact ⟨ds, rfl, l, z⟩
              · simp only [if_neg l] at z
                exact z.elim
            | _ => exact fun z => z.elim
        · rintro ⟨ds', e', q⟩
          refine q.mono fun d S2 z => ?_
          obtain ⟨ds, e2, l, z⟩ := z
          simp only [e2, if_pos l]
          exact z
      | _ => simp [Out.DoesE]
  | _ => rfl
@[simp] theorem does_setIx {m o i : ME} : (mSetIx m o i ρ S).DoesE EO N R B C = (m ρ S).DoesE (eAt EO ρ) fun d S1 => (o ρ S1).DoesE (eAt EO ρ) fun x S2 => (i ρ S2).DoesE (eAt EO ρ) fun y S3 => match x, y with
    | .cell n, .int j => ∃ ds k, S3[n]? = some (.lst ds) ∧ ixN ds.length j = some k ∧ N ρ (S3.set n (.lst (ds.set k d)))
    | _, _ => False := by
  unfold mSetIx
  rw [does_ofRes]; congr 1; funext d S1
  rw [does_ofRes]; congr 1; funext x S2
  rw [does_ofRes]; congr 1; funext y S3
  cases x with
  | cell n =>
    cases y with
    | int j =>
      simp only
      cases e : S3[n]? with
      | none => simp [Out.DoesE]
      | some c =>
        cases c with
        | lst ds =>
          simp only
          cases e2 : ixN ds.length j with
          | none => simp [Out.DoesE, e2]
          | some k => simp [e2]
        | _ => simp [Out.DoesE]
    | _ => rfl
  | _ => rfl
@[simp] theorem does_aug {i : Nat} {f : Int → Int → Int} {m : ME} : (mAug i f m ρ S).DoesE EO N R B C = match ρ[i]? with
    | some (some (.int a)) => (m ρ S).DoesE (eAt EO ρ) fun d S1 => match d with
      | .int b => N (ρ.set i (some (.int (f a b)))) S1
      | _ => False
    | _ => False := by
  unfold mAug
  cases ρ[i]? with
  | none => rfl
  | some o =>
    cases o with
    | none => rfl
    | some d =>
      cases d with
      | int a =>
        simp only
        rw [does_ofRes]; congr 1; funext d S1
        cases d <;> rfl
      | _ => rfl
@[simp] theorem does_repL {a : MA} {b : ME} {Q : List D → Sto → Prop} : (mRepL a b ρ S).DoesE E Q = (a ρ S).DoesE E fun xs S1 => (b ρ S1).DoesE E fun y S2 => match y with
    | .int k => (k < 1000000 ∧ xs.length * k.toNat ≤ 16777216 ∧ -1000000 < k) ∧ Q (List.replicate k.toNat xs).flatten S2
    | _ => False := by
  unfold mRepL
  rw [does_bind]; congr 1; funext xs S1
  rw [does_bind]; congr 1; funext y S2
  cases y with
  | int k =>
    simp only
    by_cases h : k < 1000000 ∧ xs.length * k.toNat ≤ 16777216 ∧ -1000000 < k
    · rw [if_pos h]; simp [h]
    · rw [if_neg h]; simp [h, Res.DoesE]
  | _ => rfl
@[simp] theorem does_catC {a : ME} {b : MA} {Q : List D → Sto → Prop} : (mCatC a b ρ S).DoesE E Q = (a ρ S).DoesE E fun x S1 => (b ρ S1).DoesE E fun ys S2 => match x with
    | .cell n => ∃ xs, S2[n]? = some (.lst xs) ∧ xs.length + ys.length ≤ 16777216 ∧ Q (xs ++ ys) S2
    | _ => False := by
  unfold mCatC
  rw [does_bind]; congr 1; funext x S1
  rw [does_bind]; congr 1; funext ys S2
  cases x with
  | cell n =>
    simp only
    cases e : S2[n]? with
    | none => simp [Res.DoesE]
    | some c =>
      cases c with
      | lst xs =>
        simp only
        by_cases h : xs.length + ys.length ≤ 16777216
        · rw [if_pos h]; simp [h]
        · rw [if_neg h]; simp [h, Res.DoesE]
      | _ => simp [Res.DoesE]
  | _ => rfl
@[simp] theorem does_catV {a : ME} {b : MA} {Q : List D → Sto → Prop} : (mCatV a b ρ S).DoesE E Q = (a ρ S).DoesE E fun x S1 => (b ρ S1).DoesE E fun ys S2 => match lstOf S2 x with
    | some xs => xs.length + ys.length ≤ 16777216 ∧ Q (xs ++ ys) S2
    | none => False := by
  unfold mCatV
  rw [does_bind]; congr 1; funext x S1
  rw [does_bind]; congr 1; funext ys S2
  cases e : lstOf S2 x with
  | none => simp [Res.DoesE]
  | some xs =>
    simp only
    by_cases h : xs.length + ys.length ≤ 16777216
    · rw [if_pos h]; simp [h]
    · rw [if_neg h]; simp [h, Res.DoesE]
end
end Dm
-- text DmAny
namespace Dm
open PySem L2 PySem.Spec PyProof.Rows
open PySem.W (Frag)
/-! ### over what stands in a tuple, a list, a cell, as it stands at each turn -/
def ItA (F : Fx) (μ : List Addr) (H : Hp) (J : It) (p : D × Nat) : Prop := p.2 ≤ 16777216 ∧
  ∀ (F' : Fx) (μ' : List Addr) (H' : Hp) (S' : Sto) (i : Nat), Ext F F' H → Up μ H μ' H' → RS F' μ' H' S' → ∀ ds, seqOf S' p.1 = some ds →
    (∀ x, ds[i]? = some x → J.go i H' ∧ ∀ v H'', J.yld i H' v H'' → H'' = H' ∧ RD F' μ' H' v x) ∧ (i = ds.length → J.stop i H')
/-- the word: the thing and its length at the beginning -/
abbrev MP := Rho → Sto → Res (D × Nat)
def iAny (m : ME) : MP := fun ρ S => (m ρ S).bind fun d S1 => match seqOf S1 d with
  | some ds => .ok (d, ds.length) S1
  | none => .bad
structure DIA (X : Cx) (W : WX) (tg iter : Expr) (m : MP) : Prop where
  ex : ∃ wi, PI X tg iter wi ∧ ∀ ξ μ σ H ρ S R, RG (fx X ξ) μ H σ ρ → RS (fx X ξ) μ H S → WR (fx X ξ) (fun μ H (J : It) (p : D × Nat) => ItA (fx X ξ) μ H J p) (m ρ S) R (fun cls dd H' => W cls dd σ H') μ H → wi σ H R
section
variable {X : Cx} {W : WX} {tg e a b c : Expr} {es : List Expr} {st : Stmt} {sts ts : List Stmt} {ma mb mc m : ME} {mr : MA} {m1 m2 : MS} {pos p p1 p2 p3 : Pos}
theorem itA_tup {F : Fx} {μ : List Addr} {H : Hp} {a : Addr} {xs : List V} {ds : List D} (f : FzT F μ H a xs) (r : RDs F μ H xs ds) (z : Sized F.K H) : ItA F μ H (Itt F.K a) (.tup ds, ds.length) := by
  obtain ⟨h1, h2⟩ := itt_ok f r z
  refine ⟨h1, fun F' μ' H' S' i e u s es h => ?_⟩
  cases h
  refine ⟨fun x hx => ?_, fun hi => (h2 F' μ' H' S' i e u s (by omega)).2 hi⟩
  have hl := (List.getElem?_eq_some_iff.mp hx).1
  obtain ⟨k1, k2⟩ := (h2 F' μ' H' S' i e u s (by omega)).1 x hx
  refine ⟨k1, fun v H'' y => ?_⟩
  obtain ⟨e1, _⟩ := id y
  obtain ⟨_, _, k3⟩ := k2 v H'' y
  subst e1
  exact ⟨rfl, k3⟩
theorem itA_lst {F : Fx} {μ : List Addr} {H : Hp} {v : V} {d : D} {ds : List D} {S : Sto} {a : Addr} (ev : v = .ref a) (s : RS F μ H S) (r : RD F μ H v d) (e : lstOf S d = some ds) (z : Sized F.K H) : ItA F μ H (Itl F.K a) (d, ds.length) := by
  obtain ⟨a', xs, e1, h1, h2⟩ := RD.lstS s r e
  rw [ev] at e1; cases e1
  refine ⟨by rw [← h2.length]; exact z _ _ (.inl h1), fun F' μ' H' S' i ex u s' es h => ?_⟩
  have r' : RD F' μ' H' v d := r.mv (.ext ex u)
  have eL : lstOf S' d = some es := by
    cases d with
    | tup _ => exact nomatch e
    | lst _ => exact h
    | cell n => exact h
    | _ => exact nomatch e
  obtain ⟨a2, ys, e2, h3, h4⟩ := RD.lstS s' r' eL
  rw [ev] at e2; cases e2
  rw [ex.k] at h3
  refine ⟨fun x hx => ?_, fun hi => ⟨ys, h3, by rw [h4.length, hi]; exact Nat.le_refl _⟩⟩
  obtain ⟨w, h5, h6⟩ := h4.get hx
  refine ⟨⟨ys, w, h3, h5⟩, fun v' H'' y => ?_⟩
  obtain ⟨e3, y⟩ := y
  have q := y ys h3
  rw [h5] at q; cases q
  exact ⟨e3, h6⟩
theorem dia_any (h : DE X W e m) : DIA X W tg e (iAny m) := by
  obtain ⟨te, pe, k⟩ := h
  refine ⟨_, piOr (piSized (pi_tup pe)) (piSized (pi_list pe)), fun ξ μ σ H ρ S R g s h => ?_⟩
  cases e1 : m ρ S with
  | bad => unfold iAny at h; rw [e1] at h; exact h.elim
  | exc c fs S1 =>
    unfold iAny at h; rw [e1] at h
    refine .inl (k ξ μ σ H ρ S _ g s ?_)
    rw [e1]; exact h
  | ok d S1 =>
    unfold iAny at h
    rw [e1] at h
    have h : WR (fx X ξ) (fun μ H (J : It) (p : D × Nat) => ItA (fx X ξ) μ H J p) (match seqOf S1 d with | some ds => .ok (d, ds.length) S1 | none => .bad) R (fun cls dd H' => W cls dd σ H') μ H := h
    by_cases c : ∃ ds, d = .tup ds
    · obtain ⟨ds, rfl⟩ := c
      refine .inl (k ξ μ σ H ρ S _ g s ?_)
      rw [e1]
      intro v μ1 H1 u1 s1 r1
      cases r1 with
      | @tup a xs _ f r => exact ⟨a, rfl, ⟨xs, f.sq⟩, fun z => h _ μ1 H1 u1 s1 (itA_tup f r z)⟩
    · cases q : seqOf S1 d with
      | none => rw [q] at h; exact h.elim
      | some ds =>
        rw [q] at h
        refine .inr (k ξ μ σ H ρ S _ g s ?_)
        rw [e1]
        have eL : lstOf S1 d = some ds := by
          cases d with
          | tup es => exact absurd ⟨es, rfl⟩ c
          | lst _ => exact q
          | cell n => exact q
          | _ => exact nomatch q
        intro v μ1 H1 u1 s1 r1
        obtain ⟨a, xs, rfl, h3, h4⟩ := RD.lstS s1 r1 eL
        exact ⟨a, rfl, ⟨xs, h3⟩, fun z => h _ μ1 H1 u1 s1 (itA_lst rfl s1 r1 eL z)⟩
def forA (d : D) (f : D → Rho → Option Rho) (mb : MS) : Nat → Nat → Rho → Sto → Out
  | 0, _, _, _ => .bad
  | k + 1, i, ρ, S => match seqOf S d with
    | some ds => match ds[i]? with
      | none => if i = ds.length then .nx ρ S else .bad
      | some x => match f x ρ with
        | none => .bad
        | some ρ1 => match mb ρ1 S with
          | .nx ρ2 S2 => forA d f mb k (i + 1) ρ2 S2
          | .ct ρ2 S2 => forA d f mb k (i + 1) ρ2 S2
          | .bk ρ2 S2 => .nx ρ2 S2
          | .rt d S2 => .rt d S2
          | .exc c fs ρ2 S2 => .exc c fs ρ2 S2
          | .bad => .bad
    | none => .bad
def mForA (m : ME) (f : D → Rho → Option Rho) (mb : MS) : MS := fun ρ S => ofRes (iAny m ρ S) ρ fun p S1 => forA p.1 f mb (p.2 + 1) 0 ρ S1
theorem ds_forA {f : D → Rho → Option Rho} {is : List Nat} {mb : MS} (hp : PassesOwn (model X.prog X.w) X.A X.env X.xe) (hc : X.calm = true) (hi : DE X W e m) (hg : DG X tg f is) (hb : DSs X W sts mb)
    (hs : ∀ x, foldedSetIterable e X.env x = pure x := by intro _; rfl) : DS X W (.For tg e sts [] pos) (mForA m f mb) := by
  obtain ⟨wi, pi, ki⟩ := dia_any (tg := tg) hi
  obtain ⟨tg', pg, kg⟩ := hg
  obtain ⟨tb, pb, kb⟩ := hb
  refine ⟨_, ps_for hp hc pi pg pb hs, fun ξ μ σ H ρ S D g s h => ki ξ μ σ H ρ S _ g s (WS'.bind g h fun p S1 J μ1 H1 u1 s1 r1 h1 => ?_)⟩
  obtain ⟨d, n0⟩ := p
  refine ⟨fun i k σ' H' => ∃ μ' ρ' S', Up μ1 H1 μ' H' ∧ RS (fx X ξ) μ' H' S' ∧ RG (fx X ξ) μ' H' σ' ρ' ∧ WS' (fx X ξ) (forA d f mb k i ρ' S') D W μ' H',
    ⟨_, μ1, ρ, S1, .refl, s1, g.up u1, h1⟩, ?_⟩
  rintro i k σ' H' ⟨μ', ρ', S', u', s', g', w⟩
  cases k with
  | zero => exact w.elim
  | succ k =>
    unfold forA at w
    cases q' : seqOf S' d with
    | none => rw [q'] at w; exact w.elim
    | some es =>
      rw [q'] at w
      simp only at w
      obtain ⟨t1, t2⟩ := r1.2 (fx X ξ) μ' H' S' i .refl u' s' es q'
      cases q2 : es[i]? with
      | none =>
        rw [q2] at w
        simp only at w
        by_cases hi : i = es.length
        · rw [if_pos hi] at w
          exact .inl ⟨t2 hi, w σ' μ' H' .refl s' g'⟩
        · rw [if_neg hi] at w; exact w.elim
      | some x =>
        rw [q2] at w
        simp only at w
        obtain ⟨go, yl⟩ := t1 x q2
        cases ef : f x ρ' with
        | none => rw [ef] at w; exact w.elim
        | some ρ1 =>
          rw [ef] at w
          simp only at w
          refine .inr ⟨go, fun σ2 H2 => ∃ μ' ρ' S', Up μ1 H1 μ' H2 ∧ RS (fx X ξ) μ' H2 S' ∧ RG (fx X ξ) μ' H2 σ2 ρ' ∧ WS' (fx X ξ) (forA d f mb k (i + 1) ρ' S') D W μ' H2,
            fun σ2 H2 z => ⟨k, Nat.lt_succ_self k, z⟩, fun v H2 y => ?_⟩
          obtain ⟨y1, y2⟩ := yl v H2 y
          subst y1
          refine kg ξ μ' σ' _ ρ' v x ρ1 _ g' y2 ef fun σ2 g2 _ => ?_
          refine kb ξ μ' σ2 _ ρ1 S' _ g2 s' ?_
          cases eb : mb ρ1 S' with
          | nx ρ2 S2 =>
            rw [eb] at w
            exact fun σ3 μ3 H3 u3 s3 g3 => ⟨μ3, ρ2, S2, u'.trans u3, s3, g3, w.shift u3⟩
          | ct ρ2 S2 =>
            rw [eb] at w
            exact fun σ3 μ3 H3 u3 s3 g3 => ⟨μ3, ρ2, S2, u'.trans u3, s3, g3, w.shift u3⟩
          | bk ρ2 S2 => rw [eb] at w; exact w
          | rt d S2 => rw [eb] at w; exact w
          | exc c fs ρ2 S2 => rw [eb] at w; exact w
          | bad => rw [eb] at w; exact w
/-! ### comprehensions -/
def lcA (d : D) (f : D → Rho → Option Rho) (mt me : ME) (ρ : Rho) : Nat → Nat → Sto → Option (List D × Sto)
  | 0, _, _ => none
  | k + 1, i, S => match seqOf S d with
    | none => none
    | some ds => match ds[i]? with
      | none => if i = ds.length then some ([], S) else none
      | some x => match f x ρ with
        | none => none
        | some ρ1 => match mt ρ1 S with
          | .ok (.bl true) S1 => match me ρ1 S1 with
            | .ok y S2 => match lcA d f mt me ρ k (i + 1) S2 with
              | some (ys, S3) => some (y :: ys, S3)
              | none => none
            | _ => none
          | .ok (.bl false) S1 => lcA d f mt me ρ k (i + 1) S1
          | _ => none
def mLcA (m : ME) (f : D → Rho → Option Rho) (mt me : ME) (vs : List Nat) : MA := fun ρ S => (iAny m ρ S).bind fun p S1 => match lcA p.1 f mt me (wipeD ρ vs) (p.2 + 1) 0 S1 with
  | some (ys, S2) => .ok ys S2
  | none => .bad
theorem lcA_pos {d : D} {f : D → Rho → Option Rho} {mt me : ME} {ρ : Rho} {k i : Nat} {S : Sto} {r : List D × Sto} (h : lcA d f mt me ρ k i S = some r) : 0 < k := by
  cases k with
  | zero => exact nomatch h
  | succ k => exact Nat.succ_pos k
/-- the reading of a comprehension -/
theorem lcA_read {wi : TI} {tg' : TG} {tt : TT} {te : TE} {f : D → Rho → Option Rho} {is vs : List Nat} {ξ μ : List Addr} {σ : L2.St} {H : Hp} {ρ : Rho} {S : Sto} {Q : VK} {Wx : Value → Option Addr → Hp → Prop} {m mt me : ME}
    (ki : ∀ R, WR (fx X ξ) (fun μ H (J : It) (p : D × Nat) => ItA (fx X ξ) μ H J p) (iAny m ρ S) R Wx μ H → wi σ H R)
    (kg : ∀ ξ μ σ H ρ v d ρ' (Q : L2.St → Hp → Prop), RG (fx X ξ) μ H σ ρ → RD (fx X ξ) μ H v d → f d ρ = some ρ' → (∀ σ', RG (fx X ξ) μ H σ' ρ' → (∀ js : List Nat, (∀ i ∈ is, i ∈ js) → wipe σ' js = wipe σ js) → Q σ' H) → tg' v σ H Q)
    (kt : ∀ ξ μ σ H ρ S Q, RG (fx X ξ) μ H σ ρ → RS (fx X ξ) μ H S → WT' (fx X ξ) (mt ρ S) Q (fun cls dd H' => W0 cls dd σ H') μ H → tt σ H Q)
    (ke : ∀ ξ μ σ H ρ S Q, RG (fx X ξ) μ H σ ρ → RS (fx X ξ) μ H S → WE' (fx X ξ) (me ρ S) Q (fun cls dd H' => W0 cls dd σ H') μ H → te σ H Q)
    (hv : ∀ i ∈ is, i ∈ vs) (g : RG (fx X ξ) μ H σ ρ) (s : RS (fx X ξ) μ H S) (h : WL' (fx X ξ) (mLcA m f mt me vs ρ S) Q Wx μ H) : tLc wi tg' tt te vs σ H Q := by
  refine ki _ (WL'.bind h fun p S1 J μ1 H1 u1 s1 r1 h1 => ?_)
  obtain ⟨d, n0⟩ := p
  intro D hD
  obtain ⟨hz, r1⟩ := r1
  have hz : n0 ≤ 16777216 := hz
  have n1 : D ∉ μ1 := s1.out hD
  have x1 : D ∉ ξ := s1.outX hD
  have ext : Ext (fx X ξ) ((fx X ξ).hold D) H1 := ⟨rfl, rfl, fun a ha => (List.mem_cons.mp ha).elim (fun z => .inr (by rw [z]; exact hD)) .inl⟩
  have main : WL' (fx X ξ) (match lcA d f mt me (wipeD ρ vs) (n0 + 1) 0 S1 with
    | some (ys, S2) => Res.ok ys S2
    | none => .bad) Q Wx μ1 H1 := h1
  refine ⟨fun i k H' => ∃ μ' S' acc dacc, Up μ1 H1 μ' H' ∧ RS ((fx X ξ).hold D) μ' H' S' ∧ H' D = some (.lst acc) ∧ RDs ((fx X ξ).hold D) μ' H' acc dacc ∧ acc.length ≤ i ∧ i + k = n0 + 1 ∧
      ∃ ys S2, lcA d f mt me (wipeD ρ vs) k i S' = some (ys, S2) ∧ ∀ μ2 H2 xs, Up μ1 H1 μ2 H2 → RS ((fx X ξ).hold D) μ2 H2 S2 → RDs ((fx X ξ).hold D) μ2 H2 xs (dacc ++ ys) → H2 D = some (.lst xs) → Q (.ref D) H2,
    ⟨_, μ1, S1, [], [], .fresh hD, s1.holds hD, upd_same, .nil, Nat.le_refl _, Nat.zero_add _, ?_⟩, ?_⟩
  · cases q : lcA d f mt me (wipeD ρ vs) (n0 + 1) 0 S1 with
    | none => rw [q] at main; exact main.elim
    | some r =>
      obtain ⟨ys, S2⟩ := r
      rw [q] at main
      exact ⟨ys, S2, rfl, fun μ2 H2 xs u2 s2 r2 e2 => main D xs μ2 H2 u2 hD s2 r2 e2⟩
  rintro i k H' ⟨μ', S', acc, dacc, u', s', hacc, racc, hla, hi, ys, S2, eL, fin⟩
  cases k with
  | zero => exact nomatch eL
  | succ k =>
    unfold lcA at eL
    cases q' : seqOf S' d with
    | none => rw [q'] at eL; exact nomatch eL
    | some es =>
      rw [q'] at eL
      simp only at eL
      obtain ⟨t1, t2⟩ := r1 ((fx X ξ).hold D) μ' H' S' i ext u' s' es q'
      cases q2 : es[i]? with
      | none =>
        rw [q2] at eL
        simp only at eL
        by_cases e : i = es.length
        · rw [if_pos e] at eL
          cases eL
          exact .inl ⟨t2 e, fin μ' H' acc u' s' (by rw [List.append_nil]; exact racc) hacc⟩
        · rw [if_neg e] at eL; exact nomatch eL
      | some x0 =>
        rw [q2] at eL
        simp only at eL
        obtain ⟨go, yl⟩ := t1 x0 q2
        cases ef : f x0 (wipeD ρ vs) with
        | none => rw [ef] at eL; exact nomatch eL
        | some ρ1 =>
          rw [ef] at eL
          simp only at eL
          refine .inr ⟨go, fun H2 => ∃ μ' S' acc dacc, Up μ1 H1 μ' H2 ∧ RS ((fx X ξ).hold D) μ' H2 S' ∧ H2 D = some (.lst acc) ∧ RDs ((fx X ξ).hold D) μ' H2 acc dacc ∧ acc.length ≤ i + 1 ∧ (i + 1) + k = n0 + 1 ∧
              ∃ ys S2, lcA d f mt me (wipeD ρ vs) k (i + 1) S' = some (ys, S2) ∧ ∀ μ2 H2 xs, Up μ1 H1 μ2 H2 → RS ((fx X ξ).hold D) μ2 H2 S2 → RDs ((fx X ξ).hold D) μ2 H2 xs (dacc ++ ys) → H2 D = some (.lst xs) → Q (.ref D) H2,
            fun H2 z => ⟨k, Nat.lt_succ_self k, z⟩, fun x H2 y => ?_⟩
          obtain ⟨eH, r2⟩ := yl x H2 y
          subst eH
          have g2 : RG (fx X (D :: ξ)) μ' H2 (wipe σ vs) (wipeD ρ vs) := (((g.up u1).mv (.ext ext u'))).wipe vs
          refine kg (D :: ξ) μ' (wipe σ vs) H2 (wipeD ρ vs) x _ ρ1 _ g2 r2 ef fun σ3 g3 w3 => ?_
          have nD : D ∉ μ' := (s'.xi D List.mem_cons_self).1
          have ww : wipe (wipe σ vs) vs = wipe σ vs := by
            refine List.ext_getElem? fun k => ?_
            rw [wipe_get, wipe_get, wipe_length]
            by_cases q : k ∈ vs ∧ k < σ.length
            · rw [if_pos q, if_pos q]
            · rw [if_neg q, if_neg q]
          refine ⟨by rw [w3 vs hv, ww], ?_⟩
          refine kt (D :: ξ) μ' σ3 H2 ρ1 S' _ g3 s' ?_
          cases et : mt ρ1 S' with
          | bad => rw [et] at eL; exact nomatch eL
          | exc c fs S3 => rw [et] at eL; exact nomatch eL
          | ok dd S3 =>
            rw [et] at eL
            cases dd with
            | bl b =>
              intro μ3 H3 u3 s3
              have eD3 : H3 D = some (.lst acc) := u3.keep _ _ hacc nD
              cases b with
              | false =>
                exact ⟨μ3, S3, acc, dacc, u'.trans u3, s3, eD3, racc.up u3, Nat.le_succ_of_le hla, by omega, ys, S2, eL, fin⟩
              | true =>
                simp only at eL
                refine ke (D :: ξ) μ3 σ3 H3 ρ1 S3 _ (g3.up u3) s3 ?_
                cases ee : me ρ1 S3 with
                | bad => rw [ee] at eL; exact nomatch eL
                | exc c fs S4 => rw [ee] at eL; exact nomatch eL
                | ok y S4 =>
                  rw [ee] at eL
                  intro v μ4 H4 u4 s4 r4
                  simp only at eL
                  cases er : lcA d f mt me (wipeD ρ vs) k (i + 1) S4 with
                  | none => rw [er] at eL; exact nomatch eL
                  | some q =>
                    obtain ⟨zs, S5⟩ := q
                    have kp := lcA_pos er
                    rw [er] at eL
                    cases eL
                    have nD3 : D ∉ μ3 := (s3.xi D List.mem_cons_self).1
                    have eD4 : H4 D = some (.lst acc) := u4.keep _ _ eD3 nD3
                    refine ⟨acc, eD4, by rw [sizeLine_eq]; omega, μ4, S4, acc ++ [v], dacc ++ [y], ?_, RS.wr (F := fx X ξ) (p := D) s4, upd_same, RDs.mv (Mv.wr (F := fx X ξ) (p := D)) _ (RDs.append (F := (fx X ξ).hold D) ((racc.up u3).up u4) (.cons r4 .nil)), by rw [List.length_append, List.length_singleton]; omega, by omega, zs, S2, er, fun μ5 H5 xs u5 s5 r5 e5 => fin μ5 H5 xs u5 s5 (by rw [List.append_assoc] at r5; exact r5) e5⟩
                    have U := u'.trans (u3.trans u4)
                    exact ⟨U.pre, U.new, fun a o ha na => by
                      rw [upd_ne (ne_of_none ha hD)]
                      exact U.keep a o ha na⟩
            | _ => exact nomatch eL
theorem ds_setLcA (i : Nat) {y : Str} {py spos : Pos} {elt : Expr} {ifs : List Expr} {scope : Scope} {own : List (Str × Nat)} {f : D → Rho → Option Rho} {is : List Nat} {mt me : ME} {mw : MA → ME} (hw : ∀ {te : TE} {mr : MA}, RdL X W te mr → RdE X W te (mw mr)) (hc : X.calm = true) (hN : X.N.Nodup) (hi : DE X W e m) (ok : BlkOk X.N X.env.scope scope own)
    (hg : ∀ (s : Shared) (H : Hp) (C : Addr) (cl : List (Str × Addr)) (fp : List Addr), DG (X.blk s H scope (compEnvC scope cl C X.env) fp) tg f is)
    (ht : ∀ (s : Shared) (H : Hp) (C : Addr) (cl : List (Str × Addr)) (fp : List Addr), DTs (X.blk s H scope (compEnvC scope cl C X.env) fp) W0 ifs mt)
    (he : ∀ (s : Shared) (H : Hp) (C : Addr) (cl : List (Str × Addr)) (fp : List Addr), DE (X.blk s H scope (compEnvC scope cl C X.env) fp) W0 elt me)
    (hv : ∀ i ∈ is, i ∈ own.map (·.2) := by decide) (hy : X.N[i]? = some y := by rfl) (hyl : X.env.scope.names.lookup y = some .local := by rfl)
    (hsw : swapsWith (.ListComp elt [⟨tg, e, ifs, 0⟩] scope pos) (some (.Name y py)) spos.line X.env = pure true := by rfl) (hs : ∀ x, foldedSetIterable e X.env x = pure x := by intro _; rfl) :
    DS X W (.Assign [.Name y py] (.ListComp elt [⟨tg, e, ifs, 0⟩] scope pos) spos) (mAsg i (mw (mLcA m f mt me (own.map (·.2))))) := by
  obtain ⟨wi, pi, ki⟩ := dia_any (tg := tg) hi
  obtain ⟨tg', pg, kg⟩ := dg_all (Xf := blkOf X scope) (K := X.K) (mg := X.mg) (fun _ => rfl) (fun _ => rfl) fun i => hg i.1 i.2.1 i.2.2.1 i.2.2.2.1 i.2.2.2.2
  obtain ⟨tt, pt, kt⟩ := dts_all (Xf := blkOf X scope) (K := X.K) (mg := X.mg) (fun _ => rfl) (fun _ => rfl) fun i => ht i.1 i.2.1 i.2.2.1 i.2.2.2.1 i.2.2.2.2
  obtain ⟨te, pe, ke⟩ := de_all (Xf := blkOf X scope) (K := X.K) (mg := X.mg) (fun _ => rfl) (fun _ => rfl) fun i => he i.1 i.2.1 i.2.2.1 i.2.2.2.1 i.2.2.2.2
  have rd : RdL X W (tLc wi tg' tt te (own.map (·.2))) (mLcA m f mt me (own.map (·.2))) := fun ξ μ σ H ρ S Q g s h => lcA_read (fun R => ki ξ μ σ H ρ S R g s) kg kt ke hv g s h
  refine ⟨_, ps_setLc (i := i) hc hN hy hyl hsw pi ok (fun s H C cl fp => pg (s, H, C, cl, fp)) (fun s H C cl fp => pt (s, H, C, cl, fp)) (fun s H C cl fp => pe (s, H, C, cl, fp)) hs, fun ξ μ σ H ρ S D g s h => ?_⟩
  exact hw rd ξ μ σ H ρ S _ g s (WS'.bind g h fun x S1 v μ1 H1 u1 s1 r1 h1 => h1 _ μ1 H1 .refl s1 ((g.up u1).set i r1))
end
/-! ### what they do -/
section
variable {S : Sto} {ρ : Rho} {N B C : Rho → Sto → Prop} {R : D → Sto → Prop} {f : D → Rho → Option Rho} {mt me : ME} {mb : MS} {E : EX} {EO : EXO}
theorem seqOf_fix {d : D} {ds : List D} (h : d = .tup ds ∨ d = .lst ds) (S : Sto) : seqOf S d = some ds := by
  rcases h with rfl | rfl <;> rfl
theorem forA_fix {d : D} {ds : List D} (h : d = .tup ds ∨ d = .lst ds) : ∀ (r pre : List D) (ρ : Rho) (S : Sto), ds = pre ++ r → forA d f mb (r.length + 1) pre.length ρ S = forL f mb r ρ S
  | [], pre, ρ, S, e => by
    unfold forA
    rw [seqOf_fix h]
    have e1 : ds[pre.length]? = none := by rw [e, List.append_nil]; exact List.getElem?_eq_none (Nat.le_refl _)
    simp only [e1]
    rw [if_pos (by rw [e, List.append_nil])] <;> rfl
  | x :: r, pre, ρ, S, e => by
    unfold forA
    rw [seqOf_fix h]
    have e1 : ds[pre.length]? = some x := by rw [e, List.getElem?_append_right (Nat.le_refl _), Nat.sub_self] <;> rfl
    simp only [e1]
    rw [forL]
    cases f x ρ with
    | none => rfl
    | some ρ1 =>
      simp only
      have q : ∀ ρ2 S2, forA d f mb (x :: r).length (pre.length + 1) ρ2 S2 = forL f mb r ρ2 S2 := fun ρ2 S2 => by
        have q := forA_fix h r (pre ++ [x]) ρ2 S2 (by rw [e, List.append_assoc] <;> rfl)
        rw [List.length_append, List.length_singleton] at q
        exact q
      cases mb ρ1 S <;> first | rfl | exact q _ _
def forAS (d : D) (f : D → Rho → Option Rho) (mb : MS) (ρ : Rho) (S : Sto) : Out := match seqOf S d with
  | some ds => forA d f mb (ds.length + 1) 0 ρ S
  | none => .bad
@[simp] theorem does_forA {m : ME} : (mForA m f mb ρ S).DoesE EO N R B C = (m ρ S).DoesE (eAt EO ρ) fun d S1 => (forAS d f mb ρ S1).DoesE EO N R B C := by
  unfold mForA
  rw [does_ofRes]
  unfold iAny
  rw [does_bind]
  congr 1
  funext d S1
  unfold forAS
  cases seqOf S1 d <;> rfl
@[simp] theorem forAS_tup {ds : List D} : forAS (.tup ds) f mb ρ S = forL f mb ds ρ S := forA_fix (.inl rfl) ds [] ρ S rfl
@[simp] theorem forAS_lst {ds : List D} : forAS (.lst ds) f mb ρ S = forL f mb ds ρ S := forA_fix (.inr rfl) ds [] ρ S rfl
/-- a comprehension over a cell that stays: an invariant of the stores; the items kept -/
def LcAQ (d : D) (f : D → Rho → Option Rho) (mt me : ME) (ρ : Rho) (n : Nat) (S : Sto) (Q : List D → Sto → Prop) : Prop := ∃ ys S', lcA d f mt me ρ (n + 1) 0 S = some (ys, S') ∧ Q ys S'
@[simp] theorem does_lcA {m : ME} {vs : List Nat} {Q : List D → Sto → Prop} : (mLcA m f mt me vs ρ S).DoesE E Q = (m ρ S).DoesE E fun d S1 => match seqOf S1 d with
    | some ds => LcAQ d f mt me (wipeD ρ vs) ds.length S1 Q
    | none => False := by
  unfold mLcA iAny
  rw [does_bind, does_bind]
  congr 1
  funext d S1
  cases seqOf S1 d with
  | none => rfl
  | some ds =>
    simp only [does_ok]
    unfold LcAQ
    cases e : lcA d f mt me (wipeD ρ vs) (ds.length + 1) 0 S1 with
    | none => simp [Res.DoesE]
    | some r =>
      obtain ⟨ys, S2⟩ := r
      refine propext ⟨fun q => ⟨ys, S2, rfl, q⟩, ?_⟩
      rintro ⟨ys', S2', e', q⟩
      cases e'
      exact q
theorem lcA_fix {d : D} {ds : List D} (h : d = .tup ds ∨ d = .lst ds) : ∀ (r pre : List D) (S : Sto), ds = pre ++ r → lcA d f mt me ρ (r.length + 1) pre.length S = lcL f mt me ρ r S
  | [], pre, S, e => by
    unfold lcA
    rw [seqOf_fix h]
    have e1 : ds[pre.length]? = none := by rw [e, List.append_nil]; exact List.getElem?_eq_none (Nat.le_refl _)
    simp only [e1]
    rw [if_pos (by rw [e, List.append_nil])] <;> rfl
  | x :: r, pre, S, e => by
    unfold lcA
    rw [seqOf_fix h]
    have e1 : ds[pre.length]? = some x := by rw [e, List.getElem?_append_right (Nat.le_refl _), Nat.sub_self] <;> rfl
    simp only [e1]
    rw [lcL]
    have q : ∀ S2, lcA d f mt me ρ (x :: r).length (pre.length + 1) S2 = lcL f mt me ρ r S2 := fun S2 => by
      have q := lcA_fix h r (pre ++ [x]) S2 (by rw [e, List.append_assoc] <;> rfl)
      rw [List.length_append, List.length_singleton] at q
      exact q
    cases f x ρ with
    | none => rfl
    | some ρ1 =>
      simp only
      cases mt ρ1 S with
      | ok d1 S1 =>
        cases d1 with
        | bl b =>
          cases b with
          | true =>
            simp only
            cases me ρ1 S1 with
            | ok y S2 =>
              simp only
              rw [q] <;> (cases lcL f mt me ρ r S2 <;> rfl)
            | _ => rfl
          | false => exact q S1
        | _ => rfl
      | _ => rfl
theorem lcAQ_fix {d : D} {ds : List D} {Q : List D → Sto → Prop} {n : Nat} (h : d = .tup ds ∨ d = .lst ds) (hn : n = ds.length) : LcAQ d f mt me ρ n S Q = LcQ f mt me ρ ds S Q := by
  subst hn
  unfold LcAQ LcQ
  have := lcA_fix (f := f) (mt := mt) (me := me) (ρ := ρ) h ds [] S rfl
  rw [show (([] : List D).length) = 0 from rfl] at this
  rw [this]
@[simp] theorem lcAQ_tup {ds : List D} {Q : List D → Sto → Prop} : LcAQ (.tup ds) f mt me ρ ds.length S Q = LcQ f mt me ρ ds S Q := lcAQ_fix (.inl rfl) rfl
@[simp] theorem lcAQ_lst {ds : List D} {Q : List D → Sto → Prop} : LcAQ (.lst ds) f mt me ρ ds.length S Q = LcQ f mt me ρ ds S Q := lcAQ_fix (.inr rfl) rfl
end
@[simp] theorem lcAQ_fixT {ds : List D} {f : D → Rho → Option Rho} {mt me : ME} {ρ : Rho} {n : Nat} {S : Sto} {Q : List D → Sto → Prop} {α : Type} {g : α → D} {as : List α} : LcAQ (.tup (as.map g)) f mt me ρ as.length S Q = LcQ f mt me ρ (as.map g) S Q := lcAQ_fix (.inl rfl) (by rw [List.length_map])
@[simp] theorem lcAQ_fixL {ds : List D} {f : D → Rho → Option Rho} {mt me : ME} {ρ : Rho} {n : Nat} {S : Sto} {Q : List D → Sto → Prop} {α : Type} {g : α → D} {as : List α} : LcAQ (.lst (as.map g)) f mt me ρ as.length S Q = LcQ f mt me ρ (as.map g) S Q := lcAQ_fix (.inr rfl) (by rw [List.length_map])
end Dm
-- text Hw2
namespace Dm
open PySem L2
end Dm
-- text DmSimp
namespace Dm
open PySem L2
section
variable {S : Sto} {k : D → Prop} {i j : Int} {ds es : List D} {n : Nat} {a b : Bool} {x y : Str}
@[simp] theorem optQ_none : OptQ none k = False := rfl
@[simp] theorem optQ_ite {c : Prop} [Decidable c] {d : D} : OptQ (if c then some d else none) k = (c ∧ k d) := by
  by_cases h : c
  · rw [if_pos h]; simp [h]
  · rw [if_neg h]; simp [h]
@[simp] theorem optQ_map {α : Type} {o : Option α} {f : α → D} : OptQ (o.map f) k = (match o with
    | some z => k (f z)
    | none => False) := by cases o <;> rfl
@[simp] theorem gI_int {f : Int → Int → D} : gI f S (.int i) (.int j) = some (f i j) := rfl
@[simp] theorem gIC_int {C : Int → Int → Prop} [∀ i j, Decidable (C i j)] {f : Int → Int → D} : gIC C f S (.int i) (.int j) = if C i j then some (f i j) else none := rfl
@[simp] theorem gAdd_int : gAdd S (.int i) (.int j) = some (.int (i + j)) := rfl
@[simp] theorem gAdd_tup : gAdd S (.tup ds) (.tup es) = if ds.length + es.length ≤ 16777216 then some (.tup (ds ++ es)) else none := rfl
@[simp] theorem gNeg_int : gNeg S (.int i) = some (.int (-i)) := rfl
@[simp] theorem gLen_tup : gLen S [.tup ds] = some (.int ds.length) := rfl
@[simp] theorem gLen_lst : gLen S [.lst ds] = some (.int ds.length) := rfl
theorem lstOf_cell (h : S[n]? = some (.lst ds)) : lstOf S (.cell n) = some ds := by simp only [lstOf, h]
theorem gLen_cell (h : S[n]? = some (.lst ds)) : gLen S [.cell n] = some (.int ds.length) := by
  show (lstOf S (.cell n)).map _ = _
  rw [lstOf_cell h] <;> rfl
@[simp] theorem gInt1_int : gInt1 S [.int i] = some (.int i) := rfl
@[simp] theorem gInt1_bl : gInt1 S [.bl b] = some (.int (if b then 1 else 0)) := rfl
@[simp] theorem gII_int {f : Int → Int → Int} : gII f S [.int i, .int j] = some (.int (f i j)) := rfl
@[simp] theorem gTuple_tup : gTuple S [.tup ds] = some (.tup ds) := rfl
@[simp] theorem gTuple_lst : gTuple S [.lst ds] = some (.tup ds) := rfl
theorem gTuple_cell (h : S[n]? = some (.lst ds)) : gTuple S [.cell n] = some (.tup ds) := by
  show (lstOf S (.cell n)).map _ = _
  rw [lstOf_cell h] <;> rfl
@[simp] theorem gIx_tup : gIx S (.tup ds) (.int i) = atI ds i := rfl
@[simp] theorem gIx_lst : gIx S (.lst ds) (.int i) = atI ds i := rfl
theorem gIx_cell (h : S[n]? = some (.lst ds)) : gIx S (.cell n) (.int i) = atI ds i := by
  show (lstOf S (.cell n)).bind _ = _
  rw [lstOf_cell h] <;> rfl
@[simp] theorem gEq_int : gEq S (.int i) (.int j) = some (.bl (i == j)) := rfl
@[simp] theorem gNe_int : gNe S (.int i) (.int j) = some (.bl (!(i == j))) := rfl
@[simp] theorem gEq_str : gEq S (.str x) (.str y) = some (.bl (x == y)) := rfl
@[simp] theorem gNe_str : gNe S (.str x) (.str y) = some (.bl (!(x == y))) := rfl
theorem shaped_bool (b : Bool) : SeqAt.shaped (.bool b) = true := by cases b <;> decide
@[simp] theorem gEq_bl : gEq S (.bl a) (.bl b) = some (.bl (a == b)) := by
  show (if SeqAt.shaped (.bool a) = true ∧ SeqAt.shaped (.bool b) = true then some (PyData.eqv (.bool a) (.bool b)) else none).map D.bl = _
  rw [if_pos ⟨shaped_bool a, shaped_bool b⟩]
  simp [PyData.eqv]
@[simp] theorem gNe_bl : gNe S (.bl a) (.bl b) = some (.bl (!(a == b))) := by
  show (if SeqAt.shaped (.bool a) = true ∧ SeqAt.shaped (.bool b) = true then some (PyData.eqv (.bool a) (.bool b)) else none).map (fun b => D.bl (!b)) = _
  rw [if_pos ⟨shaped_bool a, shaped_bool b⟩]
  simp [PyData.eqv]
@[simp] theorem gIsN_non {neg : Bool} {d : D} : gIsN neg S d .non = some (.bl (if neg then !isNon d else isNon d)) := rfl
@[simp] theorem isNon_non : isNon .non = true := rfl
@[simp] theorem isNon_bl : isNon (.bl b) = false := rfl
@[simp] theorem isNon_int : isNon (.int i) = false := rfl
@[simp] theorem isNon_str : isNon (.str x) = false := rfl
@[simp] theorem isNon_tup : isNon (.tup ds) = false := rfl
@[simp] theorem isNon_lst : isNon (.lst ds) = false := rfl
@[simp] theorem isNon_cell : isNon (.cell n) = false := rfl
@[simp] theorem tyOf_non : tyOf S .non = some .non := rfl
@[simp] theorem tyOf_bl : tyOf S (.bl b) = some .bl := rfl
@[simp] theorem tyOf_int : tyOf S (.int i) = some .int := rfl
@[simp] theorem tyOf_str : tyOf S (.str x) = some .str := rfl
@[simp] theorem tyOf_tup : tyOf S (.tup ds) = some .tup := rfl
@[simp] theorem tyOf_exv {c : Str} {fs : List (Str × Int)} : tyOf S (.exn c fs) = some .exn := rfl
@[simp] theorem tyOf_lst : tyOf S (.lst ds) = some .lst := rfl
theorem tyOf_cell (h : S[n]? = some (.lst ds)) : tyOf S (.cell n) = some .lst := by simp only [tyOf, h]
@[simp] theorem seqOf_tup : seqOf S (.tup ds) = some ds := rfl
@[simp] theorem seqOf_lst : seqOf S (.lst ds) = some ds := rfl
@[simp] theorem lstOf_lst : lstOf S (.lst ds) = some ds := rfl
@[simp] theorem flatD_int : flatD (.int i) = true := rfl
@[simp] theorem eqF_int : eqF (.int i) (.int j) = (i == j) := rfl
@[simp] theorem tgN_eq {ρ : Rho} {d : D} {i : Nat} : tgN i d ρ = some (ρ.set i (some d)) := rfl
@[simp] theorem tgT_eq {ρ : Rho} {m : Nat} {f : List D → Rho → Option Rho} : tgT m f (.tup ds) ρ = if ds.length = m then f ds ρ else none := rfl
@[simp] theorem tgCons_eq {ρ : Rho} {d : D} {f : D → Rho → Option Rho} {g : List D → Rho → Option Rho} : tgCons f g (d :: ds) ρ = (f d ρ).bind fun ρ1 => g ds ρ1 := rfl
@[simp] theorem tgNil_eq {ρ : Rho} : tgNil [] ρ = some ρ := rfl
@[simp] theorem atI_zero {α : Type} {x : α} {xs : List α} : atI (x :: xs) 0 = some x := by simp [atI, ixN]
@[simp] theorem atI_one {α : Type} {x y : α} {xs : List α} : atI (x :: y :: xs) 1 = some y := by
  have h : (1 : Int) < ((xs.length + 1 + 1 : Nat) : Int) := by omega
  simp only [atI, ixN, List.length_cons, if_pos (show (0 : Int) ≤ 1 by decide), if_pos h] <;> rfl
@[simp] theorem atI_two {α : Type} {x y z : α} {xs : List α} : atI (x :: y :: z :: xs) 2 = some z := by
  have h : (2 : Int) < ((xs.length + 1 + 1 + 1 : Nat) : Int) := by omega
  simp only [atI, ixN, List.length_cons, if_pos (show (0 : Int) ≤ 2 by decide), if_pos h] <;> rfl
theorem atI_of {α : Type} {xs : List α} {i : Int} (h0 : 0 ≤ i) (h : i < xs.length) : atI xs i = xs[i.toNat]? := by
  simp [atI, ixN, h0, h]
theorem cdivw {i j : Int} (h0 : 0 < j) (h : j < 18446744073709551616) : CDivW i j := by
  refine ⟨h0, ?_⟩
  have h1 : j.natAbs < 2 ^ 64 := by omega
  have h2 : j.natAbs.log2 < 64 := (Nat.log2_lt (by omega)).mpr h1
  omega
theorem log2_le {a : Nat} {n : Nat} (h : a < 2 ^ n) : a.log2 ≤ n := by
  by_cases h0 : a = 0
  · subst h0
    rw [Nat.log2_zero]; exact Nat.zero_le _
  · exact Nat.le_of_lt ((Nat.log2_lt h0).mpr h)
theorem cmulw {i j : Int} (n m : Nat) (h : i.natAbs < 2 ^ n) (h' : j.natAbs < 2 ^ m) (hs : n + m < 1000000) : CMulW i j := by
  have h1 := log2_le h
  have h2 := log2_le h'
  show i.natAbs.log2 + j.natAbs.log2 < 1000000
  omega
theorem cmulw64 {i j : Int} (h : -18446744073709551616 < i ∧ i < 18446744073709551616) (h' : -18446744073709551616 < j ∧ j < 18446744073709551616) : CMulW i j := cmulw 64 64 (by omega) (by omega) (by decide)
end
end Dm
-- text DmDict
namespace Dm
open PySem L2 PySem.Spec PyProof.Rows
open PySem.W (Frag)
/-! ### dicts whose keys are ints and texts -/
def keyD : D → Option Key
  | .int i => some (.inl i)
  | .str x => some (.inr x)
  | _ => none
def valD (kvs : List (Key × D)) (k : Key) : Option D := (kvs.find? fun kv => decide (kv.1 = k)).map (·.2)
def putD (kvs : List (Key × D)) (k : Key) (v : D) : List (Key × D) :=
  if (kvs.any fun kv => decide (kv.1 = k)) = true then kvs.map (fun kv => if kv.1 = k then (kv.1, v) else kv) else kvs ++ [(k, v)]
def mergeD (kvs more : List (Key × D)) : List (Key × D) := more.foldl (fun acc kv => putD acc kv.1 kv.2) kvs
def dicOf (S : Sto) : D → Option (List (Key × D))
  | .cell n => match S[n]? with
    | some (.dic kvs) => some kvs
    | _ => none
  | _ => none
section
variable {F : Fx} {μ : List Addr} {H : Hp} {S : Sto}
theorem keyD_of {v : V} {d : D} {k : Key} (r : RD F μ H v d) (e : keyD d = some k) : v = kV k := by
  cases r with
  | int i => cases e; rfl
  | str x => cases e; rfl
  | _ => exact nomatch e
theorem valV_of {k : Key} : ∀ {vk : List (Key × V)} {kvs : List (Key × D)} {d : D}, KvR F μ H vk kvs → valD kvs k = some d → ∃ v, valV vk k = some v ∧ RD F μ H v d
  | _, _, d, .nil, e => by cases e
  | p :: vk, q :: kvs, d, .cons h r, e => by
    obtain ⟨h1, h2⟩ := h
    by_cases c : q.1 = k
    · have e1 : valD (q :: kvs) k = some q.2 := by simp [valD, List.find?_cons, c]
      have e2 : valV (p :: vk) k = some p.2 := valV_pos (by rw [h1]; exact c)
      rw [e1] at e; cases e
      exact ⟨_, e2, h2⟩
    · have e1 : valD (q :: kvs) k = valD kvs k := by simp [valD, List.find?_cons, c]
      have e2 : valV (p :: vk) k = valV vk k := by
        have : ¬ p.1 = k := by rw [h1]; exact c
        simp [valV, List.find?_cons, this]
      rw [e1] at e
      rw [e2]
      exact valV_of r e
theorem any_of {k : Key} : ∀ {vk : List (Key × V)} {kvs : List (Key × D)}, KvR F μ H vk kvs → (vk.any fun kv => decide (kv.1 = k)) = (kvs.any fun kv => decide (kv.1 = k))
  | _, _, .nil => rfl
  | p :: vk, q :: kvs, .cons h r => by rw [List.any_cons, List.any_cons, h.1, any_of r]
theorem kvr_map {k : Key} {v : V} {d : D} (hd : RD F μ H v d) : ∀ {vk : List (Key × V)} {kvs : List (Key × D)}, KvR F μ H vk kvs → KvR F μ H (vk.map fun kv => if kv.1 = k then (kv.1, v) else kv) (kvs.map fun kv => if kv.1 = k then (kv.1, d) else kv)
  | _, _, .nil => .nil
  | p :: vk, q :: kvs, .cons h r => by
    refine .cons ?_ (kvr_map hd r)
    obtain ⟨h1, h2⟩ := h
    by_cases c : q.1 = k
    · have c' : p.1 = k := by rw [h1]; exact c
      simp only [if_pos c, if_pos c']
      exact ⟨h1, hd⟩
    · have c' : ¬ p.1 = k := by rw [h1]; exact c
      simp only [if_neg c, if_neg c']
      exact ⟨h1, h2⟩
theorem kvr_snoc {p : Key × V} {q : Key × D} (h : p.1 = q.1 ∧ RD F μ H p.2 q.2) : ∀ {vk : List (Key × V)} {kvs : List (Key × D)}, KvR F μ H vk kvs → KvR F μ H (vk ++ [p]) (kvs ++ [q])
  | _, _, .nil => .cons h .nil
  | _, _, .cons a r => .cons a (kvr_snoc h r)
theorem kvr_put {k : Key} {v : V} {d : D} (hd : RD F μ H v d) {vk : List (Key × V)} {kvs : List (Key × D)} (r : KvR F μ H vk kvs) : KvR F μ H (putK vk k v) (putD kvs k d) := by
  unfold putK putD
  rw [any_of r]
  split
  · exact kvr_map hd r
  · exact kvr_snoc ⟨rfl, hd⟩ r
theorem kvr_len : ∀ {vk : List (Key × V)} {kvs : List (Key × D)}, KvR F μ H vk kvs → vk.length = kvs.length
  | _, _, .nil => rfl
  | _, _, .cons _ r => by rw [List.length_cons, List.length_cons, kvr_len r]
theorem kvr_merge : ∀ {vm : List (Key × V)} {more : List (Key × D)} {vk : List (Key × V)} {kvs : List (Key × D)}, KvR F μ H vm more → KvR F μ H vk kvs → KvR F μ H (mergeK vk vm) (mergeD kvs more)
  | _, _, _, _, .nil, r => r
  | p :: vm, q :: more, vk, kvs, .cons h t, r => by
    obtain ⟨h1, h2⟩ := h
    unfold mergeK mergeD
    rw [List.foldl_cons, List.foldl_cons, h1]
    exact kvr_merge t (kvr_put h2 r)
theorem kvr_mv {F' : Fx} {μ' : List Addr} {H' : Hp} (m : Mv F μ H F' μ' H') {vk : List (Key × V)} {kvs : List (Key × D)} (r : KvR F μ H vk kvs) : KvR F' μ' H' vk kvs := Paired.mapP r fun _ _ z => ⟨z.1, z.2.mv m⟩
theorem dic_at {v : V} {d : D} {kvs : List (Key × D)} (s : RS F μ H S) (r : RD F μ H v d) (e : dicOf S d = some kvs) : ∃ n a vk, d = .cell n ∧ v = .ref a ∧ μ[n]? = some a ∧ S[n]? = some (.dic kvs) ∧ H a = some (.dK vk) ∧ KvR F μ H vk kvs := by
  cases r with
  | @cell a n ea =>
    have e : (match S[n]? with | some (Cell.dic kvs) => some kvs | _ => none) = some kvs := e
    cases q : S[n]? with
    | none => rw [q] at e; exact nomatch e
    | some c =>
      rw [q] at e
      cases c with
      | dic kvs' =>
        cases e
        obtain ⟨vk, h1, h2⟩ := s.at_ n a _ ea q
        exact ⟨n, a, vk, rfl, rfl, ea, q, h1, h2⟩
      | _ => exact nomatch e
  | _ => exact nomatch e
/-- a reserved thing as a cell -/
theorem RS.asCellG {p : Addr} {c : Cell} (r : RS (F.hold p) μ H S) (hx : p ∉ F.ξ) (hc : CellOk F (μ ++ [p]) H p c) : RS F (μ ++ [p]) H (S ++ [c]) := by
  have np := (r.xi p List.mem_cons_self).1
  refine ⟨by rw [List.length_append, List.length_append, r.len] <;> rfl, ?_, fun n a c' e1 e2 => ?_, fun a ha => ⟨fun z => ?_, (r.xi a (List.mem_cons_of_mem _ ha)).2⟩⟩
  · refine List.nodup_append.mpr ⟨r.nd, by simp, fun a ha b hb => ?_⟩
    rw [List.mem_singleton.mp hb]
    rintro rfl
    exact np ha
  · by_cases hn : n < μ.length
    · rw [List.getElem?_append_left hn] at e1
      rw [List.getElem?_append_left (by rw [← r.len]; exact hn)] at e2
      exact (r.at_ n a c' e1 e2).mv .asCell rfl
    · have hn' : n = μ.length := by
        have q := (List.getElem?_eq_some_iff.mp e1).1
        rw [List.length_append, List.length_singleton] at q
        omega
      subst hn'
      rw [List.getElem?_append_right (Nat.le_refl _), Nat.sub_self] at e1
      rw [List.getElem?_append_right (by rw [r.len]; exact Nat.le_refl _), r.len, Nat.sub_self] at e2
      cases e1; cases e2
      exact hc
  · rcases List.mem_append.mp z with z | z
    · exact (r.xi a (List.mem_cons_of_mem _ ha)).1 z
    · rw [List.mem_singleton.mp z] at ha
      exact hx ha
end
section
variable {X : Cx} {W : WX} {tg e a b c o i : Expr} {es : List Expr} {mo mi ma mb mc m : ME} {mr : MA} {pos p p1 p2 p3 : Pos}
/-- d[k] -/
def gDIx : Sto → D → D → Option D := fun S x y => (dicOf S x).bind fun kvs => (keyD y).bind fun k => valD kvs k
theorem d_dix (hu : X.A.units + 64 < cLine) (ho : DE X W o mo) (hi : DE X W i mi) (hs : NoSl i := by exact fun _ _ => rfl) : DE X W (.Subscript o i pos) (mOp gDIx mo mi) := by
  obtain ⟨to, po, ko⟩ := ho
  obtain ⟨ti, pi, ki⟩ := hi
  refine ⟨_, pe_dget (by omega) po pi hs, fun ξ μ σ H ρ S Q g s h => ko ξ μ σ H ρ S _ g s (WR.bind h fun x S1 v μ1 H1 u1 s1 r1 h1 => ?_)⟩
  refine ki ξ μ1 σ H1 ρ S1 _ (g.up u1) s1 (WR.bind h1 fun y S2 w μ2 H2 u2 s2 r2 h2 => ?_)
  unfold gDIx at h2
  cases q1 : dicOf S2 x with
  | none => rw [q1] at h2; exact h2.elim
  | some kvs =>
    rw [q1] at h2
    cases q2 : keyD y with
    | none => rw [q2] at h2; exact h2.elim
    | some k =>
      rw [q2] at h2
      simp only [Option.bind_some] at h2
      cases q3 : valD kvs k with
      | none => rw [q3] at h2; exact h2.elim
      | some d =>
        rw [q3] at h2
        obtain ⟨n, a, vk, rfl, rfl, ea, es, e3, e4⟩ := dic_at s2 (r1.up u2) q1
        obtain ⟨z, e5, e6⟩ := valV_of e4 q3
        have ek := keyD_of r2 q2
        subst ek
        exact ⟨a, z, rfl, by rw [← e5]; exact DGet.k e3, h2 z μ2 H2 .refl s2 e6⟩
/-- {} -/
def mDNew : ME := fun _ S => .ok (.cell S.length) (S ++ [.dic []])
theorem d_dnew : DE X W (.Dict [] [] pos) mDNew := by
  refine ⟨_, pe_dnewK, fun ξ μ σ H ρ S Q g s h => fun p hp => ?_⟩
  have s1 := s.holds (p := p) (o := .dK []) hp
  have s2 := RS.asCellG (c := .dic []) s1 (s.outX hp) ⟨[], upd_same, .nil⟩
  exact h (.ref p) (μ ++ [p]) _ (.alloc hp) s2 (.cell (by rw [List.getElem?_append_right (by rw [s.len]; exact Nat.le_refl _), s.len, Nat.sub_self] <;> rfl))
/-- {k: v, ..} -/
abbrev MPs := Rho → Sto → Res (List (D × D))
def mPNil : MPs := fun _ S => .ok [] S
def mPCons (k v : ME) (r : MPs) : MPs := fun ρ S => (k ρ S).bind fun x S1 => (v ρ S1).bind fun y S2 => (r ρ S2).bind fun xs S3 => .ok ((x, y) :: xs) S3
def PrR (F : Fx) (μ : List Addr) (H : Hp) : List (V × V) → List (D × D) → Prop := Paired fun p q => RD F μ H p.1 q.1 ∧ RD F μ H p.2 q.2
structure DPs (X : Cx) (W : WX) (pos : Pos) (keys : List (Option Expr)) (values : List Expr) (m : MPs) : Prop where
  ex : ∃ trs, PPs X pos keys values trs ∧ ∀ ξ μ σ H ρ S Q, RG (fx X ξ) μ H σ ρ → RS (fx X ξ) μ H S → WR (fx X ξ) (PrR (fx X ξ)) (m ρ S) Q (fun cls dd H' => W cls dd σ H') μ H → tPairs trs σ H Q
theorem dps_nil : DPs X W pos [] [] mPNil := ⟨_, pps_nil, fun ξ μ σ H ρ S Q g s h => h [] μ H .refl s .nil⟩
theorem dps_cons {ks : List (Option Expr)} {vs : List Expr} {mr : MPs} (hk : DE X W a ma) (hv : DE X W b mb) (hr : DPs X W pos ks vs mr) : DPs X W pos (some a :: ks) (b :: vs) (mPCons ma mb mr) := by
  obtain ⟨ta, pa, ka⟩ := hk
  obtain ⟨tb, pb, kb⟩ := hv
  obtain ⟨tr, pr, kr⟩ := hr
  refine ⟨_, pps_cons pa pb pr, fun ξ μ σ H ρ S Q g s h => ka ξ μ σ H ρ S _ g s (WR.bind h fun x S1 v μ1 H1 u1 s1 r1 h1 => ?_)⟩
  refine kb ξ μ1 σ H1 ρ S1 _ (g.up u1) s1 (WR.bind h1 fun y S2 w μ2 H2 u2 s2 r2 h2 => ?_)
  refine kr ξ μ2 σ H2 ρ S2 _ (g.up (u1.trans u2)) s2 (WR.bind h2 fun ds S3 vs μ3 H3 u3 s3 r3 h3 => ?_)
  exact h3 _ μ3 H3 .refl s3 (.cons ⟨r1.up (u2.trans u3), r2.up u3⟩ r3)
def keysD : List (D × D) → Option (List (Key × D))
  | [] => some []
  | (k, v) :: r => (keyD k).bind fun k => (keysD r).map ((k, v) :: ·)
theorem keysD_of {F : Fx} {μ : List Addr} {H : Hp} : ∀ {ps : List (V × V)} {ds : List (D × D)} {kvs : List (Key × D)}, PrR F μ H ps ds → keysD ds = some kvs → ∃ vk : List (Key × V), ps = vk.map (fun kv => (kV kv.1, kv.2)) ∧ KvR F μ H vk kvs ∧ vk.length = kvs.length
  | _, _, kvs, .nil, e => by cases e; exact ⟨[], rfl, .nil, rfl⟩
  | p :: ps, (k, d) :: ds, kvs, .cons h r, e => by
    obtain ⟨h1, h2⟩ := h
    have e : (keyD k).bind (fun k => (keysD ds).map ((k, d) :: ·)) = some kvs := e
    cases q1 : keyD k with
    | none => rw [q1] at e; exact nomatch e
    | some k' =>
      cases q2 : keysD ds with
      | none => rw [q1, q2] at e; exact nomatch e
      | some more =>
        rw [q1, q2] at e; cases e
        obtain ⟨vk, e1, e2, e3⟩ := keysD_of r q2
        refine ⟨(k', p.2) :: vk, ?_, .cons ⟨rfl, h2⟩ e2, by rw [List.length_cons, List.length_cons, e3]⟩
        rw [List.map_cons, e1, ← keyD_of h1 q1]
def mDisp (m : MPs) : ME := fun ρ S => (m ρ S).bind fun ds S1 => match keysD ds with
  | some kvs => if kvs.length ≤ 15 then .ok (.cell S1.length) (S1 ++ [.dic (mergeD [] kvs)]) else .bad
  | none => .bad
theorem d_disp {keys : List (Option Expr)} {values : List Expr} {m : MPs} (h : DPs X W pos keys values m) (hall : keys.all (·.isSome) = true := by rfl) (hl : keys.length = values.length := by rfl) (h0 : keys ≠ [] := by exact List.cons_ne_nil _ _) (h15 : keys.length ≤ 15 := by decide) : DE X W (.Dict keys values pos) (mDisp m) := by
  obtain ⟨trs, ps, kp⟩ := h
  refine ⟨_, pe_disp ps hall hl h0 h15, fun ξ μ σ H ρ S Q g s h => fun p hp => ?_⟩
  have m0 : Mv (fx X ξ) μ H ((fx X ξ).hold p) μ (upd H p (.dK [])) := .holds hp
  have s1 : RS ((fx X ξ).hold p) μ (upd H p (.dK [])) S := s.holds hp
  have n0 : p ∉ μ := s.out hp
  refine kp (p :: ξ) μ σ (upd H p (.dK [])) ρ S _ (g.mv m0) s1 ?_
  unfold mDisp at h
  cases e : m ρ S with
  | bad => rw [e] at h; exact h.elim
  | exc cc fs S1 =>
    rw [e] at h
    have h : ∀ cls dd μ' H', Up μ H μ' H' → RS (fx X ξ) μ' H' S1 → XR (fx X ξ) μ' H' cls dd cc fs → W cls dd σ H' := h
    intro cls dd μ' H' u s' x
    have u' : Up μ H μ' H' := ⟨u.pre, fun a h1 h2 => by
      have := u.new a h1 h2
      by_cases c : a = p
      · rw [c]; exact hp
      · rw [upd_ne c] at this; exact this, fun a o' h1 h2 => u.keep a o' (by rw [upd_ne (ne_of_none h1 hp)]; exact h1) h2⟩
    exact h cls dd μ' H' u' (RS.free (F := fx X ξ) (p := p) s') ⟨x.1, x.2.imp id fun ⟨d, vfs, z1, z2, z3, z5, z4⟩ => ⟨d, vfs, z1, z2, z3, fun q => z5 (List.mem_cons_of_mem _ q), Paired.mapP z4 fun _ _ z => ⟨z.1, RD.free (F := fx X ξ) (p := p) _ z.2⟩⟩⟩
  | ok ds S1 =>
    rw [e] at h
    intro vps μ2 H2 u2 s2 r2
    have e2 : H2 p = some (.dK []) := u2.keep _ _ upd_same n0
    have np2 : p ∉ μ2 := (s2.xi p List.mem_cons_self).1
    have h : WE' (fx X ξ) (match keysD ds with | some kvs => if kvs.length ≤ 15 then .ok (.cell S1.length) (S1 ++ [.dic (mergeD [] kvs)]) else .bad | none => .bad) Q (fun cls dd H' => W cls dd σ H') μ H := h
    cases q : keysD ds with
    | none => rw [q] at h; exact h.elim
    | some kvs =>
      rw [q] at h
      simp only at h
      by_cases c : kvs.length ≤ 15
      · rw [if_pos c] at h
        obtain ⟨vk, e3, e4, e5⟩ := keysD_of r2 q
        refine ⟨e2, vk, e3, by omega, ?_⟩
        have s3 : RS ((fx X ξ).hold p) μ2 (upd H2 p (.dK (mergeK [] vk))) S1 := RS.wr (F := fx X ξ) (p := p) s2
        have e6 : KvR ((fx X ξ).hold p) μ2 (upd H2 p (.dK (mergeK [] vk))) (mergeK [] vk) (mergeD [] kvs) := kvr_mv (Mv.wr (F := fx X ξ) (p := p)) (kvr_merge e4 .nil)
        have s4 := RS.asCellG (F := fx X ξ) (c := .dic (mergeD [] kvs)) s3 (s.outX hp) ⟨_, upd_same, kvr_mv (Mv.asCell (F := fx X ξ) (p := p)) e6⟩
        refine h (.ref p) (μ2 ++ [p]) _ ?_ s4 (.cell (by rw [List.getElem?_append_right (by rw [s2.len]; exact Nat.le_refl _), s2.len, Nat.sub_self] <;> rfl))
        obtain ⟨ν, en⟩ := u2.pre
        refine ⟨⟨ν ++ [p], by rw [en, List.append_assoc]⟩, fun a ha hn => ?_, fun a o ha hn => ?_⟩
        · rcases List.mem_append.mp ha with z | z
          · have := u2.new a z hn
            by_cases c : a = p
            · rw [c]; exact hp
            · rw [upd_ne c] at this; exact this
          · rw [List.mem_singleton.mp z]; exact hp
        · rw [upd_ne (ne_of_none ha hp)]
          exact u2.keep a o (by rw [upd_ne (ne_of_none ha hp)]; exact ha) hn
      · rw [if_neg c] at h; exact h.elim
/-- d[k] = v -/
def mSetDx (m o i : ME) : MS := fun ρ S => ofRes (m ρ S) ρ fun d S1 => ofRes (o ρ S1) ρ fun x S2 => ofRes (i ρ S2) ρ fun y S3 => match x with
  | .cell n => match S3[n]?, keyD y with
    | some (.dic kvs), some k => if kvs.length < 16777216 then .nx ρ (S3.set n (.dic (putD kvs k d))) else .bad
    | _, _ => .bad
  | _ => .bad
end
/-! ### dict comprehensions -/
def dcA (d : D) (f : D → Rho → Option Rho) (mt mk mv : ME) (ρ : Rho) : Nat → Nat → List (Key × D) → Sto → Option (List (Key × D) × Sto)
  | 0, _, _, _ => none
  | n + 1, i, acc, S => match seqOf S d with
    | none => none
    | some ds => match ds[i]? with
      | none => if i = ds.length then some (acc, S) else none
      | some x => match f x ρ with
        | none => none
        | some ρ1 => match mt ρ1 S with
          | .ok (.bl true) S1 => match mk ρ1 S1 with
            | .ok y S2 => match mv ρ1 S2 with
              | .ok z S3 => match keyD y with
                | some k => dcA d f mt mk mv ρ n (i + 1) (putD acc k z) S3
                | none => none
              | _ => none
            | _ => none
          | .ok (.bl false) S1 => dcA d f mt mk mv ρ n (i + 1) acc S1
          | _ => none
def mDcA (m : ME) (f : D → Rho → Option Rho) (mt mk mv : ME) (vs : List Nat) : ME := fun ρ S => (iAny m ρ S).bind fun p S1 => match dcA p.1 f mt mk mv (wipeD ρ vs) (p.2 + 1) 0 [] S1 with
  | some (kvs, S2) => .ok (.cell S2.length) (S2 ++ [.dic kvs])
  | none => .bad
theorem dcA_pos {d : D} {f : D → Rho → Option Rho} {mt mk mv : ME} {ρ : Rho} {k i : Nat} {acc : List (Key × D)} {S : Sto} {r : List (Key × D) × Sto} (h : dcA d f mt mk mv ρ k i acc S = some r) : 0 < k := by
  cases k with
  | zero => exact nomatch h
  | succ k => exact Nat.succ_pos k
theorem putD_len {kvs : List (Key × D)} {k : Key} {v : D} : (putD kvs k v).length ≤ kvs.length + 1 := by
  unfold putD
  split
  · rw [List.length_map]; omega
  · rw [List.length_append]; exact Nat.le_refl _
section
variable {X : Cx} {W : WX} {tg e a b c : Expr} {m mt mk mv : ME} {pos p : Pos}
theorem dcA_read {wi : TI} {tg' : TG} {tt : TT} {tk te : TE} {f : D → Rho → Option Rho} {is vs : List Nat} {ξ μ : List Addr} {σ : L2.St} {H : Hp} {ρ : Rho} {S : Sto} {Q : VK} {Wx : Value → Option Addr → Hp → Prop}
    (ki : ∀ R, WR (fx X ξ) (fun μ H (J : It) (p : D × Nat) => ItA (fx X ξ) μ H J p) (iAny m ρ S) R Wx μ H → wi σ H R)
    (kg : ∀ ξ μ σ H ρ v d ρ' (Q : L2.St → Hp → Prop), RG (fx X ξ) μ H σ ρ → RD (fx X ξ) μ H v d → f d ρ = some ρ' → (∀ σ', RG (fx X ξ) μ H σ' ρ' → (∀ js : List Nat, (∀ i ∈ is, i ∈ js) → wipe σ' js = wipe σ js) → Q σ' H) → tg' v σ H Q)
    (kt : ∀ ξ μ σ H ρ S Q, RG (fx X ξ) μ H σ ρ → RS (fx X ξ) μ H S → WT' (fx X ξ) (mt ρ S) Q (fun cls dd H' => W0 cls dd σ H') μ H → tt σ H Q)
    (kk : ∀ ξ μ σ H ρ S Q, RG (fx X ξ) μ H σ ρ → RS (fx X ξ) μ H S → WE' (fx X ξ) (mk ρ S) Q (fun cls dd H' => W0 cls dd σ H') μ H → tk σ H Q)
    (ke : ∀ ξ μ σ H ρ S Q, RG (fx X ξ) μ H σ ρ → RS (fx X ξ) μ H S → WE' (fx X ξ) (mv ρ S) Q (fun cls dd H' => W0 cls dd σ H') μ H → te σ H Q)
    (hv : ∀ i ∈ is, i ∈ vs) (g : RG (fx X ξ) μ H σ ρ) (s : RS (fx X ξ) μ H S) (h : WE' (fx X ξ) (mDcA m f mt mk mv vs ρ S) Q Wx μ H) : tDc wi tg' tt tk te vs σ H Q := by
  refine ki _ (WR.bind h fun p S1 J μ1 H1 u1 s1 r1 h1 => ?_)
  obtain ⟨d, n0⟩ := p
  intro D hD
  obtain ⟨hz, r1⟩ := r1
  have hz : n0 ≤ 16777216 := hz
  have ext : Ext (fx X ξ) ((fx X ξ).hold D) H1 := ⟨rfl, rfl, fun a ha => (List.mem_cons.mp ha).elim (fun z => .inr (by rw [z]; exact hD)) .inl⟩
  have main : WE' (fx X ξ) (match dcA d f mt mk mv (wipeD ρ vs) (n0 + 1) 0 [] S1 with
    | some (kvs, S2) => Res.ok (.cell S2.length) (S2 ++ [.dic kvs])
    | none => .bad) Q Wx μ1 H1 := h1
  refine ⟨fun i k H' => ∃ μ' S' vk acc, Up μ1 H1 μ' H' ∧ RS ((fx X ξ).hold D) μ' H' S' ∧ H' D = some (.dK vk) ∧ KvR ((fx X ξ).hold D) μ' H' vk acc ∧ acc.length ≤ i ∧ i + k = n0 + 1 ∧
      ∃ kvs S2, dcA d f mt mk mv (wipeD ρ vs) k i acc S' = some (kvs, S2) ∧ ∀ μ2 H2 vk2, Up μ1 H1 μ2 H2 → RS ((fx X ξ).hold D) μ2 H2 S2 → KvR ((fx X ξ).hold D) μ2 H2 vk2 kvs → H2 D = some (.dK vk2) → Q (.ref D) H2,
    ⟨_, μ1, S1, [], [], .fresh hD, s1.holds hD, upd_same, .nil, Nat.le_refl _, Nat.zero_add _, ?_⟩, ?_⟩
  · cases q : dcA d f mt mk mv (wipeD ρ vs) (n0 + 1) 0 [] S1 with
    | none => rw [q] at main; exact main.elim
    | some r =>
      obtain ⟨kvs, S2⟩ := r
      rw [q] at main
      refine ⟨kvs, S2, rfl, fun μ2 H2 vk2 u2 s2 r2 e2 => ?_⟩
      have s3 := RS.asCellG (F := fx X ξ) (c := .dic kvs) s2 (s1.outX hD) ⟨vk2, e2, kvr_mv (Mv.asCell (F := fx X ξ) (p := D)) r2⟩
      refine main (.ref D) (μ2 ++ [D]) H2 ?_ s3 (.cell (by rw [List.getElem?_append_right (by rw [s2.len]; exact Nat.le_refl _), s2.len, Nat.sub_self] <;> rfl))
      obtain ⟨ν, en⟩ := u2.pre
      refine ⟨⟨ν ++ [D], by rw [en, List.append_assoc]⟩, fun a ha hn => ?_, fun a o ha hn => u2.keep a o ha hn⟩
      rcases List.mem_append.mp ha with z | z
      · exact u2.new a z hn
      · rw [List.mem_singleton.mp z]; exact hD
  rintro i k H' ⟨μ', S', vk, acc, u', s', hacc, racc, hla, hi, kvs, S2, eL, fin⟩
  cases k with
  | zero => exact nomatch eL
  | succ k =>
    unfold dcA at eL
    cases q' : seqOf S' d with
    | none => rw [q'] at eL; exact nomatch eL
    | some es =>
      rw [q'] at eL
      simp only at eL
      obtain ⟨t1, t2⟩ := r1 ((fx X ξ).hold D) μ' H' S' i ext u' s' es q'
      cases q2 : es[i]? with
      | none =>
        rw [q2] at eL
        simp only at eL
        by_cases e : i = es.length
        · rw [if_pos e] at eL
          cases eL
          exact .inl ⟨t2 e, fin μ' H' vk u' s' racc hacc⟩
        · rw [if_neg e] at eL; exact nomatch eL
      | some x0 =>
        rw [q2] at eL
        simp only at eL
        obtain ⟨go, yl⟩ := t1 x0 q2
        cases ef : f x0 (wipeD ρ vs) with
        | none => rw [ef] at eL; exact nomatch eL
        | some ρ1 =>
          rw [ef] at eL
          simp only at eL
          refine .inr ⟨go, fun H2 => ∃ μ' S' vk acc, Up μ1 H1 μ' H2 ∧ RS ((fx X ξ).hold D) μ' H2 S' ∧ H2 D = some (.dK vk) ∧ KvR ((fx X ξ).hold D) μ' H2 vk acc ∧ acc.length ≤ i + 1 ∧ (i + 1) + k = n0 + 1 ∧
              ∃ kvs S2, dcA d f mt mk mv (wipeD ρ vs) k (i + 1) acc S' = some (kvs, S2) ∧ ∀ μ2 H2 vk2, Up μ1 H1 μ2 H2 → RS ((fx X ξ).hold D) μ2 H2 S2 → KvR ((fx X ξ).hold D) μ2 H2 vk2 kvs → H2 D = some (.dK vk2) → Q (.ref D) H2,
            fun H2 z => ⟨k, Nat.lt_succ_self k, z⟩, fun x H2 y => ?_⟩
          obtain ⟨eH, r2⟩ := yl x H2 y
          subst eH
          have g2 : RG (fx X (D :: ξ)) μ' H2 (wipe σ vs) (wipeD ρ vs) := (((g.up u1).mv (.ext ext u'))).wipe vs
          refine kg (D :: ξ) μ' (wipe σ vs) H2 (wipeD ρ vs) x _ ρ1 _ g2 r2 ef fun σ3 g3 w3 => ?_
          have nD : D ∉ μ' := (s'.xi D List.mem_cons_self).1
          have ww : wipe (wipe σ vs) vs = wipe σ vs := by
            refine List.ext_getElem? fun k => ?_
            rw [wipe_get, wipe_get, wipe_length]
            by_cases q : k ∈ vs ∧ k < σ.length
            · rw [if_pos q, if_pos q]
            · rw [if_neg q, if_neg q]
          refine ⟨by rw [w3 vs hv, ww], ?_⟩
          refine kt (D :: ξ) μ' σ3 H2 ρ1 S' _ g3 s' ?_
          cases et : mt ρ1 S' with
          | bad => rw [et] at eL; exact nomatch eL
          | exc c fs S3 => rw [et] at eL; exact nomatch eL
          | ok dd S3 =>
            rw [et] at eL
            cases dd with
            | bl b =>
              intro μ3 H3 u3 s3
              have eD3 : H3 D = some (.dK vk) := u3.keep _ _ hacc nD
              cases b with
              | false =>
                exact ⟨μ3, S3, vk, acc, u'.trans u3, s3, eD3, racc.up u3, Nat.le_succ_of_le hla, by omega, kvs, S2, eL, fin⟩
              | true =>
                simp only at eL
                refine kk (D :: ξ) μ3 σ3 H3 ρ1 S3 _ (g3.up u3) s3 ?_
                cases ek : mk ρ1 S3 with
                | bad => rw [ek] at eL; exact nomatch eL
                | exc c fs S4 => rw [ek] at eL; exact nomatch eL
                | ok y S4 =>
                  rw [ek] at eL
                  intro v μ4 H4 u4 s4 r4
                  simp only at eL
                  refine ke (D :: ξ) μ4 σ3 H4 ρ1 S4 _ (g3.up (u3.trans u4)) s4 ?_
                  cases ev : mv ρ1 S4 with
                  | bad => rw [ev] at eL; exact nomatch eL
                  | exc c fs S5 => rw [ev] at eL; exact nomatch eL
                  | ok z S5 =>
                    rw [ev] at eL
                    intro w μ5 H5 u5 s5 r5
                    simp only at eL
                    cases eky : keyD y with
                    | none => rw [eky] at eL; exact nomatch eL
                    | some ky =>
                      rw [eky] at eL
                      simp only at eL
                      have kp := dcA_pos eL
                      have nD3 : D ∉ μ3 := (s3.xi D List.mem_cons_self).1
                      have nD4 : D ∉ μ4 := (s4.xi D List.mem_cons_self).1
                      have eD5 : H5 D = some (.dK vk) := u5.keep _ _ (u4.keep _ _ eD3 nD3) nD4
                      have rv : KvR ((fx X ξ).hold D) μ5 H5 vk acc := ((racc.up u3).up u4).up u5
                      have ez := keyD_of (r4.up u5) eky
                      subst ez
                      refine ⟨vk, ky, rfl, eD5, by rw [kvr_len rv, sizeLine_eq]; omega, μ5, S5, _, putD acc ky z, ?_, RS.wr (F := fx X ξ) (p := D) s5, upd_same, kvr_mv (Mv.wr (F := fx X ξ) (p := D)) (kvr_put r5 rv), Nat.le_trans putD_len (by omega), by omega, kvs, S2, eL, fin⟩
                      have U := u'.trans (u3.trans (u4.trans u5))
                      exact ⟨U.pre, U.new, fun a o ha na => by
                        rw [upd_ne (ne_of_none ha hD)]
                        exact U.keep a o ha na⟩
            | _ => exact nomatch eL
end
/-! ### what they do -/
section
variable {S : Sto} {ρ : Rho} {Q : D → Sto → Prop} {N B C : Rho → Sto → Prop} {R : D → Sto → Prop} {E : EX} {EO : EXO}
@[simp] theorem keyD_int {i : Int} : keyD (.int i) = some (.inl i) := rfl
@[simp] theorem keyD_str {x : Str} : keyD (.str x) = some (.inr x) := rfl
@[simp] theorem does_dnew : (mDNew ρ S).DoesE E Q = Q (.cell S.length) (S ++ [.dic []]) := rfl
@[simp] theorem does_pnil {Q : List (D × D) → Sto → Prop} : (mPNil ρ S).DoesE E Q = Q [] S := rfl
@[simp] theorem does_pcons {k v : ME} {r : MPs} {Q : List (D × D) → Sto → Prop} : (mPCons k v r ρ S).DoesE E Q = (k ρ S).DoesE E fun x S1 => (v ρ S1).DoesE E fun y S2 => (r ρ S2).DoesE E fun xs S3 => Q ((x, y) :: xs) S3 := by
  unfold mPCons
  rw [does_bind]; congr 1; funext x S1
  rw [does_bind]; congr 1; funext y S2
  rw [does_bind] <;> rfl
@[simp] theorem does_disp {m : MPs} : (mDisp m ρ S).DoesE E Q = (m ρ S).DoesE E fun ds S1 => match keysD ds with
    | some kvs => kvs.length ≤ 15 ∧ Q (.cell S1.length) (S1 ++ [.dic (mergeD [] kvs)])
    | none => False := by
  unfold mDisp
  rw [does_bind]; congr 1; funext ds S1
  cases keysD ds with
  | none => rfl
  | some kvs =>
    simp only
    by_cases h : kvs.length ≤ 15
    · rw [if_pos h]; simp [h]
    · rw [if_neg h]; simp [h, Res.DoesE]
@[simp] theorem does_setDx {m o i : ME} : (mSetDx m o i ρ S).DoesE EO N R B C = (m ρ S).DoesE (eAt EO ρ) fun d S1 => (o ρ S1).DoesE (eAt EO ρ) fun x S2 => (i ρ S2).DoesE (eAt EO ρ) fun y S3 => match x with
    | .cell n => match S3[n]?, keyD y with
      | some (.dic kvs), some k => kvs.length < 16777216 ∧ N ρ (S3.set n (.dic (putD kvs k d)))
      | _, _ => False
    | _ => False := by
  unfold mSetDx
  rw [does_ofRes]; congr 1; funext d S1
  rw [does_ofRes]; congr 1; funext x S2
  rw [does_ofRes]; congr 1; funext y S3
  cases x with
  | cell n =>
    simp only
    cases S3[n]? with
    | none => rfl
    | some c =>
      cases c with
      | dic kvs =>
        cases keyD y with
        | none => rfl
        | some k =>
          simp only
          by_cases h : kvs.length < 16777216
          · rw [if_pos h]; simp [h]
          · rw [if_neg h]; simp [h, Out.DoesE]
      | _ => rfl
  | _ => rfl
theorem dicOf_cell {n : Nat} {kvs : List (Key × D)} (h : S[n]? = some (.dic kvs)) : dicOf S (.cell n) = some kvs := by
  show (match S[n]? with | some (Cell.dic kvs) => some kvs | _ => none) = _
  rw [h]
theorem gDIx_cell {n : Nat} {kvs : List (Key × D)} {y : D} (h : S[n]? = some (.dic kvs)) : gDIx S (.cell n) y = (keyD y).bind fun k => valD kvs k := by
  unfold gDIx
  rw [dicOf_cell h] <;> rfl
/-- a dict comprehension without tests, whose parts change nothing -/
theorem dcA_map {f : D → Rho → Option Rho} {mk mv : ME} {α : Type} {i : α → D} {k : α → Key} {g : α → D} {d : D} {as0 : List α} (hd : seqOf S d = some (as0.map i))
    (h : ∀ a, a ∈ as0 → ∃ ρ1 y, f (i a) ρ = some ρ1 ∧ mk ρ1 S = .ok y S ∧ keyD y = some (k a) ∧ mv ρ1 S = .ok (g a) S) :
    ∀ {as pre : List α} {acc : List (Key × D)}, as0 = pre ++ as → dcA d f mYes mk mv ρ (as.length + 1) pre.length acc S = some (as.foldl (fun acc a => putD acc (k a) (g a)) acc, S)
  | [], pre, acc, e => by
    unfold dcA
    rw [hd]
    have e1 : (as0.map i)[pre.length]? = none := by rw [e, List.append_nil]; exact List.getElem?_eq_none (by rw [List.length_map]; exact Nat.le_refl _)
    simp only [e1]
    rw [if_pos (by rw [e, List.append_nil, List.length_map])] <;> rfl
  | a :: as, pre, acc, e => by
    obtain ⟨ρ1, y, ef, ek, eky, ev⟩ := h a (by rw [e]; exact List.mem_append.mpr (.inr List.mem_cons_self))
    have e1 : (as0.map i)[pre.length]? = some (i a) := by rw [List.getElem?_map, e, List.getElem?_append_right (Nat.le_refl _), Nat.sub_self] <;> rfl
    have en : as0 = (pre ++ [a]) ++ as := by rw [e, List.append_assoc] <;> rfl
    have q := dcA_map hd h (as := as) (pre := pre ++ [a]) (acc := putD acc (k a) (g a)) en
    rw [List.length_append, List.length_singleton] at q
    unfold dcA
    rw [hd]
    simp only [e1, ef, mYes, ek, eky, ev]
    exact q
theorem does_dcA {m : ME} {f : D → Rho → Option Rho} {mt mk mv : ME} {vs : List Nat} {d : D} {S1 S2 : Sto} {ds : List D} {kvs : List (Key × D)} (e : m ρ S = .ok d S1) (e1 : seqOf S1 d = some ds) (e2 : dcA d f mt mk mv (wipeD ρ vs) (ds.length + 1) 0 [] S1 = some (kvs, S2)) (q : Q (.cell S2.length) (S2 ++ [.dic kvs])) :
    (mDcA m f mt mk mv vs ρ S).DoesE E Q := by
  unfold mDcA iAny
  rw [e]
  show Res.DoesE (Res.bind (match seqOf S1 d with | some ds => Res.ok (d, ds.length) S1 | none => .bad) _) E Q
  rw [e1]
  show Res.DoesE (match dcA d f mt mk mv (wipeD ρ vs) (ds.length + 1) 0 [] S1 with | some (kvs, S2) => .ok (.cell S2.length) (S2 ++ [.dic kvs]) | none => .bad) E Q
  rw [e2]
  exact q
end
end Dm
-- text DmKw
namespace Dm
open PySem L2 PySem.Spec PyProof.Rows
open PySem.W (Frag)
/-! ### constant data -/
mutual
inductive KD (K : Frag) : V → D → Prop
  | non : KD K .non .non
  | bl (b : Bool) : KD K (.bl b) (.bl b)
  | int (i : Int) : KD K (.int i) (.int i)
  | str (x : Str) : KD K (.str x) (.str x)
  | tup {a : Addr} {xs : List V} {ds : List D} : KT K a xs → KDs K xs ds → KD K (.ref a) (.tup ds)
inductive KDs (K : Frag) : List V → List D → Prop
  | nil : KDs K [] []
  | cons {v : V} {vs : List V} {d : D} {ds : List D} : KD K v d → KDs K vs ds → KDs K (v :: vs) (d :: ds)
end
mutual
theorem KD.rd {F : Fx} {μ : List Addr} {H : Hp} : ∀ {v : V} (d : D), KD F.K v d → RD F μ H v d
  | _, .non, h => by cases h; exact .non
  | _, .bl b, h => by cases h; exact .bl b
  | _, .int i, h => by cases h; exact .int i
  | _, .str x, h => by cases h; exact .str x
  | _, .tup ds, h => by
    cases h with
    | tup t r => exact .tup (.inr t) (KDs.rd ds r)
  | _, .lst _, h => by cases h
  | _, .cell _, h => by cases h
  | _, .glo _, h => by cases h
  | _, .exn _ _, h => by cases h
theorem KDs.rd {F : Fx} {μ : List Addr} {H : Hp} : ∀ {vs : List V} (ds : List D), KDs F.K vs ds → RDs F μ H vs ds
  | _, [], h => by cases h; exact .nil
  | _, d :: ds, h => by
    cases h with
    | cons a b => exact .cons (KD.rd d a) (KDs.rd ds b)
end
/-- the name stands for this -/
def GlK (K : Frag) (mg : Str → Option Value) (x : Str) (d : D) : Prop := ∃ u v, mg x = some u ∧ RelV v u ∧ KD K v d
theorem GlK.glD {X : Cx} {K : Frag} {mg : Str → Option Value} {x : Str} {d : D} (h : GlK K mg x d) (hK : X.K = K := by rfl) (hg : X.mg = mg := by rfl) : GlD X x d := by
  obtain ⟨u, v, h1, h2, h3⟩ := h
  exact ⟨u, v, by rw [hg]; exact h1, h2, fun ξ μ H => KD.rd (F := fx X ξ) d (by show KD X.K v d; rw [hK]; exact h3)⟩
theorem kt_mk {K : Frag} {a : Addr} {od : Option Addr} {its : Array Value} {n : Nat} {sl : Array (Option Value)} {xs : List V} (h : K.lookup a = some ⟨.type "tuple", od, .seq its n, sl⟩) (hz : its.size ≤ 1000) (r : Vals xs its.toList) : KT K a xs :=
  ⟨_, its, n, h, rfl, rfl, by rw [sizeLine_eq]; omega, r⟩
/-! ### defs with defaults -/
structure FnDD (P : Program) (w : World) (K : Frag) (mg : Str → Option Value) (base : Heap) (k : Nat) (x : Str) (st : Stmt) (dvs : List V) (kws : List (Str × V)) (ps : List Str) (m : List D → Sto → Res D) : Prop where
  ex : ∃ f fd, mg x = some (.ref f) ∧ FunD K x x (defArgs st) (defBody st) (defScope st) dvs kws f fd ∧ FnOk P w K mg base (L2.CX P w) k f fd ps (spD K mg m)
section
variable {P : Program} {w : World} {K : Frag} {mg : Str → Option Value} {base : Heap}
theorem fndd_mk {x : Str} {st : Stmt} {f : Addr} {fd : FuncData} {N ps : List Str} {dvs : List V} {kws : List (Str × V)} {k np nN : Nat} {mb : MS} (hm : mg x = some (.ref f)) (F : FunD K x x (defArgs st) (defBody st) (defScope st) dvs kws f fd) (S : FnScope N ps (defScope st)) (hnp : ps.length = np) (hnN : N.length = nN)
    (hb : ∀ (cdv : Value) (A : Around) (outer : List Env) (s : Shared) (H : Hp) (E : XK), Room k (A.deeper (envOfC x (defScope st) s.heap.objs.size f cdv)) →
      DSs (cxOf (L2.CX P w) P w K mg base N x (defScope st) f cdv A outer s H E) (fun cls d _ H => E cls d H) (defBody st) mb) : FnDD P w K mg base (k + 1) x st dvs kws ps (mDef np nN mb) := by
  subst hnp hnN
  refine ⟨f, fd, hm, F, F.ok S (fun vs H Q E h => ?_) (fun cdv A outer s H vs Q E hr h => ?_)⟩
  · obtain ⟨ξ, μ, ds, S0, s0, r0, w0⟩ := h
    unfold mDef at w0
    by_cases c : ds.length = ps.length
    · rw [r0.length]; exact c
    · rw [if_neg c] at w0; exact w0.elim
  · obtain ⟨ξ, μ, ds, S0, s0, r0, w0⟩ := h
    obtain ⟨ts, pt, kt⟩ := hb cdv A outer s H E hr
    refine ⟨ts, pt, ?_⟩
    unfold mDef at w0
    by_cases c : ds.length = ps.length
    · rw [if_pos c] at w0
      refine kt ξ μ _ H _ S0 _ (rg_start r0) s0 ?_
      show WS' ⟨K, mg, ξ⟩ _ _ _ μ H
      rw [c]
      cases e : mb (ds.map some ++ List.replicate (N.length - ps.length) none) S0 with
      | nx ρ S' => rw [e] at w0; exact fun σ μ' H' u s g => w0 _ μ' H' u s .non
      | rt d S' => rw [e] at w0; exact w0
      | exc c fs ρ S' => rw [e] at w0; exact fun cls dd σ μ' H' u s g x => w0 cls dd μ' H' u s x
      | bk ρ S' => rw [e] at w0; exact w0.elim
      | ct ρ S' => rw [e] at w0; exact w0.elim
      | bad => rw [e] at w0; exact w0.elim
    · rw [if_neg c] at w0; exact w0.elim
end
/-- how the arguments come to the parameters: the written ones, the keywords', the defaults dd -/
def KwBD (K : Frag) (x : Str) (st : Stmt) (dvs : List V) (kws : List (Str × V)) (ps : List Str) (n : Nat) (ks : List Str) (perm : List Nat) (dd : List V) : Prop :=
  ∀ f fd, FunD K x x (defArgs st) (defBody st) (defScope st) dvs kws f fd → ∃ dv : List Value, Vals dd dv ∧ ∀ (s : Shared) (us ws : List Value), K.In s.heap → us.length = n → ws.length = ks.length → BindsTo s fd ⟨us, ks.zip ws⟩ (ps.zip (perm.filterMap ((us ++ ws ++ dv)[·]?)))
theorem kwb_kw {K : Frag} {x : Str} {st : Stmt} {kws : List (Str × V)} {ps : List Str} {n : Nat} {ks : List Str} {perm : List Nat} (ms : List (Str × V)) (hk : kws ≠ []) (hms : ∀ q ∈ ms, q ∈ kws)
    (h : ∀ (D : Addr) (doc pm : Value) (an : Option Addr) (cdv ct : Value) (us ws mv : List Value), us.length = n → ws.length = ks.length → mv.length = ms.length →
      KwChain D ((ms.map (·.1)).zip mv) (bindArgs (PySem.W.fnOf x x (defArgs st) (defBody st) (defScope st) .none (.ref D) doc pm an cdv ct) ⟨us, ks.zip ws⟩) (ps.zip (perm.filterMap ((us ++ ws ++ mv)[·]?)))) :
    KwBD K x st [] kws ps n ks perm (ms.map (·.2)) := by
  intro f fd F
  obtain ⟨oc, od, dV, kV, doc, pm, an, cdv, ct, osl, rfl, lk, hcd, hD, hK⟩ := F.ex
  rcases hD with ⟨_, rfl⟩ | ⟨e, _⟩
  · rcases hK with e | ⟨D, rfl, hq⟩
    · exact absurd e hk
    · obtain ⟨mv, hl, rk, hks⟩ := kwd_vals (ms := ms) fun q h => hq q (hms q h)
      exact ⟨mv, rk, fun s us ws X l1 l2 => BindsTo.of_looks fun M => KwChain.looks X hks (h D doc pm an cdv ct us ws mv l1 l2 hl)⟩
  · exact absurd rfl e
def mCallD (f : List D → Sto → Res D) (n q : Nat) (perm : List Nat) (dd : List D) (a k : MA) : ME := fun ρ S => (a ρ S).bind fun xs S1 => (k ρ S1).bind fun zs S2 => if xs.length = n ∧ zs.length = q then f (perm.filterMap ((xs ++ zs ++ dd)[·]?)) S2 else .bad
def tCallPD (n q : Nat) (sp : Sp) (perm : List Nat) (dd : List V) (E : L2.St → XK) (t tk : TA) : TE := fun σ H Q => t σ H fun vs H1 => tk σ H1 fun zs H2 => vs.length = n ∧ zs.length = q ∧ sp (perm.filterMap ((vs ++ zs ++ dd)[·]?)) H2 Q (E σ)
section
variable {X : Cx} {W : WX} {tg e a b c : Expr} {es : List Expr} {kw : Keyword} {kws : List Keyword} {st : Stmt} {ma mb mc m : ME} {mr mk : MA} {pos p p1 p2 p3 kpos : Pos} {nm : Option Str}
theorem run_fnPD {CX : CXT} {k n : Nat} {f : Addr} {fd : FuncData} {ps ks : List Str} {sp : Sp} {E : L2.St → XK} {perm : List Nat} {pins : List (Addr × Obj)} {σ : L2.St} {H : Hp} {s : Shared} {Q : VK} {us ws dv : List Value} {vs zs dd : List V} (F : FnOk X.prog X.w X.K X.mg X.base CX k f fd ps sp) (hr : Room k X.A)
    (hdv : Vals dd dv) (hb : ∀ (s : Shared) (us ws : List Value), X.K.In s.heap → us.length = n → ws.length = ks.length → BindsTo s fd ⟨us, ks.zip ws⟩ (ps.zip (perm.filterMap ((us ++ ws ++ dv)[·]?)))) (hx : ∀ σ, PassesAt CX X σ (E σ)) (I : Inv X pins σ H s) (r : Vals vs us) (rz : Vals zs ws) (l1 : vs.length = n) (l2 : zs.length = ks.length) (h : sp (perm.filterMap ((vs ++ zs ++ dd)[·]?)) H Q (E σ)) :
    wpAny (model X.prog X.w) X.A (call (.ref f) us (ks.zip ws)) (EP X pins σ Q) X.xe s := by
  have r2 := vals_perm perm ((r.append rz).append hdv)
  refine wpAny_call (codeAny_mono (F.run X.A X.stack s H ⟨us, ks.zip ws⟩ _ _ Q (E σ) hr I.env0 (hb s us ws I.kIn (r.length.symm.trans l1) (rz.length.symm.trans l2)) r2 h) fun r s' hq => ?_)
  cases r with
  | error e => exact hx σ pins H s e s' I hq
  | ok fl =>
    cases fl with
    | ret u => exact I.after hq
    | next => exact False.elim hq
    | brk => exact False.elim hq
    | cont => exact False.elim hq
theorem rds_rd {K : Frag} {F : Fx} {μ : List Addr} {H : Hp} {vs : List V} {ds : List D} (hK : F.K = K) (h : KDs K vs ds) : RDs F μ H vs ds := KDs.rd ds (by rw [hK]; exact h)
theorem d_callD {j k n : Nat} {x : Str} {ps ks : List Str} {dvs : List V} {kwd : List (Str × V)} {f : List D → Sto → Res D} (F : FnDD X.prog X.w X.K X.mg X.base j x st dvs kwd ps f) (perm : List Nat) {dd : List V} {de : List D} (hb : KwBD X.K x st dvs kwd ps n ks perm dd) (hde : KDs X.K dd de)
    (hr : Room k X.A) (tk : Takes X W) (ha : DA X W (e :: es) mr) (hkw : DK X W (kw :: kws) mk) (hj : j ≤ k := by decide) (hg : Gl X x := by rfl) (hall : (backToKw pos (keywordEach (kw :: kws) X.env)).all (·.1.isSome) = true := by rfl) (hks : (backToKw pos (keywordEach (kw :: kws) X.env)).filterMap (·.1) = ks := by rfl)
    (hdb : (x == ("__debug__" : Str)) = false := by decide) (he : starEach (e :: es) X.env = (false, eval e X.env) :: starEach es X.env := by rfl)
    (hpl : ((backTo pos (starEach (e :: es) X.env)).any (·.1) || (backToKw pos (keywordEach (kw :: kws) X.env)).any (·.1.isNone)) = false := by rfl) : DE X W (.Call (.Name x p) (e :: es) (kw :: kws) pos) (mCallD f n ks.length perm de mr mk) := by
  obtain ⟨fa, fd, hm, Fu, G⟩ := F
  obtain ⟨ta, pa, ka⟩ := ha
  obtain ⟨tk', pk, kk⟩ := hkw
  obtain ⟨dv, hdv, hB⟩ := hb fa fd Fu
  refine ⟨tCallPD n ks.length (spD X.K X.mg f) perm dd (WE W) ta tk', ⟨fun pins s σ H Q I h => ?_⟩, fun ξ μ σ H ρ S Q g s h => ka ξ μ σ H ρ S _ g s (WR.bind h fun xs S1 vs μ1 H1 u1 s1 r1 h1 => ?_)⟩
  · refine wpAny_Call_Name_kw (ld_glob I hg hm ?_ hdb)
    refine PySem.W.callWith_KW (h₀ := X.base) I.ok.mod.kin Fu.kp hall (thn (pa.run pos pins s σ H _ I h) fun us s1 ⟨vs, H1, I1, r, q⟩ => ?_) hpl he
    refine thn (pk.run pos pins s1 σ H1 _ I1 q) fun ws s2 ⟨zs, H2, I2, rz, l1, l2, q2⟩ => ⟨I2.kIn, ?_⟩
    rw [hks]
    exact run_fnPD G (hr.mono hj) hdv hB (fun σ => passAt tk σ) I2 r rz l1 l2 q2
  · refine kk ξ μ1 σ H1 ρ S1 _ (g.up u1) s1 (WR.bind h1 fun zs S2 ws μ2 H2 u2 s2 r2 h2 => ?_)
    by_cases c : xs.length = n ∧ zs.length = ks.length
    · rw [if_pos c] at h2
      exact ⟨by rw [r1.length]; exact c.1, by rw [r2.length]; exact c.2, ξ, μ2, _, S2, s2, rds_perm perm (((r1.up u2).append r2).append (rds_rd (F := fx X ξ) rfl hde)), h2⟩
    · rw [if_neg c] at h2; exact h2.elim
end
section
variable {S : Sto} {ρ : Rho} {Q : D → Sto → Prop} {E : EX} {EO : EXO}
@[simp] theorem does_callD {f : List D → Sto → Res D} {n q : Nat} {p : List Nat} {dd : List D} {a k : MA} : (mCallD f n q p dd a k ρ S).DoesE E Q = (a ρ S).DoesE E fun xs S1 => (k ρ S1).DoesE E fun zs S2 => (xs.length = n ∧ zs.length = q) ∧ (f (p.filterMap ((xs ++ zs ++ dd)[·]?)) S2).DoesE E Q := by
  unfold mCallD
  rw [does_bind]
  congr 1
  funext xs S1
  rw [does_bind]
  congr 1
  funext zs S2
  by_cases h : xs.length = n ∧ zs.length = q
  · rw [if_pos h]; simp [h]
  · rw [if_neg h]; simp [h, Res.DoesE]
end
end Dm
-- text DmSetD
namespace L2
open PySem PySem.Spec PyProof.Rows
/-- name = {..} on one line, the name a local -/
theorem ps_setDc {X : Cx} {i : Nat} {y : Str} {py : Pos} {kx vx tg iter : Expr} {ifs : List Expr} {scope : Scope} {own : List (Str × Nat)} {pos spos : Pos} {wi : TI} {g : TG} {tt : TT} {tk tv : TE} (hc : X.calm = true) (hN : X.N.Nodup) (hy : X.N[i]? = some y) (hyl : X.env.scope.names.lookup y = some .local)
    (hsw : swapsWith (.DictComp kx vx [⟨tg, iter, ifs, 0⟩] scope pos) (some (.Name y py)) spos.line X.env = pure true) (hi : PI X tg iter wi) (ok : BlkOk X.N X.env.scope scope own)
    (hg : ∀ (s : Shared) (H : Hp) (C : Addr) (cl : List (Str × Addr)) (fp : List Addr), PG (X.blk s H scope (compEnvC scope cl C X.env) fp) tg g) (ht : ∀ (s : Shared) (H : Hp) (C : Addr) (cl : List (Str × Addr)) (fp : List Addr), PTs (X.blk s H scope (compEnvC scope cl C X.env) fp) ifs tt)
    (hk : ∀ (s : Shared) (H : Hp) (C : Addr) (cl : List (Str × Addr)) (fp : List Addr), PE (X.blk s H scope (compEnvC scope cl C X.env) fp) kx tk)
    (he : ∀ (s : Shared) (H : Hp) (C : Addr) (cl : List (Str × Addr)) (fp : List Addr), PE (X.blk s H scope (compEnvC scope cl C X.env) fp) vx tv) (hs : ∀ x, foldedSetIterable iter X.env x = pure x := by intro _; rfl) :
    PS X (.Assign [.Name y py] (.DictComp kx vx [⟨tg, iter, ifs, 0⟩] scope pos) spos) (tAsg (tDc wi g tt tk tv (own.map (·.2))) (gName i)) := by
  refine ⟨fun pins s σ H D I h => ?_⟩
  rw [exec_Assign_Name_used _ _ _ _ hsw]
  refine wpAny_bind (wpAny_standAt (wpAny_bind ?_))
  show wpAny _ X.A (do let _ ← comprehension (.DictComp kx vx [⟨tg, iter, ifs, 0⟩] scope pos) scope X.env (firstIterPos [⟨tg, iter, ifs, 0⟩] pos) newDict false (eval iter X.env) (some (assign (.Name y py) X.env))) _ _ s
  have h : tDc wi g tt tk tv (own.map (·.2)) σ H (fun x H1 => gName i x σ H1 D.nx) := h
  refine wpAny_bind (thn (dc_core (Qf := fun _ s' => SP X pins D .next s') hc hN I hi ok hg ht hk he hs h fun L C s' m H' I' q hn f => ?_) fun _ s' hq => wpAny_pure (wpAny_pure hq))
  show wpAny _ _ (assign (.Name y py) X.env (.ref L)) _ _ _
  refine wpAny_assign_Name (store_ok2 (v := V.ref L) I' hN hy (.inl hyl) rfl (fun s2 I2 ⟨a, sb, ha⟩ => ?_) (.inr hyl))
  obtain ⟨f0, f1, f2, f3, f4, f5⟩ := f
  have haC : C ≠ a := by
    rcases ha with z | z
    · rw [z]; exact f1
    · exact fun e => f4 y a z e.symm
  refine ⟨m, hn.sameBut sb haC, fun h3 sb3 => ?_⟩
  exact ⟨_, H', I2.turned (t' := s2.toks) (fun b o hb e => (sb3.2 b hb).trans e) f0 f1 f3 f4 f5, q⟩
end L2
namespace Dm
open PySem L2 PySem.Spec PyProof.Rows
section
variable {X : Cx} {W : WX} {tg e a b c : Expr} {m mt mk mv : ME} {pos p : Pos}
theorem ds_setDc (i : Nat) {y : Str} {py spos : Pos} {kx vx : Expr} {ifs : List Expr} {scope : Scope} {own : List (Str × Nat)} {f : D → Rho → Option Rho} {is : List Nat} (hc : X.calm = true) (hN : X.N.Nodup) (hi : DE X W e m) (ok : BlkOk X.N X.env.scope scope own)
    (hg : ∀ (s : Shared) (H : Hp) (C : Addr) (cl : List (Str × Addr)) (fp : List Addr), DG (X.blk s H scope (compEnvC scope cl C X.env) fp) tg f is)
    (ht : ∀ (s : Shared) (H : Hp) (C : Addr) (cl : List (Str × Addr)) (fp : List Addr), DTs (X.blk s H scope (compEnvC scope cl C X.env) fp) W0 ifs mt)
    (hk : ∀ (s : Shared) (H : Hp) (C : Addr) (cl : List (Str × Addr)) (fp : List Addr), DE (X.blk s H scope (compEnvC scope cl C X.env) fp) W0 kx mk)
    (he : ∀ (s : Shared) (H : Hp) (C : Addr) (cl : List (Str × Addr)) (fp : List Addr), DE (X.blk s H scope (compEnvC scope cl C X.env) fp) W0 vx mv)
    (hv : ∀ i ∈ is, i ∈ own.map (·.2) := by decide) (hy : X.N[i]? = some y := by rfl) (hyl : X.env.scope.names.lookup y = some .local := by rfl)
    (hsw : swapsWith (.DictComp kx vx [⟨tg, e, ifs, 0⟩] scope pos) (some (.Name y py)) spos.line X.env = pure true := by rfl) (hs : ∀ x, foldedSetIterable e X.env x = pure x := by intro _; rfl) :
    DS X W (.Assign [.Name y py] (.DictComp kx vx [⟨tg, e, ifs, 0⟩] scope pos) spos) (mAsg i (mDcA m f mt mk mv (own.map (·.2)))) := by
  obtain ⟨wi, pi, ki⟩ := dia_any (tg := tg) hi
  obtain ⟨tg', pg, kg⟩ := dg_all (Xf := blkOf X scope) (K := X.K) (mg := X.mg) (fun _ => rfl) (fun _ => rfl) fun i => hg i.1 i.2.1 i.2.2.1 i.2.2.2.1 i.2.2.2.2
  obtain ⟨tt, pt, kt⟩ := dts_all (Xf := blkOf X scope) (K := X.K) (mg := X.mg) (fun _ => rfl) (fun _ => rfl) fun i => ht i.1 i.2.1 i.2.2.1 i.2.2.2.1 i.2.2.2.2
  obtain ⟨tk, pk, kk⟩ := de_all (Xf := blkOf X scope) (K := X.K) (mg := X.mg) (fun _ => rfl) (fun _ => rfl) fun i => hk i.1 i.2.1 i.2.2.1 i.2.2.2.1 i.2.2.2.2
  obtain ⟨te, pe, ke⟩ := de_all (Xf := blkOf X scope) (K := X.K) (mg := X.mg) (fun _ => rfl) (fun _ => rfl) fun i => he i.1 i.2.1 i.2.2.1 i.2.2.2.1 i.2.2.2.2
  refine ⟨_, ps_setDc (i := i) hc hN hy hyl hsw pi ok (fun s H C cl fp => pg (s, H, C, cl, fp)) (fun s H C cl fp => pt (s, H, C, cl, fp)) (fun s H C cl fp => pk (s, H, C, cl, fp)) (fun s H C cl fp => pe (s, H, C, cl, fp)) hs, fun ξ μ σ H ρ S D g s h => ?_⟩
  exact dcA_read (fun R => ki ξ μ σ H ρ S R g s) kg kt kk ke hv g s (WS'.bind g h fun x S1 v μ1 H1 u1 s1 r1 h1 => h1 _ μ1 H1 .refl s1 ((g.up u1).set i r1))
end
end Dm
-- text Hw3
namespace Dm
open PySem L2
noncomputable section
def m_need_rules : List D → Sto → Res D := mDef 2 2 (mSeq (mIfS (mOr (mNot (mIsi .str (mVar 0))) (mOp (gIn true) (mVar 0) (mK (.tup [(.str "early"), (.str "late"), (.str "refuse")])))) (mRaise "InvalidRule") mNop) (mIfS (mOr (mNot (mIsi .str (mVar 1))) (mOp (gIn true) (mVar 1) (mK (.tup [(.str "ahead"), (.str "behind"), (.str "refuse")])))) (mRaise "InvalidRule") mNop))
def m_found_by : List D → Sto → Res D := mDef 5 7 (mSeq (mAsg 5 (mFz (mLcA (mBack (mVar 0)) (tgN 6) (mOp gEq (mOp gDIx (mVar 1) (mOp gSub (mVar 2) (mVar 6))) (mVar 6)) (mOp gSub (mVar 2) (mVar 6)) [6]))) (mSeq (mIfS (mOp gEq (mCallB gLen (mCons (mVar 5) mNil)) (mK (.int 1))) (mRet (mOp gIx (mVar 5) (mK (.int 0)))) mNop) (mSeq (mIfS (mOp gEq (mCallB gLen (mCons (mVar 5) mNil)) (mK (.int 2))) (mSeq (mIfS (mOp gEq (mVar 3) (mK (.str "refuse"))) (mRet (mK .non)) mNop) (mRet (mIf (mOp gEq (mVar 3) (mK (.str "early"))) (mOp gIx (mVar 5) (mK (.int 0))) (mOp gIx (mVar 5) (mK (.int 1)))))) mNop) (mSeq (mIfS (mOp gEq (mVar 4) (mK (.str "refuse"))) (mRet (mK .non)) mNop) (mSeq (mIfS (mOp gEq (mVar 4) (mK (.str "ahead"))) (mRet (mOp gSub (mVar 2) (mOp gDIx (mVar 1) (mOp gSub (mVar 2) (mOp gIx (mVar 0) (mK (.int (-1)))))))) mNop) (mRet (mOp gSub (mVar 2) (mOp gDIx (mVar 1) (mOp gSub (mVar 2) (mOp gIx (mVar 0) (mK (.int 0))))))))))))
def m_find_moment : List D → Sto → Res D := mDef 5 7 (mSeq (mDrop (mCall m_need_zone (mCons (mVar 0) mNil))) (mSeq (mDrop (mCall m_need_table (mCons (mVar 0) (mCons (mVar 1) mNil)))) (mSeq (mDrop (mCall m_need_number (mCons (mVar 2) mNil))) (mSeq (mDrop (mCall m_need_rules (mCons (mVar 3) (mCons (mVar 4) mNil)))) (mSeq (mAsg 5 (mDcA (mOp gIx (mVar 0) (mK (.int 0))) (tgN 6) mYes (mOp gSub (mVar 2) (mVar 6)) (mCall m_offset_in (mCons (mVar 1) (mCons (mOp gSub (mVar 2) (mVar 6)) mNil))) [6])) (mRet (mCall m_found_by (mCons (mOp gIx (mVar 0) (mK (.int 0))) (mCons (mVar 5) (mCons (mVar 2) (mCons (mVar 3) (mCons (mVar 4) mNil))))))))))))
def m_law_found : List D → Sto → Res D := mDef 4 9 (mSeq (mAsg 4 (mCall m_law_hours_of (mCons (mVar 0) (mCons (mVar 1) mNil)))) (mSeq (mIfS (mOp gEq (mCallB gLen (mCons (mVar 4) mNil)) (mK (.int 1))) (mRet (mOp gIx (mVar 4) (mK (.int 0)))) mNop) (mSeq (mIfS (mOp gEq (mCallB gLen (mCons (mVar 4) mNil)) (mK (.int 2))) (mRet (mOp gDIx (mDisp (mPCons (mK (.str "early")) (mOp gIx (mVar 4) (mK (.int 0))) (mPCons (mK (.str "late")) (mOp gIx (mVar 4) (mK (.int 1))) (mPCons (mK (.str "refuse")) (mK .non) mPNil)))) (mVar 2))) mNop) (mSeq (mAsg 5 (mOp gIx (mVar 0) (mK (.int 0)))) (mSeq (mAsg 6 mDNew) (mSeq (mForA (mOp gIx (mVar 0) (mK (.int 1))) (tgT 2 (tgCons (tgN 7) (tgCons (tgN 8) tgNil))) (mSeq (mIfS (mAnd (mOp gGe (mOp gSub (mVar 1) (mVar 5)) (mVar 7)) (mOp gLt (mOp gSub (mVar 1) (mVar 8)) (mVar 7))) (mAsg 6 (mDisp (mPCons (mK (.str "ahead")) (mOp gSub (mVar 1) (mVar 5)) (mPCons (mK (.str "behind")) (mOp gSub (mVar 1) (mVar 8)) (mPCons (mK (.str "refuse")) (mK .non) mPNil))))) mNop) (mAsg 5 (mVar 8)))) (mRet (mOp gDIx (mVar 6) (mVar 3)))))))))
end
end Dm
-- text DmMisc
namespace Dm
open PySem L2
open PySem.W (Frag)
section
variable {X : Cx} {W : WX} {tg e a b c : Expr} {es : List Expr} {ma mb mc m : ME} {mr : MA} {pos p p1 p2 p3 : Pos}
/-! ### x, y = a, b -/
def mPar (i j : Nat) (a : MA) : MS := fun ρ S => ofRes (a ρ S) ρ fun ds S1 => match ds with
  | [d, d'] => .nx ((ρ.set i (some d)).set j (some d')) S1
  | _ => .bad
/-! ### x, y = a tuple, a list that stands still -/
def tgU (n : Nat) (f : List D → Rho → Option Rho) : D → Rho → Option Rho := fun d ρ => match d with
  | .tup ds => if ds.length = n then f ds ρ else none
  | .lst ds => if ds.length = n then f ds ρ else none
  | _ => none
theorem pgOr {X : Cx} {tg : Expr} {g g' : TG} (h : PG X tg g) (h' : PG X tg g') : PG X tg (fun v σ H Q => g v σ H Q ∨ g' v σ H Q) := ⟨fun pins s σ H v u Q I r hw => hw.elim (h.run pins s σ H v u Q I r) (h'.run pins s σ H v u Q I r)⟩
theorem dg_any {k n : Nat} {f : List D → Rho → Option Rho} {is : List Nat} {tp : Pos} (hc : X.calm = true) (h : DGs X es f is) (hn : (assignEach es X.env).length = n := by rfl) (hst : (assignEach es X.env).findIdx? (·.1) = none := by rfl) : DG X (.Tuple es k tp) (tgU n f) is := by
  obtain ⟨t, p, k⟩ := h
  refine ⟨_, pgOr (pg_tup hc p hn hst) (pg_lst hc p hn hst), fun ξ μ σ H ρ v d ρ' Q g r e kk => ?_⟩
  cases r with
  | @tup a xs ds fz r =>
    unfold tgU at e
    by_cases c : ds.length = n
    · simp only [if_pos c] at e
      exact .inl ⟨a, xs, rfl, fz.sq, by rw [r.length]; exact c, k ξ μ σ H ρ xs ds ρ' Q g r e kk⟩
    · simp only [if_neg c] at e
      exact nomatch e
  | @lst a xs ds fz r =>
    unfold tgU at e
    by_cases c : ds.length = n
    · simp only [if_pos c] at e
      exact .inr ⟨a, xs, rfl, fz.sq, by rw [r.length]; exact c, k ξ μ σ H ρ xs ds ρ' Q g r e kk⟩
    · simp only [if_neg c] at e
      exact nomatch e
  | _ => exact nomatch e
/-! ### sum, max, min of a list of ints -/
/-! ### a kept list some times -/
def mRepC (a b : ME) : MA := fun ρ S => (a ρ S).bind fun x S1 => (b ρ S1).bind fun y S2 => match x, y with
  | .cell n, .int k => match S2[n]? with
    | some (.lst xs) => if k < 1000000 ∧ xs.length * k.toNat ≤ 16777216 ∧ -1000000 < k then .ok (List.replicate k.toNat xs).flatten S2 else .bad
    | _ => .bad
  | _, _ => .bad
/-! ### list(range(a, b)) -/
noncomputable def mLstRg (a : MA) : MA := fun ρ S => (a ρ S).bind fun ds S1 => match ds with
  | [.int i, .int j] => @ite _ (-1000000000000000000 ≤ i ∧ i ≤ 1000000000000000000 ∧ -1000000000000000000 ≤ j ∧ j ≤ 1000000000000000000 ∧ j - i ≤ 16777216) (Classical.propDecidable _) (.ok (rngD i (j - i).toNat) S1) .bad
  | _ => .bad
end
/-! ### what they do -/
section
variable {S : Sto} {ρ : Rho} {N B C : Rho → Sto → Prop} {R : D → Sto → Prop} {E : EX} {EO : EXO}
@[simp] theorem does_par {i j : Nat} {a : MA} : (mPar i j a ρ S).DoesE EO N R B C = (a ρ S).DoesE (eAt EO ρ) fun ds S1 => match ds with
    | [d, d'] => N ((ρ.set i (some d)).set j (some d')) S1
    | _ => False := by
  unfold mPar
  rw [does_ofRes]; congr 1; funext ds S1
  match ds with
  | [] => rfl
  | [_] => rfl
  | [_, _] => rfl
  | _ :: _ :: _ :: _ => rfl
@[simp] theorem tgU_tup {m : Nat} {f : List D → Rho → Option Rho} {ds : List D} : tgU m f (.tup ds) ρ = if ds.length = m then f ds ρ else none := rfl
@[simp] theorem tgU_lst {m : Nat} {f : List D → Rho → Option Rho} {ds : List D} : tgU m f (.lst ds) ρ = if ds.length = m then f ds ρ else none := rfl
@[simp] theorem does_repC {a b : ME} {Q : List D → Sto → Prop} : (mRepC a b ρ S).DoesE E Q = (a ρ S).DoesE E fun x S1 => (b ρ S1).DoesE E fun y S2 => match x, y with
    | .cell n, .int k => ∃ xs, S2[n]? = some (.lst xs) ∧ (k < 1000000 ∧ xs.length * k.toNat ≤ 16777216 ∧ -1000000 < k) ∧ Q (List.replicate k.toNat xs).flatten S2
    | _, _ => False := by
  unfold mRepC
  rw [does_bind]; congr 1; funext x S1
  rw [does_bind]; congr 1; funext y S2
  cases x with
  | cell n =>
    cases y with
    | int k =>
      simp only
      cases e : S2[n]? with
      | none => simp [Res.DoesE]
      | some c =>
        cases c with
        | lst xs =>
          simp only
          by_cases h : k < 1000000 ∧ xs.length * k.toNat ≤ 16777216 ∧ -1000000 < k
          · rw [if_pos h]; simp [h]
          · rw [if_neg h]; simp [h, Res.DoesE]
        | _ => simp [Res.DoesE]
    | _ => rfl
  | _ => cases y <;> rfl
@[simp] theorem does_lstRg {a : MA} {Q : List D → Sto → Prop} : (mLstRg a ρ S).DoesE E Q = (a ρ S).DoesE E fun ds S1 => match ds with
    | [.int i, .int j] => (-1000000000000000000 ≤ i ∧ i ≤ 1000000000000000000 ∧ -1000000000000000000 ≤ j ∧ j ≤ 1000000000000000000 ∧ j - i ≤ 16777216) ∧ Q (rngD i (j - i).toNat) S1
    | _ => False := by
  unfold mLstRg
  rw [does_bind]; congr 1; funext ds S1
  match ds with
  | [] => rfl
  | [d] => cases d <;> rfl
  | [d, d'] =>
    cases d with
    | int i =>
      cases d' with
      | int j =>
        simp only
        by_cases h : -1000000000000000000 ≤ i ∧ i ≤ 1000000000000000000 ∧ -1000000000000000000 ≤ j ∧ j ≤ 1000000000000000000 ∧ j - i ≤ 16777216
        · rw [if_pos h]; simp [h]
        · rw [if_neg h]; simp [h, Res.DoesE]
      | _ => rfl
    | _ => cases d' <;> rfl
  | d :: d' :: _ :: _ => cases d <;> (try rfl) <;> cases d' <;> rfl
end
end Dm
-- text Hw4
namespace Dm
open PySem L2
end Dm
-- text DmBack
namespace Dm
open PySem L2
section
variable {X : Cx} {W : WX} {e : Expr} {m : ME} {te te' : TE} {k : Nat} {p1 p2 p3 pos : Pos}
theorem peOr (h : PE X e te) (h' : PE X e te') : PE X e (fun σ H Q => te σ H Q ∨ te' σ H Q) := ⟨fun pins s σ H Q I hw => hw.elim (h.run pins s σ H Q I) (h'.run pins s σ H Q I)⟩
/-- x[::-1], a tuple or a list -/
def mBackA (m : ME) : ME := fun ρ S => (m ρ S).bind fun x S1 => match x with
  | .tup ds => .ok (.tup ds.reverse) S1
  | x => match lstOf S1 x with
    | some ds => .ok (.lst ds.reverse) S1
    | none => .bad
theorem d_backA (h : DE X W e m) : DE X W (.Subscript e (.Slice none none (some (.UnaryOp .USub (.Constant (.int 1) k p1) p2)) p3) pos) (mBackA m) := by
  obtain ⟨te, pe, ke⟩ := h
  refine ⟨_, peOr (pe_backT pe) (pe_revL pe), fun ξ μ σ H ρ S Q g s h => ?_⟩
  unfold mBackA at h
  cases e1 : m ρ S with
  | bad => rw [e1] at h; exact h.elim
  | exc c fs S1 =>
    rw [e1] at h
    refine .inl (ke ξ μ σ H ρ S _ g s ?_)
    rw [e1]; exact h
  | ok d S1 =>
    rw [e1] at h
    by_cases c : ∃ ds, d = .tup ds
    · obtain ⟨ds, rfl⟩ := c
      refine .inl (ke ξ μ σ H ρ S _ g s ?_)
      rw [e1]
      intro v μ1 H1 u1 s1 r1
      cases r1 with
      | @tup a xs _ f r =>
        exact ⟨a, xs, rfl, f.sq, fun p hp => h _ μ1 _ (u1.trans (.fresh hp)) (s1.fresh hp) (.tup (.inl ⟨.inl upd_same, s1.out hp, s1.outX hp⟩) (r.reverse.up (.fresh hp)))⟩
    · have h : WE' (fx X ξ) (match lstOf S1 d with | some ds => .ok (.lst ds.reverse) S1 | none => .bad) Q (fun cls dd H' => W cls dd σ H') μ H := by
        cases d with
        | tup ds => exact absurd ⟨ds, rfl⟩ c
        | _ => exact h
      refine .inr (ke ξ μ σ H ρ S _ g s ?_)
      rw [e1]
      intro v μ1 H1 u1 s1 r1
      cases q : lstOf S1 d with
      | none => rw [q] at h; exact h.elim
      | some ds =>
        rw [q] at h
        obtain ⟨a, xs, rfl, h3, r3⟩ := RD.lstS s1 r1 q
        exact ⟨a, xs, rfl, h3, fun p hp => h _ μ1 _ (u1.trans (.fresh hp)) (s1.fresh hp) (.lst (.inl ⟨.inl upd_same, s1.out hp, s1.outX hp⟩) (r3.reverse.up (.fresh hp)))⟩
end
section
variable {S : Sto} {ρ : Rho} {Q : D → Sto → Prop} {E : EX} {EO : EXO}
@[simp] theorem does_backA {m : ME} : (mBackA m ρ S).DoesE E Q = (m ρ S).DoesE E fun x S1 => match x with
    | .tup ds => Q (.tup ds.reverse) S1
    | x => match lstOf S1 x with
      | some ds => Q (.lst ds.reverse) S1
      | none => False := by
  unfold mBackA
  rw [does_bind]; congr 1; funext x S1
  cases x with
  | lst ds => rfl
  | cell n => 
    simp only
    cases lstOf S1 (.cell n) <;> rfl
  | _ => rfl
end
end Dm
-- text Hw5
namespace Dm
open PySem L2
end Dm
-- text DmSet
namespace Dm
open PySem L2 PySem.Spec PyProof.Rows
/-! ### set(xs), xs a list of ints, so that it can be sorted -/
section
variable {P : Program} {w : World} {A : Around} {E : Value → Shared → Prop} {s : Shared}
/-- an empty set as it is made -/
def bare (w : World) : Obj := { cls := .type "set", dict := none, data := .set #[] 0 (.fresh 0 0 (!w.params.followText "set-order")) }
end
end Dm
-- text DmSet2
namespace Dm
open PySem L2 PySem.Spec PyProof.Rows
open PySem.W (Frag)
/-! ### the members of a list, ascending, each once -/
def insU (x : Int) : List Int → List Int
  | [] => [x]
  | y :: r => if x < y then x :: y :: r else if x = y then y :: r else y :: insU x r
def uniq : List Int → List Int
  | [] => []
  | x :: r => insU x (uniq r)
section
variable {X : Cx} {W : WX} {e : Expr} {m : ME} {p p1 p2 pos : Pos}
def gSortSet : Sto → D → Option (List D) := fun S d => (lstOf S d).bind fun es => (intsOf es).bind fun ns => if ns.length ≤ 4000 ∧ (uniq ns).length < 64 then some ((uniq ns).map .int) else none
def mSortSet (m : ME) : MA := fun ρ S => (m ρ S).bind fun d S1 => match gSortSet S1 d with
  | some ds => .ok ds S1
  | none => .bad
end
section
variable {S : Sto} {ρ : Rho} {E : EX}
@[simp] theorem does_sortSet {m : ME} {Q : List D → Sto → Prop} : (mSortSet m ρ S).DoesE E Q = (m ρ S).DoesE E fun d S1 => match gSortSet S1 d with
    | some ds => Q ds S1
    | none => False := by
  unfold mSortSet
  rw [does_bind]; congr 1; funext d S1
  cases gSortSet S1 d <;> rfl
end
end Dm
-- text Hw6
namespace Dm
open PySem L2
end Dm
-- text DmIn2
namespace Dm
open PySem L2 PySem.Spec PyProof.Rows
open PySem.W (Frag)
/-! ### x in xs, both nested plain data -/
end Dm
-- text DmTab
namespace Dm
open PySem L2 PySem.Spec PyProof.Rows
open PySem.W (Frag)
/-! ### a dict of the module with text keys, its values plain -/
inductive KEs (K : Frag) (P : Params) : List DictEntry → List (Str × D) → Prop
  | nil : KEs K P [] []
  | cons {e : DictEntry} {r : List DictEntry} {x : Str} {t : Tok} {v : V} {d : D} {kvs : List (Str × D)} : e.key = .str x t → e.hash = PyData.keyHash P x → RelV v e.val → KD K v d → KEs K P r kvs → KEs K P (e :: r) ((x, d) :: kvs)
def tbLook : List (Str × D) → Str → Option D
  | [], _ => none
  | (x, d) :: r, z => if x = z then some d else tbLook r z
theorem KEs.find {K : Frag} {P : Params} (z : Str) : ∀ {es : List DictEntry} {kvs : List (Str × D)}, KEs K P es kvs →
    match tbLook kvs z with
    | some d => ∃ e v, es.find? (·.key.isStr z) = some e ∧ RelV v e.val ∧ KD K v d
    | none => es.find? (·.key.isStr z) = none
  | _, _, .nil => rfl
  | _, _, .cons (e := e) (x := x) (t := t) (v := v) (d := d) (kvs := kvs) h1 h2 h3 h4 r => by
    have ih := KEs.find z r
    unfold tbLook
    by_cases c : x = z
    · rw [if_pos c]
      refine ⟨e, v, ?_, h3, h4⟩
      rw [List.find?_cons_of_pos]
      rw [h1, PySem.W.isStr_of]
      show (x == z) = true
      rw [c]; exact beq_self_eq_true _
    · rw [if_neg c]
      have n : ¬ (e.key.isStr z) = true := by
        rw [h1, PySem.W.isStr_of]
        intro q
        exact c (of_decide_eq_true (by simpa [Value.isStrOf] using q))
      rw [List.find?_cons_of_neg (p := fun q : DictEntry => q.key.isStr z) n]
      exact ih
def mTbIn (neg : Bool) (kvs : List (Str × D)) (a : ME) : ME := fun ρ S => (a ρ S).bind fun x S1 => match x with
  | .str z => .ok (.bl (if neg then !(tbLook kvs z).isSome else (tbLook kvs z).isSome)) S1
  | _ => .bad
def mTbIx (kvs : List (Str × D)) (a : ME) : ME := fun ρ S => (a ρ S).bind fun x S1 => match x with
  | .str z => match tbLook kvs z with
    | some d => .ok d S1
    | none => .bad
  | _ => .bad
end Dm
-- text DmG
namespace Dm
open PySem L2 PySem.Spec PyProof.Rows
open PySem.W (Frag)
/-! ### room under which no repr is under way -/
structure RoomG (k : Nat) (A : Around) : Prop extends Room k A where
  gd : A.guards = some []
theorem RoomG.mono {j k : Nat} {A : Around} (r : RoomG k A) (h : j ≤ k) : RoomG j A := ⟨r.toRoom.mono h, r.gd⟩
theorem RoomG.deeper {k : Nat} {A : Around} (r : RoomG (k + 1) A) (env : Env) : RoomG k (A.deeper env) := ⟨r.toRoom.deeper env, r.gd⟩
structure FnG (P : Program) (w : World) (K : Frag) (mg : Str → Option Value) (base : Heap) (CX : CXT) (k : Nat) (f : Addr) (fd : FuncData) (ps : List Str) (sp : Sp) : Prop where
  len : ∀ vs H Q E, sp vs H Q E → vs.length = ps.length
  run : ∀ (A : Around) (outer : List Env) (s : Shared) (H : Hp) (args : Args) (us : List Value) (vs : List V) (Q : VK) (E : XK), RoomG k A → Env0 P w K mg base A outer s H → BindsTo s fd args (ps.zip us) → Vals vs us → sp vs H Q E →
    codeAny (model P w) A (.call (.ref f) args) (CR CX outer P w H s Q E) s
section
variable {P : Program} {w : World} {K : Frag} {mg : Str → Option Value} {base : Heap} {CX : CXT} {k : Nat} {f : Addr} {fd : FuncData} {ps N : List Str} {sp : Sp}
theorem FnG.mono {j : Nat} (F : FnG P w K mg base CX j f fd ps sp) (h : j ≤ k) : FnG P w K mg base CX k f fd ps sp := ⟨F.len, fun A outer s H args us vs Q E hr => F.run A outer s H args us vs Q E (hr.mono h)⟩
theorem FnG.imp {sp' : Sp} (F : FnG P w K mg base CX k f fd ps sp) (h : ∀ vs H Q E, sp' vs H Q E → sp vs H Q E) : FnG P w K mg base CX k f fd ps sp' :=
  ⟨fun vs H Q E q => F.len vs H Q E (h _ _ _ _ q), fun A outer s H args us vs Q E hr he hb hv hs => F.run A outer s H args us vs Q E hr he hb hv (h _ _ _ _ hs)⟩
end
structure FnDG (P : Program) (w : World) (K : Frag) (mg : Str → Option Value) (base : Heap) (k : Nat) (x : Str) (st : Stmt) (ps : List Str) (m : List D → Sto → Res D) : Prop where
  ex : ∃ f fd, mg x = some (.ref f) ∧ Fun K x x st f fd ∧ Binds K fd ps [] ∧ FnG P w K mg base (L2.CX P w) k f fd ps (spD K mg m)
section
variable {P : Program} {w : World} {K : Frag} {mg : Str → Option Value} {base : Heap}
theorem FnDG.mono {j k : Nat} {x : Str} {st : Stmt} {ps : List Str} {m : List D → Sto → Res D} (F : FnDG P w K mg base j x st ps m) (h : j ≤ k) : FnDG P w K mg base k x st ps m :=
  let ⟨f, fd, a, b, c, d⟩ := F; ⟨f, fd, a, b, c, d.mono h⟩
end
end Dm
-- text DmGEnd
namespace Dm
open PySem L2 PySem.Spec PyProof.Rows
open PySem.W (Frag)
/-- of all addresses the script's alone may be tracked, frozen, and then the written part does not know it -/
def Lone (K : Frag) (a : Addr) (H : Hp) : Prop := ∀ b, H b = none ∨ (b = a ∧ K.lookup a = none ∧ ∃ o xs, H b = some (.frz o (.lst xs)))
section
variable {P : Program} {w : World} {K : Frag} {mg mb : Str → Option Value} {k : Nat} {fa a : Addr} {fd : FuncData} {x : Str} {s : Shared} {vs : List Value} {ns : List Int} {H : Hp}
theorem Lone.free (L : Lone K a H) (KX : K.In s.heap) {b : Addr} {o : Obj} (h : K.lookup b = some o) : H b = none := by
  rcases L b with q | ⟨rfl, q, _⟩
  · exact q
  · rw [q] at h; cases h
theorem Lone.dic (L : Lone K a H) (ha : s.heap.get? a = some { cls := .type "list", data := .seq vs.toArray }) {b : Addr} {o : Obj} {es : Array DictEntry} {n : Nat} (h : s.heap.get? b = some o) (hd : o.data = .dict es n) : H b = none := by
  rcases L b with q | ⟨rfl, _, _⟩
  · exact q
  · rw [ha] at h
    cases h
    cases (show Data.seq vs.toArray _ = Data.dict es n from hd)
end
end Dm
-- text DmRepr
namespace Dm
open PySem L2 PySem.Spec PyProof.Rows
open PySem.W (Frag)
/-! ### repr of plain data -/
/-! cells within, their items plain -/
end Dm
-- text DmPar3
namespace Dm
open PySem L2 PySem.Spec PyProof.Rows
open PySem.W (Frag)
/-! ### x, y, z = a, b, c -/
def mPar3 (i j l : Nat) (a : MA) : MS := fun ρ S => ofRes (a ρ S) ρ fun ds S1 => match ds with
  | [d, d', d''] => .nx (((ρ.set i (some d)).set j (some d')).set l (some d'')) S1
  | _ => .bad
section
variable {S : Sto} {ρ : Rho} {N B C : Rho → Sto → Prop} {R : D → Sto → Prop} {E : EX} {EO : EXO}
@[simp] theorem does_par3 {i j l : Nat} {a : MA} : (mPar3 i j l a ρ S).DoesE EO N R B C = (a ρ S).DoesE (eAt EO ρ) fun ds S1 => match ds with
    | [d, d', d''] => N (((ρ.set i (some d)).set j (some d')).set l (some d'')) S1
    | _ => False := by
  unfold mPar3
  rw [does_ofRes]; congr 1; funext ds S1
  match ds with
  | [] => rfl
  | [_] => rfl
  | [_, _] => rfl
  | [_, _, _] => rfl
  | _ :: _ :: _ :: _ :: _ => rfl
@[simp] theorem does_tbin {neg : Bool} {kvs : List (Str × D)} {a : ME} {Q : D → Sto → Prop} : (mTbIn neg kvs a ρ S).DoesE E Q = (a ρ S).DoesE E fun x S1 => match x with
    | .str z => Q (.bl (if neg then !(tbLook kvs z).isSome else (tbLook kvs z).isSome)) S1
    | _ => False := by
  unfold mTbIn
  rw [does_bind]; congr 1; funext x S1
  cases x <;> rfl
@[simp] theorem does_tbix {kvs : List (Str × D)} {a : ME} {Q : D → Sto → Prop} : (mTbIx kvs a ρ S).DoesE E Q = (a ρ S).DoesE E fun x S1 => match x with
    | .str z => ∃ d, tbLook kvs z = some d ∧ Q d S1
    | _ => False := by
  unfold mTbIx
  rw [does_bind]; congr 1; funext x S1
  cases x with
  | str z =>
    simp only
    cases e : tbLook kvs z with
    | some d => simp
    | none => exact propext ⟨fun h => h.elim, fun ⟨_, h, _⟩ => nomatch h⟩
  | _ => rfl
end
end Dm
-- text Hw7
namespace Dm
open PySem L2
end Dm
-- text DmMin
namespace Dm
open PySem L2 PySem.Spec PyProof.Rows
open PySem.W (Frag)
/-! ### min of a list of ints -/
section
variable {X : Cx} {W : WX}
/-! ### key in a dict -/
/-! ### xs.clear() -/
def mClear (o : ME) : MS := fun ρ S => ofRes (o ρ S) ρ fun x S1 => match x with
  | .cell n => match S1[n]? with
    | some (.lst _) => .nx ρ (S1.set n (.lst []))
    | _ => .bad
  | _ => .bad
end
section
variable {S : Sto} {ρ : Rho} {N B C : Rho → Sto → Prop} {R : D → Sto → Prop} {E : EX} {EO : EXO}
@[simp] theorem does_clear {o : ME} : (mClear o ρ S).DoesE EO N R B C = (o ρ S).DoesE (eAt EO ρ) fun x S1 => match x with
    | .cell n => (∃ xs, S1[n]? = some (.lst xs)) ∧ N ρ (S1.set n (.lst []))
    | _ => False := by
  unfold mClear
  rw [does_ofRes]; congr 1; funext x S1
  cases x with
  | cell n =>
    simp only
    cases q : S1[n]? with
    | none => exact propext ⟨fun h => h.elim, fun ⟨⟨_, h⟩, _⟩ => nomatch h⟩
    | some c =>
      cases c with
      | lst ds => exact propext ⟨fun h => ⟨⟨_, rfl⟩, h⟩, fun h => h.2⟩
      | _ => exact propext ⟨fun h => h.elim, fun ⟨⟨_, h⟩, _⟩ => nomatch h⟩
  | _ => rfl
end
end Dm
-- text DmTry
/-! try .. except X (as n): the caught exception stands in the heap as a value -/
namespace Dm
open PySem L2 PySem.Spec PyProof.Rows
open PySem.W (Frag)
section
variable {X : Cx} {pins : List (Addr × Obj)} {σ : L2.St} {H : Hp} {s : Shared}
theorem _root_.L2.Inv.track {a : Addr} {o : HO} (I : Inv X pins σ H s) (h0 : X.s_0.heap.get? a = none) (hn : H a = none) (hL : a ≠ X.env.locals) (hC : ∀ x c, X.env.cells.lookup x = some c → c ≠ a) (hp : ∀ p ∈ X.pn ++ pins, p.1 ≠ a)
    (new : ObjOk X.prog X.w (upd H a o) s.heap a o) : Inv X pins σ (upd H a o) s := by
  have n0 : ∀ {b : Addr} {u : Obj}, X.s_0.heap.get? b = some u → b ≠ a := fun {b u} e z => by
    rw [z, h0] at e; cases e
  have nH : ∀ {b : Addr} {u : HO}, H b = some u → b ≠ a := fun {b u} e z => by
    rw [z, hn] at e; cases e
  refine ⟨I.ok, I.os, I.bare, ⟨I.base.keep, I.base.slot, fun b u e n hx => ?_, I.base.there, fun b xs e => ?_, fun b u xs e => ?_, fun b ps e => ?_⟩, I.loc, I.cell, ?_, fun x c e => ?_, fun p hq => ?_, fun b u e => ?_, I.len⟩
  · rw [upd_ne (n0 e)]
    exact I.base.free b u e n hx
  · have q := I.base.tups b xs e
    rw [upd_ne (nH q)]
    exact q
  · have q := I.base.frzs b u xs e
    rw [upd_ne (nH q)]
    exact q
  · obtain ⟨m, q⟩ := I.base.tbls b ps e
    exact ⟨m, by rw [upd_ne (nH q)]; exact q⟩
  · rw [upd_ne (Ne.symm hL)]
    exact I.free
  · rw [upd_ne (hC x c e)]
    exact I.freeC x c e
  · obtain ⟨e, n, ne, nf, d⟩ := I.pin p hq
    exact ⟨e, by rw [upd_ne (hp p hq)]; exact n, ne, nf, d⟩
  · by_cases hb : b = a
    · subst hb
      rw [upd_same] at e
      cases e
      exact new
    · rw [upd_ne hb] at e
      exact (I.hok b u e).stay (fun c v _ q => q) (fun c q => by rw [upd_ne (nH q)]; exact q) fun c xs q => by rw [upd_ne (nH q)]; exact q
theorem _root_.L2.Inv.suiteV (I : Inv X pins σ H s) (a : Addr) : Inv (X.suite a (X.pn ++ pins)) [] σ H s :=
  ⟨I.ok.suite _ _, I.os, I.bare, I.base, I.loc, I.cell, I.free, I.freeC, fun p hp => by rw [List.append_nil] at hp; exact I.pin p hp, I.hok, I.len⟩
theorem _root_.L2.Inv.unsuiteV {a : Addr} {pn' : List (Addr × Obj)} (I : Inv (X.suite a (X.pn ++ pins)) pn' σ H s) (ok : X.Ok) : Inv X pins σ H s :=
  ⟨ok, I.os, I.bare, I.base, I.loc, I.cell, I.free, I.freeC, fun p hp => I.pin p (List.mem_append_left _ hp), I.hok, I.len⟩
end
theorem exV_ok {P : Program} {w : World} {H : Hp} {h : Heap} {a : Addr} {cls : Value} {d : Option Addr} {oe : Obj} {vs : Array Value} (e : h.get? a = some oe) (z : Zc cls d oe) (hd : oe.data = .fields vs) : ObjOk P w H h a (ExV cls d a) :=
  ⟨⟨oe, vs, e, z, hd⟩, ⟨oe, e⟩, fun _ _ ⟨o, v, q, r⟩ k => ⟨o, v, k o q, r⟩⟩
/-- the slot of a clause's name: what is wished for behind the suite, the slots at its start -/
def endsI (oi : Option Nat) (D : Ends) : Ends := match oi with
  | none => D
  | some i => { nx := fun σ' H' => D.nx (σ'.set i none) H', rt := D.rt, bk := fun σ' H' => D.bk (σ'.set i none) H', ct := fun σ' H' => D.ct (σ'.set i none) H' }
def slotI (oi : Option Nat) (σ : L2.St) (a : Addr) : L2.St := match oi with
  | none => σ
  | some i => σ.set i (some (.ref a))
def wTry (K : Frag) (Wout : WX) (D : Ends) : List (Value × Option Nat × TS) → WX
  | [] => Wout
  | (c, oi, ts) :: r => fun cls d σ H => ∃ b, PySem.W.exmOne K cls c = some b ∧ (b = true → ∀ a, H a = none → ts (endsI oi D) (slotI oi σ a) (upd H a (ExV cls d a))) ∧ (b = false → wTry K Wout D r cls d σ H)
inductive HdsV (X : Cx) : List ExceptHandler → List (Value × Option Nat × TS) → Prop
  | nil : HdsV X [] []
  | one {x : Str} {c : Value} {ts : TS} {b₀ : Stmt} {suite : List Stmt} {np pos' : Pos} {hds : List ExceptHandler} {l : List (Value × Option Nat × TS)} (hc : Names X x c)
      (hsu : ∀ (a : Addr) (pn : List (Addr × Obj)), PSs (X.suite a pn) (b₀ :: suite) ts) (r : HdsV X hds l) : HdsV X (.ExceptHandler (some (.Name x np)) none (b₀ :: suite) pos' :: hds) ((c, none, ts) :: l)
  | as {x n : Str} {c : Value} {i : Nat} {ts : TS} {b₀ : Stmt} {suite : List Stmt} {np pos' : Pos} {hds : List ExceptHandler} {l : List (Value × Option Nat × TS)} (hc : Names X x c) (hi : X.N[i]? = some n) (hln : X.env.kindOf n = some .local)
      (hsu : ∀ (a : Addr) (pn : List (Addr × Obj)), PSs (X.suite a pn) (b₀ :: suite) ts) (r : HdsV X hds l) : HdsV X (.ExceptHandler (some (.Name x np)) (some n) (b₀ :: suite) pos' :: hds) ((c, some i, ts) :: l)
section
variable {X : Cx} {body : List Stmt} {h₀ : ExceptHandler} {hds : List ExceptHandler} {l : List (Value × Option Nat × TS)} {pos : Pos} {tb : WX → TS} {Wout : WX}
theorem ps_tryV (hx : X.ex = []) (hs : X.stack = X.env :: X.outer) (hf : X.env.frame = some X.env.locals) (hN : X.N.Nodup) (tk : Takes X Wout)
    (hb : ∀ (W : WX) (pn : List (Addr × Obj)) (xe : Value → Shared → Prop), Takes (X.tr pn xe) W → PassesOwn (model X.prog X.w) X.A X.env xe → PSs (X.tr pn xe) body (tb W))
    (hh : HdsV X (h₀ :: hds) l) : PS X (.Try body (h₀ :: hds) [] [] pos) (fun D σ H => tb (wTry X.K Wout D l) D σ H) := by
  refine ⟨fun pins s σ H D I h => ?_⟩
  have ok := I.ok
  have hfr : X.A.frames = some (X.env :: X.outer) := by rw [ok.frames, hs]
  refine wpAny_Try_except ?_
  refine wpAny_mono ((hb (wTry X.K Wout D l) (X.pn ++ pins) (fun e s₁ => wpAny (model X.prog X.w) X.A (noteFrame e X.env) (fun _ s₂ => wpAny (model X.prog X.w) X.A (setFlight e none) (fun _ s₃ =>
    wpAny (model X.prog X.w) X.A (handleBy e X.env (h₀ :: hds)) (SP X pins D) X.xe s₃) X.xe s₂) X.xe s₁) (fun u s' xx => ?_) PassesOwn.looking).run [] s σ H D (I.toTry _) h) (fun f s1 hsp => ?_) (fun e s1 he => he)
  · -- the catch
    obtain ⟨a, B, sI, pins', σ', H', cls, d, rfl, J', nb, up, sky, na, os, ag, w⟩ := xx
    have J : Inv X pins σ' H' sI := J'.ofTry ok
    have sky' : Sky B (X.env :: X.outer) a (Zc cls d) X.env.locals s'.heap := by rw [← hs]; exact sky
    show wpAny (model X.prog X.w) X.A (noteFrame (.ref a) X.env) _ _ _
    refine Sky.land Zc.steady hfr hf sky' fun h3 fl3 up3 => ?_
    have J3 : Inv X pins σ' H' { s' with heap := h3 } := J.landed nb fl3.1 (up.trans up3) os ag
    obtain ⟨oe3, vs3, he3, hz3, hd3⟩ := fl3.there
    have notFr : ∀ {h : Heap} {o : Obj} {vs : Array Value}, h.FunFrames B (X.env :: X.outer) → h.get? a = some o → o.data = .fields vs → a ∉ frs (X.env :: X.outer) := fun {h o vs} ff e dd hm => by
      obtain ⟨_, o', e', hnf⟩ := ff.mem hm
      rw [e] at e'; cases e'
      exact hnf _ dd
    have nfr := notFr fl3.2.2.1 he3 hd3
    have nL : a ≠ X.env.locals := fun z => nfr (List.mem_filterMap.mpr ⟨X.env, List.mem_cons_self, by rw [hf, z]⟩)
    have nF : a ∉ X.fs := fun hm => by
      obtain ⟨e, he, q⟩ := List.mem_filterMap.mp hm
      exact nfr (List.mem_filterMap.mpr ⟨e, List.mem_cons_of_mem _ he, q⟩)
    have nI : sI.heap.get? a = none := by
      cases e : sI.heap.get? a with
      | none => rfl
      | some o =>
        have z := nb a o e (by rw [hs]; exact nfr)
        rw [fl3.2.1] at z
        cases z
    have n0 : X.s_0.heap.get? a = none := by
      cases e : X.s_0.heap.get? a with
      | none => rfl
      | some o =>
        obtain ⟨o', z⟩ := J.base.there a o e (by rw [hx]; exact fun z => nomatch z)
        rw [nI] at z; cases z
    have nC : ∀ x c, X.env.cells.lookup x = some c → c ≠ a := fun x c e z => by
      obtain ⟨v, o, ho, hd⟩ := J.cell x c e
      rw [z, nI] at ho; cases ho
    have nP : ∀ p ∈ X.pn ++ pins, p.1 ≠ a := fun p hp z => by
      obtain ⟨e, _⟩ := J.pin p hp
      rw [z, nI] at e; cases e
    have S3 := J3.suiteV a
    have go : ∀ {hds' : List ExceptHandler} {l' : List (Value × Option Nat × TS)}, HdsV X hds' l' → wTry X.K Wout D l' cls d σ' H' →
        wpAny (model X.prog X.w) X.A (handleBy (.ref a) X.env hds') (SP X pins D) X.xe { s' with heap := h3 } := by
      intro hds' l' hk
      induction hk with
      | nil =>
        intro w
        refine wpAny_handleBy_nil ?_
        obtain ⟨k1, k2, k3, oe, vs, T, oT, ts', he, hz, hd, h1, hr⟩ := id fl3
        unfold PySem.passOn
        refine wpAny_bind (wpAny_field he hd h1 ?_)
        rw [if_neg (show ¬ ((Value.ref T == Value.none) = true) from by simp)]
        have fin : wpAny (model X.prog X.w) X.A (setFlight (.ref a) X.env.frame) (fun _ s4 => wpAny (model X.prog X.w) X.A (throw (.ref a) : Sem Flow) (SP X pins D) X.xe s4) X.xe { s' with heap := h3 } := by
          rw [hf]
          refine HandSPX.setFlight_upZ fl3 fun h4 hh4 up4 => wpAny_throw (tk _ _ ?_)
          exact ⟨a, B, sI, pins, σ', H', cls, d, rfl, J, nb, (up.trans up3).trans up4, .inr (.inr (by rw [hs]; exact hh4)), na, os, ag, w⟩
        first
          | exact wpAny_bind (wpAny_pure (wpAny_bind fin))
          | exact wpAny_bind fin
      | @one x c ts b₀ suite np pos' hds2 l2 hc hsu r ih =>
        intro w
        obtain ⟨b, hb1, hyes, hno⟩ := w
        refine wpAny_handleBy_cons (codeAny_handlers_test ?_) (by intro q; cases q)
        have LT : PySem.W.Looks (model X.prog X.w) h3 (typeOf (.ref a)) cls := fun A Q E s k q => wpAny_typeOf_ref (k _ _ he3) (by rw [hz3.1]; exact q)
        have LM := PySem.W.exm_one (M := model X.prog X.w) (J3.kIn) LT hb1
        have test : ∀ {Q : Value → Shared → Prop} {E : Value → Shared → Prop}, Q c { s' with heap := h3 } → wpAny (model X.prog X.w) (X.A.mark (some (.ref a))) (eval (.Name x np) X.env) Q E { s' with heap := h3 } := fun {Q E} q => by
          obtain ⟨hg, hdbg, hm | ⟨hm, hv, hnn⟩⟩ := hc
          · exact ld_glob (X := X.suite a (X.pn ++ pins)) S3 hg hm q hdbg
          · exact ld_blt (X := X.suite a (X.pn ++ pins)) S3 hg hm hv q hnn hdbg
        refine test (LM.here ?_)
        cases b with
        | true =>
          refine codeAny_handlers_suite ?_
          refine HandSPX.lands_againZ fl3 fun h4 fl4 up4 => ?_
          have J4 : Inv X pins σ' H' { s' with heap := h4 } := J.landed nb fl4.1 ((up.trans up3).trans up4) os ag
          obtain ⟨oe4, vs4, he4, hz4, hd4⟩ := fl4.there
          have J5 := Inv.track J4 n0 na nL nC nP (o := ExV cls d a) (exV_ok he4 hz4 hd4)
          have S4 := J5.suiteV a
          refine wpAny_mono ((hsu a (X.pn ++ pins)).run [] _ _ _ _ S4 (hyes rfl a na)) (fun f s6 hsp => ?_) (fun _ _ z => False.elim z)
          cases f with
          | next =>
            obtain ⟨σ6, H6, S6, q6⟩ := hsp
            exact ⟨_, _, S6.unsuiteV ok, q6⟩
          | brk =>
            obtain ⟨σ6, H6, S6, q6⟩ := hsp
            exact ⟨_, _, S6.unsuiteV ok, q6⟩
          | cont =>
            obtain ⟨σ6, H6, S6, q6⟩ := hsp
            exact ⟨_, _, S6.unsuiteV ok, q6⟩
          | ret u =>
            obtain ⟨v6, σ6, H6, S6, r6, q6⟩ := hsp
            exact ⟨_, _, _, S6.unsuiteV ok, r6, q6⟩
        | false =>
          show wpAny _ X.A (handleBy (.ref a) X.env hds2) _ _ _
          exact ih (hno rfl)
      | @as x n c i ts b₀ suite np pos' hds2 l2 hc hi hln hsu r ih =>
        intro w
        obtain ⟨b, hb1, hyes, hno⟩ := w
        have hloc : Loc X.env.scope n := .inl hln
        refine wpAny_handleBy_cons (codeAny_handlers_test ?_) (by intro q; cases q)
        have LT : PySem.W.Looks (model X.prog X.w) h3 (typeOf (.ref a)) cls := fun A Q E s k q => wpAny_typeOf_ref (k _ _ he3) (by rw [hz3.1]; exact q)
        have LM := PySem.W.exm_one (M := model X.prog X.w) (J3.kIn) LT hb1
        have test : ∀ {Q : Value → Shared → Prop} {E : Value → Shared → Prop}, Q c { s' with heap := h3 } → wpAny (model X.prog X.w) (X.A.mark (some (.ref a))) (eval (.Name x np) X.env) Q E { s' with heap := h3 } := fun {Q E} q => by
          obtain ⟨hg, hdbg, hm | ⟨hm, hv, hnn⟩⟩ := hc
          · exact ld_glob (X := X.suite a (X.pn ++ pins)) S3 hg hm q hdbg
          · exact ld_blt (X := X.suite a (X.pn ++ pins)) S3 hg hm hv q hnn hdbg
        refine test (LM.here ?_)
        cases b with
        | true =>
          refine codeAny_handlers_suite_as ?_
          refine HandSPX.lands_againZ fl3 fun h4 fl4 up4 => ?_
          have J4 : Inv X pins σ' H' { s' with heap := h4 } := J.landed nb fl4.1 ((up.trans up3).trans up4) os ag
          obtain ⟨oe4, vs4, he4, hz4, hd4⟩ := fl4.there
          have J5 := Inv.track J4 n0 na nL nC nP (o := ExV cls d a) (exV_ok he4 hz4 hd4)
          have S4 := J5.suiteV a
          refine store_ok (X := X.suite a (X.pn ++ pins)) (v := .ref a) S4 hN hi hloc rfl (fun s5 S5 => ?_) (.inr hln)
          refine wpAny_mono ((hsu a (X.pn ++ pins)).run [] s5 _ _ _ S5 (hyes rfl a na)) (fun f s6 hsp => ?_) (fun _ _ z => False.elim z)
          have end_ : ∀ {σ6 : L2.St} {H6 : Hp} {Q : Shared → Prop}, Inv (X.suite a (X.pn ++ pins)) [] σ6 H6 s6 → (∀ s7, Inv X pins (σ6.set i none) H6 s7 → Q s7) →
              wpAny (model X.prog X.w) X.A (do bindName X.env n .none; unbindBehindTheSuite X.env n pos') (fun _ s7 => Q s7) X.xe s6 := fun {σ6 H6 Q} S6 hq => gone_ok (S6.unsuiteV ok) hN hi hln hq
          cases f with
          | next =>
            obtain ⟨σ6, H6, S6, q6⟩ := hsp
            exact end_ S6 fun s7 J7 => ⟨_, _, J7, q6⟩
          | brk =>
            obtain ⟨σ6, H6, S6, q6⟩ := hsp
            exact end_ S6 fun s7 J7 => ⟨_, _, J7, q6⟩
          | cont =>
            obtain ⟨σ6, H6, S6, q6⟩ := hsp
            exact end_ S6 fun s7 J7 => ⟨_, _, J7, q6⟩
          | ret u =>
            obtain ⟨v6, σ6, H6, S6, r6, q6⟩ := hsp
            exact end_ S6 fun s7 J7 => ⟨_, _, _, J7, r6, q6⟩
        | false =>
          show wpAny _ X.A (handleBy (.ref a) X.env hds2) _ _ _
          exact ih (hno rfl)
    exact go hh w
  · cases f with
    | next =>
      obtain ⟨σ', H', J', q⟩ := hsp
      exact wpAny_execs_nil ⟨σ', H', J'.ofTry ok, q⟩
    | brk =>
      obtain ⟨σ', H', J', q⟩ := hsp
      exact ⟨σ', H', J'.ofTry ok, q⟩
    | cont =>
      obtain ⟨σ', H', J', q⟩ := hsp
      exact ⟨σ', H', J'.ofTry ok, q⟩
    | ret u =>
      obtain ⟨v, σ', H', J', r, q⟩ := hsp
      exact ⟨v, σ', H', J'.ofTry ok, r, q⟩
end
/-! ### the words -/
/-- of the program's error classes all stand directly under HourError -/
def xSub (c h : Str) : Bool := c == h || h == "HourError" || h == "ValueError" || h == "Exception"
def intFsOf : List (Str × D) → Option (List (Str × Int))
  | [] => some []
  | (f, .int i) :: r => (intFsOf r).map fun l => (f, i) :: l
  | _ :: _ => none
def setI (oi : Option Nat) (ρ : Rho) (d : D) : Rho := match oi with
  | none => ρ
  | some i => ρ.set i (some d)
def clearI (oi : Option Nat) (ρ : Rho) : Rho := match oi with
  | none => ρ
  | some i => ρ.set i none
def dropI (oi : Option Nat) : Out → Out
  | .nx ρ S => .nx (clearI oi ρ) S
  | .rt d S => .rt d S
  | .bk ρ S => .bk (clearI oi ρ) S
  | .ct ρ S => .ct (clearI oi ρ) S
  | .exc _ _ _ _ => .bad
  | .bad => .bad
def catchD (c : Str) (fs : List (Str × D)) (ns : List (Str × Int)) : List (Str × Option Nat × MS) → Rho → Sto → Out
  | [], ρ, S => .exc c fs ρ S
  | (h, oi, ms) :: r, ρ, S => if xSub c h = true then dropI oi (ms (setI oi ρ (.exn c ns)) S) else catchD c fs ns r ρ S
def mTry (cs : List Str) (hs : List (Str × Option Nat × MS)) (mb : MS) : MS := fun ρ S => match mb ρ S with
  | .exc c fs ρ1 S1 => match intFsOf fs with
    | some ns => if c ∈ cs then catchD c fs ns hs ρ1 S1 else .bad
    | none => .bad
  | o => o
/-- what the written part says of the classes that may be raised here -/
def SubOk (K : Frag) (mg : Str → Option Value) (cs : List Str) (x : Str) (v : Value) : Prop := ∀ c, c ∈ cs → ∃ Cc, mg c = some Cc ∧ PySem.W.exmOne K Cc v = some (xSub c x)
/-- the class x of a clause -/
structure TrOk (K : Frag) (mg : Str → Option Value) (cs : List Str) (x : Str) : Prop where
  ex : ∃ v : Value, mg x = some v ∧ SubOk K mg cs x v
/-- the classes are own error classes, of no plain type -/
structure PlOk (K : Frag) (mg : Str → Option Value) (cs : List Str) : Prop where
  ex : ∀ c, c ∈ cs → ∃ cls, mg c = some cls ∧ PlX K cls
inductive HdsD (X : Cx) (cs : List Str) : List ExceptHandler → List (Str × Option Nat × MS) → Prop
  | nil : HdsD X cs [] []
  | one {x : Str} {v : Value} {ms : MS} {b₀ : Stmt} {suite : List Stmt} {np pos' : Pos} {hds : List ExceptHandler} {l : List (Str × Option Nat × MS)} (hc : Names X x v) (sub : SubOk X.K X.mg cs x v)
      (hsu : ∀ (a : Addr) (pn : List (Addr × Obj)), Takes (X.suite a pn) W0 → DSs (X.suite a pn) W0 (b₀ :: suite) ms) (r : HdsD X cs hds l) : HdsD X cs (.ExceptHandler (some (.Name x np)) none (b₀ :: suite) pos' :: hds) ((x, none, ms) :: l)
  | as {x n : Str} {v : Value} (i : Nat) {ms : MS} {b₀ : Stmt} {suite : List Stmt} {np pos' : Pos} {hds : List ExceptHandler} {l : List (Str × Option Nat × MS)} (hc : Names X x v) (sub : SubOk X.K X.mg cs x v) (pl : PlOk X.K X.mg cs) (hi : X.N[i]? = some n) (hln : X.env.kindOf n = some .local)
      (hsu : ∀ (a : Addr) (pn : List (Addr × Obj)), Takes (X.suite a pn) W0 → DSs (X.suite a pn) W0 (b₀ :: suite) ms) (r : HdsD X cs hds l) : HdsD X cs (.ExceptHandler (some (.Name x np)) (some n) (b₀ :: suite) pos' :: hds) ((x, some i, ms) :: l)
theorem hds_as {X : Cx} {cs : List Str} (i : Nat) {x n : Str} {ms : MS} {b₀ : Stmt} {suite : List Stmt} {np pos' : Pos} {hds : List ExceptHandler} {l : List (Str × Option Nat × MS)} (T : TrOk X.K X.mg cs x) (P : PlOk X.K X.mg cs)
    (hsu : ∀ (a : Addr) (pn : List (Addr × Obj)), Takes (X.suite a pn) W0 → DSs (X.suite a pn) W0 (b₀ :: suite) ms) (r : HdsD X cs hds l) (hi : X.N[i]? = some n := by rfl) (hln : X.env.kindOf n = some .local := by rfl) (hg : Gl X x := by rfl) (hd : (x == ("__debug__" : Str)) = false := by decide) :
    HdsD X cs (.ExceptHandler (some (.Name x np)) (some n) (b₀ :: suite) pos' :: hds) ((x, some i, ms) :: l) :=
  let ⟨_, h1, h2⟩ := T; .as i ⟨hg, hd, .inl h1⟩ h2 P hi hln hsu r
section
variable {F : Fx} {μ : List Addr} {H : Hp}
theorem intFsOf_some : ∀ {fs : List (Str × D)} {ns : List (Str × Int)}, intFsOf fs = some ns → fs = ns.map fun p => (p.1, D.int p.2)
  | [], ns, e => by cases e; rfl
  | (f, d) :: r, ns, e => by
    cases d with
    | int i =>
      unfold intFsOf at e
      cases q : intFsOf r with
      | none => rw [q] at e; cases e
      | some l =>
        rw [q] at e
        cases e
        rw [List.map_cons, ← intFsOf_some q]
    | _ => cases e
theorem fsr_ints : ∀ {ns : List (Str × Int)} {vfs : List (Str × V)}, FsR F μ H vfs (ns.map fun p => (p.1, D.int p.2)) → vfs = intFs ns
  | [], _, h => by cases h; rfl
  | (f, i) :: r, [], h => by cases h
  | (f, i) :: r, (g, v) :: vfs, h => by
    cases h with
    | cons a b =>
      obtain ⟨h1, h2⟩ := a
      have h3 : g = f := h1
      have h4 : RD F μ H v (.int i) := h2
      clear h1 h2
      subst h3
      cases h4
      rw [fsr_ints b]
      rfl
theorem ws_drop {oi : Option Nat} {r : Out} {D : Ends} {W : WX} (h : WS' F (dropI oi r) D W μ H) : WS' F r (endsI oi D) W0 μ H := by
  cases r with
  | nx ρ S =>
    intro σ μ' H' u s g
    cases oi with
    | none => exact h σ μ' H' u s g
    | some i => exact h (σ.set i none) μ' H' u s (g.forget (σ' := σ) i)
  | rt d S =>
    intro v μ' H' u s g
    cases oi with
    | none => exact h v μ' H' u s g
    | some i => exact h v μ' H' u s g
  | bk ρ S =>
    intro σ μ' H' u s g
    cases oi with
    | none => exact h σ μ' H' u s g
    | some i => exact h (σ.set i none) μ' H' u s (g.forget (σ' := σ) i)
  | ct ρ S =>
    intro σ μ' H' u s g
    cases oi with
    | none => exact h σ μ' H' u s g
    | some i => exact h (σ.set i none) μ' H' u s (g.forget (σ' := σ) i)
  | exc c fs ρ S => exact h.elim
  | bad => exact h
theorem takes_w0 {X : Cx} : Takes X W0 := fun _ _ ⟨_, _, _, _, _, _, _, _, _, _, _, _, _, _, _, _, w⟩ => w.elim
/-- one reading for all contexts of a family -/
theorem dss_all {ι : Type} {Xf : ι → Cx} {body : List Stmt} {m : MS} {K : Frag} {mg : Str → Option Value} {W : WX} (hK : ∀ i, (Xf i).K = K) (hg : ∀ i, (Xf i).mg = mg) (h : ∀ i, DSs (Xf i) W body m) :
    ∃ ts : TS, (∀ i, PSs (Xf i) body ts) ∧ ∀ ξ μ σ H ρ S D, RG ⟨K, mg, ξ⟩ μ H σ ρ → RS ⟨K, mg, ξ⟩ μ H S → WS' ⟨K, mg, ξ⟩ (m ρ S) D W μ H → ts D σ H := by
  refine ⟨fun D σ H => ∀ i, ∃ ts, PSs (Xf i) body ts ∧ ts D σ H, fun i => ⟨fun pins s σ H D I hw => ?_⟩, fun ξ μ σ H ρ S D g s hw i => ?_⟩
  · obtain ⟨ts, p, q⟩ := hw i
    exact p.run pins s σ H D I q
  · obtain ⟨ts, p, k⟩ := h i
    refine ⟨ts, p, k ξ μ σ H ρ S D ?_ ?_ ?_⟩
    all_goals (unfold fx; rw [hK, hg]; assumption)
theorem catch_read {X : Cx} {cs : List Str} {hds : List ExceptHandler} {l : List (Str × Option Nat × MS)} {W : WX} (hh : HdsD X cs hds l) :
    ∃ L : List (Value × Option Nat × TS), HdsV X hds L ∧ ∀ ξ μ σ H ρ S c ns cls dd En, c ∈ cs → RS (fx X ξ) μ H S → RG (fx X ξ) μ H σ ρ → XR (fx X ξ) μ H cls dd c (ns.map fun p => (p.1, D.int p.2)) →
      WS' (fx X ξ) (catchD c (ns.map fun p => (p.1, D.int p.2)) ns l ρ S) En W μ H → wTry X.K W En L cls dd σ H := by
  induction hh with
  | nil =>
    refine ⟨[], .nil, fun ξ μ σ H ρ S c ns cls dd D hc s g x h => ?_⟩
    exact h cls dd σ μ H .refl s g x
  | @one x v ms b₀ suite np pos' hds l hc sub hsu r ih =>
    obtain ⟨L, hL, kL⟩ := ih
    obtain ⟨ts, pts, kts⟩ := dss_all (Xf := fun i : Addr × List (Addr × Obj) => X.suite i.1 i.2) (K := X.K) (mg := X.mg) (W := W0) (fun _ => rfl) (fun _ => rfl) fun i => hsu i.1 i.2 takes_w0
    refine ⟨(v, none, ts) :: L, .one hc (fun a pn => pts (a, pn)) hL, fun ξ μ σ H ρ S c ns cls dd D hm s g x h => ?_⟩
    obtain ⟨Cc, e1, e2⟩ := sub c hm
    obtain rfl : Cc = cls := Option.some.inj (e1.symm.trans x.1)
    refine ⟨_, e2, fun e a na => ?_, fun e => ?_⟩
    · unfold catchD at h
      rw [if_pos e] at h
      have u : Up μ H μ (upd H a (ExV Cc dd a)) := .fresh na
      refine kts ξ μ _ _ _ S _ (g.up u) (s.fresh na) (ws_drop (WS'.shift u h))
    · unfold catchD at h
      rw [if_neg (by rw [e]; exact Bool.false_ne_true)] at h
      exact kL ξ μ σ H ρ S c ns Cc dd D hm s g x h
  | @as x n v i ms b₀ suite np pos' hds l hc sub pl hi hln hsu r ih =>
    obtain ⟨L, hL, kL⟩ := ih
    obtain ⟨ts, pts, kts⟩ := dss_all (Xf := fun i : Addr × List (Addr × Obj) => X.suite i.1 i.2) (K := X.K) (mg := X.mg) (W := W0) (fun _ => rfl) (fun _ => rfl) fun i => hsu i.1 i.2 takes_w0
    refine ⟨(v, some i, ts) :: L, .as hc hi hln (fun a pn => pts (a, pn)) hL, fun ξ μ σ H ρ S c ns cls dd D hm s g x h => ?_⟩
    obtain ⟨Cc, e1, e2⟩ := sub c hm
    obtain rfl : Cc = cls := Option.some.inj (e1.symm.trans x.1)
    refine ⟨_, e2, fun e a na => ?_, fun e => ?_⟩
    · unfold catchD at h
      rw [if_pos e] at h
      have u : Up μ H μ (upd H a (ExV Cc dd a)) := .fresh na
      have rv : RD (fx X ξ) μ (upd H a (ExV Cc dd a)) (.ref a) (.exn c ns) := by
        obtain ⟨cl2, e3, e4⟩ := pl.ex c hm
        obtain rfl : cl2 = Cc := Option.some.inj (e3.symm.trans e1)
        refine .exn ⟨cl2, dd, ⟨e1, e4⟩, ⟨upd_same, s.out na, s.outX na⟩, ?_⟩
        rcases x.2 with ⟨z1, z2⟩ | ⟨d, vfs, z1, z2, z3, z4, z5⟩
        · refine .inl ⟨?_, z2⟩
          cases ns with
          | nil => rfl
          | cons p ns => cases z1
        · refine .inr ⟨d, _, z1, ?_, .inr rfl, z3, z4⟩
          rw [upd_ne (ne_of_none z2 na), z2, fsr_ints z5]
      refine kts ξ μ _ _ _ S _ ((g.up u).set i rv) (s.fresh na) (ws_drop (WS'.shift u h))
    · unfold catchD at h
      rw [if_neg (by rw [e]; exact Bool.false_ne_true)] at h
      exact kL ξ μ σ H ρ S c ns Cc dd D hm s g x h
end
section
variable {X : Cx} {W : WX} {e : Expr} {body : List Stmt} {h₀ : ExceptHandler} {hds : List ExceptHandler} {l : List (Str × Option Nat × MS)} {pos : Pos} {mb : MS} {m : ME}
theorem ds_try {cs : List Str} (hN : X.N.Nodup) (tk : Takes X W) (hb : ∀ (W : WX) (pn : List (Addr × Obj)) (xe : Value → Shared → Prop), Takes (X.tr pn xe) W → DSs (X.tr pn xe) W body mb)
    (hh : HdsD X cs (h₀ :: hds) l) (hs : X.stack = X.env :: X.outer := by rfl) (hf : X.env.frame = some X.env.locals := by rfl) (hx : X.ex = [] := by rfl) : DS X W (.Try body (h₀ :: hds) [] [] pos) (mTry cs l mb) := by
  obtain ⟨L, hL, kL⟩ := catch_read (W := W) hh
  have hbody : ∀ W' : WX, ∃ ts : TS, (∀ i : { p : List (Addr × Obj) × (Value → Shared → Prop) // Takes (X.tr p.1 p.2) W' }, PSs (X.tr i.1.1 i.1.2) body ts) ∧ ∀ ξ μ σ H ρ S D, RG (fx X ξ) μ H σ ρ → RS (fx X ξ) μ H S → WS' (fx X ξ) (mb ρ S) D W' μ H → ts D σ H :=
    fun W' => dss_all (Xf := fun i : { p : List (Addr × Obj) × (Value → Shared → Prop) // Takes (X.tr p.1 p.2) W' } => X.tr i.1.1 i.1.2) (K := X.K) (mg := X.mg) (W := W') (fun _ => rfl) (fun _ => rfl) fun i => hb W' i.1.1 i.1.2 i.2
  refine ⟨_, ps_tryV (tb := fun W' => Classical.choose (hbody W')) (Wout := W) hx hs hf hN tk (fun W' pn xe tk' _ => (Classical.choose_spec (hbody W')).1 ⟨(pn, xe), tk'⟩) hL, fun ξ μ σ H ρ S D g s h => ?_⟩
  refine (Classical.choose_spec (hbody _)).2 ξ μ σ H ρ S D g s ?_
  unfold mTry at h
  cases q : mb ρ S with
  | nx ρ1 S1 => rw [q] at h; exact h
  | rt d S1 => rw [q] at h; exact h
  | bk ρ1 S1 => rw [q] at h; exact h
  | ct ρ1 S1 => rw [q] at h; exact h
  | bad => rw [q] at h; exact h.elim
  | exc c fs ρ1 S1 =>
    rw [q] at h
    simp only at h
    cases e : intFsOf fs with
    | none => rw [e] at h; exact h.elim
    | some ns =>
      rw [e] at h
      simp only at h
      by_cases hc : c ∈ cs
      · rw [if_pos hc] at h
        rw [intFsOf_some e] at h ⊢
        intro cls dd σ1 μ1 H1 u1 s1 g1 x1
        exact kL ξ μ1 σ1 H1 ρ1 S1 c ns cls dd D hc s1 g1 x1 (WS'.shift u1 h)
      · rw [if_neg hc] at h
        exact h.elim
end
end Dm
-- text DmRaise
/-! raise X(e, ..) of a class with its own __init__; e.f; isinstance(e, X) -/
namespace Dm
open PySem L2 PySem.Spec PyProof.Rows
open PySem.W (Frag)
/-! ### H.__init__(self, ..), H a class of the program over ValueError -/
structure HiOk (K : Frag) (mg : Str → Option Value) (h : Str) : Prop where
  ex : ∃ (D : Addr) (mc : Value), mg h = some (.ref D) ∧ PySem.W.readsIn K D mc = true ∧ PySem.W.specialIn K (.ref D) "__getattribute__" = some (some (.builtin "type.__getattribute__")) ∧ PySem.W.findCls K (.ref D) mc "__init__" = some (.val (.builtin "ValueError.__init__"))
section
variable {X : Cx} {e : Expr} {es : List Expr} {ta : TA} {f h : Str} {p p' p1 p2 pos : Pos}
theorem pe_hinit {pl : Sem Bool} (hg : Gl X h) (T : HiOk X.K X.mg h) (ha : PA X (e :: es) ta) (hdb : (h == ("__debug__" : Str)) = false := by decide)
    (hc : eval (.Call (.Attribute (.Name h p1) "__init__" p2) (e :: es) [] pos) X.env = (do
      let ov ← eval (.Name h p1) X.env
      standAt p2.atName
      let (f, first) ← holding [ov] (getMethod ov "__init__" pl)
      callWith pos f first (backTo pos (starEach (e :: es) X.env)) (backToKw pos (keywordEach [] X.env))) := by rfl)
    (he : starEach (e :: es) X.env = (false, eval e X.env) :: starEach es X.env := by rfl) (hpl : (backTo pos (starEach es X.env)).any (·.1) = false := by rfl) :
    PE X (.Call (.Attribute (.Name h p1) "__init__" p2) (e :: es) [] pos) (tVeI X.K ta) := by
  obtain ⟨D, mc, hm, hr, hga, hv⟩ := T
  refine ⟨fun pins s σ H Q I h => ?_⟩
  refine PySem.W.methodCall_KW (ld_glob I hg hm ?_ hdb) hc
  refine PySem.W.method_cls I.kIn hga (PySem.W.cls_value I.kIn hr hv (by decide +kernel) ?_)
  show wpAny _ _ (callWith pos (Value.builtin "ValueError.__init__") [] (backTo pos (starEach (e :: es) X.env)) []) _ _ _
  refine PyProof.Rows.callWith_method1 (thn (ha.run pos pins _ σ H _ (I.tok _) h) fun us s1 ⟨vs, H1, I1, r1, a, C, ws, ev, hl, T, ea, q⟩ => ?_) he hpl
  subst ev
  cases r1 with
  | @cons _ u0 _ ur ra rw' =>
    obtain rfl : u0 = Value.ref a := ra
    have hlen : ur.length ≤ sizeLine := by
      rw [← Paired.length rw', sizeLine_eq]
      omega
    exact oinit_ok T I1 ea hlen fun s' J => ⟨.non, H1, J, rfl, q⟩
end
/-! ### the class's own __init__ -/
def spInit (K : Frag) (C : Addr) (ns : List Str) : Sp := fun vs H Q E => ∃ a ys, vs = .ref a :: ys ∧ ys.length = ns.length ∧ H a = some (exo a C none) ∧
  ∀ H' d, H d = none → d ≠ a → H' a = some (exo a C (some d)) → H' d = some (exd d (ns.zip ys).reverse) → (∀ b, b ≠ a → b ≠ d → H' b = H b) → Q .non H'
def tInit2 (K : Frag) (f g msg : Str) : TS := tSeq (tDrop (tVeI K (tCons (tVar 0) (tCons (tC (.str msg)) tNil)))) (tSeq (tOst K f (tVar 0) (tVar 1)) (tOst K g (tVar 0) (tVar 2)))
structure XiOk (P : Program) (w : World) (K : Frag) (mg : Str → Option Value) (base : Heap) (k : Nat) (x : Str) (ns : List Str) : Prop where
  ex : ∃ (C fI : Addr) (fd : FuncData) (ps : List Str), mg x = some (.ref C) ∧ OexC K C ∧ PySem.W.findIn K (.ref C) "__init__" = some (some (.ref fI)) ∧ PySem.W.typeIn K (.ref fI) = some (.type "function") ∧ Binds K fd ps [] ∧
    FnOk P w K mg base (L2.CX P w) k fI fd ps (spInit K C ns)
section
variable {P : Program} {w : World} {K : Frag} {mg : Str → Option Value} {base : Heap} {C fI : Addr} {fd : FuncData} {x f g msg qual : Str} {st : Stmt}
theorem xi_mk2 (hm : mg x = some (.ref C)) (T : OexC K C) (iC : PySem.W.findIn K (.ref C) "__init__" = some (some (.ref fI))) (tI : PySem.W.typeIn K (.ref fI) = some (.type "function")) (F : Fun K "__init__" qual st fI fd) (B : Binds K fd ["self", f, g] [])
    (S : FnScope ["self", f, g] ["self", f, g] (defScope st)) (hno : PySem.W.findIn K (.ref C) f = some none) (hno2 : PySem.W.findIn K (.ref C) g = some none)
    (hb : ∀ (cdv : Value) (A : Around) (outer : List Env) (s : Shared) (H : Hp) (E : XK), PSs (cxOf (L2.CX P w) P w K mg base ["self", f, g] qual (defScope st) fI cdv A outer s H E) (defBody st) (tInit2 K f g msg)) : XiOk P w K mg base 1 x [f, g] := by
  refine ⟨C, fI, fd, _, hm, T, iC, tI, B, F.okX S (fun vs H Q E h => ?_) (fun cdv A outer s H vs Q E hr h => ?_)⟩
  · obtain ⟨a, ys, rfl, hl, _⟩ := h
    simp at hl
    simp [hl]
  · obtain ⟨a, ys, rfl, hl, ha, hq⟩ := h
    match ys, hl with
    | [y, z], _ =>
      refine ⟨_, hb cdv A outer s H E, ?_⟩
      refine ⟨.ref a, rfl, ?_⟩
      refine ⟨a, C, [.str msg], rfl, (by simp), T, ha, ?_⟩
      refine ⟨y, rfl, .ref a, rfl, a, C, rfl, T, hno, .inl ⟨ha, fun dx n ne => ?_⟩⟩
      refine ⟨z, rfl, .ref a, rfl, a, C, rfl, T, hno2, .inr ⟨dx, [(f, y)], upd_same, by rw [upd_ne ne, upd_same], (by simp), ?_⟩⟩
      refine hq _ dx n ne ?_ upd_same fun b h1 h2 => ?_
      · rw [upd_ne (Ne.symm ne), upd_same]
      · rw [upd_ne h2, upd_ne h1, upd_ne h2]
end
def mRaiseX (c : Str) (ns : List Str) (ma : MA) : MS := fun ρ S => ofRes (ma ρ S) ρ fun ds S1 => if ds.length = ns.length then .exc c (ns.zip ds).reverse ρ S1 else .bad
theorem paired_zip {α β γ : Type} {R : α → β → Prop} : ∀ {ns : List γ} {xs : List α} {ys : List β}, Paired R xs ys → Paired (fun p q => p.1 = q.1 ∧ R p.2 q.2) (ns.zip xs) (ns.zip ys)
  | [], _, _, _ => by simp; exact .nil
  | _ :: _, [], _, h => by cases h; simp; exact .nil
  | n :: ns, x :: xs, _, h => by
    cases h with
    | cons a b =>
      simp only [List.zip_cons_cons]
      exact .cons ⟨rfl, a⟩ (paired_zip b)
theorem paired_append {α β : Type} {R : α → β → Prop} : ∀ {xs xs' : List α} {ys ys' : List β}, Paired R xs ys → Paired R xs' ys' → Paired R (xs ++ xs') (ys ++ ys')
  | [], _, _, _, h, k => by cases h; exact k
  | _ :: _, _, _, _, h, k => by
    cases h with
    | cons a b => exact .cons a (paired_append b k)
theorem paired_reverse {α β : Type} {R : α → β → Prop} : ∀ {xs : List α} {ys : List β}, Paired R xs ys → Paired R xs.reverse ys.reverse
  | [], _, h => by cases h; exact .nil
  | _ :: _, _, h => by
    cases h with
    | cons a b =>
      rw [List.reverse_cons, List.reverse_cons]
      exact paired_append (paired_reverse b) (.cons a .nil)
theorem rds_pairX {F : Fx} {μ : List Addr} {H : Hp} : ∀ {vs : List V} {ds : List D}, RDs F μ H vs ds → Paired (fun v d => RD F μ H v d) vs ds
  | _, [], h => by cases h; exact .nil
  | _, d :: ds, h => by
    cases h with
    | cons a b => exact .cons a (rds_pairX b)
section
variable {X : Cx} {W : WX} {e : Expr} {es : List Expr} {mr : MA} {m : ME} {p p1 p2 pos pos2 : Pos}
/-! ### e.f -/
def gXf (c f : Str) (_ : Sto) : D → Option D
  | .exn c' fs => if c' = c then (fs.lookup f).map D.int else none
  | _ => none
end
/-! ### isinstance(e, X) -/
def gIsX (cs : List Str) (x : Str) (_ : Sto) : D → Option D
  | .exn c _ => if c ∈ cs then some (.bl (xSub c x)) else none
  | _ => none
/-- the class x, the classes cs under which the exception may be -/
structure IsOk (K : Frag) (mg : Str → Option Value) (cs : List Str) (x : Str) : Prop where
  ex : ∃ cv : Value, (mg x = some cv ∧ ∃ C : Addr, cv = .ref C) ∧ ∀ c, c ∈ cs → ∃ D : Addr, mg c = some (.ref D) ∧ ExcC K D ∧ PySem.W.kitOne K (.ref D) cv = some (xSub c x)
section
variable {X : Cx} {W : WX} {e : Expr} {m : ME} {p p1 pos : Pos}
theorem d_isx {cs : List Str} {x : Str} (h : DE X W e m) (T : IsOk X.K X.mg cs x) (hm : X.mg "isinstance" = none) (hg : Gl X "isinstance" := by rfl) (hgx : Gl X x := by rfl) (hd : (x == ("__debug__" : Str)) = false := by decide)
    (he : starEach [e, .Name x p1] X.env = (false, eval e X.env) :: starEach [.Name x p1] X.env := by rfl) (hpl : (backTo pos (starEach [.Name x p1] X.env)).any (·.1) = false := by rfl)
    (hs2 : starEach [.Name x p1] X.env = (false, eval (.Name x p1) X.env) :: starEach [] X.env := by rfl) :
    DE X W (.Call (.Name "isinstance" p) [e, .Name x p1] [] pos) (mUn (gIsX cs x) m) := by
  obtain ⟨te, pe, k⟩ := h
  obtain ⟨cv, ⟨h1, C, rfl⟩, h2⟩ := T
  refine ⟨_, pe_callB call_isV hg hm (by decide +kernel) (pa_cons pe (pa_cons (pe_glob (v := .ref C) hgx h1 rfl hd) pa_nil hs2) he) (he := he) (hpl := hpl), fun ξ μ σ H ρ S Q g s h => k ξ μ σ H ρ S _ g s (WR.bind h fun x' S1 v μ1 H1 u1 s1 r1 w1 => ?_)⟩
  cases r1 with
  | @exn a c ns z =>
    simp only [gIsX] at w1
    by_cases hc : c ∈ cs
    · rw [if_pos hc] at w1
      obtain ⟨D, e1, e2, e3⟩ := h2 c hc
      obtain ⟨cls, dd, ⟨z1, _⟩, ⟨z2, z3, z4⟩, z5⟩ := z
      have ec : cls = .ref D := Option.some.inj (z1.symm.trans e1)
      subst ec
      refine ⟨a, D, dd, .ref C, .ref C, _, rfl, z2, e2, ?_, fun u hu => hu, e3, w1 _ μ1 H1 .refl s1 (.bl _)⟩
      rcases z5 with ⟨_, rfl⟩ | ⟨d, fs, q1, q2, _⟩
      · exact .inl rfl
      · exact .inr ⟨d, _, q1, q2⟩
    · rw [if_neg hc] at w1; exact w1.elim
  | _ => exact w1.elim
end
/-! ### X(e, ..) as a value -/
theorem pe_of_mk {X : Cx} {e : Expr} {t : L2.St → Hp → XK → Prop} (he : PMk X e t) : PE X e (fun σ H Q => t σ H fun cls d H1 => ∀ a, H1 a = none → Q (.ref a) (upd H1 a (ExV cls d a))) := by
  refine ⟨fun pins s σ H Q I h => wpAny_mono (he pins s σ H _ I h) (fun u s1 hu => ?_) fun _ _ x => x⟩
  obtain ⟨a, oe, vs, sI, H', cls, d, rfl, J, k, hne, ha, hz, hd, h1, na, os, ag, r, q⟩ := hu
  exact ⟨.ref a, upd H' a (ExV cls d a), J.call' (ch := []) os (Un.laidN k hne na) (J.hok.laidN k na (exV_ok ha hz hd)) ag (fun b z => nomatch z), rfl, q a na⟩
def newFs (ns : List Str) (ds : List D) : List (Str × Int) := (intFsOf (ns.zip ds).reverse).getD []
def mNewX (c : Str) (ns : List Str) (ma : MA) : ME := fun ρ S => (ma ρ S).bind fun ds S1 => if ds.length = ns.length then .ok (.exn c (newFs ns ds)) S1 else .bad
def mNew0 (c : Str) : ME := fun _ S => .ok (.exn c []) S
section
variable {X : Cx} {W : WX} {e : Expr} {es : List Expr} {mr : MA} {m : ME} {p p1 p2 pos pos2 : Pos}
theorem d_new0 {x msg : Str} {jj : Nat} (C : XcOk X.K X.mg x) (P : PlOk X.K X.mg [x]) (hg : Gl X x := by rfl) (hdb : (x == ("__debug__" : Str)) = false := by decide) :
    DE X W (.Call (.Name x p) [.Constant (.str msg) jj p2] [] pos) (mNew0 x) := by
  obtain ⟨C, h1, h2, h3, h4, h5⟩ := C
  obtain ⟨cls, e3, e4⟩ := P.ex x List.mem_cons_self
  obtain rfl : cls = .ref C := Option.some.inj (e3.symm.trans h1)
  exact ⟨_, pe_of_mk (pmk_own PySem.F.excBase_ValueError h2 h1 h3 (raises_own h4 h5) hg hdb), fun ξ μ σ H ρ S Q g s h a na => h _ μ _ (.fresh na) (s.fresh na) (.exn ⟨_, none, ⟨h1, e4⟩, ⟨upd_same, s.out na, s.outX na⟩, .inl ⟨rfl, rfl⟩⟩)⟩
theorem d_newX {j k : Nat} {x : Str} {ns : List Str} (C : XiOk X.prog X.w X.K X.mg X.base j x ns) (P : PlOk X.K X.mg [x]) (hr : Room k X.A) (ha : DA X W (e :: es) mr) (hj : j + 1 ≤ k := by decide) (hn : ns.length ≤ 1000 := by decide) (hg : Gl X x := by rfl) (hdb : (x == ("__debug__" : Str)) = false := by decide)
    (he : starEach (e :: es) X.env = (false, eval e X.env) :: starEach es X.env := by rfl) (hpl : (backTo pos (starEach es X.env)).any (·.1) = false := by rfl) :
    DE X W (.Call (.Name x p) (e :: es) [] pos) (mNewX x ns mr) := by
  obtain ⟨C, fI, fd, ps, hm, T, iC, tI, B, F⟩ := C
  obtain ⟨cls, e3, e4⟩ := P.ex x List.mem_cons_self
  obtain rfl : cls = .ref C := Option.some.inj (e3.symm.trans hm)
  obtain ⟨ta, pa, ka⟩ := ha
  refine ⟨_, pe_of_mk (pmk_oex (dvs := []) T iC tI F (hr.mono hj) B .nil (fun _ _ _ _ _ _ _ h => (let ⟨_, _, _, _, _, _, _, _, _, _, _, _, z⟩ := h; z.elim)) hg hm pa hdb he hpl), fun ξ μ σ H ρ S Q g s h => ka ξ μ σ H ρ S _ g s (WR.bind h fun ds S1 vs μ1 H1 u1 s1 r1 h1 => ?_)⟩
  by_cases c : ds.length = ns.length
  · rw [if_pos c] at h1
    have hl := r1.length
    rw [List.append_nil]
    refine ⟨by rw [hl, c]; exact hn, fun a na => ⟨a, vs, rfl, by rw [hl, c], upd_same, fun H' d hd da e1 e2 e5 => ⟨rfl, d, _, e1, e2, ?_, ?_⟩⟩⟩
    · rw [upd_ne da] at hd; exact hd
    · rw [upd_ne da] at hd
      have eq : upd (L2.del H' a) d (.xd (ns.zip vs).reverse) = upd H1 d (.xd (ns.zip vs).reverse) := by
        funext b
        by_cases hb : b = d
        · rw [hb, upd_same, upd_same]
        · rw [upd_ne hb, upd_ne hb]
          by_cases ha : b = a
          · rw [ha, del_same, na]
          · rw [del_ne ha, e5 b ha hb, upd_ne ha]
      rw [eq]
      intro a' na'
      have s2 := s1.fresh (o := .xd (ns.zip vs).reverse) hd
      have ne : d ≠ a' := fun z => by rw [z, upd_same] at na'; cases na'
      refine h1 _ μ1 _ ((Up.fresh hd).trans (.fresh na')) (s2.fresh na') (.exn ⟨_, some d, ⟨hm, e4⟩, ⟨upd_same, s2.out na', s2.outX na'⟩, .inr ⟨d, _, rfl, by rw [upd_ne ne, upd_same], ?_, s1.out hd, s1.outX hd⟩⟩)
      unfold newFs
      cases q : intFsOf (ns.zip ds).reverse with
      | none => exact .inl rfl
      | some l =>
        refine .inr (fsr_ints (F := fx X ξ) (μ := μ1) (H := H1) ?_)
        have ee := intFsOf_some q
        show Paired _ _ _
        rw [Option.getD_some, ← ee]
        exact paired_reverse (paired_zip (rds_pairX r1))
  · rw [if_neg c] at h1; exact h1.elim
end
section
variable {S : Sto} {ρ : Rho} {E : EX} {Q : D → Sto → Prop}
@[simp] theorem does_new0 {c : Str} : (mNew0 c ρ S).DoesE E Q = Q (.exn c []) S := rfl
@[simp] theorem does_newX {c : Str} {ns : List Str} {ma : MA} : (mNewX c ns ma ρ S).DoesE E Q = (ma ρ S).DoesE E fun ds S1 => ds.length = ns.length ∧ Q (.exn c (newFs ns ds)) S1 := by
  unfold mNewX
  rw [does_bind]; congr 1; funext ds S1
  by_cases h : ds.length = ns.length
  · rw [if_pos h]; simp [h]
  · rw [if_neg h]; simp [h, Res.DoesE]
end
end Dm
-- text Hw8
namespace Dm
open PySem L2
end Dm
-- text Hw9
namespace Dm
open PySem L2
end Dm
-- text DmLc2
namespace Dm
open PySem L2
open PySem.W (Frag)
/-! ### comprehensions of two generators -/
def lcL2 (f : D → Rho → Option Rho) (mt : ME) (mi1 : ME) (f1 : D → Rho → Option Rho) (mt1 me : ME) (vs1 : List Nat) (ρ : Rho) : List D → Sto → Option (List D × Sto)
  | [], S => some ([], S)
  | d :: r, S => match f d ρ with
    | none => none
    | some ρ1 => match mt ρ1 S with
      | .ok (.bl true) S1 => match iAny mi1 ρ1 S1 with
        | .ok p1 S2 => match lcA p1.1 f1 mt1 me (wipeD ρ1 vs1) (p1.2 + 1) 0 S2 with
          | some (ys, S3) => match lcL2 f mt mi1 f1 mt1 me vs1 ρ r S3 with
            | some (zs, S4) => some (ys ++ zs, S4)
            | none => none
          | none => none
        | _ => none
      | .ok (.bl false) S1 => lcL2 f mt mi1 f1 mt1 me vs1 ρ r S1
      | _ => none
def mLc2 (mi : MA) (f : D → Rho → Option Rho) (mt : ME) (mi1 : ME) (f1 : D → Rho → Option Rho) (mt1 me : ME) (vs vs1 : List Nat) : MA := fun ρ S => (mi ρ S).bind fun ds S1 => match lcL2 f mt mi1 f1 mt1 me vs1 (wipeD ρ vs) ds S1 with
  | some (ys, S2) => if ys.length ≤ 16777216 then .ok ys S2 else .bad
  | none => .bad
def lcA2 (d : D) (f : D → Rho → Option Rho) (mt : ME) (mi1 : ME) (f1 : D → Rho → Option Rho) (mt1 me : ME) (vs1 : List Nat) (ρ : Rho) : Nat → Nat → Sto → Option (List D × Sto)
  | 0, _, _ => none
  | k + 1, i, S => match seqOf S d with
    | none => none
    | some ds => match ds[i]? with
      | none => if i = ds.length then some ([], S) else none
      | some x => match f x ρ with
        | none => none
        | some ρ1 => match mt ρ1 S with
          | .ok (.bl true) S1 => match iAny mi1 ρ1 S1 with
            | .ok p1 S2 => match lcA p1.1 f1 mt1 me (wipeD ρ1 vs1) (p1.2 + 1) 0 S2 with
              | some (ys, S3) => match lcA2 d f mt mi1 f1 mt1 me vs1 ρ k (i + 1) S3 with
                | some (zs, S4) => some (ys ++ zs, S4)
                | none => none
              | none => none
            | _ => none
          | .ok (.bl false) S1 => lcA2 d f mt mi1 f1 mt1 me vs1 ρ k (i + 1) S1
          | _ => none
def mLcA2 (m : ME) (f : D → Rho → Option Rho) (mt : ME) (mi1 : ME) (f1 : D → Rho → Option Rho) (mt1 me : ME) (vs vs1 : List Nat) : MA := fun ρ S => (iAny m ρ S).bind fun p S1 => match lcA2 p.1 f mt mi1 f1 mt1 me vs1 (wipeD ρ vs) (p.2 + 1) 0 S1 with
  | some (ys, S2) => if ys.length ≤ 16777216 then .ok ys S2 else .bad
  | none => .bad
theorem Mv.comp {F : Fx} {μ μ1 μ2 : List Addr} {H H1 H2 : Hp} (a : Mv F μ H F μ1 H1) (b : Mv F μ1 H1 F μ2 H2) : Mv F μ H F μ2 H2 := ⟨fun h => b.t (a.t h), fun h => b.l (a.l h), fun h => b.c (a.c h), rfl, fun h => b.x (a.x h)⟩
/-! ### what they do -/
section
variable {S : Sto} {ρ : Rho} {f f1 : D → Rho → Option Rho} {mt mt1 me : ME} {mi : MA} {mi1 : ME} {E : EX}
def LcQ2 (f : D → Rho → Option Rho) (mt : ME) (mi1 : ME) (f1 : D → Rho → Option Rho) (mt1 me : ME) (vs1 : List Nat) (ρ : Rho) (ds : List D) (S : Sto) (Q : List D → Sto → Prop) : Prop := ∃ ys S2, lcL2 f mt mi1 f1 mt1 me vs1 ρ ds S = some (ys, S2) ∧ Q ys S2
@[simp] theorem does_lc2 {vs vs1 : List Nat} {Q : List D → Sto → Prop} : (mLc2 mi f mt mi1 f1 mt1 me vs vs1 ρ S).DoesE E Q = (mi ρ S).DoesE E fun ds S1 => LcQ2 f mt mi1 f1 mt1 me vs1 (wipeD ρ vs) ds S1 fun ys S2 => ys.length ≤ 16777216 ∧ Q ys S2 := by
  unfold mLc2
  rw [does_bind]
  congr 1
  funext ds S1
  unfold LcQ2
  cases e : lcL2 f mt mi1 f1 mt1 me vs1 (wipeD ρ vs) ds S1 with
  | none => refine propext ⟨fun h => h.elim, fun ⟨_, _, h, _⟩ => nomatch h⟩
  | some r =>
    obtain ⟨ys, S2⟩ := r
    refine propext ⟨fun q => ?_, ?_⟩
    · simp only at q
      by_cases c : ys.length ≤ 16777216
      · rw [if_pos c] at q
        exact ⟨ys, S2, rfl, c, q⟩
      · rw [if_neg c] at q
        exact q.elim
    · rintro ⟨ys', S2', e', c, q⟩
      cases e'
      simp only
      rw [if_pos c]
      exact q
def LcAQ2 (d : D) (f : D → Rho → Option Rho) (mt : ME) (mi1 : ME) (f1 : D → Rho → Option Rho) (mt1 me : ME) (vs1 : List Nat) (ρ : Rho) (n : Nat) (S : Sto) (Q : List D → Sto → Prop) : Prop := ∃ ys S2, lcA2 d f mt mi1 f1 mt1 me vs1 ρ (n + 1) 0 S = some (ys, S2) ∧ Q ys S2
@[simp] theorem does_lcA2 {m : ME} {vs vs1 : List Nat} {Q : List D → Sto → Prop} : (mLcA2 m f mt mi1 f1 mt1 me vs vs1 ρ S).DoesE E Q = (m ρ S).DoesE E fun d S1 => match seqOf S1 d with
    | some ds => LcAQ2 d f mt mi1 f1 mt1 me vs1 (wipeD ρ vs) ds.length S1 fun ys S2 => ys.length ≤ 16777216 ∧ Q ys S2
    | none => False := by
  unfold mLcA2 iAny
  rw [does_bind, does_bind]
  congr 1
  funext d S1
  cases seqOf S1 d with
  | none => rfl
  | some ds =>
    simp only [does_ok]
    unfold LcAQ2
    cases e : lcA2 d f mt mi1 f1 mt1 me vs1 (wipeD ρ vs) (ds.length + 1) 0 S1 with
    | none => refine propext ⟨fun h => h.elim, fun ⟨_, _, h, _⟩ => nomatch h⟩
    | some r =>
      obtain ⟨ys, S2⟩ := r
      refine propext ⟨fun q => ?_, ?_⟩
      · simp only at q
        by_cases c : ys.length ≤ 16777216
        · rw [if_pos c] at q
          exact ⟨ys, S2, rfl, c, q⟩
        · rw [if_neg c] at q
          exact q.elim
      · rintro ⟨ys', S2', e', c, q⟩
        cases e'
        simp only
        rw [if_pos c]
        exact q
end
end Dm
-- text Hw10
namespace Dm
open PySem L2
end Dm
-- text DmPop
namespace Dm
open PySem L2
open PySem.W (Frag)
/-! ### xs.pop(), xs.reverse() as statements -/
section
variable {X : Cx} {W : WX}
def mPopS (o : ME) : MS := fun ρ S => ofRes (o ρ S) ρ fun x S1 => match x with
  | .cell n => match S1[n]? with
    | some (.lst ds) => if ds = [] then .bad else .nx ρ (S1.set n (.lst ds.dropLast))
    | _ => .bad
  | _ => .bad
def mRevS (o : ME) : MS := fun ρ S => ofRes (o ρ S) ρ fun x S1 => match x with
  | .cell n => match S1[n]? with
    | some (.lst ds) => .nx ρ (S1.set n (.lst ds.reverse))
    | _ => .bad
  | _ => .bad
end
section
variable {S : Sto} {ρ : Rho} {N B C : Rho → Sto → Prop} {R : D → Sto → Prop} {EO : EXO}
@[simp] theorem does_popS {o : ME} : (mPopS o ρ S).DoesE EO N R B C = (o ρ S).DoesE (eAt EO ρ) fun x S1 => match x with
    | .cell n => ∃ xs, S1[n]? = some (.lst xs) ∧ xs ≠ [] ∧ N ρ (S1.set n (.lst xs.dropLast))
    | _ => False := by
  unfold mPopS
  rw [does_ofRes]; congr 1; funext x S1
  cases x with
  | cell n =>
    simp only
    cases q : S1[n]? with
    | none => exact propext ⟨fun h => h.elim, fun ⟨_, h, _⟩ => nomatch h⟩
    | some c =>
      cases c with
      | lst ds =>
        by_cases hd : ds = []
        · simp only [if_pos hd]
          refine propext ⟨fun h => h.elim, fun ⟨xs, h, h2, _⟩ => ?_⟩
          cases h
          exact absurd hd h2
        · simp only [if_neg hd]
          refine propext ⟨fun h => ⟨ds, rfl, hd, h⟩, fun ⟨xs, h, _, h3⟩ => ?_⟩
          cases h
          exact h3
      | _ => exact propext ⟨fun h => h.elim, fun ⟨_, h, _⟩ => nomatch h⟩
  | _ => rfl
@[simp] theorem does_revS {o : ME} : (mRevS o ρ S).DoesE EO N R B C = (o ρ S).DoesE (eAt EO ρ) fun x S1 => match x with
    | .cell n => ∃ xs, S1[n]? = some (.lst xs) ∧ N ρ (S1.set n (.lst xs.reverse))
    | _ => False := by
  unfold mRevS
  rw [does_ofRes]; congr 1; funext x S1
  cases x with
  | cell n =>
    simp only
    cases q : S1[n]? with
    | none => exact propext ⟨fun h => h.elim, fun ⟨_, h, _⟩ => nomatch h⟩
    | some c =>
      cases c with
      | lst ds =>
        refine propext ⟨fun h => ⟨ds, rfl, h⟩, fun ⟨xs, h, h3⟩ => ?_⟩
        cases h
        exact h3
      | _ => exact propext ⟨fun h => h.elim, fun ⟨_, h, _⟩ => nomatch h⟩
  | _ => rfl
end
end Dm
-- text Hw11
namespace Dm
open PySem L2
end Dm
-- text DmCatW
namespace Dm
open PySem L2 PySem.Spec PyProof.Rows
open PySem.W (Frag)
section
variable {X : Cx} {W : WX} {tg a b : Expr} {ma mb : ME} {pos : Pos} {E : EX}
/-- two lists that stand, one behind the other -/
def mCatW (a b : ME) : MA := fun ρ S => (a ρ S).bind fun x S1 => (b ρ S1).bind fun y S2 => match lstOf S2 x, lstOf S2 y with
  | some xs, some ys => if xs.length + ys.length ≤ 16777216 then .ok (xs ++ ys) S2 else .bad
  | _, _ => .bad
variable {ρ : Rho} {S : Sto}
@[simp] theorem does_catW {a b : ME} {Q : List D → Sto → Prop} : (mCatW a b ρ S).DoesE E Q = (a ρ S).DoesE E fun x S1 => (b ρ S1).DoesE E fun y S2 => match lstOf S2 x, lstOf S2 y with
    | some xs, some ys => xs.length + ys.length ≤ 16777216 ∧ Q (xs ++ ys) S2
    | _, _ => False := by
  unfold mCatW
  rw [does_bind]; congr 1; funext x S1
  rw [does_bind]; congr 1; funext y S2
  cases e : lstOf S2 x with
  | none => simp [Res.DoesE]
  | some xs =>
    cases e' : lstOf S2 y with
    | none => simp [Res.DoesE]
    | some ys =>
      simp only
      by_cases h : xs.length + ys.length ≤ 16777216
      · rw [if_pos h]; simp [h]
      · rw [if_neg h]; simp [h, Res.DoesE]
end
end Dm
-- text Hw12
namespace Dm
open PySem L2
end Dm
-- text DmTupMul
namespace Dm
open PySem L2 PySem.Spec PyProof.Rows
open PySem.W (Frag)
/-! ### a tuple some times -/
def gMulT : Sto → D → D → Option D := fun _ x y => match x, y with
  | .tup ds, .int k => if ds.length ≠ 0 ∧ 2 ≤ k ∧ k ≤ 1000 ∧ ds.length ≤ 1000 then some (.tup (List.replicate k.toNat ds).flatten) else none
  | _, _ => none
@[simp] theorem gMulT_tup {S : Sto} {ds : List D} {k : Int} : gMulT S (.tup ds) (.int k) = if ds.length ≠ 0 ∧ 2 ≤ k ∧ k ≤ 1000 ∧ ds.length ≤ 1000 then some (.tup (List.replicate k.toNat ds).flatten) else none := rfl
end Dm
-- text Hw13
namespace Dm
open PySem L2
end Dm
-- text DmGet
namespace Dm
open PySem L2 PySem.Spec PyProof.Rows
open PySem.W (Frag)
section
variable {X : Cx} {W : WX} {a o e f : Expr} {mo me mf ma : ME} {apos cpos pos p2 : Pos}
/-! ### d.get(k, x) -/
def mGet2 (mo mk mx : ME) : ME := fun ρ S => (mo ρ S).bind fun d S1 => match dicOf S1 d with
  | none => .bad
  | some _ => (mk ρ S1).bind fun y S2 => (mx ρ S2).bind fun z S3 => match dicOf S3 d, keyD y with
    | some kvs, some k => .ok ((valD kvs k).getD z) S3
    | _, _ => .bad
/-! ### texts: s + t, s[i:j] -/
def gCatS : Sto → D → D → Option D := fun _ x y => match x, y with
  | .str a, .str b => if a.length + b.length ≤ 16777216 then some (.str (a ++ b)) else none
  | _, _ => none
theorem o_catS : OpD X rCatS gCatS := by
  intro ξ μ H S x y v u z Q s rx ry e k
  cases rx with
  | str a =>
    cases ry with
    | str b =>
      unfold gCatS at e
      simp only at e
      by_cases c : a.length + b.length ≤ 16777216
      · rw [if_pos c] at e
        cases e
        exact ⟨a, b, rfl, rfl, by rw [sizeLine_eq]; exact c, k _ μ H .refl s (.str _)⟩
      · rw [if_neg c] at e; exact nomatch e
    | _ => exact nomatch e
  | _ => cases ry <;> exact nomatch e
variable {lo hi : Option Expr} {ml mh : MO}
def mSlS (a : ME) (lo hi : MO) : ME := fun ρ S => (a ρ S).bind fun x S1 => (lo ρ S1).bind fun l S2 => (hi ρ S2).bind fun h S3 => match x with
  | .str z => if z.length ≤ 16777216 then .ok (.str (cutS z l h)) S3 else .bad
  | _ => .bad
end
section
variable {S : Sto} {ρ : Rho} {E : EX} {Q : D → Sto → Prop}
@[simp] theorem does_get2 {mo mk mx : ME} : (mGet2 mo mk mx ρ S).DoesE E Q = (mo ρ S).DoesE E fun d S1 => match dicOf S1 d with
    | none => False
    | some _ => (mk ρ S1).DoesE E fun y S2 => (mx ρ S2).DoesE E fun z S3 => match dicOf S3 d, keyD y with
      | some kvs, some k => Q ((valD kvs k).getD z) S3
      | _, _ => False := by
  unfold mGet2
  rw [does_bind]; congr 1; funext d S1
  cases dicOf S1 d with
  | none => rfl
  | some kvs0 =>
    simp only
    rw [does_bind]; congr 1; funext y S2
    rw [does_bind]; congr 1; funext z S3
    cases dicOf S3 d with
    | none => rfl
    | some kvs =>
      cases keyD y with
      | none => rfl
      | some k => rfl
@[simp] theorem gCatS_str {a b : Str} : gCatS S (.str a) (.str b) = if a.length + b.length ≤ 16777216 then some (.str (a ++ b)) else none := rfl
@[simp] theorem does_slS {a : ME} {lo hi : MO} : (mSlS a lo hi ρ S).DoesE E Q = (a ρ S).DoesE E fun x S1 => (lo ρ S1).DoesE E fun l S2 => (hi ρ S2).DoesE E fun h S3 => match x with
    | .str z => z.length ≤ 16777216 ∧ Q (.str (cutS z l h)) S3
    | _ => False := by
  unfold mSlS
  rw [does_bind]; congr 1; funext x S1
  rw [does_bind]; congr 1; funext l S2
  rw [does_bind]; congr 1; funext h S3
  cases x with
  | str z =>
    simp only
    by_cases c : z.length ≤ 16777216
    · rw [if_pos c]; simp [c]
    · rw [if_neg c]; simp [c, Res.DoesE]
  | _ => rfl
end
end Dm
-- text Hw14
namespace Dm
open PySem L2
end Dm
-- text DmTupMul1
namespace Dm
open PySem L2 PySem.Spec PyProof.Rows
open PySem.W (Frag)
/-! ### a tuple some times, once too -/
def gMulU : Sto → D → D → Option D := fun S x y => match x, y with
  | .tup ds, .int k => if k = 1 then some (.tup ds) else gMulT S (.tup ds) (.int k)
  | _, _ => none
@[simp] theorem gMulU_tup {S : Sto} {ds : List D} {k : Int} : gMulU S (.tup ds) (.int k) = if k = 1 then some (.tup ds) else if ds.length ≠ 0 ∧ 2 ≤ k ∧ k ≤ 1000 ∧ ds.length ≤ 1000 then some (.tup (List.replicate k.toNat ds).flatten) else none := rfl
end Dm
-- text Hw15
namespace Dm
open PySem L2
end Dm
-- text Hw16
namespace Dm
open PySem L2
end Dm
-- text DmStr
namespace Dm
open PySem L2 PySem.Spec PyProof.Rows
/-! ### str of a number -/
def gStrI : Sto → List D → Option D := fun _ ds => match ds with
  | [.int i] => if i.natAbs.log2 < 1920 then some (.str (toString i)) else none
  | _ => none
section
variable {X : Cx}
theorem c_strI : CallD X (fun xs H Q => ∃ i, xs = [.int i] ∧ i.natAbs.log2 < 1920 ∧ Q (.str (toString i)) H) gStrI := by
  intro ξ μ H S ds vs z Q s r e k
  unfold gStrI at e
  cases r with
  | nil => exact nomatch e
  | @cons v vs d ds r rr =>
    cases rr with
    | cons _ _ => cases d <;> exact nomatch e
    | nil =>
      cases r with
      | int i =>
        simp only at e
        split at e
        · rename_i h
          cases e
          exact ⟨i, rfl, h, k _ μ H .refl s (.str _)⟩
        · exact nomatch e
      | _ => exact nomatch e
end
end Dm
-- text Hw17
namespace Dm
open PySem L2
noncomputable section
def m_law_odd_thing : List D → Sto → Res D := mDef 1 8 (mSeq (mAsg 1 (mOp gAdd (mK (.int 1000000000000000000000000000000)) (mCall m_law_draw (mCons (mVar 0) (mCons (mK (.int 1000)) mNil))))) (mSeq (mAsg 2 (mFz (mLst (mCons (mK .non) (mCons (mK (.bl true)) (mCons (mK (.bl false)) (mCons (mK (.str "")) (mCons (mK (.str "early")) (mCons (mK (.str "0")) (mCons (mK (.int 0)) (mCons (mK (.int 1)) (mCons (mK (.int (-1))) (mCons (mK (.int 60)) (mCons (mK (.int 900)) (mCons (mK (.int 901)) (mCons (mK (.int 1000001)) (mCons (mVar 1) (mCons (mUn gNeg (mVar 1)) mNil)))))))))))))))))) (mSeq (mAsg 3 (mCall m_law_draw (mCons (mVar 0) (mCons (mK (.int 24)) mNil)))) (mSeq (mIfS (mOp gLt (mVar 3) (mK (.int 15))) (mRet (mOp gIx (mVar 2) (mVar 3))) mNop) (mSeq (mAsg 4 (mOp gIx (mVar 2) (mCall m_law_draw (mCons (mVar 0) (mCons (mK (.int 15)) mNil))))) (mSeq (mAsg 5 (mOp gIx (mVar 2) (mCall m_law_draw (mCons (mVar 0) (mCons (mK (.int 15)) mNil))))) (mSeq (mIfS (mOp gEq (mVar 3) (mK (.int 15))) (mRet (mNew0 "InvalidZone")) mNop) (mSeq (mIfS (mOp gEq (mVar 3) (mK (.int 16))) (mRet (mNewX "Crowded" ["first", "last"] (mCons (mVar 4) (mCons (mVar 5) mNil)))) mNop) (mSeq (mIfS (mOp gEq (mVar 3) (mK (.int 17))) (mRet (mFz (mRepL (mLst (mCons (mVar 4) mNil)) (mK (.int 600))))) mNop) (mSeq (mIfS (mOp gEq (mVar 3) (mK (.int 18))) (mSeq (mAsg 6 (mVar 4)) (mSeq (mFor (iRange1 (mCons (mK (.int 20)) mNil)) (tgN 7) (mAsg 6 (mOp gIx (mFz (mLst (mCons (mTup (mCons (mVar 6) mNil)) (mCons (mFz (mLst (mCons (mVar 6) mNil))) mNil)))) (mOp gMod (mVar 7) (mK (.int 2)))))) (mRet (mVar 6)))) mNop) (mRet (mOp gIx (mFz (mLst (mCons (mFz (mLst mNil)) (mCons (mTup mNil) (mCons (mFz (mLst (mCons (mVar 4) (mCons (mVar 5) mNil)))) (mCons (mTup (mCons (mVar 4) (mCons (mVar 5) mNil))) (mCons (mTup (mCons (mTup (mCons (mVar 4) (mCons (mVar 5) mNil))) (mCons (mK (.int 100)) mNil))) mNil))))))) (mOp gSub (mVar 3) (mK (.int 19)))))))))))))))
def m_law_bend_v2 : Nat → List D → Sto → Res D
  | 0 => fun _ _ => .bad
  | n + 1 => mDef 3 6 (mSeq (mAsg 3 (mCall m_law_draw (mCons (mVar 0) (mCons (mK (.int 12)) mNil)))) (mSeq (mIfS (mAnd (mIsi .tup (mVar 1)) (mOr (mOp gEq (mVar 2) (mK (.int 0))) (mOr (mOp gEq (mCallB gLen (mCons (mVar 1) mNil)) (mK (.int 0))) (mOp gGt (mVar 3) (mK (.int 5)))))) (mSeq (mAsg 4 (mCall m_law_draw (mCons (mVar 0) (mCons (mOp gAdd (mCallB gLen (mCons (mVar 1) mNil)) (mK (.int 1))) mNil)))) (mSeq (mIfS (mOr (mOp gEq (mVar 3) (mK (.int 6))) (mOp gEq (mVar 3) (mK (.int 0)))) (mRet (mOp gAdd (mSlT (mVar 1) mNoPart (mPart (mVar 4))) (mSlT (mVar 1) (mPart (mOp gAdd (mVar 4) (mK (.int 1)))) mNoPart))) mNop) (mSeq (mIfS (mOr (mOp gEq (mVar 3) (mK (.int 7))) (mOp gEq (mVar 3) (mK (.int 1)))) (mRet (mOp gAdd (mOp gAdd (mSlT (mVar 1) mNoPart (mPart (mVar 4))) (mSlT (mVar 1) (mPart (mVar 4)) (mPart (mOp gAdd (mVar 4) (mK (.int 1)))))) (mSlT (mVar 1) (mPart (mVar 4)) mNoPart))) mNop) (mSeq (mIfS (mOr (mOp gEq (mVar 3) (mK (.int 8))) (mOp gEq (mVar 3) (mK (.int 2)))) (mRet (mFz (mCallBL gList (mCons (mVar 1) mNil)))) mNop) (mSeq (mIfS (mOr (mOp gEq (mVar 3) (mK (.int 9))) (mOp gEq (mVar 3) (mK (.int 3)))) (mRet (mOp gAdd (mSlT (mVar 1) mNoPart (mPart (mVar 4))) (mBackA (mSlT (mVar 1) (mPart (mVar 4)) mNoPart)))) mNop) (mSeq (mIfS (mOp gEq (mVar 3) (mK (.int 10))) (mRet (mOp gAdd (mOp gAdd (mSlT (mVar 1) (mPart (mK (.int 1))) (mPart (mOp gAdd (mVar 4) (mK (.int 1))))) (mSlT (mVar 1) mNoPart (mPart (mK (.int 1))))) (mSlT (mVar 1) (mPart (mOp gAdd (mVar 4) (mK (.int 1)))) mNoPart))) mNop) (mRet (mOp gAdd (mOp gAdd (mSlT (mVar 1) mNoPart (mPart (mVar 4))) (mTup (mCons (mCall m_law_odd_thing (mCons (mVar 0) mNil)) mNil))) (mSlT (mVar 1) (mPart (mVar 4)) mNoPart))))))))) mNop) (mSeq (mIfS (mIsi .tup (mVar 1)) (mSeq (mAsg 4 (mCall m_law_draw (mCons (mVar 0) (mCons (mCallB gLen (mCons (mVar 1) mNil)) mNil)))) (mRet (mOp gAdd (mOp gAdd (mSlT (mVar 1) mNoPart (mPart (mVar 4))) (mTup (mCons (mCall (m_law_bend_v2 n) (mCons (mVar 0) (mCons (mOp gIx (mVar 1) (mVar 4)) (mCons (mOp gSub (mVar 2) (mK (.int 1))) mNil)))) mNil))) (mSlT (mVar 1) (mPart (mOp gAdd (mVar 4) (mK (.int 1)))) mNoPart)))) mNop) (mSeq (mIfS (mAnd (mCall m_law_whole (mCons (mVar 1) mNil)) (mOp gLt (mVar 3) (mK (.int 9)))) (mSeq (mAsg 5 (mFz (mLst (mCons (mOp gAdd (mVar 1) (mK (.int 1))) (mCons (mOp gSub (mVar 1) (mK (.int 1))) (mCons (mUn gNeg (mVar 1)) (mCons (mOp gAdd (mVar 1) (mK (.int 60))) (mCons (mCallB gStrI (mCons (mVar 1) mNil)) (mCons (mOp gEq (mVar 1) (mK (.int 1))) (mCons (mFz (mLst (mCons (mVar 1) mNil))) (mCons (mTup (mCons (mVar 1) mNil)) mNil))))))))))) (mRet (mOp gIx (mFz (mCatV (mVar 5) (mLst (mCons (mOp gAdd (mVar 1) (mK (.int 1000000))) mNil)))) (mVar 3)))) mNop) (mRet (mCall m_law_odd_thing (mCons (mVar 0) mNil)))))))
def m_law_is_region : List D → Sto → Res D := mDef 1 6 (mSeq (mIfS (mOr (mNot (mIsi .tup (mVar 0))) (mOp gNe (mCallB gLen (mCons (mVar 0) mNil)) (mK (.int 2)))) (mRet (mK (.bl false))) mNop) (mSeq (mAsgG (tgU 2 (tgCons (tgN 1) (tgCons (tgN 2) tgNil))) (mVar 0)) (mSeq (mIfS (mOr (mNot (mIsi .tup (mVar 1))) (mOp (gIn true) (mCallB gLen (mCons (mVar 1) mNil)) (mFz (mLst (mCons (mK (.int 1)) (mCons (mK (.int 2)) (mCons (mK (.int 3)) mNil))))))) (mRet (mK (.bl false))) mNop) (mSeq (mIfS (mNot (mCallB gAll (mCons (mFz (mLc (iSeq (mFz (mCatL (mCallBL gList (mCons (mVar 1) mNil)) (mLst (mCons (mVar 2) mNil))))) (tgN 4) mYes (mCall m_law_whole (mCons (mVar 4) mNil)) [4])) mNil))) (mRet (mK (.bl false))) mNop) (mSeq (mIfS (mNot (mCallB gAll (mCons (mFz (mLc (iRange1 (mCons (mOp gSub (mCallB gLen (mCons (mVar 1) mNil)) (mK (.int 1))) mNil)) (tgN 5) mYes (mOp gLt (mOp gIx (mVar 1) (mVar 5)) (mOp gIx (mVar 1) (mOp gAdd (mVar 5) (mK (.int 1))))) [5])) mNil))) (mRet (mK (.bl false))) mNop) (mSeq (mAsg 3 (mOp gSub (mOp gIx (mVar 1) (mK (.int (-1)))) (mOp gIx (mVar 1) (mK (.int 0))))) (mRet (mAnd (mOp gLe (mK (.int (-900))) (mOp gIx (mVar 1) (mK (.int 0)))) (mAnd (mOp gLe (mOp gIx (mVar 1) (mK (.int (-1)))) (mK (.int 900))) (mAnd (mOp gLt (mVar 3) (mVar 2)) (mOp gLe (mVar 2) (mK (.int 1000000)))))))))))))
def m_law_strange_number : List D → Sto → Res D := mDef 1 2 (mSeq (mAsg 1 (mCall m_law_draw (mCons (mVar 0) (mCons (mK (.int 1000)) mNil)))) (mRet (mOp gIx (mFz (mLst (mCons (mK .non) (mCons (mK (.bl true)) (mCons (mK (.bl false)) (mCons (mK (.str "7")) (mCons (mK (.str "")) (mCons (mFz (mLst (mCons (mVar 1) mNil))) (mCons (mTup (mCons (mVar 1) mNil)) (mCons (mNewX "Crowded" ["first", "last"] (mCons (mVar 1) (mCons (mK (.int 1)) mNil))) (mCons (mTup mNil) (mCons (mCallB gStrI (mCons (mVar 1) mNil)) mNil)))))))))))) (mCall m_law_draw (mCons (mVar 0) (mCons (mK (.int 10)) mNil))))))
def m_law_bad_region : List D → Sto → Res D := mDef 2 4 (mSeq (mAsg 2 (mCall (m_law_bend_v2 12) (mCons (mVar 0) (mCons (mVar 1) (mCons (mK (.int 2)) mNil))))) (mSeq (mIfS (mCall m_law_is_region (mCons (mVar 2) mNil)) (mSeq (mAsg 3 (mFz (mLst (mCons (mFz (mCallBL gList (mCons (mVar 1) mNil))) (mCons (mOp gIx (mVar 1) (mK (.int 0))) (mCons (mOp gAdd (mVar 1) (mTup (mCons (mK (.int 1)) mNil))) (mCons (mTup (mCons (mOp gIx (mVar 1) (mK (.int 0))) (mCons (mK (.str "1")) mNil))) (mCons (mTup (mCons (mFz (mCallBL gList (mCons (mOp gIx (mVar 1) (mK (.int 0))) mNil))) (mCons (mOp gIx (mVar 1) (mK (.int 1))) mNil))) mNil)))))))) (mRet (mOp gIx (mVar 3) (mCall m_law_draw (mCons (mVar 0) (mCons (mK (.int 5)) mNil)))))) mNop) (mRet (mVar 2))))
end
end Dm
-- text Hw18
namespace Dm
open PySem L2
end Dm
-- text DmUpper
namespace Dm
open PySem L2 PySem.Spec PyProof.Rows
/-! ### text.upper() -/
def gUpper (_ : Sto) : D → Option D
  | .str x => if x.length ≤ 5592405 then some (.str (Txt.upper x)) else none
  | _ => none
section
variable {X : Cx} {W : WX} {e : Expr} {m : ME} {p1 p2 : Pos}
def tUpper (te : TE) : TE := fun σ H Q => te σ H fun v H1 => ∃ a, v = .str a ∧ a.length ≤ 5592405 ∧ Q (.str (Txt.upper a)) H1
theorem pe_upper {te : TE} (he : PE X e te) (hbase : attributeBase e "upper" X.env (eval e X.env) = eval e X.env := by rfl) (hline : (p1.endLine == p2.line) = true := by rfl) : PE X (.Call (.Attribute e "upper" p1) [] [] p2) (tUpper te) := by
  refine ⟨fun pins s σ H Q I h => ?_⟩
  refine J1.ev_upper hbase hline (thn (he.run pins s σ H _ I h) fun v s1 ⟨y, H1, I1, r1, a, ea, hz, q1⟩ => ?_)
  subst ea
  obtain ⟨t, rfl⟩ := r1
  exact ⟨a, t, rfl, hz, fun t' k => ⟨.str _, H1, I1.tok _, ⟨t', rfl⟩, q1⟩⟩
theorem d_upper (h : DE X W e m) (hbase : attributeBase e "upper" X.env (eval e X.env) = eval e X.env := by rfl) (hline : (p1.endLine == p2.line) = true := by rfl) : DE X W (.Call (.Attribute e "upper" p1) [] [] p2) (mUn gUpper m) := by
  obtain ⟨te, pe, k⟩ := h
  refine ⟨_, pe_upper pe hbase hline, fun ξ μ σ H ρ S Q g s h => k ξ μ σ H ρ S _ g s (WR.bind h fun x S1 v μ1 H1 u1 s1 r1 w1 => ?_)⟩
  cases r1 with
  | str a =>
    simp only [gUpper] at w1
    by_cases c : a.length ≤ 5592405
    · rw [if_pos c] at w1
      exact ⟨a, rfl, c, w1 _ μ1 H1 .refl s1 (.str _)⟩
    · rw [if_neg c] at w1; exact w1.elim
  | _ => exact w1.elim
end
end Dm
-- text Hw19
namespace Dm
open PySem L2
noncomputable section
def m_law_bad_chart : List D → Sto → Res D := mDef 3 4 (mSeq (mAsg 3 (mCall (m_law_bend_v2 12) (mCons (mVar 0) (mCons (mVar 2) (mCons (mK (.int 3)) mNil))))) (mSeq (mIfS (mCall m_law_is_chart (mCons (mVar 1) (mCons (mVar 3) mNil))) (mRet (mOp gIx (mFz (mLst (mCons (mFz (mCallBL gList (mCons (mVar 2) mNil))) (mCons (mTup (mCons (mOp gIx (mVar 2) (mK (.int 0))) (mCons (mFz (mCallBL gList (mCons (mOp gIx (mVar 2) (mK (.int 1))) mNil))) mNil))) (mCons (mOp gAdd (mVar 2) (mTup (mCons (mTup mNil) mNil))) (mCons (mTup (mCons (mK (.int 901)) (mCons (mOp gIx (mVar 2) (mK (.int 1))) mNil))) mNil)))))) (mCall m_law_draw (mCons (mVar 0) (mCons (mK (.int 4)) mNil))))) mNop) (mRet (mVar 3))))
def m_law_heard_v2 : List D → Sto → Res D := mDef 2 7 (mSeq (mAsg 2 (mK .non)) (mSeq (mAsg 3 (mK .non)) (mSeq (mTry ["InvalidNumber", "InvalidRule", "InvalidTable", "InvalidZone"] [("HourError", some 4, (mAsg 2 (mVar 4)))] (mIfS (mOp gEq (mVar 0) (mK (.int 0))) (mAsg 3 (mCall m_offset_at (mCons (mOp gIx (mVar 1) (mK (.int 0))) (mCons (mOp gIx (mVar 1) (mK (.int 1))) (mCons (mOp gIx (mVar 1) (mK (.int 2))) mNil))))) (mIfS (mOp gEq (mVar 0) (mK (.int 1))) (mAsg 3 (mCall m_reading_at (mCons (mOp gIx (mVar 1) (mK (.int 0))) (mCons (mOp gIx (mVar 1) (mK (.int 1))) (mCons (mOp gIx (mVar 1) (mK (.int 2))) mNil))))) (mIfS (mOp gEq (mVar 0) (mK (.int 2))) (mAsg 3 (mCall m_moments_of (mCons (mOp gIx (mVar 1) (mK (.int 0))) (mCons (mOp gIx (mVar 1) (mK (.int 1))) (mCons (mOp gIx (mVar 1) (mK (.int 2))) mNil))))) (mIfS (mOp gEq (mVar 0) (mK (.int 3))) (mAsg 3 (mCallD m_find_moment 3 2 [0, 1, 2, 4, 3] [] (mCons (mOp gIx (mVar 1) (mK (.int 0))) (mCons (mOp gIx (mVar 1) (mK (.int 1))) (mCons (mOp gIx (mVar 1) (mK (.int 2))) mNil))) (mCons (mOp gIx (mVar 1) (mK (.int 4))) (mCons (mOp gIx (mVar 1) (mK (.int 3))) mNil)))) (mAsg 3 (mCall m_is_table (mCons (mOp gIx (mVar 1) (mK (.int 0))) (mCons (mOp gIx (mVar 1) (mK (.int 1))) mNil))))))))) (mSeq (mIfS (mOp (gIsN false) (mVar 2) (mK .non)) (mRet (mTup (mCons (mK (.str "told")) (mCons (mVar 3) mNil)))) mNop) (mSeq (mAsg 5 (mNew (mLst (mCons (mUn (gIsX ["InvalidNumber", "InvalidRule", "InvalidTable", "InvalidZone"] "InvalidZone") (mVar 2)) (mCons (mUn (gIsX ["InvalidNumber", "InvalidRule", "InvalidTable", "InvalidZone"] "InvalidTable") (mVar 2)) mNil))))) (mSeq (mAsg 5 (mNew (mCatC (mVar 5) (mLst (mCons (mUn (gIsX ["InvalidNumber", "InvalidRule", "InvalidTable", "InvalidZone"] "InvalidNumber") (mVar 2)) (mCons (mUn (gIsX ["InvalidNumber", "InvalidRule", "InvalidTable", "InvalidZone"] "InvalidRule") (mVar 2)) mNil)))))) (mSeq (mApp (mVar 5) (mUn (gIsX ["InvalidNumber", "InvalidRule", "InvalidTable", "InvalidZone"] "InvalidLooks") (mVar 2))) (mRet (mTup (mCons (mK (.str "raised")) (mCons (mFz (mLc (iRange1 (mCons (mK (.int 5)) mNil)) (tgN 6) (mOp gIx (mVar 5) (mVar 6)) (mVar 6) [6])) mNil)))))))))))
def m_law_answer : List D → Sto → Res D := mDef 2 3 (mSeq (mAsg 2 (mCall m_law_shift_at (mCons (mOp gIx (mVar 1) (mK (.int 1))) (mCons (mOp gIx (mVar 1) (mK (.int 2))) mNil)))) (mSeq (mIfS (mOp gEq (mVar 0) (mK (.int 3))) (mRet (mCall m_law_found (mCons (mOp gIx (mVar 1) (mK (.int 1))) (mCons (mOp gIx (mVar 1) (mK (.int 2))) (mCons (mOp gIx (mVar 1) (mK (.int 3))) (mCons (mOp gIx (mVar 1) (mK (.int 4))) mNil)))))) mNop) (mRet (mOp gIx (mFz (mLst (mCons (mVar 2) (mCons (mOp gAdd (mOp gIx (mVar 1) (mK (.int 2))) (mVar 2)) (mCons (mCall m_law_hours_of (mCons (mOp gIx (mVar 1) (mK (.int 1))) (mCons (mOp gIx (mVar 1) (mK (.int 2))) mNil))) mNil))))) (mVar 0)))))
def m_law_awaited_v2 : List D → Sto → Res D := mDef 4 5 (mSeq (mIfS (mOp gEq (mOp gIx (mVar 2) (mK (.int 0))) (mK (.int 1))) (mRet (mTup (mCons (mK (.str "raised")) (mCons (mFz (mLst (mCons (mK (.int 0)) mNil))) mNil)))) mNop) (mSeq (mIfS (mOp gEq (mVar 0) (mK (.int 4))) (mRet (mTup (mCons (mK (.str "told")) (mCons (mCall m_law_is_chart (mCons (mVar 3) (mCons (mOp gIx (mVar 1) (mK (.int 1))) mNil))) mNil)))) mNop) (mSeq (mFor (iRange1 (mCons (mOp gIx (mFz (mLst (mCons (mK (.int 3)) (mCons (mK (.int 3)) (mCons (mK (.int 3)) (mCons (mK (.int 5)) mNil)))))) (mVar 0)) mNil)) (tgN 4) (mIfS (mOp gEq (mOp gIx (mVar 2) (mVar 4)) (mK (.int 1))) (mRet (mTup (mCons (mK (.str "raised")) (mCons (mFz (mLst (mCons (mCallB gMin2 (mCons (mVar 4) (mCons (mK (.int 3)) mNil))) mNil))) mNil)))) mNop)) (mRet (mTup (mCons (mK (.str "told")) (mCons (mCall m_law_answer (mCons (mVar 0) (mCons (mVar 1) mNil))) mNil)))))))
def m_law_bad_rule : List D → Sto → Res D := mDef 3 4 (mSeq (mAsg 3 (mFz (mLst (mCons (mOp gIx (mVar 2) (mK (.int 0))) (mCons (mOp gIx (mVar 2) (mK (.int 1))) (mCons (mK (.str "")) (mCons (mOp gCatS (mOp gIx (mVar 1) (mK (.int 0))) (mK (.str " "))) (mCons (mK (.str "Early")) (mCons (mK .non) (mCons (mK (.bl true)) (mCons (mK (.int 0)) (mCons (mFz (mLst (mCons (mOp gIx (mVar 1) (mK (.int 0))) mNil))) (mCons (mTup (mCons (mOp gIx (mVar 1) (mK (.int 1))) mNil)) mNil))))))))))))) (mRet (mOp gIx (mFz (mCatV (mVar 3) (mLst (mCons (mUn gUpper (mOp gIx (mVar 1) (mK (.int 1)))) mNil)))) (mCall m_law_draw (mCons (mVar 0) (mCons (mK (.int 11)) mNil))))))
def m_law_k07_errors_of_tables : List D → Sto → Res D := mDef 1 16 (mSeq (mFor (iSeq (mFz (mCatL (mLst (mCons (mK (.int 1000000000000000000000000000000000000305518826671940032271186)) mNil)) (mSlL (mVar 0) mNoPart (mPart (mK (.int 12))))))) (tgN 1) (mSeq (mAsg 2 (mCall m_law_digits (mCons (mVar 1) mNil))) (mSeq (mAsg 3 (mCall m_law_draw (mCons (mVar 2) (mCons (mK (.int 5)) mNil)))) (mSeq (mAsg 4 (mCall m_law_make_region (mCons (mVar 2) mNil))) (mSeq (mAsg 5 (mCall m_law_make_chart (mCons (mVar 2) (mCons (mVar 4) (mCons (mK (.int 9)) mNil))))) (mSeq (mAsg 6 (mCall m_law_draw (mCons (mVar 2) (mCons (mK (.int 3)) mNil)))) (mSeq (mAsg 7 (mCall m_law_draw (mCons (mVar 2) (mCons (mK (.int 3)) mNil)))) (mSeq (mAsg 8 (mFz (mLst (mCons (mK (.str "early")) (mCons (mK (.str "late")) (mCons (mK (.str "refuse")) mNil)))))) (mSeq (mAsg 9 (mFz (mLst (mCons (mK (.str "ahead")) (mCons (mK (.str "behind")) (mCons (mK (.str "refuse")) mNil)))))) (mSeq (mAsg 10 (mFz (mLst (mCons (mVar 4) (mCons (mVar 5) (mCons (mCall m_law_near (mCons (mVar 2) (mCons (mVar 4) (mCons (mVar 5) mNil)))) (mCons (mOp gIx (mVar 8) (mVar 6)) (mCons (mOp gIx (mVar 9) (mVar 7)) mNil)))))))) (mSeq (mAsg 11 (mNew (mLst (mCons (mCall m_law_bad_region (mCons (mVar 2) (mCons (mVar 4) mNil))) (mCons (mCall m_law_bad_chart (mCons (mVar 2) (mCons (mVar 4) (mCons (mVar 5) mNil)))) mNil))))) (mSeq (mAsg 11 (mNew (mCatC (mVar 11) (mLst (mCons (mCall m_law_strange_number (mCons (mVar 2) mNil)) (mCons (mCall m_law_bad_rule (mCons (mVar 2) (mCons (mVar 8) (mCons (mVar 9) mNil)))) mNil)))))) (mSeq (mApp (mVar 11) (mCall m_law_bad_rule (mCons (mVar 2) (mCons (mVar 9) (mCons (mVar 8) mNil))))) (mSeq (mAsg 12 (mNew (mLc (iRange1 (mCons (mK (.int 5)) mNil)) (tgN 13) mYes (mOp gFdiv (mCall m_law_draw (mCons (mVar 2) (mCons (mK (.int 3)) mNil))) (mK (.int 2))) [13]))) (mFor (iRange1 (mCons (mK (.int 3)) mNil)) (tgN 13) (mSeq (mAsg 14 (mFz (mLc (iRange1 (mCons (mK (.int 5)) mNil)) (tgN 15) mYes (mOp gIx (mFz (mLst (mCons (mOp gIx (mVar 10) (mVar 15)) (mCons (mOp gIx (mVar 11) (mVar 15)) mNil)))) (mOp gIx (mVar 12) (mVar 15))) [15]))) (mSeq (mIfS (mNot (mCall (m_law_same 30) (mCons (mCall m_law_heard_v2 (mCons (mVar 3) (mCons (mVar 14) mNil))) (mCons (mCall m_law_awaited_v2 (mCons (mVar 3) (mCons (mVar 14) (mCons (mVar 12) (mCons (mVar 4) mNil))))) mNil)))) (mRet (mK (.bl false))) mNop) (mSetIx (mK (.int 0)) (mVar 12) (mVar 13))))))))))))))))))) (mRet (mK (.bl true))))
end
end Dm
-- text V_k07
namespace V
open PySem L2 PySem.Spec PyProof.Rows Dm
open PySem.W (Frag)
theorem rvR {a : Addr} : L2.RelV (.ref a) (.ref a) := rfl
theorem rvS {x : Str} {t : Tok} : L2.RelV (.str x) (.str x t) := ⟨t, rfl⟩
def top (i : Nat) : Stmt := PySem.Challenge.pw_hoursmeant_k07_errors_of_tables.main.body.getD i (.Pass ⟨0, 0, 0, 0⟩)
theorem kit_plain {K : PySem.W.Frag} {D : Addr} {x : String} (hx : PySem.W.kitMeta x = true) (h : PySem.W.mroIn K D (.type x) = some false) : PySem.W.kitOne K (.ref D) (.type x) = some false := by
  unfold PySem.W.kitOne PySem.W.kitCls
  have e : ((Value.ref D) == (Value.type x)) = false := rfl
  rw [e, if_neg Bool.false_ne_true]
  simp only
  rw [if_pos hx]
  exact h
theorem kit_self {K : PySem.W.Frag} {C : Addr} : PySem.W.kitOne K (.ref C) (.ref C) = some true := by
  unfold PySem.W.kitOne
  rw [if_pos (beq_self_eq_true (Value.ref C))]
theorem kit_own {K : PySem.W.Frag} {D C : Addr} {b : Bool} (hd : PySem.W.hasDictIn K C = true) (ht : PySem.W.typeIn K (.ref C) = some (.type "type")) (hr : PySem.W.subIn K (.ref C) (.ref C) = some true) (h : PySem.W.subIn K (.ref D) (.ref C) = some b) : PySem.W.kitOne K (.ref D) (.ref C) = some b := by
  unfold PySem.W.kitOne PySem.W.kitCls
  by_cases e : ((Value.ref D) == (Value.ref C)) = true
  · rw [if_pos e]
    have e2 : Value.ref D = Value.ref C := eq_of_beq e
    rw [e2, hr] at h
    exact h
  · rw [if_neg e]
    simp only
    obtain ⟨cd, hc, _⟩ := PySem.W.any_some hd
    rw [if_pos (by rw [hc, ht]; rfl)]
    exact h
structure Txt (K : Frag) (mg : Str → Option Value) : Prop where
  n_all : mg "all" = none
  n_bool : mg "bool" = none
  n_enumerate : mg "enumerate" = none
  n_int : mg "int" = none
  n_isinstance : mg "isinstance" = none
  n_len : mg "len" = none
  n_list : mg "list" = none
  n_max : mg "max" = none
  n_min : mg "min" = none
  n_range : mg "range" = none
  n_str : mg "str" = none
  n_tuple : mg "tuple" = none
  v_FOLDS : GlK K mg "FOLDS" (.tup [(.str "early"), (.str "late"), (.str "refuse")])
  v_GAPS : GlK K mg "GAPS" (.tup [(.str "ahead"), (.str "behind"), (.str "refuse")])
  v_MOST_OFFSET : ∃ t, mg "MOST_OFFSET" = some (.int (900) t)
  v_MOST_SPACING : ∃ t, mg "MOST_SPACING" = some (.int (1000000) t)
  x_InvalidNumber : XcOk K mg "InvalidNumber"
  x_InvalidRule : XcOk K mg "InvalidRule"
  x_InvalidTable : XcOk K mg "InvalidTable"
  x_InvalidZone : XcOk K mg "InvalidZone"
  i_InvalidLooks : IsOk K mg ["InvalidNumber", "InvalidRule", "InvalidTable", "InvalidZone"] "InvalidLooks"
  i_InvalidNumber : IsOk K mg ["InvalidNumber", "InvalidRule", "InvalidTable", "InvalidZone"] "InvalidNumber"
  i_InvalidRule : IsOk K mg ["InvalidNumber", "InvalidRule", "InvalidTable", "InvalidZone"] "InvalidRule"
  i_InvalidTable : IsOk K mg ["InvalidNumber", "InvalidRule", "InvalidTable", "InvalidZone"] "InvalidTable"
  i_InvalidZone : IsOk K mg ["InvalidNumber", "InvalidRule", "InvalidTable", "InvalidZone"] "InvalidZone"
  p__Cd7 : PlOk K mg ["Crowded"]
  p__IrIeIeIe47 : PlOk K mg ["InvalidNumber", "InvalidRule", "InvalidTable", "InvalidZone"]
  p__Ie11 : PlOk K mg ["InvalidZone"]
  t_HourError_IrIeIeIe47 : TrOk K mg ["InvalidNumber", "InvalidRule", "InvalidTable", "InvalidZone"] "HourError"
section
variable {P : Program} {w : World} {K : Frag} {mg : Str → Option Value} {base : Heap}
theorem Txt.c_FOLDS (T : Txt K mg) {X : Cx} (hK : X.K = K := by rfl) (h : X.mg = mg := by rfl) : GlD X "FOLDS" (.tup [(.str "early"), (.str "late"), (.str "refuse")]) := T.v_FOLDS.glD hK h
theorem Txt.c_GAPS (T : Txt K mg) {X : Cx} (hK : X.K = K := by rfl) (h : X.mg = mg := by rfl) : GlD X "GAPS" (.tup [(.str "ahead"), (.str "behind"), (.str "refuse")]) := T.v_GAPS.glD hK h
theorem Txt.c_MOST_OFFSET (T : Txt K mg) {X : Cx} (h : X.mg = mg := by rfl) : GlD X "MOST_OFFSET" (.int 900) := by
  obtain ⟨t, e⟩ := T.v_MOST_OFFSET
  exact ⟨_, .int _, by rw [h]; exact e, ⟨t, rfl⟩, fun _ _ _ => .int _⟩
theorem Txt.c_MOST_SPACING (T : Txt K mg) {X : Cx} (h : X.mg = mg := by rfl) : GlD X "MOST_SPACING" (.int 1000000) := by
  obtain ⟨t, e⟩ := T.v_MOST_SPACING
  exact ⟨_, .int _, by rw [h]; exact e, ⟨t, rfl⟩, fun _ _ _ => .int _⟩
abbrev s_is_integer : Stmt := top 13
theorem sc_is_integer : FnScope ["value"] ["value"] (defScope s_is_integer) := ⟨rfl, rfl, rfl, by decide +kernel, rfl, by decide +kernel, by decide +kernel⟩
theorem fn_is_integer (T : Txt K mg) {f : Addr} {fd : FuncData} (hm : mg "is_integer" = some (.ref f)) (F : Fun K "is_integer" "is_integer" s_is_integer f fd) : FnD P w K mg base 1 "is_integer" s_is_integer ["value"] m_is_integer := by
  refine fnd_mk (np := 1) (nN := 1) (k := 0) hm F (F.binds fun _ _ _ _ _ _ us hl => match us, hl with | [_], _ => rfl) sc_is_integer rfl rfl fun cdv A outer s H E hr => ?_
  have tk : Takes (cxOf (L2.CX P w) P w K mg base ["value"] "is_integer" (defScope s_is_integer) f cdv A outer s H E) (fun cls d _ H => E cls d H) := takes_of rfl rfl rfl rfl
  exact (dss_one (ds_ret (d_and (d_isi .int (d_var 0) T.n_isinstance T.n_int) (d_one (d_not (d_isi .bl (d_var 0) T.n_isinstance T.n_bool))))))
abbrev s_is_zone : Stmt := top 14
theorem sc_is_zone : FnScope ["value", "offsets", "spacing", "offset", "k"] ["value"] (defScope s_is_zone) := ⟨rfl, rfl, rfl, by decide +kernel, rfl, by decide +kernel, by decide +kernel⟩
theorem fn_is_zone (T : Txt K mg) {f : Addr} {fd : FuncData} (hm : mg "is_zone" = some (.ref f)) (F : Fun K "is_zone" "is_zone" s_is_zone f fd) (G_is_integer : FnD P w K mg base 1 "is_integer" s_is_integer ["value"] m_is_integer) : FnD P w K mg base 2 "is_zone" s_is_zone ["value"] m_is_zone := by
  refine fnd_mk (np := 1) (nN := 5) (k := 1) hm F (F.binds fun _ _ _ _ _ _ us hl => match us, hl with | [_], _ => rfl) sc_is_zone rfl rfl fun cdv A outer s H E hr => ?_
  have tk : Takes (cxOf (L2.CX P w) P w K mg base ["value", "offsets", "spacing", "offset", "k"] "is_zone" (defScope s_is_zone) f cdv A outer s H E) (fun cls d _ H => E cls d H) := takes_of rfl rfl rfl rfl
  exact (dss_cons (ds_if (DT.w (dw_or (dt_not (dt_val (d_isi .tup (d_var 0) T.n_isinstance T.n_tuple))) (dw_or1 (dt_cmp (op_neA hr.units) o_ne (d_callB call_len c_len T.n_len (da_cons (d_var 0) da_nil)) d_int)))) (dss_one (ds_ret d_bl)) dss_nil) (dss_cons (ds_asg (d_var 0) (dg_tup rfl (dgs_cons (dg_name 1 sc_is_zone.nd) (dgs_cons (dg_name 2 sc_is_zone.nd) dgs_nil)))) (dss_cons (ds_if (DT.w (dw_or (dt_not (dt_val (d_isi .tup (d_var 1) T.n_isinstance T.n_tuple))) (dw_or1 (dt_not (dt_chain op_le op_le o_le o_le d_int (d_callB call_len c_len T.n_len (da_cons (d_var 1) da_nil)) d_int))))) (dss_one (ds_ret d_bl)) dss_nil) (dss_cons (ds_for (passes_of rfl) rfl (di_seq (d_var 1)) (dg_name 3 sc_is_zone.nd) (dss_one (ds_if (DT.w (dw_or (dt_not (dt_val (d_call G_is_integer hr tk (da_cons (d_var 3) da_nil)))) (dw_or1 (dt_not (dt_chain op_le op_le o_le o_le (d_un un_neg o_neg (d_glob rfl (T.c_MOST_OFFSET))) (d_var 3) (d_glob rfl (T.c_MOST_OFFSET))))))) (dss_one (ds_ret d_bl)) dss_nil))) (dss_cons (ds_for (passes_of rfl) rfl (di_range2 (da_cons d_int (da_cons (d_callB call_len c_len T.n_len (da_cons (d_var 1) da_nil)) da_nil)) T.n_range) (dg_name 4 sc_is_zone.nd) (dss_one (ds_if (dt_cmp op_le o_le (d_ix ix_seq o_ix (d_var 1) (d_var 4)) (d_ix ix_seq o_ix (d_var 1) (d_op op_sub o_sub (d_var 4) d_int))) (dss_one (ds_ret d_bl)) dss_nil))) (dss_one (ds_ret (d_and (d_call G_is_integer hr tk (da_cons (d_var 2) da_nil)) (d_one (d_chain op_lt op_le o_lt o_le (d_op op_sub o_sub (d_ix ix_seq o_ix (d_var 1) (d_fold (d := .int (-1)) (d_un un_neg o_neg d_int) (fun _ _ => rfl))) (d_ix ix_seq o_ix (d_var 1) d_int)) (d_var 2) (d_glob rfl (T.c_MOST_SPACING))))))))))))
abbrev s_need_zone : Stmt := top 15
theorem sc_need_zone : FnScope ["zone"] ["zone"] (defScope s_need_zone) := ⟨rfl, rfl, rfl, by decide +kernel, rfl, by decide +kernel, by decide +kernel⟩
theorem fn_need_zone (T : Txt K mg) {f : Addr} {fd : FuncData} (hm : mg "need_zone" = some (.ref f)) (F : Fun K "need_zone" "need_zone" s_need_zone f fd) (G_is_zone : FnD P w K mg base 2 "is_zone" s_is_zone ["value"] m_is_zone) : FnD P w K mg base 3 "need_zone" s_need_zone ["zone"] m_need_zone := by
  refine fnd_mk (np := 1) (nN := 1) (k := 2) hm F (F.binds fun _ _ _ _ _ _ us hl => match us, hl with | [_], _ => rfl) sc_need_zone rfl rfl fun cdv A outer s H E hr => ?_
  have tk : Takes (cxOf (L2.CX P w) P w K mg base ["zone"] "need_zone" (defScope s_need_zone) f cdv A outer s H E) (fun cls d _ H => E cls d H) := takes_of rfl rfl rfl rfl
  exact (dss_one (ds_if (dt_not (dt_val (d_call G_is_zone hr tk (da_cons (d_var 0) da_nil)))) (dss_one (ds_raise T.x_InvalidZone rfl tk)) dss_nil))
abbrev s_need_number : Stmt := top 16
theorem sc_need_number : FnScope ["number"] ["number"] (defScope s_need_number) := ⟨rfl, rfl, rfl, by decide +kernel, rfl, by decide +kernel, by decide +kernel⟩
theorem fn_need_number (T : Txt K mg) {f : Addr} {fd : FuncData} (hm : mg "need_number" = some (.ref f)) (F : Fun K "need_number" "need_number" s_need_number f fd) (G_is_integer : FnD P w K mg base 1 "is_integer" s_is_integer ["value"] m_is_integer) : FnD P w K mg base 2 "need_number" s_need_number ["number"] m_need_number := by
  refine fnd_mk (np := 1) (nN := 1) (k := 1) hm F (F.binds fun _ _ _ _ _ _ us hl => match us, hl with | [_], _ => rfl) sc_need_number rfl rfl fun cdv A outer s H E hr => ?_
  have tk : Takes (cxOf (L2.CX P w) P w K mg base ["number"] "need_number" (defScope s_need_number) f cdv A outer s H E) (fun cls d _ H => E cls d H) := takes_of rfl rfl rfl rfl
  exact (dss_one (ds_if (dt_not (dt_val (d_call G_is_integer hr tk (da_cons (d_var 0) da_nil)))) (dss_one (ds_raise T.x_InvalidNumber rfl tk)) dss_nil))
abbrev s_is_offset : Stmt := top 17
theorem sc_is_offset : FnScope ["zone", "value"] ["zone", "value"] (defScope s_is_offset) := ⟨rfl, rfl, rfl, by decide +kernel, rfl, by decide +kernel, by decide +kernel⟩
theorem fn_is_offset (T : Txt K mg) {f : Addr} {fd : FuncData} (hm : mg "is_offset" = some (.ref f)) (F : Fun K "is_offset" "is_offset" s_is_offset f fd) (G_is_integer : FnD P w K mg base 1 "is_integer" s_is_integer ["value"] m_is_integer) : FnD P w K mg base 2 "is_offset" s_is_offset ["zone", "value"] m_is_offset := by
  refine fnd_mk (np := 2) (nN := 2) (k := 1) hm F (F.binds fun _ _ _ _ _ _ us hl => match us, hl with | [_, _], _ => rfl) sc_is_offset rfl rfl fun cdv A outer s H E hr => ?_
  have tk : Takes (cxOf (L2.CX P w) P w K mg base ["zone", "value"] "is_offset" (defScope s_is_offset) f cdv A outer s H E) (fun cls d _ H => E cls d H) := takes_of rfl rfl rfl rfl
  exact (dss_one (ds_ret (d_and (d_call G_is_integer hr tk (da_cons (d_var 1) da_nil)) (d_one (d_cmp op_in_seq o_in (d_var 1) (d_ix ix_seq o_ix (d_var 0) d_int) (by rfl))))))
abbrev s_need_rules : Stmt := top 18
theorem sc_need_rules : FnScope ["fold", "gap"] ["fold", "gap"] (defScope s_need_rules) := ⟨rfl, rfl, rfl, by decide +kernel, rfl, by decide +kernel, by decide +kernel⟩
theorem fn_need_rules (T : Txt K mg) {f : Addr} {fd : FuncData} (hm : mg "need_rules" = some (.ref f)) (F : Fun K "need_rules" "need_rules" s_need_rules f fd) : FnD P w K mg base 1 "need_rules" s_need_rules ["fold", "gap"] m_need_rules := by
  refine fnd_mk (np := 2) (nN := 2) (k := 0) hm F (F.binds fun _ _ _ _ _ _ us hl => match us, hl with | [_, _], _ => rfl) sc_need_rules rfl rfl fun cdv A outer s H E hr => ?_
  have tk : Takes (cxOf (L2.CX P w) P w K mg base ["fold", "gap"] "need_rules" (defScope s_need_rules) f cdv A outer s H E) (fun cls d _ H => E cls d H) := takes_of rfl rfl rfl rfl
  exact (dss_cons (ds_if (DT.w (dw_or (dt_not (dt_val (d_isi .str (d_var 0) T.n_isinstance T.n_str))) (dw_or1 (dt_cmp op_notIn_seq o_in (d_var 0) (d_glob rfl (T.c_FOLDS)) (by rfl))))) (dss_one (ds_raise T.x_InvalidRule rfl tk)) dss_nil) (dss_one (ds_if (DT.w (dw_or (dt_not (dt_val (d_isi .str (d_var 1) T.n_isinstance T.n_str))) (dw_or1 (dt_cmp op_notIn_seq o_in (d_var 1) (d_glob rfl (T.c_GAPS)) (by rfl))))) (dss_one (ds_raise T.x_InvalidRule rfl tk)) dss_nil)))
abbrev s_is_mark : Stmt := top 19
theorem sc_is_mark : FnScope ["zone", "value"] ["zone", "value"] (defScope s_is_mark) := ⟨rfl, rfl, rfl, by decide +kernel, rfl, by decide +kernel, by decide +kernel⟩
theorem fn_is_mark (T : Txt K mg) {f : Addr} {fd : FuncData} (hm : mg "is_mark" = some (.ref f)) (F : Fun K "is_mark" "is_mark" s_is_mark f fd) (G_is_integer : FnD P w K mg base 1 "is_integer" s_is_integer ["value"] m_is_integer) (G_is_offset : FnD P w K mg base 2 "is_offset" s_is_offset ["zone", "value"] m_is_offset) : FnD P w K mg base 3 "is_mark" s_is_mark ["zone", "value"] m_is_mark := by
  refine fnd_mk (np := 2) (nN := 2) (k := 2) hm F (F.binds fun _ _ _ _ _ _ us hl => match us, hl with | [_, _], _ => rfl) sc_is_mark rfl rfl fun cdv A outer s H E hr => ?_
  have tk : Takes (cxOf (L2.CX P w) P w K mg base ["zone", "value"] "is_mark" (defScope s_is_mark) f cdv A outer s H E) (fun cls d _ H => E cls d H) := takes_of rfl rfl rfl rfl
  exact (dss_one (ds_ret (d_and (d_isi .tup (d_var 1) T.n_isinstance T.n_tuple) (d_and (d_cmp (op_eqA hr.units) o_eq (d_callB call_len c_len T.n_len (da_cons (d_var 1) da_nil)) d_int) (d_and (d_call G_is_integer hr tk (da_cons (d_ix ix_seq o_ix (d_var 1) d_int) da_nil)) (d_one (d_call G_is_offset hr tk (da_cons (d_var 0) (da_cons (d_ix ix_seq o_ix (d_var 1) d_int) da_nil)))))))))
abbrev s_is_table : Stmt := top 20
theorem sc_is_table : FnScope ["zone", "value", "held", "jumps", "k", "jump"] ["zone", "value"] (defScope s_is_table) := ⟨rfl, rfl, rfl, by decide +kernel, rfl, by decide +kernel, by decide +kernel⟩
theorem fn_is_table (T : Txt K mg) {f : Addr} {fd : FuncData} (hm : mg "is_table" = some (.ref f)) (F : Fun K "is_table" "is_table" s_is_table f fd) (G_is_mark : FnD P w K mg base 3 "is_mark" s_is_mark ["zone", "value"] m_is_mark) (G_is_offset : FnD P w K mg base 2 "is_offset" s_is_offset ["zone", "value"] m_is_offset) (G_need_zone : FnD P w K mg base 3 "need_zone" s_need_zone ["zone"] m_need_zone) : FnD P w K mg base 4 "is_table" s_is_table ["zone", "value"] m_is_table := by
  refine fnd_mk (np := 2) (nN := 6) (k := 3) hm F (F.binds fun _ _ _ _ _ _ us hl => match us, hl with | [_, _], _ => rfl) sc_is_table rfl rfl fun cdv A outer s H E hr => ?_
  have tk : Takes (cxOf (L2.CX P w) P w K mg base ["zone", "value", "held", "jumps", "k", "jump"] "is_table" (defScope s_is_table) f cdv A outer s H E) (fun cls d _ H => E cls d H) := takes_of rfl rfl rfl rfl
  exact (dss_cons (ds_expr (d_call G_need_zone hr tk (da_cons (d_var 0) da_nil))) (dss_cons (ds_if (DT.w (dw_or (dt_not (dt_val (d_isi .tup (d_var 1) T.n_isinstance T.n_tuple))) (dw_or (dt_cmp (op_neA hr.units) o_ne (d_callB call_len c_len T.n_len (da_cons (d_var 1) da_nil)) d_int) (dw_or1 (dt_not (dt_val (d_call G_is_offset hr tk (da_cons (d_var 0) (da_cons (d_ix ix_seq o_ix (d_var 1) d_int) da_nil))))))))) (dss_one (ds_ret d_bl)) dss_nil) (dss_cons (ds_asg (d_var 1) (dg_tup rfl (dgs_cons (dg_name 2 sc_is_table.nd) (dgs_cons (dg_name 3 sc_is_table.nd) dgs_nil)))) (dss_cons (ds_if (dt_not (dt_val (d_isi .tup (d_var 3) T.n_isinstance T.n_tuple))) (dss_one (ds_ret d_bl)) dss_nil) (dss_cons (ds_for (passes_of rfl) rfl (di_enum (d_var 3) T.n_enumerate) (dg_tup rfl (dgs_cons (dg_name 4 sc_is_table.nd) (dgs_cons (dg_name 5 sc_is_table.nd) dgs_nil))) (dss_cons (ds_if (DT.w (dw_or (dt_not (dt_val (d_call G_is_mark hr tk (da_cons (d_var 0) (da_cons (d_var 5) da_nil))))) (dw_or1 (dt_cmp (op_eqA hr.units) o_eq (d_ix ix_seq o_ix (d_var 5) d_int) (d_var 2))))) (dss_one (ds_ret d_bl)) dss_nil) (dss_cons (ds_if (DT.w (dw_and (dt_cmp op_gt o_gt (d_var 4) d_int) (dw_and1 (dt_cmp op_lt o_lt (d_op op_sub o_sub (d_ix ix_seq o_ix (d_var 5) d_int) (d_ix ix_seq o_ix (d_ix ix_seq o_ix (d_var 3) (d_op op_sub o_sub (d_var 4) d_int)) d_int)) (d_ix ix_seq o_ix (d_var 0) d_int))))) (dss_one (ds_ret d_bl)) dss_nil) (dss_one (ds_set 2 sc_is_table.nd (d_ix ix_seq o_ix (d_var 5) d_int)))))) (dss_one (ds_ret d_bl)))))))
abbrev s_need_table : Stmt := top 21
theorem sc_need_table : FnScope ["zone", "table"] ["zone", "table"] (defScope s_need_table) := ⟨rfl, rfl, rfl, by decide +kernel, rfl, by decide +kernel, by decide +kernel⟩
theorem fn_need_table (T : Txt K mg) {f : Addr} {fd : FuncData} (hm : mg "need_table" = some (.ref f)) (F : Fun K "need_table" "need_table" s_need_table f fd) (G_is_table : FnD P w K mg base 4 "is_table" s_is_table ["zone", "value"] m_is_table) : FnD P w K mg base 5 "need_table" s_need_table ["zone", "table"] m_need_table := by
  refine fnd_mk (np := 2) (nN := 2) (k := 4) hm F (F.binds fun _ _ _ _ _ _ us hl => match us, hl with | [_, _], _ => rfl) sc_need_table rfl rfl fun cdv A outer s H E hr => ?_
  have tk : Takes (cxOf (L2.CX P w) P w K mg base ["zone", "table"] "need_table" (defScope s_need_table) f cdv A outer s H E) (fun cls d _ H => E cls d H) := takes_of rfl rfl rfl rfl
  exact (dss_one (ds_if (dt_not (dt_val (d_call G_is_table hr tk (da_cons (d_var 0) (da_cons (d_var 1) da_nil))))) (dss_one (ds_raise T.x_InvalidTable rfl tk)) dss_nil))
abbrev s_offset_in : Stmt := top 22
theorem sc_offset_in : FnScope ["table", "moment", "held", "at", "offset"] ["table", "moment"] (defScope s_offset_in) := ⟨rfl, rfl, rfl, by decide +kernel, rfl, by decide +kernel, by decide +kernel⟩
theorem fn_offset_in (T : Txt K mg) {f : Addr} {fd : FuncData} (hm : mg "offset_in" = some (.ref f)) (F : Fun K "offset_in" "offset_in" s_offset_in f fd) : FnD P w K mg base 1 "offset_in" s_offset_in ["table", "moment"] m_offset_in := by
  refine fnd_mk (np := 2) (nN := 5) (k := 0) hm F (F.binds fun _ _ _ _ _ _ us hl => match us, hl with | [_, _], _ => rfl) sc_offset_in rfl rfl fun cdv A outer s H E hr => ?_
  have tk : Takes (cxOf (L2.CX P w) P w K mg base ["table", "moment", "held", "at", "offset"] "offset_in" (defScope s_offset_in) f cdv A outer s H E) (fun cls d _ H => E cls d H) := takes_of rfl rfl rfl rfl
  exact (dss_cons (ds_set 2 sc_offset_in.nd (d_ix ix_seq o_ix (d_var 0) d_int)) (dss_cons (ds_for (passes_of rfl) rfl (di_seq (d_ix ix_seq o_ix (d_var 0) d_int)) (dg_tup rfl (dgs_cons (dg_name 3 sc_offset_in.nd) (dgs_cons (dg_name 4 sc_offset_in.nd) dgs_nil))) (dss_cons (ds_if (dt_cmp op_gt o_gt (d_var 3) (d_var 1)) (dss_one ds_break) dss_nil) (dss_one (ds_set 2 sc_offset_in.nd (d_var 4))))) (dss_one (ds_ret (d_var 2)))))
abbrev s_offset_at : Stmt := top 23
theorem sc_offset_at : FnScope ["zone", "table", "moment"] ["zone", "table", "moment"] (defScope s_offset_at) := ⟨rfl, rfl, rfl, by decide +kernel, rfl, by decide +kernel, by decide +kernel⟩
theorem fn_offset_at (T : Txt K mg) {f : Addr} {fd : FuncData} (hm : mg "offset_at" = some (.ref f)) (F : Fun K "offset_at" "offset_at" s_offset_at f fd) (G_offset_in : FnD P w K mg base 1 "offset_in" s_offset_in ["table", "moment"] m_offset_in) (G_need_number : FnD P w K mg base 2 "need_number" s_need_number ["number"] m_need_number) (G_need_table : FnD P w K mg base 5 "need_table" s_need_table ["zone", "table"] m_need_table) (G_need_zone : FnD P w K mg base 3 "need_zone" s_need_zone ["zone"] m_need_zone) : FnD P w K mg base 6 "offset_at" s_offset_at ["zone", "table", "moment"] m_offset_at := by
  refine fnd_mk (np := 3) (nN := 3) (k := 5) hm F (F.binds fun _ _ _ _ _ _ us hl => match us, hl with | [_, _, _], _ => rfl) sc_offset_at rfl rfl fun cdv A outer s H E hr => ?_
  have tk : Takes (cxOf (L2.CX P w) P w K mg base ["zone", "table", "moment"] "offset_at" (defScope s_offset_at) f cdv A outer s H E) (fun cls d _ H => E cls d H) := takes_of rfl rfl rfl rfl
  exact (dss_cons (ds_expr (d_call G_need_zone hr tk (da_cons (d_var 0) da_nil))) (dss_cons (ds_expr (d_call G_need_table hr tk (da_cons (d_var 0) (da_cons (d_var 1) da_nil)))) (dss_cons (ds_expr (d_call G_need_number hr tk (da_cons (d_var 2) da_nil))) (dss_one (ds_ret (d_call G_offset_in hr tk (da_cons (d_var 1) (da_cons (d_var 2) da_nil))))))))
abbrev s_reading_at : Stmt := top 24
theorem sc_reading_at : FnScope ["zone", "table", "moment"] ["zone", "table", "moment"] (defScope s_reading_at) := ⟨rfl, rfl, rfl, by decide +kernel, rfl, by decide +kernel, by decide +kernel⟩
theorem fn_reading_at (T : Txt K mg) {f : Addr} {fd : FuncData} (hm : mg "reading_at" = some (.ref f)) (F : Fun K "reading_at" "reading_at" s_reading_at f fd) (G_offset_at : FnD P w K mg base 6 "offset_at" s_offset_at ["zone", "table", "moment"] m_offset_at) : FnD P w K mg base 7 "reading_at" s_reading_at ["zone", "table", "moment"] m_reading_at := by
  refine fnd_mk (np := 3) (nN := 3) (k := 6) hm F (F.binds fun _ _ _ _ _ _ us hl => match us, hl with | [_, _, _], _ => rfl) sc_reading_at rfl rfl fun cdv A outer s H E hr => ?_
  have tk : Takes (cxOf (L2.CX P w) P w K mg base ["zone", "table", "moment"] "reading_at" (defScope s_reading_at) f cdv A outer s H E) (fun cls d _ H => E cls d H) := takes_of rfl rfl rfl rfl
  exact (dss_one (ds_ret (d_op op_addD o_add (d_var 2) (d_call G_offset_at hr tk (da_cons (d_var 0) (da_cons (d_var 1) (da_cons (d_var 2) da_nil)))))))
abbrev s_moments_of : Stmt := top 25
theorem sc_moments_of : FnScope ["zone", "table", "reading", "offset"] ["zone", "table", "reading"] (defScope s_moments_of) := ⟨rfl, rfl, rfl, by decide +kernel, rfl, by decide +kernel, by decide +kernel⟩
theorem fn_moments_of (T : Txt K mg) {f : Addr} {fd : FuncData} (hm : mg "moments_of" = some (.ref f)) (F : Fun K "moments_of" "moments_of" s_moments_of f fd) (G_offset_in : FnD P w K mg base 1 "offset_in" s_offset_in ["table", "moment"] m_offset_in) (G_need_number : FnD P w K mg base 2 "need_number" s_need_number ["number"] m_need_number) (G_need_table : FnD P w K mg base 5 "need_table" s_need_table ["zone", "table"] m_need_table) (G_need_zone : FnD P w K mg base 3 "need_zone" s_need_zone ["zone"] m_need_zone) : FnD P w K mg base 6 "moments_of" s_moments_of ["zone", "table", "reading"] m_moments_of := by
  refine fnd_mk (np := 3) (nN := 4) (k := 5) hm F (F.binds fun _ _ _ _ _ _ us hl => match us, hl with | [_, _, _], _ => rfl) sc_moments_of rfl rfl fun cdv A outer s H E hr => ?_
  have tk : Takes (cxOf (L2.CX P w) P w K mg base ["zone", "table", "reading", "offset"] "moments_of" (defScope s_moments_of) f cdv A outer s H E) (fun cls d _ H => E cls d H) := takes_of rfl rfl rfl rfl
  exact (dss_cons (ds_expr (d_call G_need_zone hr tk (da_cons (d_var 0) da_nil))) (dss_cons (ds_expr (d_call G_need_table hr tk (da_cons (d_var 0) (da_cons (d_var 1) da_nil)))) (dss_cons (ds_expr (d_call G_need_number hr tk (da_cons (d_var 2) da_nil))) (dss_one (ds_ret (d_new (dl_lc (own := [("offset", 3)]) rfl sc_moments_of.nd (di_seq (d_back (d_ix ix_seq o_ix (d_var 0) d_int))) (blkOk_by (own := [("offset", 3)]) (N := ["zone", "table", "reading", "offset"]) (sc := defScope s_moments_of) (by decide +kernel)) (fun _ _ _ _ _ => (dg_name 3 sc_moments_of.nd)) (fun _ _ _ _ _ => (dts_one (dt_cmp (op_eqA hr.units) o_eq (d_call G_offset_in hr takes0 (da_cons (d_var 1) (da_cons (d_op op_sub o_sub (d_var 2) (d_var 3)) da_nil))) (d_var 3)))) (fun _ _ _ _ _ => (d_op op_sub o_sub (d_var 2) (d_var 3))))))))))
abbrev s_found_by : Stmt := top 26
theorem sc_found_by : FnScope ["offsets", "held", "reading", "fold", "gap", "moments", "offset"] ["offsets", "held", "reading", "fold", "gap"] (defScope s_found_by) := ⟨rfl, rfl, rfl, by decide +kernel, rfl, by decide +kernel, by decide +kernel⟩
theorem fn_found_by (T : Txt K mg) {f : Addr} {fd : FuncData} (hm : mg "found_by" = some (.ref f)) (F : Fun K "found_by" "found_by" s_found_by f fd) : FnD P w K mg base 1 "found_by" s_found_by ["offsets", "held", "reading", "fold", "gap"] m_found_by := by
  refine fnd_mk (np := 5) (nN := 7) (k := 0) hm F (F.binds fun _ _ _ _ _ _ us hl => match us, hl with | [_, _, _, _, _], _ => rfl) sc_found_by rfl rfl fun cdv A outer s H E hr => ?_
  have tk : Takes (cxOf (L2.CX P w) P w K mg base ["offsets", "held", "reading", "fold", "gap", "moments", "offset"] "found_by" (defScope s_found_by) f cdv A outer s H E) (fun cls d _ H => E cls d H) := takes_of rfl rfl rfl rfl
  exact (dss_cons (ds_setLcA (mw := mFz) 5 (own := [("offset", 6)]) (rd_fz) rfl sc_found_by.nd (d_back (d_var 0)) (blkOk_by (own := [("offset", 6)]) (N := ["offsets", "held", "reading", "fold", "gap", "moments", "offset"]) (sc := defScope s_found_by) (by decide +kernel)) (fun _ _ _ _ _ => (dg_name 6 sc_found_by.nd)) (fun _ _ _ _ _ => (dts_one (dt_cmp (op_eqA hr.units) o_eq (d_dix hr.units (d_var 1) (d_op op_sub o_sub (d_var 2) (d_var 6))) (d_var 6)))) (fun _ _ _ _ _ => (d_op op_sub o_sub (d_var 2) (d_var 6)))) (dss_cons (ds_if (dt_cmp (op_eqA hr.units) o_eq (d_callB call_len c_len T.n_len (da_cons (d_var 5) da_nil)) d_int) (dss_one (ds_ret (d_ix ix_seq o_ix (d_var 5) d_int))) dss_nil) (dss_cons (ds_if (dt_cmp (op_eqA hr.units) o_eq (d_callB call_len c_len T.n_len (da_cons (d_var 5) da_nil)) d_int) (dss_cons (ds_if (dt_cmp (op_eqA hr.units) o_eq (d_var 3) d_str) (dss_one (ds_ret d_non)) dss_nil) (dss_one (ds_ret (d_ifExp (dt_cmp (op_eqA hr.units) o_eq (d_var 3) d_str) (d_ix ix_seq o_ix (d_var 5) d_int) (d_ix ix_seq o_ix (d_var 5) d_int))))) dss_nil) (dss_cons (ds_if (dt_cmp (op_eqA hr.units) o_eq (d_var 4) d_str) (dss_one (ds_ret d_non)) dss_nil) (dss_cons (ds_if (dt_cmp (op_eqA hr.units) o_eq (d_var 4) d_str) (dss_one (ds_ret (d_op op_sub o_sub (d_var 2) (d_dix hr.units (d_var 1) (d_op op_sub o_sub (d_var 2) (d_ix ix_seq o_ix (d_var 0) (d_fold (d := .int (-1)) (d_un un_neg o_neg d_int) (fun _ _ => rfl)))))))) dss_nil) (dss_one (ds_ret (d_op op_sub o_sub (d_var 2) (d_dix hr.units (d_var 1) (d_op op_sub o_sub (d_var 2) (d_ix ix_seq o_ix (d_var 0) d_int)))))))))))
abbrev s_find_moment : Stmt := top 27
theorem sc_find_moment : FnScope ["zone", "table", "reading", "fold", "gap", "held", "offset"] ["zone", "table", "reading", "fold", "gap"] (defScope s_find_moment) := ⟨rfl, rfl, rfl, by decide +kernel, rfl, by decide +kernel, by decide +kernel⟩
theorem fn_find_moment (T : Txt K mg) {f : Addr} {fd : FuncData} (hm : mg "find_moment" = some (.ref f)) (F : FunD K "find_moment" "find_moment" (defArgs s_find_moment) (defBody s_find_moment) (defScope s_find_moment) [] [("fold", (V.str "early")), ("gap", (V.str "ahead"))] f fd) (G_found_by : FnD P w K mg base 1 "found_by" s_found_by ["offsets", "held", "reading", "fold", "gap"] m_found_by) (G_offset_in : FnD P w K mg base 1 "offset_in" s_offset_in ["table", "moment"] m_offset_in) (G_need_rules : FnD P w K mg base 1 "need_rules" s_need_rules ["fold", "gap"] m_need_rules) (G_need_number : FnD P w K mg base 2 "need_number" s_need_number ["number"] m_need_number) (G_need_table : FnD P w K mg base 5 "need_table" s_need_table ["zone", "table"] m_need_table) (G_need_zone : FnD P w K mg base 3 "need_zone" s_need_zone ["zone"] m_need_zone) : FnDD P w K mg base 6 "find_moment" s_find_moment [] [("fold", (V.str "early")), ("gap", (V.str "ahead"))] ["zone", "table", "reading", "fold", "gap"] m_find_moment := by
  refine fndd_mk (np := 5) (nN := 7) (k := 5) hm F sc_find_moment rfl rfl fun cdv A outer s H E hr => ?_
  have tk : Takes (cxOf (L2.CX P w) P w K mg base ["zone", "table", "reading", "fold", "gap", "held", "offset"] "find_moment" (defScope s_find_moment) f cdv A outer s H E) (fun cls d _ H => E cls d H) := takes_of rfl rfl rfl rfl
  exact (dss_cons (ds_expr (d_call G_need_zone hr tk (da_cons (d_var 0) da_nil))) (dss_cons (ds_expr (d_call G_need_table hr tk (da_cons (d_var 0) (da_cons (d_var 1) da_nil)))) (dss_cons (ds_expr (d_call G_need_number hr tk (da_cons (d_var 2) da_nil))) (dss_cons (ds_expr (d_call G_need_rules hr tk (da_cons (d_var 3) (da_cons (d_var 4) da_nil)))) (dss_cons (ds_setDc 5 (own := [("offset", 6)]) rfl sc_find_moment.nd (d_ix ix_seq o_ix (d_var 0) d_int) (blkOk_by (own := [("offset", 6)]) (N := ["zone", "table", "reading", "fold", "gap", "held", "offset"]) (sc := defScope s_find_moment) (by decide +kernel)) (fun _ _ _ _ _ => (dg_name 6 sc_find_moment.nd)) (fun _ _ _ _ _ => dts_nil) (fun _ _ _ _ _ => (d_op op_sub o_sub (d_var 2) (d_var 6))) (fun _ _ _ _ _ => (d_call G_offset_in hr takes0 (da_cons (d_var 1) (da_cons (d_op op_sub o_sub (d_var 2) (d_var 6)) da_nil))))) (dss_one (ds_ret (d_call G_found_by hr tk (da_cons (d_ix ix_seq o_ix (d_var 0) d_int) (da_cons (d_var 5) (da_cons (d_var 2) (da_cons (d_var 3) (da_cons (d_var 4) da_nil)))))))))))))
abbrev s__law_digits : Stmt := top 29
theorem sc__law_digits : FnScope ["_law_cell", "_law_mixed", "_law_full", "_law_k"] ["_law_cell"] (defScope s__law_digits) := ⟨rfl, rfl, rfl, by decide +kernel, rfl, by decide +kernel, by decide +kernel⟩
theorem fn__law_digits (T : Txt K mg) {f : Addr} {fd : FuncData} (hm : mg "_law_digits" = some (.ref f)) (F : Fun K "_law_digits" "_law_digits" s__law_digits f fd) : FnD P w K mg base 1 "_law_digits" s__law_digits ["_law_cell"] m_law_digits := by
  refine fnd_mk (np := 1) (nN := 4) (k := 0) hm F (F.binds fun _ _ _ _ _ _ us hl => match us, hl with | [_], _ => rfl) sc__law_digits rfl rfl fun cdv A outer s H E hr => ?_
  have tk : Takes (cxOf (L2.CX P w) P w K mg base ["_law_cell", "_law_mixed", "_law_full", "_law_k"] "_law_digits" (defScope s__law_digits) f cdv A outer s H E) (fun cls d _ H => E cls d H) := takes_of rfl rfl rfl rfl
  exact (dss_cons (ds_if (dt_cmp op_ge o_ge (d_var 0) (d_fold (d := .int 1000000000000000000) (d_op op_pow o_pow d_int d_int) (fun _ _ => rfl))) (dss_one (ds_ret (d_new (dl_lst (da_cons (d_op op_sub o_sub (d_var 0) (d_fold (d := .int 1000000000000000000) (d_op op_pow o_pow d_int d_int) (fun _ _ => rfl))) da_nil))))) dss_nil) (dss_cons (ds_set 1 sc__law_digits.nd (d_op op_addD o_add (d_op op_mod o_mod (d_callTy call_int1 c_int1 T.n_int (da_cons (d_var 0) da_nil)) (d_fold (d := .int 100000000000000000000000000000000000133) (d_op op_addD o_add (d_fold (d := .int 100000000000000000000000000000000000000) (d_op op_pow o_pow d_int d_int) (fun _ _ => rfl)) d_int) (fun _ _ => rfl))) d_int)) (dss_cons (ds_set 2 sc__law_digits.nd d_int) (dss_cons (ds_for (passes_of rfl) rfl (di_range1 (da_cons d_int da_nil) T.n_range) (dg_name 3 sc__law_digits.nd) (dss_cons (ds_set 1 sc__law_digits.nd (d_op op_mod o_mod (d_op op_addD o_add (d_op op_addD o_add (d_op op_addD o_add (d_op op_mulW o_mul (d_var 1) (d_var 1)) (d_op op_mulW o_mul d_int (d_var 1))) (d_op op_mulW o_mul d_int (d_var 3))) d_int) (d_fold (d := .int 100000000000000000000000000000000000000009) (d_op op_addD o_add (d_fold (d := .int 100000000000000000000000000000000000000000) (d_op op_pow o_pow d_int d_int) (fun _ _ => rfl)) d_int) (fun _ _ => rfl)))) (dss_one (ds_if (dt_cmp op_gt o_gt (d_var 3) d_int) (dss_one (ds_set 2 sc__law_digits.nd (d_op op_addD o_add (d_op op_mulW o_mul (d_var 2) (d_fold (d := .int 100000000000000000000000000000000000000000) (d_op op_pow o_pow d_int d_int) (fun _ _ => rfl))) (d_var 1)))) dss_nil)))) (dss_one (ds_ret (d_new (dl_lst (da_cons (d_var 2) da_nil)))))))))
abbrev s__law_draw : Stmt := top 30
theorem sc__law_draw : FnScope ["_law_pot", "_law_upto", "_law_digit"] ["_law_pot", "_law_upto"] (defScope s__law_draw) := ⟨rfl, rfl, rfl, by decide +kernel, rfl, by decide +kernel, by decide +kernel⟩
theorem fn__law_draw (T : Txt K mg) {f : Addr} {fd : FuncData} (hm : mg "_law_draw" = some (.ref f)) (F : Fun K "_law_draw" "_law_draw" s__law_draw f fd) : FnD P w K mg base 1 "_law_draw" s__law_draw ["_law_pot", "_law_upto"] m_law_draw := by
  refine fnd_mk (np := 2) (nN := 3) (k := 0) hm F (F.binds fun _ _ _ _ _ _ us hl => match us, hl with | [_, _], _ => rfl) sc__law_draw rfl rfl fun cdv A outer s H E hr => ?_
  have tk : Takes (cxOf (L2.CX P w) P w K mg base ["_law_pot", "_law_upto", "_law_digit"] "_law_draw" (defScope s__law_draw) f cdv A outer s H E) (fun cls d _ H => E cls d H) := takes_of rfl rfl rfl rfl
  exact (dss_cons (ds_set 2 sc__law_draw.nd (d_op op_mod o_mod (d_callTy call_int1 c_int1 T.n_int (da_cons (d_ix ix_seq o_ix (d_var 0) d_int) da_nil)) (d_var 1))) (dss_cons (ds_setIx (d_op op_fdivW o_fdiv (d_ix ix_seq o_ix (d_var 0) d_int) (d_var 1)) (d_var 0) d_int) (dss_one (ds_ret (d_var 2)))))
abbrev s__law_any_hour : Stmt := top 31
theorem sc__law_any_hour : FnScope ["_law_pot", "_law_kind"] ["_law_pot"] (defScope s__law_any_hour) := ⟨rfl, rfl, rfl, by decide +kernel, rfl, by decide +kernel, by decide +kernel⟩
theorem fn__law_any_hour (T : Txt K mg) {f : Addr} {fd : FuncData} (hm : mg "_law_any_hour" = some (.ref f)) (F : Fun K "_law_any_hour" "_law_any_hour" s__law_any_hour f fd) (G__law_draw : FnD P w K mg base 1 "_law_draw" s__law_draw ["_law_pot", "_law_upto"] m_law_draw) : FnD P w K mg base 2 "_law_any_hour" s__law_any_hour ["_law_pot"] m_law_any_hour := by
  refine fnd_mk (np := 1) (nN := 2) (k := 1) hm F (F.binds fun _ _ _ _ _ _ us hl => match us, hl with | [_], _ => rfl) sc__law_any_hour rfl rfl fun cdv A outer s H E hr => ?_
  have tk : Takes (cxOf (L2.CX P w) P w K mg base ["_law_pot", "_law_kind"] "_law_any_hour" (defScope s__law_any_hour) f cdv A outer s H E) (fun cls d _ H => E cls d H) := takes_of rfl rfl rfl rfl
  exact (dss_cons (ds_set 1 sc__law_any_hour.nd (d_call G__law_draw hr tk (da_cons (d_var 0) (da_cons d_int da_nil)))) (dss_cons (ds_if (dt_cmp op_lt o_lt (d_var 1) d_int) (dss_one (ds_ret (d_op op_sub o_sub (d_call G__law_draw hr tk (da_cons (d_var 0) (da_cons d_int da_nil))) d_int))) dss_nil) (dss_cons (ds_if (dt_cmp (op_eqA hr.units) o_eq (d_var 1) d_int) (dss_one (ds_ret (d_op op_sub o_sub (d_call G__law_draw hr tk (da_cons (d_var 0) (da_cons (d_fold (d := .int 1800000000001) (d_op op_addD o_add (d_fold (d := .int 1800000000000) (d_op op_mulW o_mul d_int (d_fold (d := .int 100000000000) (d_op op_pow o_pow d_int d_int) (fun _ _ => rfl))) (fun _ _ => rfl)) d_int) (fun _ _ => rfl)) da_nil))) (d_fold (d := .int 900000000000) (d_op op_mulW o_mul d_int (d_fold (d := .int 100000000000) (d_op op_pow o_pow d_int d_int) (fun _ _ => rfl))) (fun _ _ => rfl))))) dss_nil) (dss_one (ds_ret (d_ix ix_seq o_ix (d_fz (dl_lst (da_cons d_int (da_cons d_int (da_cons (d_fold (d := .int (-1)) (d_un un_neg o_neg d_int) (fun _ _ => rfl)) (da_cons d_int (da_cons (d_fold (d := .int (-525600)) (d_un un_neg o_neg d_int) (fun _ _ => rfl)) (da_cons (d_fold (d := .int 999799999999) (d_op op_sub o_sub (d_fold (d := .int 999999999999) (d_op op_sub o_sub (d_fold (d := .int 1000000000000) (d_op op_pow o_pow d_int d_int) (fun _ _ => rfl)) d_int) (fun _ _ => rfl)) (d_fold (d := .int 200000000) (d_op op_mulW o_mul d_int (d_fold (d := .int 100000000) (d_op op_pow o_pow d_int d_int) (fun _ _ => rfl))) (fun _ _ => rfl))) (fun _ _ => rfl)) (da_cons (d_fold (d := .int (-999999999999)) (d_op op_sub o_sub d_int (d_fold (d := .int 1000000000000) (d_op op_pow o_pow d_int d_int) (fun _ _ => rfl))) (fun _ _ => rfl)) da_nil))))))))) (d_call G__law_draw hr tk (da_cons (d_var 0) (da_cons d_int da_nil)))))))))
abbrev s__law_make_region : Stmt := top 32
theorem sc__law_make_region : FnScope ["_law_pot", "_law_kind", "_law_low", "_law_unit", "_law_wide", "_law_mid", "_law_top", "_law_shifts", "_law_spare", "_law_more", "_law_shift"] ["_law_pot"] (defScope s__law_make_region) := ⟨rfl, rfl, rfl, by decide +kernel, rfl, by decide +kernel, by decide +kernel⟩
theorem fn__law_make_region (T : Txt K mg) {f : Addr} {fd : FuncData} (hm : mg "_law_make_region" = some (.ref f)) (F : Fun K "_law_make_region" "_law_make_region" s__law_make_region f fd) (G__law_draw : FnD P w K mg base 1 "_law_draw" s__law_draw ["_law_pot", "_law_upto"] m_law_draw) : FnD P w K mg base 2 "_law_make_region" s__law_make_region ["_law_pot"] m_law_make_region := by
  refine fnd_mk (np := 1) (nN := 11) (k := 1) hm F (F.binds fun _ _ _ _ _ _ us hl => match us, hl with | [_], _ => rfl) sc__law_make_region rfl rfl fun cdv A outer s H E hr => ?_
  have tk : Takes (cxOf (L2.CX P w) P w K mg base ["_law_pot", "_law_kind", "_law_low", "_law_unit", "_law_wide", "_law_mid", "_law_top", "_law_shifts", "_law_spare", "_law_more", "_law_shift"] "_law_make_region" (defScope s__law_make_region) f cdv A outer s H E) (fun cls d _ H => E cls d H) := takes_of rfl rfl rfl rfl
  exact (dss_cons (ds_set 1 sc__law_make_region.nd (d_call G__law_draw hr tk (da_cons (d_var 0) (da_cons d_int da_nil)))) (dss_cons (ds_set 2 sc__law_make_region.nd (d_fold (d := .int (-900)) (d_un un_neg o_neg d_int) (fun _ _ => rfl))) (dss_cons (ds_if (dt_cmp op_lt o_lt (d_var 1) d_int) (dss_one (ds_set 2 sc__law_make_region.nd (d_op op_sub o_sub (d_call G__law_draw hr tk (da_cons (d_var 0) (da_cons d_int da_nil))) d_int))) (dss_one (ds_if (dt_cmp (op_eqA hr.units) o_eq (d_var 1) d_int) (dss_one (ds_set 2 sc__law_make_region.nd (d_op op_mulW o_mul d_int (d_op op_sub o_sub (d_call G__law_draw hr tk (da_cons (d_var 0) (da_cons d_int da_nil))) d_int)))) (dss_one (ds_if (dt_cmp (op_eqA hr.units) o_eq (d_var 1) d_int) (dss_one (ds_set 2 sc__law_make_region.nd (d_op op_sub o_sub (d_call G__law_draw hr tk (da_cons (d_var 0) (da_cons d_int da_nil))) d_int))) dss_nil))))) (dss_cons (ds_asg (d_ix ix_seq o_ix (d_fz (dl_lst (da_cons (d_tup (da_cons d_int (da_cons d_int da_nil))) (da_cons (d_tup (da_cons d_int (da_cons d_int da_nil))) (da_cons (d_tup (da_cons d_int (da_cons d_int da_nil))) (da_cons (d_tup (da_cons d_int (da_cons d_int da_nil))) (da_cons (d_tup (da_cons d_int (da_cons d_int da_nil))) (da_cons (d_tup (da_cons d_int (da_cons d_int da_nil))) da_nil)))))))) (d_var 1)) (dg_tup rfl (dgs_cons (dg_name 3 sc__law_make_region.nd) (dgs_cons (dg_name 4 sc__law_make_region.nd) dgs_nil)))) (dss_cons (ds_set 5 sc__law_make_region.nd (d_op op_addD o_add (d_var 2) (d_op op_mulW o_mul (d_var 3) (d_op op_addD o_add d_int (d_call G__law_draw hr tk (da_cons (d_var 0) (da_cons (d_var 4) da_nil))))))) (dss_cons (ds_set 6 sc__law_make_region.nd (d_op op_addD o_add (d_var 5) (d_op op_mulW o_mul (d_var 3) (d_op op_addD o_add d_int (d_call G__law_draw hr tk (da_cons (d_var 0) (da_cons (d_var 4) da_nil))))))) (dss_cons (ds_set 7 sc__law_make_region.nd (d_fz (dl_lst (da_cons (d_tup (da_cons (d_var 2) (da_cons (d_var 5) da_nil))) (da_cons (d_tup (da_cons (d_var 2) (da_cons (d_var 5) (da_cons (d_var 6) da_nil)))) (da_cons (d_tup (da_cons (d_var 2) (da_cons (d_var 6) da_nil))) (da_cons (d_tup (da_cons (d_var 2) (da_cons (d_var 5) (da_cons (d_var 6) da_nil)))) (da_cons (d_tup (da_cons (d_var 6) da_nil)) da_nil)))))))) (dss_cons (ds_set 7 sc__law_make_region.nd (d_ix ix_seq o_ix (d_var 7) (d_op op_fdivW o_fdiv (d_call G__law_draw hr tk (da_cons (d_var 0) (da_cons d_int da_nil))) d_int))) (dss_cons (ds_if (dt_cmp (op_eqA hr.units) o_eq (d_call G__law_draw hr tk (da_cons (d_var 0) (da_cons d_int da_nil))) d_int) (dss_one (ds_set 7 sc__law_make_region.nd (d_callTy call_tuple_of c_tuple T.n_tuple (da_cons (d_fz (dl_lc (own := [("_law_shift", 10)]) rfl sc__law_make_region.nd (di_seq (d_back (d_var 7))) (blkOk_by (own := [("_law_shift", 10)]) (N := ["_law_pot", "_law_kind", "_law_low", "_law_unit", "_law_wide", "_law_mid", "_law_top", "_law_shifts", "_law_spare", "_law_more", "_law_shift"]) (sc := defScope s__law_make_region) (by decide +kernel)) (fun _ _ _ _ _ => (dg_name 10 sc__law_make_region.nd)) (fun _ _ _ _ _ => dts_nil) (fun _ _ _ _ _ => (d_un un_neg o_neg (d_var 10))))) da_nil)))) dss_nil) (dss_cons (ds_set 8 sc__law_make_region.nd (d_op op_sub o_sub (d_ix ix_seq o_ix (d_var 7) (d_fold (d := .int (-1)) (d_un un_neg o_neg d_int) (fun _ _ => rfl))) (d_ix ix_seq o_ix (d_var 7) d_int))) (dss_cons (ds_set 9 sc__law_make_region.nd (d_fz (dl_lst (da_cons d_int (da_cons d_int (da_cons d_int (da_cons (d_call G__law_draw hr tk (da_cons (d_var 0) (da_cons d_int da_nil))) (da_cons (d_call G__law_draw hr tk (da_cons (d_var 0) (da_cons (d_op op_sub o_sub d_int (d_var 8)) da_nil))) (da_cons (d_op op_sub o_sub d_int (d_var 8)) da_nil))))))))) (dss_one (ds_ret (d_tup (da_cons (d_var 7) (da_cons (d_op op_addD o_add (d_op op_addD o_add (d_var 8) d_int) (d_ix ix_seq o_ix (d_var 9) (d_call G__law_draw hr tk (da_cons (d_var 0) (da_cons d_int da_nil))))) da_nil))))))))))))))))
abbrev s__law_make_chart : Stmt := top 33
theorem sc__law_make_chart : FnScope ["_law_pot", "_law_region", "_law_upto", "_law_shifts", "_law_spacing", "_law_at", "_law_held", "_law_hour", "_law_jumps", "_law_k", "_law_more"] ["_law_pot", "_law_region", "_law_upto"] (defScope s__law_make_chart) := ⟨rfl, rfl, rfl, by decide +kernel, rfl, by decide +kernel, by decide +kernel⟩
theorem fn__law_make_chart (T : Txt K mg) {f : Addr} {fd : FuncData} (hm : mg "_law_make_chart" = some (.ref f)) (F : Fun K "_law_make_chart" "_law_make_chart" s__law_make_chart f fd) (G__law_draw : FnD P w K mg base 1 "_law_draw" s__law_draw ["_law_pot", "_law_upto"] m_law_draw) (G__law_any_hour : FnD P w K mg base 2 "_law_any_hour" s__law_any_hour ["_law_pot"] m_law_any_hour) : FnD P w K mg base 3 "_law_make_chart" s__law_make_chart ["_law_pot", "_law_region", "_law_upto"] m_law_make_chart := by
  refine fnd_mk (np := 3) (nN := 11) (k := 2) hm F (F.binds fun _ _ _ _ _ _ us hl => match us, hl with | [_, _, _], _ => rfl) sc__law_make_chart rfl rfl fun cdv A outer s H E hr => ?_
  have tk : Takes (cxOf (L2.CX P w) P w K mg base ["_law_pot", "_law_region", "_law_upto", "_law_shifts", "_law_spacing", "_law_at", "_law_held", "_law_hour", "_law_jumps", "_law_k", "_law_more"] "_law_make_chart" (defScope s__law_make_chart) f cdv A outer s H E) (fun cls d _ H => E cls d H) := takes_of rfl rfl rfl rfl
  exact (dss_cons (ds_asg (d_var 1) (dg_tup rfl (dgs_cons (dg_name 3 sc__law_make_chart.nd) (dgs_cons (dg_name 4 sc__law_make_chart.nd) dgs_nil)))) (dss_cons (ds_set 5 sc__law_make_chart.nd (d_call G__law_draw hr tk (da_cons (d_var 0) (da_cons (d_callB call_len c_len T.n_len (da_cons (d_var 3) da_nil)) da_nil)))) (dss_cons (ds_set 6 sc__law_make_chart.nd (d_ix ix_seq o_ix (d_var 3) (d_var 5))) (dss_cons (ds_set 7 sc__law_make_chart.nd (d_call G__law_any_hour hr tk (da_cons (d_var 0) da_nil))) (dss_cons (ds_set 8 sc__law_make_chart.nd (d_new (dl_lst da_nil))) (dss_cons (ds_for (passes_of rfl) rfl (di_range1 (da_cons (d_op op_mulW o_mul (d_call G__law_draw hr tk (da_cons (d_var 0) (da_cons (d_op op_addD o_add (d_var 2) d_int) da_nil))) (d_callTy call_int1 c_int1 T.n_int (da_cons (d_cmp op_gt o_gt (d_callB call_len c_len T.n_len (da_cons (d_var 3) da_nil)) d_int) da_nil))) da_nil) T.n_range) (dg_name 9 sc__law_make_chart.nd) (dss_cons (ds_set 5 sc__law_make_chart.nd (d_op op_mod o_mod (d_callTy call_int1 c_int1 T.n_int (da_cons (d_op op_addD o_add (d_op op_addD o_add (d_var 5) d_int) (d_call G__law_draw hr tk (da_cons (d_var 0) (da_cons (d_op op_sub o_sub (d_callB call_len c_len T.n_len (da_cons (d_var 3) da_nil)) d_int) da_nil)))) da_nil)) (d_callB call_len c_len T.n_len (da_cons (d_var 3) da_nil)))) (dss_cons (ds_app (d_var 8) (d_tup (da_cons (d_var 7) (da_cons (d_ix ix_seq o_ix (d_var 3) (d_var 5)) da_nil))) (fun a b => ps_expr (pe_bm PySem.F.plainAttrs_list PySem.F.slot_list_append PySem.F.type_list_append mt_append a (pa_cons b pa_nil)))) (dss_cons (ds_set 7 sc__law_make_chart.nd (d_op op_addD o_add (d_var 7) (d_var 4))) (dss_cons (ds_set 10 sc__law_make_chart.nd (d_call G__law_draw hr tk (da_cons (d_var 0) (da_cons d_int da_nil)))) (dss_one (ds_if (dt_cmp op_gt o_gt (d_var 10) d_int) (dss_one (ds_set 7 sc__law_make_chart.nd (d_op op_addD o_add (d_var 7) (d_call G__law_draw hr tk (da_cons (d_var 0) (da_cons (d_ix ix_seq o_ix (d_fz (dl_lst (da_cons d_int (da_cons d_int (da_cons d_int (da_cons d_int (da_cons (d_op op_mulW o_mul d_int (d_var 4)) da_nil))))))) (d_var 10)) da_nil)))))) dss_nil))))))) (dss_one (ds_ret (d_tup (da_cons (d_var 6) (da_cons (d_callTy call_tuple_of c_tuple T.n_tuple (da_cons (d_var 8) da_nil)) da_nil)))))))))))
abbrev s__law_shift_at : Stmt := top 34
theorem sc__law_shift_at : FnScope ["_law_chart", "_law_hour", "_law_held", "_law_at", "_law_shift"] ["_law_chart", "_law_hour"] (defScope s__law_shift_at) := ⟨rfl, rfl, rfl, by decide +kernel, rfl, by decide +kernel, by decide +kernel⟩
theorem fn__law_shift_at (T : Txt K mg) {f : Addr} {fd : FuncData} (hm : mg "_law_shift_at" = some (.ref f)) (F : Fun K "_law_shift_at" "_law_shift_at" s__law_shift_at f fd) : FnD P w K mg base 1 "_law_shift_at" s__law_shift_at ["_law_chart", "_law_hour"] m_law_shift_at := by
  refine fnd_mk (np := 2) (nN := 5) (k := 0) hm F (F.binds fun _ _ _ _ _ _ us hl => match us, hl with | [_, _], _ => rfl) sc__law_shift_at rfl rfl fun cdv A outer s H E hr => ?_
  have tk : Takes (cxOf (L2.CX P w) P w K mg base ["_law_chart", "_law_hour", "_law_held", "_law_at", "_law_shift"] "_law_shift_at" (defScope s__law_shift_at) f cdv A outer s H E) (fun cls d _ H => E cls d H) := takes_of rfl rfl rfl rfl
  exact (dss_cons (ds_set 2 sc__law_shift_at.nd (d_ix ix_seq o_ix (d_var 0) d_int)) (dss_cons (ds_for (passes_of rfl) rfl (di_seq (d_ix ix_seq o_ix (d_var 0) d_int)) (dg_tup rfl (dgs_cons (dg_name 3 sc__law_shift_at.nd) (dgs_cons (dg_name 4 sc__law_shift_at.nd) dgs_nil))) (dss_one (ds_if (dt_cmp op_le o_le (d_var 3) (d_var 1)) (dss_one (ds_set 2 sc__law_shift_at.nd (d_var 4))) dss_nil))) (dss_one (ds_ret (d_var 2)))))
abbrev s__law_near : Stmt := top 35
theorem sc__law_near : FnScope ["_law_pot", "_law_region", "_law_chart", "_law_jumps", "_law_hour", "_law_wide", "_law_any_near"] ["_law_pot", "_law_region", "_law_chart"] (defScope s__law_near) := ⟨rfl, rfl, rfl, by decide +kernel, rfl, by decide +kernel, by decide +kernel⟩
theorem fn__law_near (T : Txt K mg) {f : Addr} {fd : FuncData} (hm : mg "_law_near" = some (.ref f)) (F : Fun K "_law_near" "_law_near" s__law_near f fd) (G__law_draw : FnD P w K mg base 1 "_law_draw" s__law_draw ["_law_pot", "_law_upto"] m_law_draw) (G__law_any_hour : FnD P w K mg base 2 "_law_any_hour" s__law_any_hour ["_law_pot"] m_law_any_hour) : FnD P w K mg base 3 "_law_near" s__law_near ["_law_pot", "_law_region", "_law_chart"] m_law_near := by
  refine fnd_mk (np := 3) (nN := 7) (k := 2) hm F (F.binds fun _ _ _ _ _ _ us hl => match us, hl with | [_, _, _], _ => rfl) sc__law_near rfl rfl fun cdv A outer s H E hr => ?_
  have tk : Takes (cxOf (L2.CX P w) P w K mg base ["_law_pot", "_law_region", "_law_chart", "_law_jumps", "_law_hour", "_law_wide", "_law_any_near"] "_law_near" (defScope s__law_near) f cdv A outer s H E) (fun cls d _ H => E cls d H) := takes_of rfl rfl rfl rfl
  exact (dss_cons (ds_set 3 sc__law_near.nd (d_ix ix_seq o_ix (d_var 2) d_int)) (dss_cons (ds_if (DT.w (dw_or (dt_cmp (op_eqA hr.units) o_eq (d_callB call_len c_len T.n_len (da_cons (d_var 3) da_nil)) d_int) (dw_or1 (dt_cmp (op_eqA hr.units) o_eq (d_call G__law_draw hr tk (da_cons (d_var 0) (da_cons d_int da_nil))) d_int)))) (dss_one (ds_ret (d_call G__law_any_hour hr tk (da_cons (d_var 0) da_nil)))) dss_nil) (dss_cons (ds_set 4 sc__law_near.nd (d_ix ix_seq o_ix (d_ix ix_seq o_ix (d_var 3) (d_call G__law_draw hr tk (da_cons (d_var 0) (da_cons (d_callB call_len c_len T.n_len (da_cons (d_var 3) da_nil)) da_nil)))) d_int)) (dss_cons (ds_set 5 sc__law_near.nd (d_op op_sub o_sub (d_ix ix_seq o_ix (d_ix ix_seq o_ix (d_var 1) d_int) (d_fold (d := .int (-1)) (d_un un_neg o_neg d_int) (fun _ _ => rfl))) (d_ix ix_seq o_ix (d_ix ix_seq o_ix (d_var 1) d_int) d_int))) (dss_cons (ds_set 6 sc__law_near.nd (d_op op_sub o_sub (d_op op_sub o_sub (d_call G__law_draw hr tk (da_cons (d_var 0) (da_cons (d_op op_addD o_add (d_op op_mulW o_mul d_int (d_var 5)) d_int) da_nil))) (d_var 5)) d_int)) (dss_cons (ds_set 4 sc__law_near.nd (d_op op_addD o_add (d_var 4) (d_ix ix_seq o_ix (d_fz (dl_lst (da_cons d_int (da_cons (d_fold (d := .int (-1)) (d_un un_neg o_neg d_int) (fun _ _ => rfl)) (da_cons d_int (da_cons (d_var 5) (da_cons (d_un un_neg o_neg (d_var 5)) (da_cons (d_op op_sub o_sub (d_var 5) d_int) (da_cons (d_op op_sub o_sub d_int (d_var 5)) (da_cons (d_var 6) da_nil)))))))))) (d_call G__law_draw hr tk (da_cons (d_var 0) (da_cons d_int da_nil)))))) (dss_one (ds_ret (d_callB (call_max2 rfl) c_II T.n_max (da_cons (d_fold (d := .int (-999999999999)) (d_op op_sub o_sub d_int (d_fold (d := .int 1000000000000) (d_op op_pow o_pow d_int d_int) (fun _ _ => rfl))) (fun _ _ => rfl)) (da_cons (d_callB (call_min2 rfl) c_II T.n_min (da_cons (d_fold (d := .int 999999999999) (d_op op_sub o_sub (d_fold (d := .int 1000000000000) (d_op op_pow o_pow d_int d_int) (fun _ _ => rfl)) d_int) (fun _ _ => rfl)) (da_cons (d_var 4) da_nil))) da_nil)))))))))))
abbrev s__law_whole : Stmt := top 36
theorem sc__law_whole : FnScope ["_law_thing"] ["_law_thing"] (defScope s__law_whole) := ⟨rfl, rfl, rfl, by decide +kernel, rfl, by decide +kernel, by decide +kernel⟩
theorem fn__law_whole (T : Txt K mg) {f : Addr} {fd : FuncData} (hm : mg "_law_whole" = some (.ref f)) (F : Fun K "_law_whole" "_law_whole" s__law_whole f fd) : FnD P w K mg base 1 "_law_whole" s__law_whole ["_law_thing"] m_law_whole := by
  refine fnd_mk (np := 1) (nN := 1) (k := 0) hm F (F.binds fun _ _ _ _ _ _ us hl => match us, hl with | [_], _ => rfl) sc__law_whole rfl rfl fun cdv A outer s H E hr => ?_
  have tk : Takes (cxOf (L2.CX P w) P w K mg base ["_law_thing"] "_law_whole" (defScope s__law_whole) f cdv A outer s H E) (fun cls d _ H => E cls d H) := takes_of rfl rfl rfl rfl
  exact (dss_one (ds_ret (d_and (d_isi .int (d_var 0) T.n_isinstance T.n_int) (d_one (d_not (d_isi .bl (d_var 0) T.n_isinstance T.n_bool))))))
abbrev s__law_same : Stmt := top 37
theorem sc__law_same : FnScope ["_law_told", "_law_due", "_law_k"] ["_law_told", "_law_due"] (defScope s__law_same) := ⟨rfl, rfl, rfl, by decide +kernel, rfl, by decide +kernel, by decide +kernel⟩
theorem fn__law_same (T : Txt K mg) {f : Addr} {fd : FuncData} (hm : mg "_law_same" = some (.ref f)) (F : Fun K "_law_same" "_law_same" s__law_same f fd) (G__law_whole : FnD P w K mg base 1 "_law_whole" s__law_whole ["_law_thing"] m_law_whole) : ∀ n : Nat, FnD P w K mg base (2 + n) "_law_same" s__law_same ["_law_told", "_law_due"] (m_law_same n)
  | 0 => fnd_bad hm F (F.binds fun _ _ _ _ _ _ us hl => match us, hl with | [_, _], _ => rfl)
  | n + 1 => by
    have GSELF := fn__law_same T hm F G__law_whole n
    refine fnd_mk (np := 2) (nN := 3) (k := 2 + n) hm F (F.binds fun _ _ _ _ _ _ us hl => match us, hl with | [_, _], _ => rfl) sc__law_same rfl rfl fun cdv A outer s H E hr => ?_
    have tk : Takes (cxOf (L2.CX P w) P w K mg base ["_law_told", "_law_due", "_law_k"] "_law_same" (defScope s__law_same) f cdv A outer s H E) (fun cls d _ H => E cls d H) := takes_of rfl rfl rfl rfl
    exact (dss_cons (ds_if (dt_val (d_isiT [.tup, .lst] (d_var 1) (pa_cons (pe_bltn (v := .ty "tuple") rfl T.n_tuple (by decide +kernel) rfl) (pa_cons (pe_bltn (v := .ty "list") rfl T.n_list (by decide +kernel) rfl) pa_nil)) (fun _ _ _ => rfl) T.n_isinstance)) (dss_cons (ds_if (DT.w (dw_or (dt_not (dt_val (d_isiT [.tup, .lst] (d_var 0) (pa_cons (pe_bltn (v := .ty "tuple") rfl T.n_tuple (by decide +kernel) rfl) (pa_cons (pe_bltn (v := .ty "list") rfl T.n_list (by decide +kernel) rfl) pa_nil)) (fun _ _ _ => rfl) T.n_isinstance))) (dw_or1 (dt_cmp (op_neA hr.units) o_ne (d_isi .lst (d_var 0) T.n_isinstance T.n_list) (d_isi .lst (d_var 1) T.n_isinstance T.n_list))))) (dss_one (ds_ret d_bl)) dss_nil) (dss_one (ds_ret (d_and (d_cmp (op_eqA hr.units) o_eq (d_callB call_len c_len T.n_len (da_cons (d_var 0) da_nil)) (d_callB call_len c_len T.n_len (da_cons (d_var 1) da_nil))) (d_one (d_callB (cr_all rfl) c_all T.n_all (da_cons (d_fz (dl_lc (own := [("_law_k", 2)]) rfl sc__law_same.nd (di_range1 (da_cons (d_callB call_len c_len T.n_len (da_cons (d_var 1) da_nil)) da_nil) T.n_range) (blkOk_by (own := [("_law_k", 2)]) (N := ["_law_told", "_law_due", "_law_k"]) (sc := defScope s__law_same) (by decide +kernel)) (fun _ _ _ _ _ => (dg_name 2 sc__law_same.nd)) (fun _ _ _ _ _ => dts_nil) (fun _ _ _ _ _ => (d_call GSELF hr takes0 (da_cons (d_ix ix_seq o_ix (d_var 0) (d_var 2)) (da_cons (d_ix ix_seq o_ix (d_var 1) (d_var 2)) da_nil)) (by omega))))) da_nil))))))) dss_nil) (dss_cons (ds_if (dt_cmp op_isN o_isN (d_var 1) d_non) (dss_one (ds_ret (d_cmp op_isN o_isN (d_var 0) d_non))) dss_nil) (dss_cons (ds_if (dt_val (d_isi .bl (d_var 1) T.n_isinstance T.n_bool)) (dss_one (ds_ret (d_and (d_isi .bl (d_var 0) T.n_isinstance T.n_bool) (d_one (d_cmp (op_eqA hr.units) o_eq (d_var 0) (d_var 1)))))) dss_nil) (dss_cons (ds_if (dt_val (d_isi .int (d_var 1) T.n_isinstance T.n_int)) (dss_one (ds_ret (d_and (d_call G__law_whole hr tk (da_cons (d_var 0) da_nil) (by omega)) (d_one (d_cmp (op_eqA hr.units) o_eq (d_var 0) (d_var 1)))))) dss_nil) (dss_cons (ds_if (dt_val (d_isi .str (d_var 1) T.n_isinstance T.n_str)) (dss_one (ds_ret (d_and (d_isi .str (d_var 0) T.n_isinstance T.n_str) (d_one (d_cmp (op_eqA hr.units) o_eq (d_var 0) (d_var 1)))))) dss_nil) (dss_one (ds_ret (d_and (d_not (d_isiT [.tup, .lst, .int, .str] (d_var 0) (pa_cons (pe_bltn (v := .ty "tuple") rfl T.n_tuple (by decide +kernel) rfl) (pa_cons (pe_bltn (v := .ty "list") rfl T.n_list (by decide +kernel) rfl) (pa_cons (pe_bltn (v := .ty "int") rfl T.n_int (by decide +kernel) rfl) (pa_cons (pe_bltn (v := .ty "str") rfl T.n_str (by decide +kernel) rfl) pa_nil)))) (fun _ _ _ => rfl) T.n_isinstance)) (d_one (d_cmp op_notN o_notN (d_var 0) d_non))))))))))
abbrev s__law_odd_thing : Stmt := top 38
theorem sc__law_odd_thing : FnScope ["_law_pot", "_law_big", "_law_plain", "_law_kind", "_law_one", "_law_other", "_law_deep", "_law_k"] ["_law_pot"] (defScope s__law_odd_thing) := ⟨rfl, rfl, rfl, by decide +kernel, rfl, by decide +kernel, by decide +kernel⟩
theorem fn__law_odd_thing (T : Txt K mg) {f : Addr} {fd : FuncData} (hm : mg "_law_odd_thing" = some (.ref f)) (F : Fun K "_law_odd_thing" "_law_odd_thing" s__law_odd_thing f fd) (G__law_draw : FnD P w K mg base 1 "_law_draw" s__law_draw ["_law_pot", "_law_upto"] m_law_draw) (GI_Crowded : XiOk P w K mg base 1 "Crowded" ["first", "last"]) : FnD P w K mg base 3 "_law_odd_thing" s__law_odd_thing ["_law_pot"] m_law_odd_thing := by
  refine fnd_mk (np := 1) (nN := 8) (k := 2) hm F (F.binds fun _ _ _ _ _ _ us hl => match us, hl with | [_], _ => rfl) sc__law_odd_thing rfl rfl fun cdv A outer s H E hr => ?_
  have tk : Takes (cxOf (L2.CX P w) P w K mg base ["_law_pot", "_law_big", "_law_plain", "_law_kind", "_law_one", "_law_other", "_law_deep", "_law_k"] "_law_odd_thing" (defScope s__law_odd_thing) f cdv A outer s H E) (fun cls d _ H => E cls d H) := takes_of rfl rfl rfl rfl
  exact (dss_cons (ds_set 1 sc__law_odd_thing.nd (d_op op_addD o_add (d_fold (d := .int 1000000000000000000000000000000) (d_op op_pow o_pow d_int d_int) (fun _ _ => rfl)) (d_call G__law_draw hr tk (da_cons (d_var 0) (da_cons d_int da_nil))))) (dss_cons (ds_set 2 sc__law_odd_thing.nd (d_fz (dl_lst (da_cons d_non (da_cons d_bl (da_cons d_bl (da_cons d_str (da_cons d_str (da_cons d_str (da_cons d_int (da_cons d_int (da_cons (d_fold (d := .int (-1)) (d_un un_neg o_neg d_int) (fun _ _ => rfl)) (da_cons d_int (da_cons d_int (da_cons d_int (da_cons d_int (da_cons (d_var 1) (da_cons (d_un un_neg o_neg (d_var 1)) da_nil)))))))))))))))))) (dss_cons (ds_set 3 sc__law_odd_thing.nd (d_call G__law_draw hr tk (da_cons (d_var 0) (da_cons d_int da_nil)))) (dss_cons (ds_if (dt_cmp op_lt o_lt (d_var 3) d_int) (dss_one (ds_ret (d_ix ix_seq o_ix (d_var 2) (d_var 3)))) dss_nil) (dss_cons (ds_set 4 sc__law_odd_thing.nd (d_ix ix_seq o_ix (d_var 2) (d_call G__law_draw hr tk (da_cons (d_var 0) (da_cons d_int da_nil))))) (dss_cons (ds_set 5 sc__law_odd_thing.nd (d_ix ix_seq o_ix (d_var 2) (d_call G__law_draw hr tk (da_cons (d_var 0) (da_cons d_int da_nil))))) (dss_cons (ds_if (dt_cmp (op_eqA hr.units) o_eq (d_var 3) d_int) (dss_one (ds_ret (d_new0 T.x_InvalidZone T.p__Ie11))) dss_nil) (dss_cons (ds_if (dt_cmp (op_eqA hr.units) o_eq (d_var 3) d_int) (dss_one (ds_ret (d_newX GI_Crowded T.p__Cd7 hr (da_cons (d_var 4) (da_cons (d_var 5) da_nil))))) dss_nil) (dss_cons (ds_if (dt_cmp (op_eqA hr.units) o_eq (d_var 3) d_int) (dss_one (ds_ret (d_fz (dl_rep (dl_lst (da_cons (d_var 4) da_nil)) d_int)))) dss_nil) (dss_cons (ds_if (dt_cmp (op_eqA hr.units) o_eq (d_var 3) d_int) (dss_cons (ds_set 6 sc__law_odd_thing.nd (d_var 4)) (dss_cons (ds_for (passes_of rfl) rfl (di_range1 (da_cons d_int da_nil) T.n_range) (dg_name 7 sc__law_odd_thing.nd) (dss_one (ds_set 6 sc__law_odd_thing.nd (d_ix ix_seq o_ix (d_fz (dl_lst (da_cons (d_tup (da_cons (d_var 6) da_nil)) (da_cons (d_fz (dl_lst (da_cons (d_var 6) da_nil))) da_nil)))) (d_op op_mod o_mod (d_var 7) d_int))))) (dss_one (ds_ret (d_var 6))))) dss_nil) (dss_one (ds_ret (d_ix ix_seq o_ix (d_fz (dl_lst (da_cons (d_fz (dl_lst da_nil)) (da_cons (d_tup da_nil) (da_cons (d_fz (dl_lst (da_cons (d_var 4) (da_cons (d_var 5) da_nil)))) (da_cons (d_tup (da_cons (d_var 4) (da_cons (d_var 5) da_nil))) (da_cons (d_tup (da_cons (d_tup (da_cons (d_var 4) (da_cons (d_var 5) da_nil))) (da_cons d_int da_nil))) da_nil))))))) (d_op op_sub o_sub (d_var 3) d_int))))))))))))))
abbrev s__law_bend : Stmt := top 39
theorem sc__law_bend : FnScope ["_law_pot", "_law_thing", "_law_deep", "_law_way", "_law_at", "_law_bent"] ["_law_pot", "_law_thing", "_law_deep"] (defScope s__law_bend) := ⟨rfl, rfl, rfl, by decide +kernel, rfl, by decide +kernel, by decide +kernel⟩
theorem fn__law_bend (T : Txt K mg) {f : Addr} {fd : FuncData} (hm : mg "_law_bend" = some (.ref f)) (F : Fun K "_law_bend" "_law_bend" s__law_bend f fd) (G__law_odd_thing : FnD P w K mg base 3 "_law_odd_thing" s__law_odd_thing ["_law_pot"] m_law_odd_thing) (G__law_whole : FnD P w K mg base 1 "_law_whole" s__law_whole ["_law_thing"] m_law_whole) (G__law_draw : FnD P w K mg base 1 "_law_draw" s__law_draw ["_law_pot", "_law_upto"] m_law_draw) : ∀ n : Nat, FnD P w K mg base (4 + n) "_law_bend" s__law_bend ["_law_pot", "_law_thing", "_law_deep"] (m_law_bend_v2 n)
  | 0 => fnd_bad hm F (F.binds fun _ _ _ _ _ _ us hl => match us, hl with | [_, _, _], _ => rfl)
  | n + 1 => by
    have GSELF := fn__law_bend T hm F G__law_odd_thing G__law_whole G__law_draw n
    refine fnd_mk (np := 3) (nN := 6) (k := 4 + n) hm F (F.binds fun _ _ _ _ _ _ us hl => match us, hl with | [_, _, _], _ => rfl) sc__law_bend rfl rfl fun cdv A outer s H E hr => ?_
    have tk : Takes (cxOf (L2.CX P w) P w K mg base ["_law_pot", "_law_thing", "_law_deep", "_law_way", "_law_at", "_law_bent"] "_law_bend" (defScope s__law_bend) f cdv A outer s H E) (fun cls d _ H => E cls d H) := takes_of rfl rfl rfl rfl
    exact (dss_cons (ds_set 3 sc__law_bend.nd (d_call G__law_draw hr tk (da_cons (d_var 0) (da_cons d_int da_nil)) (by omega))) (dss_cons (ds_if (DT.w (dw_and (dt_val (d_isi .tup (d_var 1) T.n_isinstance T.n_tuple)) (dw_and1 (DT.w (dw_or (dt_cmp (op_eqA hr.units) o_eq (d_var 2) d_int) (dw_or (dt_cmp (op_eqA hr.units) o_eq (d_callB call_len c_len T.n_len (da_cons (d_var 1) da_nil)) d_int) (dw_or1 (dt_cmp op_gt o_gt (d_var 3) d_int)))))))) (dss_cons (ds_set 4 sc__law_bend.nd (d_call G__law_draw hr tk (da_cons (d_var 0) (da_cons (d_op op_addD o_add (d_callB call_len c_len T.n_len (da_cons (d_var 1) da_nil)) d_int) da_nil)) (by omega))) (dss_cons (ds_if (DT.w (dw_or (dt_cmp (op_eqA hr.units) o_eq (d_var 3) d_int) (dw_or1 (dt_cmp (op_eqA hr.units) o_eq (d_var 3) d_int)))) (dss_one (ds_ret (d_op op_addD o_add (d_slT (d_var 1) do_none (do_some (d_var 4))) (d_slT (d_var 1) (do_some (d_op op_addD o_add (d_var 4) d_int)) do_none)))) dss_nil) (dss_cons (ds_if (DT.w (dw_or (dt_cmp (op_eqA hr.units) o_eq (d_var 3) d_int) (dw_or1 (dt_cmp (op_eqA hr.units) o_eq (d_var 3) d_int)))) (dss_one (ds_ret (d_op op_addD o_add (d_op op_addD o_add (d_slT (d_var 1) do_none (do_some (d_var 4))) (d_slT (d_var 1) (do_some (d_var 4)) (do_some (d_op op_addD o_add (d_var 4) d_int)))) (d_slT (d_var 1) (do_some (d_var 4)) do_none)))) dss_nil) (dss_cons (ds_if (DT.w (dw_or (dt_cmp (op_eqA hr.units) o_eq (d_var 3) d_int) (dw_or1 (dt_cmp (op_eqA hr.units) o_eq (d_var 3) d_int)))) (dss_one (ds_ret (d_fz (dl_callTy call_list_of c_list T.n_list (da_cons (d_var 1) da_nil))))) dss_nil) (dss_cons (ds_if (DT.w (dw_or (dt_cmp (op_eqA hr.units) o_eq (d_var 3) d_int) (dw_or1 (dt_cmp (op_eqA hr.units) o_eq (d_var 3) d_int)))) (dss_one (ds_ret (d_op op_addD o_add (d_slT (d_var 1) do_none (do_some (d_var 4))) (d_backA (d_slT (d_var 1) (do_some (d_var 4)) do_none))))) dss_nil) (dss_cons (ds_if (dt_cmp (op_eqA hr.units) o_eq (d_var 3) d_int) (dss_one (ds_ret (d_op op_addD o_add (d_op op_addD o_add (d_slT (d_var 1) (do_some d_int) (do_some (d_op op_addD o_add (d_var 4) d_int))) (d_slT (d_var 1) do_none (do_some d_int))) (d_slT (d_var 1) (do_some (d_op op_addD o_add (d_var 4) d_int)) do_none)))) dss_nil) (dss_one (ds_ret (d_op op_addD o_add (d_op op_addD o_add (d_slT (d_var 1) do_none (do_some (d_var 4))) (d_tup (da_cons (d_call G__law_odd_thing hr tk (da_cons (d_var 0) da_nil) (by omega)) da_nil))) (d_slT (d_var 1) (do_some (d_var 4)) do_none)))))))))) dss_nil) (dss_cons (ds_if (dt_val (d_isi .tup (d_var 1) T.n_isinstance T.n_tuple)) (dss_cons (ds_set 4 sc__law_bend.nd (d_call G__law_draw hr tk (da_cons (d_var 0) (da_cons (d_callB call_len c_len T.n_len (da_cons (d_var 1) da_nil)) da_nil)) (by omega))) (dss_one (ds_ret (d_op op_addD o_add (d_op op_addD o_add (d_slT (d_var 1) do_none (do_some (d_var 4))) (d_tup (da_cons (d_call GSELF hr tk (da_cons (d_var 0) (da_cons (d_ix ix_seq o_ix (d_var 1) (d_var 4)) (da_cons (d_op op_sub o_sub (d_var 2) d_int) da_nil))) (by omega)) da_nil))) (d_slT (d_var 1) (do_some (d_op op_addD o_add (d_var 4) d_int)) do_none))))) dss_nil) (dss_cons (ds_if (DT.w (dw_and (dt_val (d_call G__law_whole hr tk (da_cons (d_var 1) da_nil) (by omega))) (dw_and1 (dt_cmp op_lt o_lt (d_var 3) d_int)))) (dss_cons (ds_set 5 sc__law_bend.nd (d_fz (dl_lst (da_cons (d_op op_addD o_add (d_var 1) d_int) (da_cons (d_op op_sub o_sub (d_var 1) d_int) (da_cons (d_un un_neg o_neg (d_var 1)) (da_cons (d_op op_addD o_add (d_var 1) d_int) (da_cons (d_callTy call_str_int c_strI T.n_str (da_cons (d_var 1) da_nil)) (da_cons (d_cmp (op_eqA hr.units) o_eq (d_var 1) d_int) (da_cons (d_fz (dl_lst (da_cons (d_var 1) da_nil))) (da_cons (d_tup (da_cons (d_var 1) da_nil)) da_nil))))))))))) (dss_one (ds_ret (d_ix ix_seq o_ix (d_fz (dl_catV (d_var 5) (dl_lst (da_cons (d_op op_addD o_add (d_var 1) d_int) da_nil)))) (d_var 3))))) dss_nil) (dss_one (ds_ret (d_call G__law_odd_thing hr tk (da_cons (d_var 0) da_nil) (by omega))))))))
abbrev s__law_among : Stmt := top 40
theorem sc__law_among : FnScope ["_law_thing", "_law_shifts"] ["_law_thing", "_law_shifts"] (defScope s__law_among) := ⟨rfl, rfl, rfl, by decide +kernel, rfl, by decide +kernel, by decide +kernel⟩
theorem fn__law_among (T : Txt K mg) {f : Addr} {fd : FuncData} (hm : mg "_law_among" = some (.ref f)) (F : Fun K "_law_among" "_law_among" s__law_among f fd) (G__law_whole : FnD P w K mg base 1 "_law_whole" s__law_whole ["_law_thing"] m_law_whole) : FnD P w K mg base 2 "_law_among" s__law_among ["_law_thing", "_law_shifts"] m_law_among := by
  refine fnd_mk (np := 2) (nN := 2) (k := 1) hm F (F.binds fun _ _ _ _ _ _ us hl => match us, hl with | [_, _], _ => rfl) sc__law_among rfl rfl fun cdv A outer s H E hr => ?_
  have tk : Takes (cxOf (L2.CX P w) P w K mg base ["_law_thing", "_law_shifts"] "_law_among" (defScope s__law_among) f cdv A outer s H E) (fun cls d _ H => E cls d H) := takes_of rfl rfl rfl rfl
  exact (dss_one (ds_ret (d_and (d_call G__law_whole hr tk (da_cons (d_var 0) da_nil)) (d_one (d_cmp op_in_seq o_in (d_var 0) (d_var 1) (by rfl))))))
abbrev s__law_is_region : Stmt := top 41
theorem sc__law_is_region : FnScope ["_law_thing", "_law_shifts", "_law_spacing", "_law_spare", "_law_part", "_law_k"] ["_law_thing"] (defScope s__law_is_region) := ⟨rfl, rfl, rfl, by decide +kernel, rfl, by decide +kernel, by decide +kernel⟩
theorem fn__law_is_region (T : Txt K mg) {f : Addr} {fd : FuncData} (hm : mg "_law_is_region" = some (.ref f)) (F : Fun K "_law_is_region" "_law_is_region" s__law_is_region f fd) (G__law_whole : FnD P w K mg base 1 "_law_whole" s__law_whole ["_law_thing"] m_law_whole) : FnD P w K mg base 2 "_law_is_region" s__law_is_region ["_law_thing"] m_law_is_region := by
  refine fnd_mk (np := 1) (nN := 6) (k := 1) hm F (F.binds fun _ _ _ _ _ _ us hl => match us, hl with | [_], _ => rfl) sc__law_is_region rfl rfl fun cdv A outer s H E hr => ?_
  have tk : Takes (cxOf (L2.CX P w) P w K mg base ["_law_thing", "_law_shifts", "_law_spacing", "_law_spare", "_law_part", "_law_k"] "_law_is_region" (defScope s__law_is_region) f cdv A outer s H E) (fun cls d _ H => E cls d H) := takes_of rfl rfl rfl rfl
  exact (dss_cons (ds_if (DT.w (dw_or (dt_not (dt_val (d_isi .tup (d_var 0) T.n_isinstance T.n_tuple))) (dw_or1 (dt_cmp (op_neA hr.units) o_ne (d_callB call_len c_len T.n_len (da_cons (d_var 0) da_nil)) d_int)))) (dss_one (ds_ret d_bl)) dss_nil) (dss_cons (ds_asg (d_var 0) (dg_any rfl (dgs_cons (dg_name 1 sc__law_is_region.nd) (dgs_cons (dg_name 2 sc__law_is_region.nd) dgs_nil)))) (dss_cons (ds_if (DT.w (dw_or (dt_not (dt_val (d_isi .tup (d_var 1) T.n_isinstance T.n_tuple))) (dw_or1 (dt_cmp op_notIn_seq o_in (d_callB call_len c_len T.n_len (da_cons (d_var 1) da_nil)) (d_fz (dl_lst (da_cons d_int (da_cons d_int (da_cons d_int da_nil))))) (by rfl))))) (dss_one (ds_ret d_bl)) dss_nil) (dss_cons (ds_if (dt_not (dt_val (d_callB (cr_all rfl) c_all T.n_all (da_cons (d_fz (dl_lc (own := [("_law_part", 4)]) rfl sc__law_is_region.nd (di_seq (d_fz (dl_cat (dl_callTy call_list_of c_list T.n_list (da_cons (d_var 1) da_nil)) (dl_lst (da_cons (d_var 2) da_nil))))) (blkOk_by (own := [("_law_part", 4)]) (N := ["_law_thing", "_law_shifts", "_law_spacing", "_law_spare", "_law_part", "_law_k"]) (sc := defScope s__law_is_region) (by decide +kernel)) (fun _ _ _ _ _ => (dg_name 4 sc__law_is_region.nd)) (fun _ _ _ _ _ => dts_nil) (fun _ _ _ _ _ => (d_call G__law_whole hr takes0 (da_cons (d_var 4) da_nil))))) da_nil)))) (dss_one (ds_ret d_bl)) dss_nil) (dss_cons (ds_if (dt_not (dt_val (d_callB (cr_all rfl) c_all T.n_all (da_cons (d_fz (dl_lc (own := [("_law_k", 5)]) rfl sc__law_is_region.nd (di_range1 (da_cons (d_op op_sub o_sub (d_callB call_len c_len T.n_len (da_cons (d_var 1) da_nil)) d_int) da_nil) T.n_range) (blkOk_by (own := [("_law_k", 5)]) (N := ["_law_thing", "_law_shifts", "_law_spacing", "_law_spare", "_law_part", "_law_k"]) (sc := defScope s__law_is_region) (by decide +kernel)) (fun _ _ _ _ _ => (dg_name 5 sc__law_is_region.nd)) (fun _ _ _ _ _ => dts_nil) (fun _ _ _ _ _ => (d_cmp op_lt o_lt (d_ix ix_seq o_ix (d_var 1) (d_var 5)) (d_ix ix_seq o_ix (d_var 1) (d_op op_addD o_add (d_var 5) d_int)))))) da_nil)))) (dss_one (ds_ret d_bl)) dss_nil) (dss_cons (ds_set 3 sc__law_is_region.nd (d_op op_sub o_sub (d_ix ix_seq o_ix (d_var 1) (d_fold (d := .int (-1)) (d_un un_neg o_neg d_int) (fun _ _ => rfl))) (d_ix ix_seq o_ix (d_var 1) d_int))) (dss_one (ds_ret (d_and (d_cmp op_le o_le (d_fold (d := .int (-900)) (d_un un_neg o_neg d_int) (fun _ _ => rfl)) (d_ix ix_seq o_ix (d_var 1) d_int)) (d_and (d_cmp op_le o_le (d_ix ix_seq o_ix (d_var 1) (d_fold (d := .int (-1)) (d_un un_neg o_neg d_int) (fun _ _ => rfl))) d_int) (d_and (d_cmp op_lt o_lt (d_var 3) (d_var 2)) (d_one (d_cmp op_le o_le (d_var 2) d_int)))))))))))))
abbrev s__law_is_chart : Stmt := top 42
theorem sc__law_is_chart : FnScope ["_law_region", "_law_thing", "_law_shifts", "_law_spacing", "_law_held", "_law_hours", "_law_jump"] ["_law_region", "_law_thing"] (defScope s__law_is_chart) := ⟨rfl, rfl, rfl, by decide +kernel, rfl, by decide +kernel, by decide +kernel⟩
theorem fn__law_is_chart (T : Txt K mg) {f : Addr} {fd : FuncData} (hm : mg "_law_is_chart" = some (.ref f)) (F : Fun K "_law_is_chart" "_law_is_chart" s__law_is_chart f fd) (G__law_among : FnD P w K mg base 2 "_law_among" s__law_among ["_law_thing", "_law_shifts"] m_law_among) (G__law_whole : FnD P w K mg base 1 "_law_whole" s__law_whole ["_law_thing"] m_law_whole) : FnD P w K mg base 3 "_law_is_chart" s__law_is_chart ["_law_region", "_law_thing"] m_law_is_chart := by
  refine fnd_mk (np := 2) (nN := 7) (k := 2) hm F (F.binds fun _ _ _ _ _ _ us hl => match us, hl with | [_, _], _ => rfl) sc__law_is_chart rfl rfl fun cdv A outer s H E hr => ?_
  have tk : Takes (cxOf (L2.CX P w) P w K mg base ["_law_region", "_law_thing", "_law_shifts", "_law_spacing", "_law_held", "_law_hours", "_law_jump"] "_law_is_chart" (defScope s__law_is_chart) f cdv A outer s H E) (fun cls d _ H => E cls d H) := takes_of rfl rfl rfl rfl
  exact (dss_cons (ds_asg (d_var 0) (dg_tup rfl (dgs_cons (dg_name 2 sc__law_is_chart.nd) (dgs_cons (dg_name 3 sc__law_is_chart.nd) dgs_nil)))) (dss_cons (ds_if (DT.w (dw_or (dt_not (dt_val (d_isi .tup (d_var 1) T.n_isinstance T.n_tuple))) (dw_or (dt_cmp (op_neA hr.units) o_ne (d_callB call_len c_len T.n_len (da_cons (d_var 1) da_nil)) d_int) (dw_or1 (dt_not (dt_val (d_call G__law_among hr tk (da_cons (d_ix ix_seq o_ix (d_var 1) d_int) (da_cons (d_var 2) da_nil))))))))) (dss_one (ds_ret d_bl)) dss_nil) (dss_cons (ds_if (dt_not (dt_val (d_isi .tup (d_ix ix_seq o_ix (d_var 1) d_int) T.n_isinstance T.n_tuple))) (dss_one (ds_ret d_bl)) dss_nil) (dss_cons (ds_set 4 sc__law_is_chart.nd (d_ix ix_seq o_ix (d_var 1) d_int)) (dss_cons (ds_set 5 sc__law_is_chart.nd (d_new (dl_lst da_nil))) (dss_cons (ds_for (passes_of rfl) rfl (di_seq (d_ix ix_seq o_ix (d_var 1) d_int)) (dg_name 6 sc__law_is_chart.nd) (dss_cons (ds_if (DT.w (dw_or (dt_not (dt_val (d_isi .tup (d_var 6) T.n_isinstance T.n_tuple))) (dw_or (dt_cmp (op_neA hr.units) o_ne (d_callB call_len c_len T.n_len (da_cons (d_var 6) da_nil)) d_int) (dw_or1 (dt_not (dt_val (d_call G__law_whole hr tk (da_cons (d_ix ix_seq o_ix (d_var 6) d_int) da_nil)))))))) (dss_one (ds_ret d_bl)) dss_nil) (dss_cons (ds_if (DT.w (dw_or (dt_not (dt_val (d_call G__law_among hr tk (da_cons (d_ix ix_seq o_ix (d_var 6) d_int) (da_cons (d_var 2) da_nil))))) (dw_or1 (dt_cmp (op_eqA hr.units) o_eq (d_ix ix_seq o_ix (d_var 6) d_int) (d_var 4))))) (dss_one (ds_ret d_bl)) dss_nil) (dss_cons (ds_if (DT.w (dw_and (dt_cmp op_gt o_gt (d_callB call_len c_len T.n_len (da_cons (d_var 5) da_nil)) d_int) (dw_and1 (dt_cmp op_lt o_lt (d_ix ix_seq o_ix (d_var 6) d_int) (d_op op_addD o_add (d_ix ix_seq o_ix (d_var 5) (d_fold (d := .int (-1)) (d_un un_neg o_neg d_int) (fun _ _ => rfl))) (d_var 3)))))) (dss_one (ds_ret d_bl)) dss_nil) (dss_cons (ds_set 4 sc__law_is_chart.nd (d_ix ix_seq o_ix (d_var 6) d_int)) (dss_one (ds_app (d_var 5) (d_ix ix_seq o_ix (d_var 6) d_int) (fun a b => ps_expr (pe_bm PySem.F.plainAttrs_list PySem.F.slot_list_append PySem.F.type_list_append mt_append a (pa_cons b pa_nil)))))))))) (dss_one (ds_ret d_bl))))))))
abbrev s__law_hours_of : Stmt := top 43
theorem sc__law_hours_of : FnScope ["_law_chart", "_law_shown", "_law_jumps", "_law_hours", "_law_held", "_law_k", "_law_hour"] ["_law_chart", "_law_shown"] (defScope s__law_hours_of) := ⟨rfl, rfl, rfl, by decide +kernel, rfl, by decide +kernel, by decide +kernel⟩
theorem fn__law_hours_of (T : Txt K mg) {f : Addr} {fd : FuncData} (hm : mg "_law_hours_of" = some (.ref f)) (F : Fun K "_law_hours_of" "_law_hours_of" s__law_hours_of f fd) : FnD P w K mg base 1 "_law_hours_of" s__law_hours_of ["_law_chart", "_law_shown"] m_law_hours_of := by
  refine fnd_mk (np := 2) (nN := 7) (k := 0) hm F (F.binds fun _ _ _ _ _ _ us hl => match us, hl with | [_, _], _ => rfl) sc__law_hours_of rfl rfl fun cdv A outer s H E hr => ?_
  have tk : Takes (cxOf (L2.CX P w) P w K mg base ["_law_chart", "_law_shown", "_law_jumps", "_law_hours", "_law_held", "_law_k", "_law_hour"] "_law_hours_of" (defScope s__law_hours_of) f cdv A outer s H E) (fun cls d _ H => E cls d H) := takes_of rfl rfl rfl rfl
  exact (dss_cons (ds_set 2 sc__law_hours_of.nd (d_ix ix_seq o_ix (d_var 0) d_int)) (dss_cons (ds_set 3 sc__law_hours_of.nd (d_new (dl_lst da_nil))) (dss_cons (ds_set 4 sc__law_hours_of.nd (d_ix ix_seq o_ix (d_var 0) d_int)) (dss_cons (ds_for (passes_of rfl) rfl (di_range1 (da_cons (d_op op_addD o_add (d_callB call_len c_len T.n_len (da_cons (d_var 2) da_nil)) d_int) da_nil) T.n_range) (dg_name 5 sc__law_hours_of.nd) (dss_cons (ds_set 6 sc__law_hours_of.nd (d_op op_sub o_sub (d_var 1) (d_var 4))) (dss_cons (ds_if (DT.w (dw_and (DT.w (dw_or (dt_cmp (op_eqA hr.units) o_eq (d_var 5) d_int) (dw_or1 (dt_cmp op_le o_le (d_ix ix_seq o_ix (d_ix ix_seq o_ix (d_var 2) (d_op op_sub o_sub (d_var 5) d_int)) d_int) (d_var 6))))) (dw_and1 (DT.w (dw_or (dt_cmp (op_eqA hr.units) o_eq (d_var 5) (d_callB call_len c_len T.n_len (da_cons (d_var 2) da_nil))) (dw_or1 (dt_cmp op_lt o_lt (d_var 6) (d_ix ix_seq o_ix (d_ix ix_seq o_ix (d_var 2) (d_var 5)) d_int)))))))) (dss_one (ds_app (d_var 3) (d_var 6) (fun a b => ps_expr (pe_bm PySem.F.plainAttrs_list PySem.F.slot_list_append PySem.F.type_list_append mt_append a (pa_cons b pa_nil))))) dss_nil) (dss_one (ds_if (dt_cmp op_lt o_lt (d_var 5) (d_callB call_len c_len T.n_len (da_cons (d_var 2) da_nil))) (dss_one (ds_set 4 sc__law_hours_of.nd (d_ix ix_seq o_ix (d_ix ix_seq o_ix (d_var 2) (d_var 5)) d_int))) dss_nil))))) (dss_one (ds_ret (d_var 3)))))))
abbrev s__law_found : Stmt := top 44
theorem sc__law_found : FnScope ["_law_chart", "_law_shown", "_law_early", "_law_ahead", "_law_hours", "_law_held", "_law_due", "_law_hour", "_law_shift"] ["_law_chart", "_law_shown", "_law_early", "_law_ahead"] (defScope s__law_found) := ⟨rfl, rfl, rfl, by decide +kernel, rfl, by decide +kernel, by decide +kernel⟩
theorem fn__law_found (T : Txt K mg) {f : Addr} {fd : FuncData} (hm : mg "_law_found" = some (.ref f)) (F : Fun K "_law_found" "_law_found" s__law_found f fd) (G__law_hours_of : FnD P w K mg base 1 "_law_hours_of" s__law_hours_of ["_law_chart", "_law_shown"] m_law_hours_of) : FnD P w K mg base 2 "_law_found" s__law_found ["_law_chart", "_law_shown", "_law_early", "_law_ahead"] m_law_found := by
  refine fnd_mk (np := 4) (nN := 9) (k := 1) hm F (F.binds fun _ _ _ _ _ _ us hl => match us, hl with | [_, _, _, _], _ => rfl) sc__law_found rfl rfl fun cdv A outer s H E hr => ?_
  have tk : Takes (cxOf (L2.CX P w) P w K mg base ["_law_chart", "_law_shown", "_law_early", "_law_ahead", "_law_hours", "_law_held", "_law_due", "_law_hour", "_law_shift"] "_law_found" (defScope s__law_found) f cdv A outer s H E) (fun cls d _ H => E cls d H) := takes_of rfl rfl rfl rfl
  exact (dss_cons (ds_set 4 sc__law_found.nd (d_call G__law_hours_of hr tk (da_cons (d_var 0) (da_cons (d_var 1) da_nil)))) (dss_cons (ds_if (dt_cmp (op_eqA hr.units) o_eq (d_callB call_len c_len T.n_len (da_cons (d_var 4) da_nil)) d_int) (dss_one (ds_ret (d_ix ix_seq o_ix (d_var 4) d_int))) dss_nil) (dss_cons (ds_if (dt_cmp (op_eqA hr.units) o_eq (d_callB call_len c_len T.n_len (da_cons (d_var 4) da_nil)) d_int) (dss_one (ds_ret (d_dix hr.units (d_disp (dps_cons d_str (d_ix ix_seq o_ix (d_var 4) d_int) (dps_cons d_str (d_ix ix_seq o_ix (d_var 4) d_int) (dps_cons d_str d_non dps_nil)))) (d_var 2)))) dss_nil) (dss_cons (ds_set 5 sc__law_found.nd (d_ix ix_seq o_ix (d_var 0) d_int)) (dss_cons (ds_set 6 sc__law_found.nd d_dnew) (dss_cons (ds_forA (passes_of rfl) rfl (d_ix ix_seq o_ix (d_var 0) d_int) (dg_tup rfl (dgs_cons (dg_name 7 sc__law_found.nd) (dgs_cons (dg_name 8 sc__law_found.nd) dgs_nil))) (dss_cons (ds_if (DT.w (dw_and (dt_cmp op_ge o_ge (d_op op_sub o_sub (d_var 1) (d_var 5)) (d_var 7)) (dw_and1 (dt_cmp op_lt o_lt (d_op op_sub o_sub (d_var 1) (d_var 8)) (d_var 7))))) (dss_one (ds_set 6 sc__law_found.nd (d_disp (dps_cons d_str (d_op op_sub o_sub (d_var 1) (d_var 5)) (dps_cons d_str (d_op op_sub o_sub (d_var 1) (d_var 8)) (dps_cons d_str d_non dps_nil)))))) dss_nil) (dss_one (ds_set 5 sc__law_found.nd (d_var 8))))) (dss_one (ds_ret (d_dix hr.units (d_var 6) (d_var 3))))))))))
abbrev s__law_strange_number : Stmt := top 45
theorem sc__law_strange_number : FnScope ["_law_pot", "_law_one"] ["_law_pot"] (defScope s__law_strange_number) := ⟨rfl, rfl, rfl, by decide +kernel, rfl, by decide +kernel, by decide +kernel⟩
theorem fn__law_strange_number (T : Txt K mg) {f : Addr} {fd : FuncData} (hm : mg "_law_strange_number" = some (.ref f)) (F : Fun K "_law_strange_number" "_law_strange_number" s__law_strange_number f fd) (G__law_draw : FnD P w K mg base 1 "_law_draw" s__law_draw ["_law_pot", "_law_upto"] m_law_draw) (GI_Crowded : XiOk P w K mg base 1 "Crowded" ["first", "last"]) : FnD P w K mg base 3 "_law_strange_number" s__law_strange_number ["_law_pot"] m_law_strange_number := by
  refine fnd_mk (np := 1) (nN := 2) (k := 2) hm F (F.binds fun _ _ _ _ _ _ us hl => match us, hl with | [_], _ => rfl) sc__law_strange_number rfl rfl fun cdv A outer s H E hr => ?_
  have tk : Takes (cxOf (L2.CX P w) P w K mg base ["_law_pot", "_law_one"] "_law_strange_number" (defScope s__law_strange_number) f cdv A outer s H E) (fun cls d _ H => E cls d H) := takes_of rfl rfl rfl rfl
  exact (dss_cons (ds_set 1 sc__law_strange_number.nd (d_call G__law_draw hr tk (da_cons (d_var 0) (da_cons d_int da_nil)))) (dss_one (ds_ret (d_ix ix_seq o_ix (d_fz (dl_lst (da_cons d_non (da_cons d_bl (da_cons d_bl (da_cons d_str (da_cons d_str (da_cons (d_fz (dl_lst (da_cons (d_var 1) da_nil))) (da_cons (d_tup (da_cons (d_var 1) da_nil)) (da_cons (d_newX GI_Crowded T.p__Cd7 hr (da_cons (d_var 1) (da_cons d_int da_nil))) (da_cons (d_tup da_nil) (da_cons (d_callTy call_str_int c_strI T.n_str (da_cons (d_var 1) da_nil)) da_nil)))))))))))) (d_call G__law_draw hr tk (da_cons (d_var 0) (da_cons d_int da_nil)))))))
abbrev s__law_bad_region : Stmt := top 46
theorem sc__law_bad_region : FnScope ["_law_pot", "_law_region", "_law_thing", "_law_odd"] ["_law_pot", "_law_region"] (defScope s__law_bad_region) := ⟨rfl, rfl, rfl, by decide +kernel, rfl, by decide +kernel, by decide +kernel⟩
theorem fn__law_bad_region (T : Txt K mg) {f : Addr} {fd : FuncData} (hm : mg "_law_bad_region" = some (.ref f)) (F : Fun K "_law_bad_region" "_law_bad_region" s__law_bad_region f fd) (G__law_is_region : FnD P w K mg base 2 "_law_is_region" s__law_is_region ["_law_thing"] m_law_is_region) (G__law_draw : FnD P w K mg base 1 "_law_draw" s__law_draw ["_law_pot", "_law_upto"] m_law_draw) (G__law_bend : FnD P w K mg base 16 "_law_bend" s__law_bend ["_law_pot", "_law_thing", "_law_deep"] (m_law_bend_v2 12)) : FnD P w K mg base 17 "_law_bad_region" s__law_bad_region ["_law_pot", "_law_region"] m_law_bad_region := by
  refine fnd_mk (np := 2) (nN := 4) (k := 16) hm F (F.binds fun _ _ _ _ _ _ us hl => match us, hl with | [_, _], _ => rfl) sc__law_bad_region rfl rfl fun cdv A outer s H E hr => ?_
  have tk : Takes (cxOf (L2.CX P w) P w K mg base ["_law_pot", "_law_region", "_law_thing", "_law_odd"] "_law_bad_region" (defScope s__law_bad_region) f cdv A outer s H E) (fun cls d _ H => E cls d H) := takes_of rfl rfl rfl rfl
  exact (dss_cons (ds_set 2 sc__law_bad_region.nd (d_call G__law_bend hr tk (da_cons (d_var 0) (da_cons (d_var 1) (da_cons d_int da_nil))))) (dss_cons (ds_if (dt_val (d_call G__law_is_region hr tk (da_cons (d_var 2) da_nil))) (dss_cons (ds_set 3 sc__law_bad_region.nd (d_fz (dl_lst (da_cons (d_fz (dl_callTy call_list_of c_list T.n_list (da_cons (d_var 1) da_nil))) (da_cons (d_ix ix_seq o_ix (d_var 1) d_int) (da_cons (d_op op_addD o_add (d_var 1) (d_tup (da_cons d_int da_nil))) (da_cons (d_tup (da_cons (d_ix ix_seq o_ix (d_var 1) d_int) (da_cons d_str da_nil))) (da_cons (d_tup (da_cons (d_fz (dl_callTy call_list_of c_list T.n_list (da_cons (d_ix ix_seq o_ix (d_var 1) d_int) da_nil))) (da_cons (d_ix ix_seq o_ix (d_var 1) d_int) da_nil))) da_nil)))))))) (dss_one (ds_ret (d_ix ix_seq o_ix (d_var 3) (d_call G__law_draw hr tk (da_cons (d_var 0) (da_cons d_int da_nil))))))) dss_nil) (dss_one (ds_ret (d_var 2)))))
abbrev s__law_bad_chart : Stmt := top 47
theorem sc__law_bad_chart : FnScope ["_law_pot", "_law_region", "_law_chart", "_law_thing"] ["_law_pot", "_law_region", "_law_chart"] (defScope s__law_bad_chart) := ⟨rfl, rfl, rfl, by decide +kernel, rfl, by decide +kernel, by decide +kernel⟩
theorem fn__law_bad_chart (T : Txt K mg) {f : Addr} {fd : FuncData} (hm : mg "_law_bad_chart" = some (.ref f)) (F : Fun K "_law_bad_chart" "_law_bad_chart" s__law_bad_chart f fd) (G__law_is_chart : FnD P w K mg base 3 "_law_is_chart" s__law_is_chart ["_law_region", "_law_thing"] m_law_is_chart) (G__law_draw : FnD P w K mg base 1 "_law_draw" s__law_draw ["_law_pot", "_law_upto"] m_law_draw) (G__law_bend : FnD P w K mg base 16 "_law_bend" s__law_bend ["_law_pot", "_law_thing", "_law_deep"] (m_law_bend_v2 12)) : FnD P w K mg base 17 "_law_bad_chart" s__law_bad_chart ["_law_pot", "_law_region", "_law_chart"] m_law_bad_chart := by
  refine fnd_mk (np := 3) (nN := 4) (k := 16) hm F (F.binds fun _ _ _ _ _ _ us hl => match us, hl with | [_, _, _], _ => rfl) sc__law_bad_chart rfl rfl fun cdv A outer s H E hr => ?_
  have tk : Takes (cxOf (L2.CX P w) P w K mg base ["_law_pot", "_law_region", "_law_chart", "_law_thing"] "_law_bad_chart" (defScope s__law_bad_chart) f cdv A outer s H E) (fun cls d _ H => E cls d H) := takes_of rfl rfl rfl rfl
  exact (dss_cons (ds_set 3 sc__law_bad_chart.nd (d_call G__law_bend hr tk (da_cons (d_var 0) (da_cons (d_var 2) (da_cons d_int da_nil))))) (dss_cons (ds_if (dt_val (d_call G__law_is_chart hr tk (da_cons (d_var 1) (da_cons (d_var 3) da_nil)))) (dss_one (ds_ret (d_ix ix_seq o_ix (d_fz (dl_lst (da_cons (d_fz (dl_callTy call_list_of c_list T.n_list (da_cons (d_var 2) da_nil))) (da_cons (d_tup (da_cons (d_ix ix_seq o_ix (d_var 2) d_int) (da_cons (d_fz (dl_callTy call_list_of c_list T.n_list (da_cons (d_ix ix_seq o_ix (d_var 2) d_int) da_nil))) da_nil))) (da_cons (d_op op_addD o_add (d_var 2) (d_tup (da_cons (d_tup da_nil) da_nil))) (da_cons (d_tup (da_cons d_int (da_cons (d_ix ix_seq o_ix (d_var 2) d_int) da_nil))) da_nil)))))) (d_call G__law_draw hr tk (da_cons (d_var 0) (da_cons d_int da_nil)))))) dss_nil) (dss_one (ds_ret (d_var 3)))))
abbrev s__law_bad_rule : Stmt := top 48
theorem sc__law_bad_rule : FnScope ["_law_pot", "_law_words", "_law_others", "_law_odd"] ["_law_pot", "_law_words", "_law_others"] (defScope s__law_bad_rule) := ⟨rfl, rfl, rfl, by decide +kernel, rfl, by decide +kernel, by decide +kernel⟩
theorem fn__law_bad_rule (T : Txt K mg) {f : Addr} {fd : FuncData} (hm : mg "_law_bad_rule" = some (.ref f)) (F : Fun K "_law_bad_rule" "_law_bad_rule" s__law_bad_rule f fd) (G__law_draw : FnD P w K mg base 1 "_law_draw" s__law_draw ["_law_pot", "_law_upto"] m_law_draw) : FnD P w K mg base 2 "_law_bad_rule" s__law_bad_rule ["_law_pot", "_law_words", "_law_others"] m_law_bad_rule := by
  refine fnd_mk (np := 3) (nN := 4) (k := 1) hm F (F.binds fun _ _ _ _ _ _ us hl => match us, hl with | [_, _, _], _ => rfl) sc__law_bad_rule rfl rfl fun cdv A outer s H E hr => ?_
  have tk : Takes (cxOf (L2.CX P w) P w K mg base ["_law_pot", "_law_words", "_law_others", "_law_odd"] "_law_bad_rule" (defScope s__law_bad_rule) f cdv A outer s H E) (fun cls d _ H => E cls d H) := takes_of rfl rfl rfl rfl
  exact (dss_cons (ds_set 3 sc__law_bad_rule.nd (d_fz (dl_lst (da_cons (d_ix ix_seq o_ix (d_var 2) d_int) (da_cons (d_ix ix_seq o_ix (d_var 2) d_int) (da_cons d_str (da_cons (d_op op_add_str o_catS (d_ix ix_seq o_ix (d_var 1) d_int) d_str) (da_cons d_str (da_cons d_non (da_cons d_bl (da_cons d_int (da_cons (d_fz (dl_lst (da_cons (d_ix ix_seq o_ix (d_var 1) d_int) da_nil))) (da_cons (d_tup (da_cons (d_ix ix_seq o_ix (d_var 1) d_int) da_nil)) da_nil))))))))))))) (dss_one (ds_ret (d_ix ix_seq o_ix (d_fz (dl_catV (d_var 3) (dl_lst (da_cons (d_upper (d_ix ix_seq o_ix (d_var 1) d_int)) da_nil)))) (d_call G__law_draw hr tk (da_cons (d_var 0) (da_cons d_int da_nil)))))))
abbrev s__law_heard : Stmt := top 49
theorem sc__law_heard : FnScope ["_law_which", "_law_parts", "_law_raised", "_law_told", "e", "_law_classes", "_law_k"] ["_law_which", "_law_parts"] (defScope s__law_heard) := ⟨rfl, rfl, rfl, by decide +kernel, rfl, by decide +kernel, by decide +kernel⟩
theorem fn__law_heard (T : Txt K mg) {f : Addr} {fd : FuncData} (hm : mg "_law_heard" = some (.ref f)) (F : Fun K "_law_heard" "_law_heard" s__law_heard f fd) (G_offset_at : FnD P w K mg base 6 "offset_at" s_offset_at ["zone", "table", "moment"] m_offset_at) (G_reading_at : FnD P w K mg base 7 "reading_at" s_reading_at ["zone", "table", "moment"] m_reading_at) (G_moments_of : FnD P w K mg base 6 "moments_of" s_moments_of ["zone", "table", "reading"] m_moments_of) (G_find_moment : FnDD P w K mg base 6 "find_moment" s_find_moment [] [("fold", (V.str "early")), ("gap", (V.str "ahead"))] ["zone", "table", "reading", "fold", "gap"] m_find_moment) (G_is_table : FnD P w K mg base 4 "is_table" s_is_table ["zone", "value"] m_is_table) : FnD P w K mg base 8 "_law_heard" s__law_heard ["_law_which", "_law_parts"] m_law_heard_v2 := by
  refine fnd_mk (np := 2) (nN := 7) (k := 7) hm F (F.binds fun _ _ _ _ _ _ us hl => match us, hl with | [_, _], _ => rfl) sc__law_heard rfl rfl fun cdv A outer s H E hr => ?_
  have tk : Takes (cxOf (L2.CX P w) P w K mg base ["_law_which", "_law_parts", "_law_raised", "_law_told", "e", "_law_classes", "_law_k"] "_law_heard" (defScope s__law_heard) f cdv A outer s H E) (fun cls d _ H => E cls d H) := takes_of rfl rfl rfl rfl
  exact (dss_cons (ds_set 2 sc__law_heard.nd d_non) (dss_cons (ds_set 3 sc__law_heard.nd d_non) (dss_cons (ds_try (cs := ["InvalidNumber", "InvalidRule", "InvalidTable", "InvalidZone"]) sc__law_heard.nd tk (fun _ _ _ tk => (dss_one (ds_if (dt_cmp (op_eqA hr.units) o_eq (d_var 0) d_int) (dss_one (ds_set 3 sc__law_heard.nd (d_call G_offset_at hr tk (da_cons (d_ix ix_seq o_ix (d_var 1) d_int) (da_cons (d_ix ix_seq o_ix (d_var 1) d_int) (da_cons (d_ix ix_seq o_ix (d_var 1) d_int) da_nil)))))) (dss_one (ds_if (dt_cmp (op_eqA hr.units) o_eq (d_var 0) d_int) (dss_one (ds_set 3 sc__law_heard.nd (d_call G_reading_at hr tk (da_cons (d_ix ix_seq o_ix (d_var 1) d_int) (da_cons (d_ix ix_seq o_ix (d_var 1) d_int) (da_cons (d_ix ix_seq o_ix (d_var 1) d_int) da_nil)))))) (dss_one (ds_if (dt_cmp (op_eqA hr.units) o_eq (d_var 0) d_int) (dss_one (ds_set 3 sc__law_heard.nd (d_call G_moments_of hr tk (da_cons (d_ix ix_seq o_ix (d_var 1) d_int) (da_cons (d_ix ix_seq o_ix (d_var 1) d_int) (da_cons (d_ix ix_seq o_ix (d_var 1) d_int) da_nil)))))) (dss_one (ds_if (dt_cmp (op_eqA hr.units) o_eq (d_var 0) d_int) (dss_one (ds_set 3 sc__law_heard.nd (d_callD (n := 3) (ks := (["gap", "fold"] : List Str)) G_find_moment [0, 1, 2, 4, 3] (by exact kwb_kw [] (List.cons_ne_nil _ _) (by simp) (fun _ _ _ _ _ _ us ws mv h1 h2 h3 => match us, ws, mv, h1, h2, h3 with | [_, _, _], [_, _], [], _, _, _ => (by rfl))) .nil hr tk (da_cons (d_ix ix_seq o_ix (d_var 1) d_int) (da_cons (d_ix ix_seq o_ix (d_var 1) d_int) (da_cons (d_ix ix_seq o_ix (d_var 1) d_int) da_nil))) (dk_cons (d_ix ix_seq o_ix (d_var 1) d_int) (dk_cons (d_ix ix_seq o_ix (d_var 1) d_int) dk_nil))))) (dss_one (ds_set 3 sc__law_heard.nd (d_call G_is_table hr tk (da_cons (d_ix ix_seq o_ix (d_var 1) d_int) (da_cons (d_ix ix_seq o_ix (d_var 1) d_int) da_nil)))))))))))))) (hds_as 4 T.t_HourError_IrIeIeIe47 T.p__IrIeIeIe47 (fun _ _ tk => (dss_one (ds_set 2 sc__law_heard.nd (d_var 4)))) HdsD.nil)) (dss_cons (ds_if (dt_cmp op_isN o_isN (d_var 2) d_non) (dss_one (ds_ret (d_tup (da_cons d_str (da_cons (d_var 3) da_nil))))) dss_nil) (dss_cons (ds_set 5 sc__law_heard.nd (d_new (dl_lst (da_cons (d_isx (d_var 2) T.i_InvalidZone T.n_isinstance) (da_cons (d_isx (d_var 2) T.i_InvalidTable T.n_isinstance) da_nil))))) (dss_cons (ds_set 5 sc__law_heard.nd (d_new (dl_catC (d_var 5) (dl_lst (da_cons (d_isx (d_var 2) T.i_InvalidNumber T.n_isinstance) (da_cons (d_isx (d_var 2) T.i_InvalidRule T.n_isinstance) da_nil)))))) (dss_cons (ds_app (d_var 5) (d_isx (d_var 2) T.i_InvalidLooks T.n_isinstance) (fun a b => ps_expr (pe_bm PySem.F.plainAttrs_list PySem.F.slot_list_append PySem.F.type_list_append mt_append a (pa_cons b pa_nil)))) (dss_one (ds_ret (d_tup (da_cons d_str (da_cons (d_fz (dl_lc (own := [("_law_k", 6)]) rfl sc__law_heard.nd (di_range1 (da_cons d_int da_nil) T.n_range) (blkOk_by (own := [("_law_k", 6)]) (N := ["_law_which", "_law_parts", "_law_raised", "_law_told", "e", "_law_classes", "_law_k"]) (sc := defScope s__law_heard) (by decide +kernel)) (fun _ _ _ _ _ => (dg_name 6 sc__law_heard.nd)) (fun _ _ _ _ _ => (dts_one (dt_val (d_ix ix_seq o_ix (d_var 5) (d_var 6))))) (fun _ _ _ _ _ => (d_var 6)))) da_nil))))))))))))
abbrev s__law_answer : Stmt := top 50
theorem sc__law_answer : FnScope ["_law_which", "_law_parts", "_law_shift"] ["_law_which", "_law_parts"] (defScope s__law_answer) := ⟨rfl, rfl, rfl, by decide +kernel, rfl, by decide +kernel, by decide +kernel⟩
theorem fn__law_answer (T : Txt K mg) {f : Addr} {fd : FuncData} (hm : mg "_law_answer" = some (.ref f)) (F : Fun K "_law_answer" "_law_answer" s__law_answer f fd) (G__law_hours_of : FnD P w K mg base 1 "_law_hours_of" s__law_hours_of ["_law_chart", "_law_shown"] m_law_hours_of) (G__law_found : FnD P w K mg base 2 "_law_found" s__law_found ["_law_chart", "_law_shown", "_law_early", "_law_ahead"] m_law_found) (G__law_shift_at : FnD P w K mg base 1 "_law_shift_at" s__law_shift_at ["_law_chart", "_law_hour"] m_law_shift_at) : FnD P w K mg base 3 "_law_answer" s__law_answer ["_law_which", "_law_parts"] m_law_answer := by
  refine fnd_mk (np := 2) (nN := 3) (k := 2) hm F (F.binds fun _ _ _ _ _ _ us hl => match us, hl with | [_, _], _ => rfl) sc__law_answer rfl rfl fun cdv A outer s H E hr => ?_
  have tk : Takes (cxOf (L2.CX P w) P w K mg base ["_law_which", "_law_parts", "_law_shift"] "_law_answer" (defScope s__law_answer) f cdv A outer s H E) (fun cls d _ H => E cls d H) := takes_of rfl rfl rfl rfl
  exact (dss_cons (ds_set 2 sc__law_answer.nd (d_call G__law_shift_at hr tk (da_cons (d_ix ix_seq o_ix (d_var 1) d_int) (da_cons (d_ix ix_seq o_ix (d_var 1) d_int) da_nil)))) (dss_cons (ds_if (dt_cmp (op_eqA hr.units) o_eq (d_var 0) d_int) (dss_one (ds_ret (d_call G__law_found hr tk (da_cons (d_ix ix_seq o_ix (d_var 1) d_int) (da_cons (d_ix ix_seq o_ix (d_var 1) d_int) (da_cons (d_ix ix_seq o_ix (d_var 1) d_int) (da_cons (d_ix ix_seq o_ix (d_var 1) d_int) da_nil))))))) dss_nil) (dss_one (ds_ret (d_ix ix_seq o_ix (d_fz (dl_lst (da_cons (d_var 2) (da_cons (d_op op_addD o_add (d_ix ix_seq o_ix (d_var 1) d_int) (d_var 2)) (da_cons (d_call G__law_hours_of hr tk (da_cons (d_ix ix_seq o_ix (d_var 1) d_int) (da_cons (d_ix ix_seq o_ix (d_var 1) d_int) da_nil))) da_nil))))) (d_var 0))))))
abbrev s__law_awaited : Stmt := top 51
theorem sc__law_awaited : FnScope ["_law_which", "_law_parts", "_law_wrong", "_law_region", "_law_k"] ["_law_which", "_law_parts", "_law_wrong", "_law_region"] (defScope s__law_awaited) := ⟨rfl, rfl, rfl, by decide +kernel, rfl, by decide +kernel, by decide +kernel⟩
theorem fn__law_awaited (T : Txt K mg) {f : Addr} {fd : FuncData} (hm : mg "_law_awaited" = some (.ref f)) (F : Fun K "_law_awaited" "_law_awaited" s__law_awaited f fd) (G__law_answer : FnD P w K mg base 3 "_law_answer" s__law_answer ["_law_which", "_law_parts"] m_law_answer) (G__law_is_chart : FnD P w K mg base 3 "_law_is_chart" s__law_is_chart ["_law_region", "_law_thing"] m_law_is_chart) : FnD P w K mg base 4 "_law_awaited" s__law_awaited ["_law_which", "_law_parts", "_law_wrong", "_law_region"] m_law_awaited_v2 := by
  refine fnd_mk (np := 4) (nN := 5) (k := 3) hm F (F.binds fun _ _ _ _ _ _ us hl => match us, hl with | [_, _, _, _], _ => rfl) sc__law_awaited rfl rfl fun cdv A outer s H E hr => ?_
  have tk : Takes (cxOf (L2.CX P w) P w K mg base ["_law_which", "_law_parts", "_law_wrong", "_law_region", "_law_k"] "_law_awaited" (defScope s__law_awaited) f cdv A outer s H E) (fun cls d _ H => E cls d H) := takes_of rfl rfl rfl rfl
  exact (dss_cons (ds_if (dt_cmp (op_eqA hr.units) o_eq (d_ix ix_seq o_ix (d_var 2) d_int) d_int) (dss_one (ds_ret (d_tup (da_cons d_str (da_cons (d_fz (dl_lst (da_cons d_int da_nil))) da_nil))))) dss_nil) (dss_cons (ds_if (dt_cmp (op_eqA hr.units) o_eq (d_var 0) d_int) (dss_one (ds_ret (d_tup (da_cons d_str (da_cons (d_call G__law_is_chart hr tk (da_cons (d_var 3) (da_cons (d_ix ix_seq o_ix (d_var 1) d_int) da_nil))) da_nil))))) dss_nil) (dss_cons (ds_for (passes_of rfl) rfl (di_range1 (da_cons (d_ix ix_seq o_ix (d_fz (dl_lst (da_cons d_int (da_cons d_int (da_cons d_int (da_cons d_int da_nil)))))) (d_var 0)) da_nil) T.n_range) (dg_name 4 sc__law_awaited.nd) (dss_one (ds_if (dt_cmp (op_eqA hr.units) o_eq (d_ix ix_seq o_ix (d_var 2) (d_var 4)) d_int) (dss_one (ds_ret (d_tup (da_cons d_str (da_cons (d_fz (dl_lst (da_cons (d_callB (call_min2 rfl) c_II T.n_min (da_cons (d_var 4) (da_cons d_int da_nil))) da_nil))) da_nil))))) dss_nil))) (dss_one (ds_ret (d_tup (da_cons d_str (da_cons (d_call G__law_answer hr tk (da_cons (d_var 0) (da_cons (d_var 1) da_nil))) da_nil))))))))
abbrev s_law : Stmt := top 52
theorem sc_law : FnScope ["_law_script", "_law_cell", "_law_pot", "_law_which", "_law_region", "_law_chart", "_law_early", "_law_ahead", "_law_words", "_law_others", "_law_right", "_law_bad", "_law_wrong", "_law_k", "_law_parts", "_law_at"] ["_law_script"] (defScope s_law) := ⟨rfl, rfl, rfl, by decide +kernel, rfl, by decide +kernel, by decide +kernel⟩
theorem fn_law (T : Txt K mg) {f : Addr} {fd : FuncData} (hm : mg "law" = some (.ref f)) (F : Fun K "law" "law" s_law f fd) (G__law_same : FnD P w K mg base 32 "_law_same" s__law_same ["_law_told", "_law_due"] (m_law_same 30)) (G__law_awaited : FnD P w K mg base 4 "_law_awaited" s__law_awaited ["_law_which", "_law_parts", "_law_wrong", "_law_region"] m_law_awaited_v2) (G__law_heard : FnD P w K mg base 8 "_law_heard" s__law_heard ["_law_which", "_law_parts"] m_law_heard_v2) (G__law_draw : FnD P w K mg base 1 "_law_draw" s__law_draw ["_law_pot", "_law_upto"] m_law_draw) (G__law_bad_rule : FnD P w K mg base 2 "_law_bad_rule" s__law_bad_rule ["_law_pot", "_law_words", "_law_others"] m_law_bad_rule) (G__law_strange_number : FnD P w K mg base 3 "_law_strange_number" s__law_strange_number ["_law_pot"] m_law_strange_number) (G__law_bad_chart : FnD P w K mg base 17 "_law_bad_chart" s__law_bad_chart ["_law_pot", "_law_region", "_law_chart"] m_law_bad_chart) (G__law_bad_region : FnD P w K mg base 17 "_law_bad_region" s__law_bad_region ["_law_pot", "_law_region"] m_law_bad_region) (G__law_near : FnD P w K mg base 3 "_law_near" s__law_near ["_law_pot", "_law_region", "_law_chart"] m_law_near) (G__law_make_chart : FnD P w K mg base 3 "_law_make_chart" s__law_make_chart ["_law_pot", "_law_region", "_law_upto"] m_law_make_chart) (G__law_make_region : FnD P w K mg base 2 "_law_make_region" s__law_make_region ["_law_pot"] m_law_make_region) (G__law_digits : FnD P w K mg base 1 "_law_digits" s__law_digits ["_law_cell"] m_law_digits) : FnD P w K mg base 33 "law" s_law ["_law_script"] m_law_k07_errors_of_tables := by
  refine fnd_mk (np := 1) (nN := 16) (k := 32) hm F (F.binds fun _ _ _ _ _ _ us hl => match us, hl with | [_], _ => rfl) sc_law rfl rfl fun cdv A outer s H E hr => ?_
  have tk : Takes (cxOf (L2.CX P w) P w K mg base ["_law_script", "_law_cell", "_law_pot", "_law_which", "_law_region", "_law_chart", "_law_early", "_law_ahead", "_law_words", "_law_others", "_law_right", "_law_bad", "_law_wrong", "_law_k", "_law_parts", "_law_at"] "law" (defScope s_law) f cdv A outer s H E) (fun cls d _ H => E cls d H) := takes_of rfl rfl rfl rfl
  exact (dss_cons (ds_for (passes_of rfl) rfl (di_seq (d_fz (dl_cat (dl_lst (da_cons (d_fold (d := .int 1000000000000000000000000000000000000305518826671940032271186) (d_op op_addD o_add (d_fold (d := .int 1000000000000000000000000000000000000000000000000000000000000) (d_op op_pow o_pow d_int d_int) (fun _ _ => rfl)) d_int) (fun _ _ => rfl)) da_nil)) (dl_slL (d_var 0) do_none (do_some d_int))))) (dg_name 1 sc_law.nd) (dss_cons (ds_set 2 sc_law.nd (d_call G__law_digits hr tk (da_cons (d_var 1) da_nil))) (dss_cons (ds_set 3 sc_law.nd (d_call G__law_draw hr tk (da_cons (d_var 2) (da_cons d_int da_nil)))) (dss_cons (ds_set 4 sc_law.nd (d_call G__law_make_region hr tk (da_cons (d_var 2) da_nil))) (dss_cons (ds_set 5 sc_law.nd (d_call G__law_make_chart hr tk (da_cons (d_var 2) (da_cons (d_var 4) (da_cons d_int da_nil))))) (dss_cons (ds_set 6 sc_law.nd (d_call G__law_draw hr tk (da_cons (d_var 2) (da_cons d_int da_nil)))) (dss_cons (ds_set 7 sc_law.nd (d_call G__law_draw hr tk (da_cons (d_var 2) (da_cons d_int da_nil)))) (dss_cons (ds_set 8 sc_law.nd (d_fz (dl_lst (da_cons d_str (da_cons d_str (da_cons d_str da_nil)))))) (dss_cons (ds_set 9 sc_law.nd (d_fz (dl_lst (da_cons d_str (da_cons d_str (da_cons d_str da_nil)))))) (dss_cons (ds_set 10 sc_law.nd (d_fz (dl_lst (da_cons (d_var 4) (da_cons (d_var 5) (da_cons (d_call G__law_near hr tk (da_cons (d_var 2) (da_cons (d_var 4) (da_cons (d_var 5) da_nil)))) (da_cons (d_ix ix_seq o_ix (d_var 8) (d_var 6)) (da_cons (d_ix ix_seq o_ix (d_var 9) (d_var 7)) da_nil)))))))) (dss_cons (ds_set 11 sc_law.nd (d_new (dl_lst (da_cons (d_call G__law_bad_region hr tk (da_cons (d_var 2) (da_cons (d_var 4) da_nil))) (da_cons (d_call G__law_bad_chart hr tk (da_cons (d_var 2) (da_cons (d_var 4) (da_cons (d_var 5) da_nil)))) da_nil))))) (dss_cons (ds_set 11 sc_law.nd (d_new (dl_catC (d_var 11) (dl_lst (da_cons (d_call G__law_strange_number hr tk (da_cons (d_var 2) da_nil)) (da_cons (d_call G__law_bad_rule hr tk (da_cons (d_var 2) (da_cons (d_var 8) (da_cons (d_var 9) da_nil)))) da_nil)))))) (dss_cons (ds_app (d_var 11) (d_call G__law_bad_rule hr tk (da_cons (d_var 2) (da_cons (d_var 9) (da_cons (d_var 8) da_nil)))) (fun a b => ps_expr (pe_bm PySem.F.plainAttrs_list PySem.F.slot_list_append PySem.F.type_list_append mt_append a (pa_cons b pa_nil)))) (dss_cons (ds_set 12 sc_law.nd (d_new (dl_lc (own := [("_law_k", 13)]) rfl sc_law.nd (di_range1 (da_cons d_int da_nil) T.n_range) (blkOk_by (own := [("_law_k", 13)]) (N := ["_law_script", "_law_cell", "_law_pot", "_law_which", "_law_region", "_law_chart", "_law_early", "_law_ahead", "_law_words", "_law_others", "_law_right", "_law_bad", "_law_wrong", "_law_k", "_law_parts", "_law_at"]) (sc := defScope s_law) (by decide +kernel)) (fun _ _ _ _ _ => (dg_name 13 sc_law.nd)) (fun _ _ _ _ _ => dts_nil) (fun _ _ _ _ _ => (d_op op_fdivW o_fdiv (d_call G__law_draw hr takes0 (da_cons (d_var 2) (da_cons d_int da_nil))) d_int))))) (dss_one (ds_for (passes_of rfl) rfl (di_range1 (da_cons d_int da_nil) T.n_range) (dg_name 13 sc_law.nd) (dss_cons (ds_setLc (mw := mFz) 14 (own := [("_law_at", 15)]) (rd_fz) rfl sc_law.nd (di_range1 (da_cons d_int da_nil) T.n_range) (blkOk_by (own := [("_law_at", 15)]) (N := ["_law_script", "_law_cell", "_law_pot", "_law_which", "_law_region", "_law_chart", "_law_early", "_law_ahead", "_law_words", "_law_others", "_law_right", "_law_bad", "_law_wrong", "_law_k", "_law_parts", "_law_at"]) (sc := defScope s_law) (by decide +kernel)) (fun _ _ _ _ _ => (dg_name 15 sc_law.nd)) (fun _ _ _ _ _ => dts_nil) (fun _ _ _ _ _ => (d_ix ix_seq o_ix (d_fz (dl_lst (da_cons (d_ix ix_seq o_ix (d_var 10) (d_var 15)) (da_cons (d_ix ix_seq o_ix (d_var 11) (d_var 15)) da_nil)))) (d_ix ix_seq o_ix (d_var 12) (d_var 15))))) (dss_cons (ds_if (dt_not (dt_val (d_call G__law_same hr tk (da_cons (d_call G__law_heard hr tk (da_cons (d_var 3) (da_cons (d_var 14) da_nil))) (da_cons (d_call G__law_awaited hr tk (da_cons (d_var 3) (da_cons (d_var 14) (da_cons (d_var 12) (da_cons (d_var 4) da_nil))))) da_nil))))) (dss_one (ds_ret d_bl)) dss_nil) (dss_one (ds_setIx d_int (d_var 12) (d_var 13))))))))))))))))))))) (dss_one (ds_ret d_bl)))
abbrev si_Crowded : Stmt := inClass (top 7) 0
theorem sci_Crowded : FnScope ["self", "first", "last"] ["self", "first", "last"] (defScope si_Crowded) := ⟨rfl, rfl, rfl, by decide +kernel, rfl, by decide +kernel, by decide +kernel⟩
end
theorem all_mk {l : PySem.W.OpenLaw} {w : World} {K : Frag} {h : Heap} {mg : Str → Option Value} {fa : Addr} (hlaw : LawTrue m_law_k07_errors_of_tables) (X : K.In h) (G : h.Ns mainGlobals mg) (hfa : mg "law" = some (.ref fa))
    {f0 : Addr} {od0 an0 : Option Addr} {sl0 : Array (Option Value)} {oc0 kV0 dc0 pm0 cd0 ct0 : Value} {f1 : Addr} {od1 an1 : Option Addr} {sl1 : Array (Option Value)} {oc1 kV1 dc1 pm1 cd1 ct1 : Value} {f2 : Addr} {od2 an2 : Option Addr} {sl2 : Array (Option Value)} {oc2 kV2 dc2 pm2 cd2 ct2 : Value} {f3 : Addr} {od3 an3 : Option Addr} {sl3 : Array (Option Value)} {oc3 kV3 dc3 pm3 cd3 ct3 : Value} {f4 : Addr} {od4 an4 : Option Addr} {sl4 : Array (Option Value)} {oc4 kV4 dc4 pm4 cd4 ct4 : Value} {f5 : Addr} {od5 an5 : Option Addr} {sl5 : Array (Option Value)} {oc5 kV5 dc5 pm5 cd5 ct5 : Value} {f6 : Addr} {od6 an6 : Option Addr} {sl6 : Array (Option Value)} {oc6 kV6 dc6 pm6 cd6 ct6 : Value} {f7 : Addr} {od7 an7 : Option Addr} {sl7 : Array (Option Value)} {oc7 kV7 dc7 pm7 cd7 ct7 : Value} {f8 : Addr} {od8 an8 : Option Addr} {sl8 : Array (Option Value)} {oc8 kV8 dc8 pm8 cd8 ct8 : Value} {f9 : Addr} {od9 an9 : Option Addr} {sl9 : Array (Option Value)} {oc9 kV9 dc9 pm9 cd9 ct9 : Value} {f10 : Addr} {od10 an10 : Option Addr} {sl10 : Array (Option Value)} {oc10 kV10 dc10 pm10 cd10 ct10 : Value} {f11 : Addr} {od11 an11 : Option Addr} {sl11 : Array (Option Value)} {oc11 kV11 dc11 pm11 cd11 ct11 : Value} {f12 : Addr} {od12 an12 : Option Addr} {sl12 : Array (Option Value)} {oc12 kV12 dc12 pm12 cd12 ct12 : Value} {f13 : Addr} {od13 an13 : Option Addr} {sl13 : Array (Option Value)} {oc13 kV13 dc13 pm13 cd13 ct13 : Value} {f14 : Addr} {od14 an14 : Option Addr} {sl14 : Array (Option Value)} {oc14 dc14 pm14 cd14 ct14 : Value} {D14 : Addr} {tD14_0 : Tok} {tD14_1 : Tok} {f15 : Addr} {od15 an15 : Option Addr} {sl15 : Array (Option Value)} {oc15 kV15 dc15 pm15 cd15 ct15 : Value} {f16 : Addr} {od16 an16 : Option Addr} {sl16 : Array (Option Value)} {oc16 kV16 dc16 pm16 cd16 ct16 : Value} {f17 : Addr} {od17 an17 : Option Addr} {sl17 : Array (Option Value)} {oc17 kV17 dc17 pm17 cd17 ct17 : Value} {f18 : Addr} {od18 an18 : Option Addr} {sl18 : Array (Option Value)} {oc18 kV18 dc18 pm18 cd18 ct18 : Value} {f19 : Addr} {od19 an19 : Option Addr} {sl19 : Array (Option Value)} {oc19 kV19 dc19 pm19 cd19 ct19 : Value} {f20 : Addr} {od20 an20 : Option Addr} {sl20 : Array (Option Value)} {oc20 kV20 dc20 pm20 cd20 ct20 : Value} {f21 : Addr} {od21 an21 : Option Addr} {sl21 : Array (Option Value)} {oc21 kV21 dc21 pm21 cd21 ct21 : Value} {f22 : Addr} {od22 an22 : Option Addr} {sl22 : Array (Option Value)} {oc22 kV22 dc22 pm22 cd22 ct22 : Value} {f23 : Addr} {od23 an23 : Option Addr} {sl23 : Array (Option Value)} {oc23 kV23 dc23 pm23 cd23 ct23 : Value} {f24 : Addr} {od24 an24 : Option Addr} {sl24 : Array (Option Value)} {oc24 kV24 dc24 pm24 cd24 ct24 : Value} {f25 : Addr} {od25 an25 : Option Addr} {sl25 : Array (Option Value)} {oc25 kV25 dc25 pm25 cd25 ct25 : Value} {f26 : Addr} {od26 an26 : Option Addr} {sl26 : Array (Option Value)} {oc26 kV26 dc26 pm26 cd26 ct26 : Value} {f27 : Addr} {od27 an27 : Option Addr} {sl27 : Array (Option Value)} {oc27 kV27 dc27 pm27 cd27 ct27 : Value} {f28 : Addr} {od28 an28 : Option Addr} {sl28 : Array (Option Value)} {oc28 kV28 dc28 pm28 cd28 ct28 : Value} {f29 : Addr} {od29 an29 : Option Addr} {sl29 : Array (Option Value)} {oc29 kV29 dc29 pm29 cd29 ct29 : Value} {f30 : Addr} {od30 an30 : Option Addr} {sl30 : Array (Option Value)} {oc30 kV30 dc30 pm30 cd30 ct30 : Value} {f31 : Addr} {od31 an31 : Option Addr} {sl31 : Array (Option Value)} {oc31 kV31 dc31 pm31 cd31 ct31 : Value} {f32 : Addr} {od32 an32 : Option Addr} {sl32 : Array (Option Value)} {oc32 kV32 dc32 pm32 cd32 ct32 : Value} {f33 : Addr} {od33 an33 : Option Addr} {sl33 : Array (Option Value)} {oc33 kV33 dc33 pm33 cd33 ct33 : Value} {f34 : Addr} {od34 an34 : Option Addr} {sl34 : Array (Option Value)} {oc34 kV34 dc34 pm34 cd34 ct34 : Value} {f35 : Addr} {od35 an35 : Option Addr} {sl35 : Array (Option Value)} {oc35 kV35 dc35 pm35 cd35 ct35 : Value} {f36 : Addr} {od36 an36 : Option Addr} {sl36 : Array (Option Value)} {oc36 kV36 dc36 pm36 cd36 ct36 : Value} {f37 : Addr} {od37 an37 : Option Addr} {sl37 : Array (Option Value)} {oc37 kV37 dc37 pm37 cd37 ct37 : Value} {f38 : Addr} {od38 an38 : Option Addr} {sl38 : Array (Option Value)} {oc38 kV38 dc38 pm38 cd38 ct38 : Value} {Q0_1 : Addr} {oQ0_1 : Option Addr} {nQ0_1 : Nat} {sQ0_1 : Array (Option Value)} {tQ0_2 : Tok} {tQ0_3 : Tok} {tQ0_4 : Tok} {Q1_1 : Addr} {oQ1_1 : Option Addr} {nQ1_1 : Nat} {sQ1_1 : Array (Option Value)} {tQ1_2 : Tok} {tQ1_3 : Tok} {tQ1_4 : Tok} {t2 : Tok} {t3 : Tok} {C0 : Addr} {C1 : Addr} {C2 : Addr} {C3 : Addr} {C4 : Addr} {C5 : Addr} {C6 : Addr} {nm_5 q_5 : Str} {N_5 fI_5 : Addr} {bs_5 bm_5 sub_5 : List Value} {sn_5 : List Str} {ab_5 : Bool} {col_5 : Option Bool} {dd_5 : Option Addr} {m0_5 m1_5 m2_5 m3_5 m5_5 : Option Value} {oI_5 kVI_5 dcI_5 pmI_5 cdI_5 ctI_5 : Value} {odI_5 anI_5 : Option Addr} {slI_5 : Array (Option Value)}
    (a0 : PySem.W.nsIn K mainGlobals "is_integer" = some (some (.ref f0)))
    (l0 : K.lookup f0 = some ⟨oc0, od0, .func (PySem.W.fnOf "is_integer" "is_integer" (defArgs s_is_integer) (defBody s_is_integer) (defScope s_is_integer) .none kV0 dc0 pm0 an0 cd0 ct0), sl0⟩)
    (c0 : PySem.W.codeIn K cd0 "is_integer" = true)
    (k0 : PySem.W.keepIn K (.ref f0) = true)
    (a1 : PySem.W.nsIn K mainGlobals "is_zone" = some (some (.ref f1)))
    (l1 : K.lookup f1 = some ⟨oc1, od1, .func (PySem.W.fnOf "is_zone" "is_zone" (defArgs s_is_zone) (defBody s_is_zone) (defScope s_is_zone) .none kV1 dc1 pm1 an1 cd1 ct1), sl1⟩)
    (c1 : PySem.W.codeIn K cd1 "is_zone" = true)
    (k1 : PySem.W.keepIn K (.ref f1) = true)
    (a2 : PySem.W.nsIn K mainGlobals "need_zone" = some (some (.ref f2)))
    (l2 : K.lookup f2 = some ⟨oc2, od2, .func (PySem.W.fnOf "need_zone" "need_zone" (defArgs s_need_zone) (defBody s_need_zone) (defScope s_need_zone) .none kV2 dc2 pm2 an2 cd2 ct2), sl2⟩)
    (c2 : PySem.W.codeIn K cd2 "need_zone" = true)
    (k2 : PySem.W.keepIn K (.ref f2) = true)
    (a3 : PySem.W.nsIn K mainGlobals "need_number" = some (some (.ref f3)))
    (l3 : K.lookup f3 = some ⟨oc3, od3, .func (PySem.W.fnOf "need_number" "need_number" (defArgs s_need_number) (defBody s_need_number) (defScope s_need_number) .none kV3 dc3 pm3 an3 cd3 ct3), sl3⟩)
    (c3 : PySem.W.codeIn K cd3 "need_number" = true)
    (k3 : PySem.W.keepIn K (.ref f3) = true)
    (a4 : PySem.W.nsIn K mainGlobals "is_offset" = some (some (.ref f4)))
    (l4 : K.lookup f4 = some ⟨oc4, od4, .func (PySem.W.fnOf "is_offset" "is_offset" (defArgs s_is_offset) (defBody s_is_offset) (defScope s_is_offset) .none kV4 dc4 pm4 an4 cd4 ct4), sl4⟩)
    (c4 : PySem.W.codeIn K cd4 "is_offset" = true)
    (k4 : PySem.W.keepIn K (.ref f4) = true)
    (a5 : PySem.W.nsIn K mainGlobals "need_rules" = some (some (.ref f5)))
    (l5 : K.lookup f5 = some ⟨oc5, od5, .func (PySem.W.fnOf "need_rules" "need_rules" (defArgs s_need_rules) (defBody s_need_rules) (defScope s_need_rules) .none kV5 dc5 pm5 an5 cd5 ct5), sl5⟩)
    (c5 : PySem.W.codeIn K cd5 "need_rules" = true)
    (k5 : PySem.W.keepIn K (.ref f5) = true)
    (a6 : PySem.W.nsIn K mainGlobals "is_mark" = some (some (.ref f6)))
    (l6 : K.lookup f6 = some ⟨oc6, od6, .func (PySem.W.fnOf "is_mark" "is_mark" (defArgs s_is_mark) (defBody s_is_mark) (defScope s_is_mark) .none kV6 dc6 pm6 an6 cd6 ct6), sl6⟩)
    (c6 : PySem.W.codeIn K cd6 "is_mark" = true)
    (k6 : PySem.W.keepIn K (.ref f6) = true)
    (a7 : PySem.W.nsIn K mainGlobals "is_table" = some (some (.ref f7)))
    (l7 : K.lookup f7 = some ⟨oc7, od7, .func (PySem.W.fnOf "is_table" "is_table" (defArgs s_is_table) (defBody s_is_table) (defScope s_is_table) .none kV7 dc7 pm7 an7 cd7 ct7), sl7⟩)
    (c7 : PySem.W.codeIn K cd7 "is_table" = true)
    (k7 : PySem.W.keepIn K (.ref f7) = true)
    (a8 : PySem.W.nsIn K mainGlobals "need_table" = some (some (.ref f8)))
    (l8 : K.lookup f8 = some ⟨oc8, od8, .func (PySem.W.fnOf "need_table" "need_table" (defArgs s_need_table) (defBody s_need_table) (defScope s_need_table) .none kV8 dc8 pm8 an8 cd8 ct8), sl8⟩)
    (c8 : PySem.W.codeIn K cd8 "need_table" = true)
    (k8 : PySem.W.keepIn K (.ref f8) = true)
    (a9 : PySem.W.nsIn K mainGlobals "offset_in" = some (some (.ref f9)))
    (l9 : K.lookup f9 = some ⟨oc9, od9, .func (PySem.W.fnOf "offset_in" "offset_in" (defArgs s_offset_in) (defBody s_offset_in) (defScope s_offset_in) .none kV9 dc9 pm9 an9 cd9 ct9), sl9⟩)
    (c9 : PySem.W.codeIn K cd9 "offset_in" = true)
    (k9 : PySem.W.keepIn K (.ref f9) = true)
    (a10 : PySem.W.nsIn K mainGlobals "offset_at" = some (some (.ref f10)))
    (l10 : K.lookup f10 = some ⟨oc10, od10, .func (PySem.W.fnOf "offset_at" "offset_at" (defArgs s_offset_at) (defBody s_offset_at) (defScope s_offset_at) .none kV10 dc10 pm10 an10 cd10 ct10), sl10⟩)
    (c10 : PySem.W.codeIn K cd10 "offset_at" = true)
    (k10 : PySem.W.keepIn K (.ref f10) = true)
    (a11 : PySem.W.nsIn K mainGlobals "reading_at" = some (some (.ref f11)))
    (l11 : K.lookup f11 = some ⟨oc11, od11, .func (PySem.W.fnOf "reading_at" "reading_at" (defArgs s_reading_at) (defBody s_reading_at) (defScope s_reading_at) .none kV11 dc11 pm11 an11 cd11 ct11), sl11⟩)
    (c11 : PySem.W.codeIn K cd11 "reading_at" = true)
    (k11 : PySem.W.keepIn K (.ref f11) = true)
    (a12 : PySem.W.nsIn K mainGlobals "moments_of" = some (some (.ref f12)))
    (l12 : K.lookup f12 = some ⟨oc12, od12, .func (PySem.W.fnOf "moments_of" "moments_of" (defArgs s_moments_of) (defBody s_moments_of) (defScope s_moments_of) .none kV12 dc12 pm12 an12 cd12 ct12), sl12⟩)
    (c12 : PySem.W.codeIn K cd12 "moments_of" = true)
    (k12 : PySem.W.keepIn K (.ref f12) = true)
    (a13 : PySem.W.nsIn K mainGlobals "found_by" = some (some (.ref f13)))
    (l13 : K.lookup f13 = some ⟨oc13, od13, .func (PySem.W.fnOf "found_by" "found_by" (defArgs s_found_by) (defBody s_found_by) (defScope s_found_by) .none kV13 dc13 pm13 an13 cd13 ct13), sl13⟩)
    (c13 : PySem.W.codeIn K cd13 "found_by" = true)
    (k13 : PySem.W.keepIn K (.ref f13) = true)
    (a14 : PySem.W.nsIn K mainGlobals "find_moment" = some (some (.ref f14)))
    (l14 : K.lookup f14 = some ⟨oc14, od14, .func (PySem.W.fnOf "find_moment" "find_moment" (defArgs s_find_moment) (defBody s_find_moment) (defScope s_find_moment) .none (.ref D14) dc14 pm14 an14 cd14 ct14), sl14⟩)
    (lD14_0 : PySem.W.nsIn K D14 "fold" = some (some (.str "early" tD14_0)))
    (lD14_1 : PySem.W.nsIn K D14 "gap" = some (some (.str "ahead" tD14_1)))
    (c14 : PySem.W.codeIn K cd14 "find_moment" = true)
    (k14 : PySem.W.keepIn K (.ref f14) = true)
    (a15 : PySem.W.nsIn K mainGlobals "_law_digits" = some (some (.ref f15)))
    (l15 : K.lookup f15 = some ⟨oc15, od15, .func (PySem.W.fnOf "_law_digits" "_law_digits" (defArgs s__law_digits) (defBody s__law_digits) (defScope s__law_digits) .none kV15 dc15 pm15 an15 cd15 ct15), sl15⟩)
    (c15 : PySem.W.codeIn K cd15 "_law_digits" = true)
    (k15 : PySem.W.keepIn K (.ref f15) = true)
    (a16 : PySem.W.nsIn K mainGlobals "_law_draw" = some (some (.ref f16)))
    (l16 : K.lookup f16 = some ⟨oc16, od16, .func (PySem.W.fnOf "_law_draw" "_law_draw" (defArgs s__law_draw) (defBody s__law_draw) (defScope s__law_draw) .none kV16 dc16 pm16 an16 cd16 ct16), sl16⟩)
    (c16 : PySem.W.codeIn K cd16 "_law_draw" = true)
    (k16 : PySem.W.keepIn K (.ref f16) = true)
    (a17 : PySem.W.nsIn K mainGlobals "_law_any_hour" = some (some (.ref f17)))
    (l17 : K.lookup f17 = some ⟨oc17, od17, .func (PySem.W.fnOf "_law_any_hour" "_law_any_hour" (defArgs s__law_any_hour) (defBody s__law_any_hour) (defScope s__law_any_hour) .none kV17 dc17 pm17 an17 cd17 ct17), sl17⟩)
    (c17 : PySem.W.codeIn K cd17 "_law_any_hour" = true)
    (k17 : PySem.W.keepIn K (.ref f17) = true)
    (a18 : PySem.W.nsIn K mainGlobals "_law_make_region" = some (some (.ref f18)))
    (l18 : K.lookup f18 = some ⟨oc18, od18, .func (PySem.W.fnOf "_law_make_region" "_law_make_region" (defArgs s__law_make_region) (defBody s__law_make_region) (defScope s__law_make_region) .none kV18 dc18 pm18 an18 cd18 ct18), sl18⟩)
    (c18 : PySem.W.codeIn K cd18 "_law_make_region" = true)
    (k18 : PySem.W.keepIn K (.ref f18) = true)
    (a19 : PySem.W.nsIn K mainGlobals "_law_make_chart" = some (some (.ref f19)))
    (l19 : K.lookup f19 = some ⟨oc19, od19, .func (PySem.W.fnOf "_law_make_chart" "_law_make_chart" (defArgs s__law_make_chart) (defBody s__law_make_chart) (defScope s__law_make_chart) .none kV19 dc19 pm19 an19 cd19 ct19), sl19⟩)
    (c19 : PySem.W.codeIn K cd19 "_law_make_chart" = true)
    (k19 : PySem.W.keepIn K (.ref f19) = true)
    (a20 : PySem.W.nsIn K mainGlobals "_law_shift_at" = some (some (.ref f20)))
    (l20 : K.lookup f20 = some ⟨oc20, od20, .func (PySem.W.fnOf "_law_shift_at" "_law_shift_at" (defArgs s__law_shift_at) (defBody s__law_shift_at) (defScope s__law_shift_at) .none kV20 dc20 pm20 an20 cd20 ct20), sl20⟩)
    (c20 : PySem.W.codeIn K cd20 "_law_shift_at" = true)
    (k20 : PySem.W.keepIn K (.ref f20) = true)
    (a21 : PySem.W.nsIn K mainGlobals "_law_near" = some (some (.ref f21)))
    (l21 : K.lookup f21 = some ⟨oc21, od21, .func (PySem.W.fnOf "_law_near" "_law_near" (defArgs s__law_near) (defBody s__law_near) (defScope s__law_near) .none kV21 dc21 pm21 an21 cd21 ct21), sl21⟩)
    (c21 : PySem.W.codeIn K cd21 "_law_near" = true)
    (k21 : PySem.W.keepIn K (.ref f21) = true)
    (a22 : PySem.W.nsIn K mainGlobals "_law_whole" = some (some (.ref f22)))
    (l22 : K.lookup f22 = some ⟨oc22, od22, .func (PySem.W.fnOf "_law_whole" "_law_whole" (defArgs s__law_whole) (defBody s__law_whole) (defScope s__law_whole) .none kV22 dc22 pm22 an22 cd22 ct22), sl22⟩)
    (c22 : PySem.W.codeIn K cd22 "_law_whole" = true)
    (k22 : PySem.W.keepIn K (.ref f22) = true)
    (a23 : PySem.W.nsIn K mainGlobals "_law_same" = some (some (.ref f23)))
    (l23 : K.lookup f23 = some ⟨oc23, od23, .func (PySem.W.fnOf "_law_same" "_law_same" (defArgs s__law_same) (defBody s__law_same) (defScope s__law_same) .none kV23 dc23 pm23 an23 cd23 ct23), sl23⟩)
    (c23 : PySem.W.codeIn K cd23 "_law_same" = true)
    (k23 : PySem.W.keepIn K (.ref f23) = true)
    (a24 : PySem.W.nsIn K mainGlobals "_law_odd_thing" = some (some (.ref f24)))
    (l24 : K.lookup f24 = some ⟨oc24, od24, .func (PySem.W.fnOf "_law_odd_thing" "_law_odd_thing" (defArgs s__law_odd_thing) (defBody s__law_odd_thing) (defScope s__law_odd_thing) .none kV24 dc24 pm24 an24 cd24 ct24), sl24⟩)
    (c24 : PySem.W.codeIn K cd24 "_law_odd_thing" = true)
    (k24 : PySem.W.keepIn K (.ref f24) = true)
    (a25 : PySem.W.nsIn K mainGlobals "_law_bend" = some (some (.ref f25)))
    (l25 : K.lookup f25 = some ⟨oc25, od25, .func (PySem.W.fnOf "_law_bend" "_law_bend" (defArgs s__law_bend) (defBody s__law_bend) (defScope s__law_bend) .none kV25 dc25 pm25 an25 cd25 ct25), sl25⟩)
    (c25 : PySem.W.codeIn K cd25 "_law_bend" = true)
    (k25 : PySem.W.keepIn K (.ref f25) = true)
    (a26 : PySem.W.nsIn K mainGlobals "_law_among" = some (some (.ref f26)))
    (l26 : K.lookup f26 = some ⟨oc26, od26, .func (PySem.W.fnOf "_law_among" "_law_among" (defArgs s__law_among) (defBody s__law_among) (defScope s__law_among) .none kV26 dc26 pm26 an26 cd26 ct26), sl26⟩)
    (c26 : PySem.W.codeIn K cd26 "_law_among" = true)
    (k26 : PySem.W.keepIn K (.ref f26) = true)
    (a27 : PySem.W.nsIn K mainGlobals "_law_is_region" = some (some (.ref f27)))
    (l27 : K.lookup f27 = some ⟨oc27, od27, .func (PySem.W.fnOf "_law_is_region" "_law_is_region" (defArgs s__law_is_region) (defBody s__law_is_region) (defScope s__law_is_region) .none kV27 dc27 pm27 an27 cd27 ct27), sl27⟩)
    (c27 : PySem.W.codeIn K cd27 "_law_is_region" = true)
    (k27 : PySem.W.keepIn K (.ref f27) = true)
    (a28 : PySem.W.nsIn K mainGlobals "_law_is_chart" = some (some (.ref f28)))
    (l28 : K.lookup f28 = some ⟨oc28, od28, .func (PySem.W.fnOf "_law_is_chart" "_law_is_chart" (defArgs s__law_is_chart) (defBody s__law_is_chart) (defScope s__law_is_chart) .none kV28 dc28 pm28 an28 cd28 ct28), sl28⟩)
    (c28 : PySem.W.codeIn K cd28 "_law_is_chart" = true)
    (k28 : PySem.W.keepIn K (.ref f28) = true)
    (a29 : PySem.W.nsIn K mainGlobals "_law_hours_of" = some (some (.ref f29)))
    (l29 : K.lookup f29 = some ⟨oc29, od29, .func (PySem.W.fnOf "_law_hours_of" "_law_hours_of" (defArgs s__law_hours_of) (defBody s__law_hours_of) (defScope s__law_hours_of) .none kV29 dc29 pm29 an29 cd29 ct29), sl29⟩)
    (c29 : PySem.W.codeIn K cd29 "_law_hours_of" = true)
    (k29 : PySem.W.keepIn K (.ref f29) = true)
    (a30 : PySem.W.nsIn K mainGlobals "_law_found" = some (some (.ref f30)))
    (l30 : K.lookup f30 = some ⟨oc30, od30, .func (PySem.W.fnOf "_law_found" "_law_found" (defArgs s__law_found) (defBody s__law_found) (defScope s__law_found) .none kV30 dc30 pm30 an30 cd30 ct30), sl30⟩)
    (c30 : PySem.W.codeIn K cd30 "_law_found" = true)
    (k30 : PySem.W.keepIn K (.ref f30) = true)
    (a31 : PySem.W.nsIn K mainGlobals "_law_strange_number" = some (some (.ref f31)))
    (l31 : K.lookup f31 = some ⟨oc31, od31, .func (PySem.W.fnOf "_law_strange_number" "_law_strange_number" (defArgs s__law_strange_number) (defBody s__law_strange_number) (defScope s__law_strange_number) .none kV31 dc31 pm31 an31 cd31 ct31), sl31⟩)
    (c31 : PySem.W.codeIn K cd31 "_law_strange_number" = true)
    (k31 : PySem.W.keepIn K (.ref f31) = true)
    (a32 : PySem.W.nsIn K mainGlobals "_law_bad_region" = some (some (.ref f32)))
    (l32 : K.lookup f32 = some ⟨oc32, od32, .func (PySem.W.fnOf "_law_bad_region" "_law_bad_region" (defArgs s__law_bad_region) (defBody s__law_bad_region) (defScope s__law_bad_region) .none kV32 dc32 pm32 an32 cd32 ct32), sl32⟩)
    (c32 : PySem.W.codeIn K cd32 "_law_bad_region" = true)
    (k32 : PySem.W.keepIn K (.ref f32) = true)
    (a33 : PySem.W.nsIn K mainGlobals "_law_bad_chart" = some (some (.ref f33)))
    (l33 : K.lookup f33 = some ⟨oc33, od33, .func (PySem.W.fnOf "_law_bad_chart" "_law_bad_chart" (defArgs s__law_bad_chart) (defBody s__law_bad_chart) (defScope s__law_bad_chart) .none kV33 dc33 pm33 an33 cd33 ct33), sl33⟩)
    (c33 : PySem.W.codeIn K cd33 "_law_bad_chart" = true)
    (k33 : PySem.W.keepIn K (.ref f33) = true)
    (a34 : PySem.W.nsIn K mainGlobals "_law_bad_rule" = some (some (.ref f34)))
    (l34 : K.lookup f34 = some ⟨oc34, od34, .func (PySem.W.fnOf "_law_bad_rule" "_law_bad_rule" (defArgs s__law_bad_rule) (defBody s__law_bad_rule) (defScope s__law_bad_rule) .none kV34 dc34 pm34 an34 cd34 ct34), sl34⟩)
    (c34 : PySem.W.codeIn K cd34 "_law_bad_rule" = true)
    (k34 : PySem.W.keepIn K (.ref f34) = true)
    (a35 : PySem.W.nsIn K mainGlobals "_law_heard" = some (some (.ref f35)))
    (l35 : K.lookup f35 = some ⟨oc35, od35, .func (PySem.W.fnOf "_law_heard" "_law_heard" (defArgs s__law_heard) (defBody s__law_heard) (defScope s__law_heard) .none kV35 dc35 pm35 an35 cd35 ct35), sl35⟩)
    (c35 : PySem.W.codeIn K cd35 "_law_heard" = true)
    (k35 : PySem.W.keepIn K (.ref f35) = true)
    (a36 : PySem.W.nsIn K mainGlobals "_law_answer" = some (some (.ref f36)))
    (l36 : K.lookup f36 = some ⟨oc36, od36, .func (PySem.W.fnOf "_law_answer" "_law_answer" (defArgs s__law_answer) (defBody s__law_answer) (defScope s__law_answer) .none kV36 dc36 pm36 an36 cd36 ct36), sl36⟩)
    (c36 : PySem.W.codeIn K cd36 "_law_answer" = true)
    (k36 : PySem.W.keepIn K (.ref f36) = true)
    (a37 : PySem.W.nsIn K mainGlobals "_law_awaited" = some (some (.ref f37)))
    (l37 : K.lookup f37 = some ⟨oc37, od37, .func (PySem.W.fnOf "_law_awaited" "_law_awaited" (defArgs s__law_awaited) (defBody s__law_awaited) (defScope s__law_awaited) .none kV37 dc37 pm37 an37 cd37 ct37), sl37⟩)
    (c37 : PySem.W.codeIn K cd37 "_law_awaited" = true)
    (k37 : PySem.W.keepIn K (.ref f37) = true)
    (a38 : PySem.W.nsIn K mainGlobals "law" = some (some (.ref f38)))
    (l38 : K.lookup f38 = some ⟨oc38, od38, .func (PySem.W.fnOf "law" "law" (defArgs s_law) (defBody s_law) (defScope s_law) .none kV38 dc38 pm38 an38 cd38 ct38), sl38⟩)
    (c38 : PySem.W.codeIn K cd38 "law" = true)
    (k38 : PySem.W.keepIn K (.ref f38) = true)
    (z0 : PySem.W.nsIn K mainGlobals "all" = some none)
    (z1 : PySem.W.nsIn K mainGlobals "bool" = some none)
    (z2 : PySem.W.nsIn K mainGlobals "enumerate" = some none)
    (z3 : PySem.W.nsIn K mainGlobals "int" = some none)
    (z4 : PySem.W.nsIn K mainGlobals "isinstance" = some none)
    (z5 : PySem.W.nsIn K mainGlobals "len" = some none)
    (z6 : PySem.W.nsIn K mainGlobals "list" = some none)
    (z7 : PySem.W.nsIn K mainGlobals "max" = some none)
    (z8 : PySem.W.nsIn K mainGlobals "min" = some none)
    (z9 : PySem.W.nsIn K mainGlobals "range" = some none)
    (z10 : PySem.W.nsIn K mainGlobals "str" = some none)
    (z11 : PySem.W.nsIn K mainGlobals "tuple" = some none)
    (v0 : PySem.W.nsIn K mainGlobals "FOLDS" = some (some (.ref Q0_1)))
    (q0_1 : K.lookup Q0_1 = some ⟨.type "tuple", oQ0_1, .seq #[(.str "early" tQ0_2), (.str "late" tQ0_3), (.str "refuse" tQ0_4)] nQ0_1, sQ0_1⟩)
    (v1 : PySem.W.nsIn K mainGlobals "GAPS" = some (some (.ref Q1_1)))
    (q1_1 : K.lookup Q1_1 = some ⟨.type "tuple", oQ1_1, .seq #[(.str "ahead" tQ1_2), (.str "behind" tQ1_3), (.str "refuse" tQ1_4)] nQ1_1, sQ1_1⟩)
    (v2 : PySem.W.nsIn K mainGlobals "MOST_OFFSET" = some (some (.int (900) t2)))
    (v3 : PySem.W.nsIn K mainGlobals "MOST_SPACING" = some (some (.int (1000000) t3)))
    (xa0 : PySem.W.nsIn K mainGlobals "InvalidNumber" = some (some (.ref C0)))
    (xq0 : PySem.W.excIn K C0 [.type "ValueError", .type "Exception", .type "BaseException", .type "object"] "ValueError.__new__" = true)
    (xk0 : PySem.W.keepIn K (.ref C0) = true)
    (xb0 : PySem.W.subIn K (.ref C0) (.type "BaseException") = some true)
    (xt0 : PySem.W.typeIn K (.ref C0) = some (.type "type"))
    (xa1 : PySem.W.nsIn K mainGlobals "InvalidRule" = some (some (.ref C1)))
    (xq1 : PySem.W.excIn K C1 [.type "ValueError", .type "Exception", .type "BaseException", .type "object"] "ValueError.__new__" = true)
    (xk1 : PySem.W.keepIn K (.ref C1) = true)
    (xb1 : PySem.W.subIn K (.ref C1) (.type "BaseException") = some true)
    (xt1 : PySem.W.typeIn K (.ref C1) = some (.type "type"))
    (xa2 : PySem.W.nsIn K mainGlobals "InvalidTable" = some (some (.ref C2)))
    (xq2 : PySem.W.excIn K C2 [.type "ValueError", .type "Exception", .type "BaseException", .type "object"] "ValueError.__new__" = true)
    (xk2 : PySem.W.keepIn K (.ref C2) = true)
    (xb2 : PySem.W.subIn K (.ref C2) (.type "BaseException") = some true)
    (xt2 : PySem.W.typeIn K (.ref C2) = some (.type "type"))
    (xa3 : PySem.W.nsIn K mainGlobals "InvalidZone" = some (some (.ref C3)))
    (xq3 : PySem.W.excIn K C3 [.type "ValueError", .type "Exception", .type "BaseException", .type "object"] "ValueError.__new__" = true)
    (xk3 : PySem.W.keepIn K (.ref C3) = true)
    (xb3 : PySem.W.subIn K (.ref C3) (.type "BaseException") = some true)
    (xt3 : PySem.W.typeIn K (.ref C3) = some (.type "type"))
    (xa4 : PySem.W.nsIn K mainGlobals "InvalidLooks" = some (some (.ref C4)))
    (xf0 : PySem.W.findIn K (.ref C0) "__getattribute__" = some (some (.builtin "BaseException.__getattribute__")))
    (xf1 : PySem.W.findIn K (.ref C0) "__getattr__" = some none)
    (xf2 : PySem.W.hasDictIn K C0 = true)
    (xf3 : PySem.W.findIn K (.ref C0) "__class__" = some (some (.builtin "object.__class__")))
    (xf4 : PySem.W.specialIn K (.builtin "object.__class__") "__get__" = some (some (.builtin "getset_descriptor.__get__")))
    (xf5 : PySem.W.takesIn K (.builtin "object.__class__") = some true)
    (xf6 : PySem.W.mroIn K C0 (.type "object") = some true)
    (xf7 : PySem.W.hasDictIn K C4 = true)
    (xf8 : PySem.W.typeIn K (.ref C4) = some (.type "type"))
    (xf9 : PySem.W.subIn K (.ref C4) (.ref C4) = some true)
    (xf10 : PySem.W.subIn K (.ref C0) (.ref C4) = some false)
    (xf11 : PySem.W.findIn K (.ref C1) "__getattribute__" = some (some (.builtin "BaseException.__getattribute__")))
    (xf12 : PySem.W.findIn K (.ref C1) "__getattr__" = some none)
    (xf13 : PySem.W.hasDictIn K C1 = true)
    (xf14 : PySem.W.findIn K (.ref C1) "__class__" = some (some (.builtin "object.__class__")))
    (xf15 : PySem.W.mroIn K C1 (.type "object") = some true)
    (xf16 : PySem.W.subIn K (.ref C1) (.ref C4) = some false)
    (xf17 : PySem.W.findIn K (.ref C2) "__getattribute__" = some (some (.builtin "BaseException.__getattribute__")))
    (xf18 : PySem.W.findIn K (.ref C2) "__getattr__" = some none)
    (xf19 : PySem.W.hasDictIn K C2 = true)
    (xf20 : PySem.W.findIn K (.ref C2) "__class__" = some (some (.builtin "object.__class__")))
    (xf21 : PySem.W.mroIn K C2 (.type "object") = some true)
    (xf22 : PySem.W.subIn K (.ref C2) (.ref C4) = some false)
    (xf23 : PySem.W.findIn K (.ref C3) "__getattribute__" = some (some (.builtin "BaseException.__getattribute__")))
    (xf24 : PySem.W.findIn K (.ref C3) "__getattr__" = some none)
    (xf25 : PySem.W.hasDictIn K C3 = true)
    (xf26 : PySem.W.findIn K (.ref C3) "__class__" = some (some (.builtin "object.__class__")))
    (xf27 : PySem.W.mroIn K C3 (.type "object") = some true)
    (xf28 : PySem.W.subIn K (.ref C3) (.ref C4) = some false)
    (xf29 : PySem.W.subIn K (.ref C0) (.ref C0) = some true)
    (xf30 : PySem.W.subIn K (.ref C1) (.ref C0) = some false)
    (xf31 : PySem.W.subIn K (.ref C2) (.ref C0) = some false)
    (xf32 : PySem.W.subIn K (.ref C3) (.ref C0) = some false)
    (xf33 : PySem.W.subIn K (.ref C1) (.ref C1) = some true)
    (xf34 : PySem.W.subIn K (.ref C0) (.ref C1) = some false)
    (xf35 : PySem.W.subIn K (.ref C2) (.ref C1) = some false)
    (xf36 : PySem.W.subIn K (.ref C3) (.ref C1) = some false)
    (xf37 : PySem.W.subIn K (.ref C2) (.ref C2) = some true)
    (xf38 : PySem.W.subIn K (.ref C0) (.ref C2) = some false)
    (xf39 : PySem.W.subIn K (.ref C1) (.ref C2) = some false)
    (xf40 : PySem.W.subIn K (.ref C3) (.ref C2) = some false)
    (xf41 : PySem.W.subIn K (.ref C3) (.ref C3) = some true)
    (xf42 : PySem.W.subIn K (.ref C0) (.ref C3) = some false)
    (xf43 : PySem.W.subIn K (.ref C1) (.ref C3) = some false)
    (xf44 : PySem.W.subIn K (.ref C2) (.ref C3) = some false)
    (xa5 : PySem.W.nsIn K mainGlobals "Crowded" = some (some (.ref C5)))
    (xf45 : PySem.W.findIn K (.ref C5) "__getattribute__" = some (some (.builtin "BaseException.__getattribute__")))
    (xf46 : PySem.W.findIn K (.ref C5) "__getattr__" = some none)
    (xf47 : PySem.W.subIn K (.ref C5) (.type "BaseException") = some true)
    (xf48 : PySem.W.hasDictIn K C5 = true)
    (xf49 : PySem.W.findIn K (.ref C5) "__class__" = some (some (.builtin "object.__class__")))
    (xf50 : PySem.W.mroIn K C5 (.type "object") = some true)
    (xf51 : PySem.W.mroIn K C5 (.type "tuple") = some false)
    (xf52 : PySem.W.mroIn K C5 (.type "list") = some false)
    (xf53 : PySem.W.mroIn K C5 (.type "int") = some false)
    (xf54 : PySem.W.mroIn K C5 (.type "str") = some false)
    (xf55 : PySem.W.mroIn K C5 (.type "bool") = some false)
    (xf56 : PySem.W.mroIn K C5 (.type "dict") = some false)
    (xf57 : PySem.W.mroIn K C0 (.type "tuple") = some false)
    (xf58 : PySem.W.mroIn K C0 (.type "list") = some false)
    (xf59 : PySem.W.mroIn K C0 (.type "int") = some false)
    (xf60 : PySem.W.mroIn K C0 (.type "str") = some false)
    (xf61 : PySem.W.mroIn K C0 (.type "bool") = some false)
    (xf62 : PySem.W.mroIn K C0 (.type "dict") = some false)
    (xf63 : PySem.W.mroIn K C1 (.type "tuple") = some false)
    (xf64 : PySem.W.mroIn K C1 (.type "list") = some false)
    (xf65 : PySem.W.mroIn K C1 (.type "int") = some false)
    (xf66 : PySem.W.mroIn K C1 (.type "str") = some false)
    (xf67 : PySem.W.mroIn K C1 (.type "bool") = some false)
    (xf68 : PySem.W.mroIn K C1 (.type "dict") = some false)
    (xf69 : PySem.W.mroIn K C2 (.type "tuple") = some false)
    (xf70 : PySem.W.mroIn K C2 (.type "list") = some false)
    (xf71 : PySem.W.mroIn K C2 (.type "int") = some false)
    (xf72 : PySem.W.mroIn K C2 (.type "str") = some false)
    (xf73 : PySem.W.mroIn K C2 (.type "bool") = some false)
    (xf74 : PySem.W.mroIn K C2 (.type "dict") = some false)
    (xf75 : PySem.W.mroIn K C3 (.type "tuple") = some false)
    (xf76 : PySem.W.mroIn K C3 (.type "list") = some false)
    (xf77 : PySem.W.mroIn K C3 (.type "int") = some false)
    (xf78 : PySem.W.mroIn K C3 (.type "str") = some false)
    (xf79 : PySem.W.mroIn K C3 (.type "bool") = some false)
    (xf80 : PySem.W.mroIn K C3 (.type "dict") = some false)
    (xa6 : PySem.W.nsIn K mainGlobals "HourError" = some (some (.ref C6)))
    (xf81 : PySem.W.subIn K (.ref C6) (.type "BaseException") = some true)
    (xf82 : PySem.W.hasDictIn K C6 = true)
    (xf83 : PySem.W.typeIn K (.ref C6) = some (.type "type"))
    (xf84 : PySem.W.subIn K (.ref C0) (.ref C6) = some true)
    (xf85 : PySem.W.subIn K (.ref C1) (.ref C6) = some true)
    (xf86 : PySem.W.subIn K (.ref C2) (.ref C6) = some true)
    (xf87 : PySem.W.subIn K (.ref C3) (.ref C6) = some true)
    (xL5 : K.lookup C5 = some (excClassObj nm_5 q_5 C5 N_5 bs_5 bm_5 true sn_5 sub_5 ab_5 col_5 dd_5 m0_5 m1_5 m2_5 m3_5 m5_5 "ValueError.__new__"))
    (rb5 : PySem.HandSPX.refsVE bm_5 = true)
    (xf88 : PySem.W.findIn K (.ref C5) "__init__" = some (some (.ref fI_5)))
    (xf89 : PySem.W.typeIn K (.ref fI_5) = some (.type "function"))
    (lI5 : K.lookup fI_5 = some ⟨oI_5, odI_5, .func (PySem.W.fnOf "__init__" "Crowded.__init__" (defArgs si_Crowded) (defBody si_Crowded) (defScope si_Crowded) .none kVI_5 dcI_5 pmI_5 anI_5 cdI_5 ctI_5), slI_5⟩)
    (cI5 : PySem.W.codeIn K cdI_5 "Crowded.__init__" = true)
    (xf90 : PySem.W.keepIn K (.ref fI_5) = true)
    (xf91 : PySem.W.findIn K (.ref C5) "first" = some none)
    (xf92 : PySem.W.findIn K (.ref C5) "last" = some none)
    (xf93 : PySem.W.readsIn K C6 (.type "type") = true)
    (xf94 : PySem.W.specialIn K (.ref C6) "__getattribute__" = some (some (.builtin "type.__getattribute__")))
    (xf95 : PySem.W.findCls K (.ref C6) (.type "type") "__init__" = some (.val (.builtin "ValueError.__init__")))
    (xf96 : PySem.W.findIn K (.ref C5) "__setattr__" = some (some (.builtin "object.__setattr__")))
    (xf97 : PySem.W.typeIn K (.ref C5) = some (.type "type"))
    (xf98 : PySem.W.keepIn K (.ref C5) = true) :
    ∃ fd : FuncData, (∀ (s : Shared) (v : Value), BindsTo s fd ⟨[v], []⟩ [("_law_script", v)]) ∧ ∀ base : Heap, K.In base → base.Ns mainGlobals mg → FnOk l.prog w K mg base (L2.CX l.prog w) 33 fa fd ["_law_script"] (spLaw K) := by
  have e := hfa.symm.trans (PySem.W.mg_of X G a38)
  cases e
  have T : Txt K mg := ⟨PySem.W.mg_none_of X G z0, PySem.W.mg_none_of X G z1, PySem.W.mg_none_of X G z2, PySem.W.mg_none_of X G z3, PySem.W.mg_none_of X G z4, PySem.W.mg_none_of X G z5, PySem.W.mg_none_of X G z6, PySem.W.mg_none_of X G z7, PySem.W.mg_none_of X G z8, PySem.W.mg_none_of X G z9, PySem.W.mg_none_of X G z10, PySem.W.mg_none_of X G z11, ⟨_, _, PySem.W.mg_of X G v0, rvR, (.tup (kt_mk q0_1 (Nat.le_of_ble_eq_true rfl) (.cons rvS (.cons rvS (.cons rvS .nil)))) (.cons (.str _) (.cons (.str _) (.cons (.str _) .nil))))⟩, ⟨_, _, PySem.W.mg_of X G v1, rvR, (.tup (kt_mk q1_1 (Nat.le_of_ble_eq_true rfl) (.cons rvS (.cons rvS (.cons rvS .nil)))) (.cons (.str _) (.cons (.str _) (.cons (.str _) .nil))))⟩, ⟨t2, PySem.W.mg_of X G v2⟩, ⟨t3, PySem.W.mg_of X G v3⟩, ⟨C0, PySem.W.mg_of X G xa0, xq0, xk0, xb0, xt0⟩, ⟨C1, PySem.W.mg_of X G xa1, xq1, xk1, xb1, xt1⟩, ⟨C2, PySem.W.mg_of X G xa2, xq2, xk2, xb2, xt2⟩, ⟨C3, PySem.W.mg_of X G xa3, xq3, xk3, xb3, xt3⟩, ⟨_, ⟨(PySem.W.mg_of X G xa4), _, rfl⟩, (List.forall_mem_cons.mpr ⟨⟨_, (PySem.W.mg_of X G xa0), ⟨xf0, xf1, xb0, xf2, xf3, xf4, xf5, xf6⟩, ((kit_own xf7 xf8 xf9 xf10)).trans (by decide +kernel)⟩, (List.forall_mem_cons.mpr ⟨⟨_, (PySem.W.mg_of X G xa1), ⟨xf11, xf12, xb1, xf13, xf14, xf4, xf5, xf15⟩, ((kit_own xf7 xf8 xf9 xf16)).trans (by decide +kernel)⟩, (List.forall_mem_cons.mpr ⟨⟨_, (PySem.W.mg_of X G xa2), ⟨xf17, xf18, xb2, xf19, xf20, xf4, xf5, xf21⟩, ((kit_own xf7 xf8 xf9 xf22)).trans (by decide +kernel)⟩, (List.forall_mem_cons.mpr ⟨⟨_, (PySem.W.mg_of X G xa3), ⟨xf23, xf24, xb3, xf25, xf26, xf4, xf5, xf27⟩, ((kit_own xf7 xf8 xf9 xf28)).trans (by decide +kernel)⟩, (fun _ z => absurd z List.not_mem_nil)⟩)⟩)⟩)⟩)⟩, ⟨_, ⟨(PySem.W.mg_of X G xa0), _, rfl⟩, (List.forall_mem_cons.mpr ⟨⟨_, (PySem.W.mg_of X G xa0), ⟨xf0, xf1, xb0, xf2, xf3, xf4, xf5, xf6⟩, (kit_self).trans (by decide +kernel)⟩, (List.forall_mem_cons.mpr ⟨⟨_, (PySem.W.mg_of X G xa1), ⟨xf11, xf12, xb1, xf13, xf14, xf4, xf5, xf15⟩, ((kit_own xf2 xt0 xf29 xf30)).trans (by decide +kernel)⟩, (List.forall_mem_cons.mpr ⟨⟨_, (PySem.W.mg_of X G xa2), ⟨xf17, xf18, xb2, xf19, xf20, xf4, xf5, xf21⟩, ((kit_own xf2 xt0 xf29 xf31)).trans (by decide +kernel)⟩, (List.forall_mem_cons.mpr ⟨⟨_, (PySem.W.mg_of X G xa3), ⟨xf23, xf24, xb3, xf25, xf26, xf4, xf5, xf27⟩, ((kit_own xf2 xt0 xf29 xf32)).trans (by decide +kernel)⟩, (fun _ z => absurd z List.not_mem_nil)⟩)⟩)⟩)⟩)⟩, ⟨_, ⟨(PySem.W.mg_of X G xa1), _, rfl⟩, (List.forall_mem_cons.mpr ⟨⟨_, (PySem.W.mg_of X G xa0), ⟨xf0, xf1, xb0, xf2, xf3, xf4, xf5, xf6⟩, ((kit_own xf13 xt1 xf33 xf34)).trans (by decide +kernel)⟩, (List.forall_mem_cons.mpr ⟨⟨_, (PySem.W.mg_of X G xa1), ⟨xf11, xf12, xb1, xf13, xf14, xf4, xf5, xf15⟩, (kit_self).trans (by decide +kernel)⟩, (List.forall_mem_cons.mpr ⟨⟨_, (PySem.W.mg_of X G xa2), ⟨xf17, xf18, xb2, xf19, xf20, xf4, xf5, xf21⟩, ((kit_own xf13 xt1 xf33 xf35)).trans (by decide +kernel)⟩, (List.forall_mem_cons.mpr ⟨⟨_, (PySem.W.mg_of X G xa3), ⟨xf23, xf24, xb3, xf25, xf26, xf4, xf5, xf27⟩, ((kit_own xf13 xt1 xf33 xf36)).trans (by decide +kernel)⟩, (fun _ z => absurd z List.not_mem_nil)⟩)⟩)⟩)⟩)⟩, ⟨_, ⟨(PySem.W.mg_of X G xa2), _, rfl⟩, (List.forall_mem_cons.mpr ⟨⟨_, (PySem.W.mg_of X G xa0), ⟨xf0, xf1, xb0, xf2, xf3, xf4, xf5, xf6⟩, ((kit_own xf19 xt2 xf37 xf38)).trans (by decide +kernel)⟩, (List.forall_mem_cons.mpr ⟨⟨_, (PySem.W.mg_of X G xa1), ⟨xf11, xf12, xb1, xf13, xf14, xf4, xf5, xf15⟩, ((kit_own xf19 xt2 xf37 xf39)).trans (by decide +kernel)⟩, (List.forall_mem_cons.mpr ⟨⟨_, (PySem.W.mg_of X G xa2), ⟨xf17, xf18, xb2, xf19, xf20, xf4, xf5, xf21⟩, (kit_self).trans (by decide +kernel)⟩, (List.forall_mem_cons.mpr ⟨⟨_, (PySem.W.mg_of X G xa3), ⟨xf23, xf24, xb3, xf25, xf26, xf4, xf5, xf27⟩, ((kit_own xf19 xt2 xf37 xf40)).trans (by decide +kernel)⟩, (fun _ z => absurd z List.not_mem_nil)⟩)⟩)⟩)⟩)⟩, ⟨_, ⟨(PySem.W.mg_of X G xa3), _, rfl⟩, (List.forall_mem_cons.mpr ⟨⟨_, (PySem.W.mg_of X G xa0), ⟨xf0, xf1, xb0, xf2, xf3, xf4, xf5, xf6⟩, ((kit_own xf25 xt3 xf41 xf42)).trans (by decide +kernel)⟩, (List.forall_mem_cons.mpr ⟨⟨_, (PySem.W.mg_of X G xa1), ⟨xf11, xf12, xb1, xf13, xf14, xf4, xf5, xf15⟩, ((kit_own xf25 xt3 xf41 xf43)).trans (by decide +kernel)⟩, (List.forall_mem_cons.mpr ⟨⟨_, (PySem.W.mg_of X G xa2), ⟨xf17, xf18, xb2, xf19, xf20, xf4, xf5, xf21⟩, ((kit_own xf25 xt3 xf41 xf44)).trans (by decide +kernel)⟩, (List.forall_mem_cons.mpr ⟨⟨_, (PySem.W.mg_of X G xa3), ⟨xf23, xf24, xb3, xf25, xf26, xf4, xf5, xf27⟩, (kit_self).trans (by decide +kernel)⟩, (fun _ z => absurd z List.not_mem_nil)⟩)⟩)⟩)⟩)⟩, ⟨(List.forall_mem_cons.mpr ⟨⟨_, (PySem.W.mg_of X G xa5), C5, rfl, ⟨xf45, xf46, xf47, xf48, xf49, xf4, xf5, xf50⟩, (List.forall_mem_cons.mpr ⟨(kit_plain (by decide +kernel) xf51), (List.forall_mem_cons.mpr ⟨(kit_plain (by decide +kernel) xf52), (List.forall_mem_cons.mpr ⟨(kit_plain (by decide +kernel) xf53), (List.forall_mem_cons.mpr ⟨(kit_plain (by decide +kernel) xf54), (List.forall_mem_cons.mpr ⟨(kit_plain (by decide +kernel) xf55), (List.forall_mem_cons.mpr ⟨(kit_plain (by decide +kernel) xf56), (fun _ z => absurd z List.not_mem_nil)⟩)⟩)⟩)⟩)⟩)⟩)⟩, (fun _ z => absurd z List.not_mem_nil)⟩)⟩, ⟨(List.forall_mem_cons.mpr ⟨⟨_, (PySem.W.mg_of X G xa0), C0, rfl, ⟨xf0, xf1, xb0, xf2, xf3, xf4, xf5, xf6⟩, (List.forall_mem_cons.mpr ⟨(kit_plain (by decide +kernel) xf57), (List.forall_mem_cons.mpr ⟨(kit_plain (by decide +kernel) xf58), (List.forall_mem_cons.mpr ⟨(kit_plain (by decide +kernel) xf59), (List.forall_mem_cons.mpr ⟨(kit_plain (by decide +kernel) xf60), (List.forall_mem_cons.mpr ⟨(kit_plain (by decide +kernel) xf61), (List.forall_mem_cons.mpr ⟨(kit_plain (by decide +kernel) xf62), (fun _ z => absurd z List.not_mem_nil)⟩)⟩)⟩)⟩)⟩)⟩)⟩, (List.forall_mem_cons.mpr ⟨⟨_, (PySem.W.mg_of X G xa1), C1, rfl, ⟨xf11, xf12, xb1, xf13, xf14, xf4, xf5, xf15⟩, (List.forall_mem_cons.mpr ⟨(kit_plain (by decide +kernel) xf63), (List.forall_mem_cons.mpr ⟨(kit_plain (by decide +kernel) xf64), (List.forall_mem_cons.mpr ⟨(kit_plain (by decide +kernel) xf65), (List.forall_mem_cons.mpr ⟨(kit_plain (by decide +kernel) xf66), (List.forall_mem_cons.mpr ⟨(kit_plain (by decide +kernel) xf67), (List.forall_mem_cons.mpr ⟨(kit_plain (by decide +kernel) xf68), (fun _ z => absurd z List.not_mem_nil)⟩)⟩)⟩)⟩)⟩)⟩)⟩, (List.forall_mem_cons.mpr ⟨⟨_, (PySem.W.mg_of X G xa2), C2, rfl, ⟨xf17, xf18, xb2, xf19, xf20, xf4, xf5, xf21⟩, (List.forall_mem_cons.mpr ⟨(kit_plain (by decide +kernel) xf69), (List.forall_mem_cons.mpr ⟨(kit_plain (by decide +kernel) xf70), (List.forall_mem_cons.mpr ⟨(kit_plain (by decide +kernel) xf71), (List.forall_mem_cons.mpr ⟨(kit_plain (by decide +kernel) xf72), (List.forall_mem_cons.mpr ⟨(kit_plain (by decide +kernel) xf73), (List.forall_mem_cons.mpr ⟨(kit_plain (by decide +kernel) xf74), (fun _ z => absurd z List.not_mem_nil)⟩)⟩)⟩)⟩)⟩)⟩)⟩, (List.forall_mem_cons.mpr ⟨⟨_, (PySem.W.mg_of X G xa3), C3, rfl, ⟨xf23, xf24, xb3, xf25, xf26, xf4, xf5, xf27⟩, (List.forall_mem_cons.mpr ⟨(kit_plain (by decide +kernel) xf75), (List.forall_mem_cons.mpr ⟨(kit_plain (by decide +kernel) xf76), (List.forall_mem_cons.mpr ⟨(kit_plain (by decide +kernel) xf77), (List.forall_mem_cons.mpr ⟨(kit_plain (by decide +kernel) xf78), (List.forall_mem_cons.mpr ⟨(kit_plain (by decide +kernel) xf79), (List.forall_mem_cons.mpr ⟨(kit_plain (by decide +kernel) xf80), (fun _ z => absurd z List.not_mem_nil)⟩)⟩)⟩)⟩)⟩)⟩)⟩, (fun _ z => absurd z List.not_mem_nil)⟩)⟩)⟩)⟩)⟩, ⟨(List.forall_mem_cons.mpr ⟨⟨_, (PySem.W.mg_of X G xa3), C3, rfl, ⟨xf23, xf24, xb3, xf25, xf26, xf4, xf5, xf27⟩, (List.forall_mem_cons.mpr ⟨(kit_plain (by decide +kernel) xf75), (List.forall_mem_cons.mpr ⟨(kit_plain (by decide +kernel) xf76), (List.forall_mem_cons.mpr ⟨(kit_plain (by decide +kernel) xf77), (List.forall_mem_cons.mpr ⟨(kit_plain (by decide +kernel) xf78), (List.forall_mem_cons.mpr ⟨(kit_plain (by decide +kernel) xf79), (List.forall_mem_cons.mpr ⟨(kit_plain (by decide +kernel) xf80), (fun _ z => absurd z List.not_mem_nil)⟩)⟩)⟩)⟩)⟩)⟩)⟩, (fun _ z => absurd z List.not_mem_nil)⟩)⟩, ⟨_, (PySem.W.mg_of X G xa6), (List.forall_mem_cons.mpr ⟨⟨_, (PySem.W.mg_of X G xa0), (PySem.W.exm_ref xf81 xf82 xf83 xf84).trans (by decide +kernel)⟩, (List.forall_mem_cons.mpr ⟨⟨_, (PySem.W.mg_of X G xa1), (PySem.W.exm_ref xf81 xf82 xf83 xf85).trans (by decide +kernel)⟩, (List.forall_mem_cons.mpr ⟨⟨_, (PySem.W.mg_of X G xa2), (PySem.W.exm_ref xf81 xf82 xf83 xf86).trans (by decide +kernel)⟩, (List.forall_mem_cons.mpr ⟨⟨_, (PySem.W.mg_of X G xa3), (PySem.W.exm_ref xf81 xf82 xf83 xf87).trans (by decide +kernel)⟩, (fun _ z => absurd z List.not_mem_nil)⟩)⟩)⟩)⟩)⟩⟩
  have F0 := fun_mk (st := s_is_integer) l0 c0 k0
  have F1 := fun_mk (st := s_is_zone) l1 c1 k1
  have F2 := fun_mk (st := s_need_zone) l2 c2 k2
  have F3 := fun_mk (st := s_need_number) l3 c3 k3
  have F4 := fun_mk (st := s_is_offset) l4 c4 k4
  have F5 := fun_mk (st := s_need_rules) l5 c5 k5
  have F6 := fun_mk (st := s_is_mark) l6 c6 k6
  have F7 := fun_mk (st := s_is_table) l7 c7 k7
  have F8 := fun_mk (st := s_need_table) l8 c8 k8
  have F9 := fun_mk (st := s_offset_in) l9 c9 k9
  have F10 := fun_mk (st := s_offset_at) l10 c10 k10
  have F11 := fun_mk (st := s_reading_at) l11 c11 k11
  have F12 := fun_mk (st := s_moments_of) l12 c12 k12
  have F13 := fun_mk (st := s_found_by) l13 c13 k13
  have F14 : FunD K "find_moment" "find_moment" (defArgs s_find_moment) (defBody s_find_moment) (defScope s_find_moment) [] [("fold", (V.str "early")), ("gap", (V.str "ahead"))] f14 _ := ⟨⟨_, _, _, _, _, _, _, _, _, _, rfl, l14, c14, .inl ⟨rfl, rfl⟩, .inr ⟨D14, rfl, (List.forall_mem_cons.mpr ⟨⟨_, lD14_0, rvS⟩, (List.forall_mem_cons.mpr ⟨⟨_, lD14_1, rvS⟩, (fun _ z => absurd z List.not_mem_nil)⟩)⟩)⟩⟩, k14⟩
  have F15 := fun_mk (st := s__law_digits) l15 c15 k15
  have F16 := fun_mk (st := s__law_draw) l16 c16 k16
  have F17 := fun_mk (st := s__law_any_hour) l17 c17 k17
  have F18 := fun_mk (st := s__law_make_region) l18 c18 k18
  have F19 := fun_mk (st := s__law_make_chart) l19 c19 k19
  have F20 := fun_mk (st := s__law_shift_at) l20 c20 k20
  have F21 := fun_mk (st := s__law_near) l21 c21 k21
  have F22 := fun_mk (st := s__law_whole) l22 c22 k22
  have F23 := fun_mk (st := s__law_same) l23 c23 k23
  have F24 := fun_mk (st := s__law_odd_thing) l24 c24 k24
  have F25 := fun_mk (st := s__law_bend) l25 c25 k25
  have F26 := fun_mk (st := s__law_among) l26 c26 k26
  have F27 := fun_mk (st := s__law_is_region) l27 c27 k27
  have F28 := fun_mk (st := s__law_is_chart) l28 c28 k28
  have F29 := fun_mk (st := s__law_hours_of) l29 c29 k29
  have F30 := fun_mk (st := s__law_found) l30 c30 k30
  have F31 := fun_mk (st := s__law_strange_number) l31 c31 k31
  have F32 := fun_mk (st := s__law_bad_region) l32 c32 k32
  have F33 := fun_mk (st := s__law_bad_chart) l33 c33 k33
  have F34 := fun_mk (st := s__law_bad_rule) l34 c34 k34
  have F35 := fun_mk (st := s__law_heard) l35 c35 k35
  have F36 := fun_mk (st := s__law_answer) l36 c36 k36
  have F37 := fun_mk (st := s__law_awaited) l37 c37 k37
  have F38 := fun_mk (st := s_law) l38 c38 k38
  refine ⟨PySem.W.fnOf "law" "law" (defArgs s_law) (defBody s_law) (defScope s_law) .none kV38 dc38 pm38 an38 cd38 ct38, fun s v => .of_eq rfl, fun base _ _ => ?_⟩
  have HI_Crowded : HiOk K mg "HourError" := ⟨C6, .type "type", (PySem.W.mg_of X G xa6), xf93, xf94, xf95⟩
  have FI_Crowded := fun_mk (st := si_Crowded) lI5 cI5 xf90
  have GI_Crowded : XiOk l.prog w K mg base 1 "Crowded" ["first", "last"] := xi_mk2 (msg := "a stretch of the looks is crowded") (PySem.W.mg_of X G xa5) ⟨⟨_, _, _, _, _, _, _, _, _, _, _, _, _, _, _, xL5, rb5⟩, xf96, xf47, xf97, xf98⟩ xf88 xf89 FI_Crowded (FI_Crowded.binds fun _ _ _ _ _ _ us hl => match us, hl with | [_, _, _], _ => rfl) sci_Crowded xf91 xf92 (fun cdv A outer s H E => pss_cons (ps_expr (pe_hinit rfl HI_Crowded (pa_cons (pv 0) (pa_cons pe_str pa_nil)))) (pss_cons (ps_ost (pv 0) (pv 1)) (pss_one (ps_ost (pv 0) (pv 2)))))
  have G_is_integer := fn_is_integer (P := l.prog) (w := w) (base := base) T (PySem.W.mg_of X G a0) F0 
  have G_is_zone := fn_is_zone (P := l.prog) (w := w) (base := base) T (PySem.W.mg_of X G a1) F1 G_is_integer
  have G_need_zone := fn_need_zone (P := l.prog) (w := w) (base := base) T (PySem.W.mg_of X G a2) F2 G_is_zone
  have G_need_number := fn_need_number (P := l.prog) (w := w) (base := base) T (PySem.W.mg_of X G a3) F3 G_is_integer
  have G_is_offset := fn_is_offset (P := l.prog) (w := w) (base := base) T (PySem.W.mg_of X G a4) F4 G_is_integer
  have G_need_rules := fn_need_rules (P := l.prog) (w := w) (base := base) T (PySem.W.mg_of X G a5) F5 
  have G_is_mark := fn_is_mark (P := l.prog) (w := w) (base := base) T (PySem.W.mg_of X G a6) F6 G_is_integer G_is_offset
  have G_is_table := fn_is_table (P := l.prog) (w := w) (base := base) T (PySem.W.mg_of X G a7) F7 G_is_mark G_is_offset G_need_zone
  have G_need_table := fn_need_table (P := l.prog) (w := w) (base := base) T (PySem.W.mg_of X G a8) F8 G_is_table
  have G_offset_in := fn_offset_in (P := l.prog) (w := w) (base := base) T (PySem.W.mg_of X G a9) F9 
  have G_offset_at := fn_offset_at (P := l.prog) (w := w) (base := base) T (PySem.W.mg_of X G a10) F10 G_offset_in G_need_number G_need_table G_need_zone
  have G_reading_at := fn_reading_at (P := l.prog) (w := w) (base := base) T (PySem.W.mg_of X G a11) F11 G_offset_at
  have G_moments_of := fn_moments_of (P := l.prog) (w := w) (base := base) T (PySem.W.mg_of X G a12) F12 G_offset_in G_need_number G_need_table G_need_zone
  have G_found_by := fn_found_by (P := l.prog) (w := w) (base := base) T (PySem.W.mg_of X G a13) F13 
  have G_find_moment := fn_find_moment (P := l.prog) (w := w) (base := base) T (PySem.W.mg_of X G a14) F14 G_found_by G_offset_in G_need_rules G_need_number G_need_table G_need_zone
  have G__law_digits := fn__law_digits (P := l.prog) (w := w) (base := base) T (PySem.W.mg_of X G a15) F15 
  have G__law_draw := fn__law_draw (P := l.prog) (w := w) (base := base) T (PySem.W.mg_of X G a16) F16 
  have G__law_any_hour := fn__law_any_hour (P := l.prog) (w := w) (base := base) T (PySem.W.mg_of X G a17) F17 G__law_draw
  have G__law_make_region := fn__law_make_region (P := l.prog) (w := w) (base := base) T (PySem.W.mg_of X G a18) F18 G__law_draw
  have G__law_make_chart := fn__law_make_chart (P := l.prog) (w := w) (base := base) T (PySem.W.mg_of X G a19) F19 G__law_draw G__law_any_hour
  have G__law_shift_at := fn__law_shift_at (P := l.prog) (w := w) (base := base) T (PySem.W.mg_of X G a20) F20 
  have G__law_near := fn__law_near (P := l.prog) (w := w) (base := base) T (PySem.W.mg_of X G a21) F21 G__law_draw G__law_any_hour
  have G__law_whole := fn__law_whole (P := l.prog) (w := w) (base := base) T (PySem.W.mg_of X G a22) F22 
  have G__law_same := fn__law_same (P := l.prog) (w := w) (base := base) T (PySem.W.mg_of X G a23) F23 G__law_whole 30
  have G__law_odd_thing := fn__law_odd_thing (P := l.prog) (w := w) (base := base) T (PySem.W.mg_of X G a24) F24 G__law_draw GI_Crowded
  have G__law_bend := fn__law_bend (P := l.prog) (w := w) (base := base) T (PySem.W.mg_of X G a25) F25 G__law_odd_thing G__law_whole G__law_draw 12
  have G__law_among := fn__law_among (P := l.prog) (w := w) (base := base) T (PySem.W.mg_of X G a26) F26 G__law_whole
  have G__law_is_region := fn__law_is_region (P := l.prog) (w := w) (base := base) T (PySem.W.mg_of X G a27) F27 G__law_whole
  have G__law_is_chart := fn__law_is_chart (P := l.prog) (w := w) (base := base) T (PySem.W.mg_of X G a28) F28 G__law_among G__law_whole
  have G__law_hours_of := fn__law_hours_of (P := l.prog) (w := w) (base := base) T (PySem.W.mg_of X G a29) F29 
  have G__law_found := fn__law_found (P := l.prog) (w := w) (base := base) T (PySem.W.mg_of X G a30) F30 G__law_hours_of
  have G__law_strange_number := fn__law_strange_number (P := l.prog) (w := w) (base := base) T (PySem.W.mg_of X G a31) F31 G__law_draw GI_Crowded
  have G__law_bad_region := fn__law_bad_region (P := l.prog) (w := w) (base := base) T (PySem.W.mg_of X G a32) F32 G__law_is_region G__law_draw G__law_bend
  have G__law_bad_chart := fn__law_bad_chart (P := l.prog) (w := w) (base := base) T (PySem.W.mg_of X G a33) F33 G__law_is_chart G__law_draw G__law_bend
  have G__law_bad_rule := fn__law_bad_rule (P := l.prog) (w := w) (base := base) T (PySem.W.mg_of X G a34) F34 G__law_draw
  have G__law_heard := fn__law_heard (P := l.prog) (w := w) (base := base) T (PySem.W.mg_of X G a35) F35 G_offset_at G_reading_at G_moments_of G_find_moment G_is_table
  have G__law_answer := fn__law_answer (P := l.prog) (w := w) (base := base) T (PySem.W.mg_of X G a36) F36 G__law_hours_of G__law_found G__law_shift_at
  have G__law_awaited := fn__law_awaited (P := l.prog) (w := w) (base := base) T (PySem.W.mg_of X G a37) F37 G__law_answer G__law_is_chart
  have G_law := fn_law (P := l.prog) (w := w) (base := base) T (PySem.W.mg_of X G a38) F38 G__law_same G__law_awaited G__law_heard G__law_draw G__law_bad_rule G__law_strange_number G__law_bad_chart G__law_bad_region G__law_near G__law_make_chart G__law_make_region G__law_digits
  exact law_ok (PySem.W.mg_of X G a38) F38 G_law hlaw
theorem walk {l : PySem.W.OpenLaw} {q : Program} {loose : List Str} {XP : (Str → Option Value) → Heap → Prop} {YP : World → Heap → Prop} {d : DefRec} {K : Params → Frag} (hn : l.most = some 63) (hdf : d.params.defaults = [])
    (hY : ∀ (w : World) (h : Heap), YP w h → (K w.params).In h)
    (F : ∀ (w : World) (mg : Str → Option Value) (fa : Addr) (h : Heap), (K w.params).In h → h.Ns mainGlobals mg → mg d.name = some (.ref fa) →
      ∃ fd : FuncData, (∀ (s : Shared) (u : Value), BindsTo s fd ⟨[u], []⟩ [("_law_script", u)]) ∧ ∀ base : Heap, (K w.params).In base → base.Ns mainGlobals mg → FnOk l.prog w (K w.params) mg base (L2.CX l.prog w) 33 fa fd ["_law_script"] (spLaw (K w.params))) :
    PySem.W.WalkO q loose XP YP l.row.toRowW d [] (fun f vs => PySem.call f vs) :=
  L2.walk_of (n := 63) (k := 33) (x := "_law_script") (CX := fun w => L2.CX l.prog w) (sp := fun w => spLaw (K w.params)) hn (by decide) hdf ⟨rfl, by decide, by decide⟩ hY F (fun _ _ a ns hl _ hS => ⟨a, ns, rfl, hS, hl, fun _ => rfl⟩) fun _ _ _ _ _ z => cx_no z
end V
-- text HmBase
namespace Dm
open PySem L2
/-- a pot of digits stands at p -/
def Pot (p : Nat) (S : Sto) : Prop := ∃ k : Int, S[p]? = some (.lst [.int k])
/-- from S to S': the pot at p has turned, cells have come, all else is as it was -/
structure Go (p : Nat) (S S' : Sto) : Prop where
  len : S.length ≤ S'.length
  same : ∀ n, n < S.length → n ≠ p → S'[n]? = S[n]?
  pot : Pot p S'
theorem Pot.lt {p : Nat} {S : Sto} (h : Pot p S) : p < S.length := by
  obtain ⟨k, e⟩ := h
  exact (List.getElem?_eq_some_iff.mp e).1
theorem Go.refl {p : Nat} {S : Sto} (h : Pot p S) : Go p S S := ⟨Nat.le_refl _, fun _ _ _ => rfl, h⟩
theorem Go.trans {p : Nat} {S S1 S2 : Sto} (a : Go p S S1) (b : Go p S1 S2) : Go p S S2 :=
  ⟨Nat.le_trans a.len b.len, fun n h hn => (b.same n (Nat.lt_of_lt_of_le h a.len) hn).trans (a.same n h hn), b.pot⟩
theorem Go.push {p : Nat} {S S1 : Sto} (a : Go p S S1) (c : Cell) : Go p S (S1 ++ [c]) :=
  ⟨by rw [List.length_append]; exact Nat.le_trans a.len (Nat.le_add_right _ _), fun n h hn => by
    rw [List.getElem?_append_left (Nat.lt_of_lt_of_le h a.len)]
    exact a.same n h hn, by
    obtain ⟨k, e⟩ := a.pot
    exact ⟨k, by rw [List.getElem?_append_left (List.getElem?_eq_some_iff.mp e).1]; exact e⟩⟩
/-- a cell that is younger than S is written -/
theorem Go.setNew {p n : Nat} {S S1 : Sto} (hp : Pot p S) (a : Go p S S1) (hn : S.length ≤ n) (c : Cell) : Go p S (S1.set n c) :=
  ⟨by rw [List.length_set]; exact a.len, fun m h hm => by
    rw [List.getElem?_set_ne (by omega)]
    exact a.same m h hm, by
    obtain ⟨k, e⟩ := a.pot
    have := hp.lt
    exact ⟨k, by rw [List.getElem?_set_ne (by omega)]; exact e⟩⟩
theorem Go.get {p n : Nat} {S S1 : Sto} {c : Cell} (a : Go p S S1) (h : S[n]? = some c) (hn : n ≠ p) : S1[n]? = some c := by
  rw [a.same n (List.getElem?_eq_some_iff.mp h).1 hn]
  exact h
theorem draw_does {S : Sto} {p : Nat} {u : Int} {Q : D → Sto → Prop} (hp : Pot p S) (h0 : 0 < u) (hb : u < 18446744073709551616)
    (q : ∀ r S', Go p S S' → 0 ≤ r → r < u → Q (.int r) S') : (m_law_draw [.cell p, .int u] S).Does Q := by
  obtain ⟨k, e⟩ := id hp
  refine does_def rfl ?_
  have hl := hp.lt
  have hc : CDivW k u := cdivw h0 hb
  simp [gIx_cell e, h0, hc]
  refine ⟨[.int k], e, 0, rfl, ?_⟩
  refine q (k % u) _ ⟨by rw [List.length_set]; exact Nat.le_refl _, fun n h hn => List.getElem?_set_ne (Ne.symm hn), ⟨k / u, ?_⟩⟩ (Int.emod_nonneg _ (by omega)) (Int.emod_lt_of_pos _ h0)
  rw [List.getElem?_set_self hl] <;> rfl
theorem any_hour_does {S : Sto} {p : Nat} {Q : D → Sto → Prop} (hp : Pot p S) (q : ∀ h S', Go p S S' → -1000000000000 < h → h < 1000000000000 → Q (.int h) S') : (m_law_any_hour [.cell p] S).Does Q := by
  refine does_def rfl ?_
  simp
  refine draw_does hp (by decide) (by decide) fun r S1 g1 h0 h1 => ?_
  simp
  by_cases c1 : r < 2
  · simp [c1]
    refine draw_does g1.pot (by decide) (by decide) fun r2 S2 g2 a0 a1 => ?_
    simp
    exact q _ _ (g1.trans g2) (by omega) (by omega)
  · simp [c1]
    by_cases c2 : r = 2
    · simp [c2]
      refine draw_does g1.pot (by decide) (by decide) fun r2 S2 g2 a0 a1 => ?_
      simp
      exact q _ _ (g1.trans g2) (by omega) (by omega)
    · simp [c2]
      refine draw_does g1.pot (by decide) (by decide) fun r2 S2 g2 a0 a1 => ?_
      have g := g1.trans g2
      have e : r2 = 0 ∨ r2 = 1 ∨ r2 = 2 ∨ r2 = 3 ∨ r2 = 4 ∨ r2 = 5 ∨ r2 = 6 := by omega
      rcases e with e | e | e | e | e | e | e <;> subst e <;> simp [atI, ixN] <;> exact q _ _ g (by decide) (by decide)
end Dm
-- text HmDig
namespace Dm
open PySem L2
theorem rngD_nil {lo : Int} : rngD lo 0 = [] := rfl
theorem rngD_cons {lo : Int} {n : Nat} : rngD lo (n + 1) = .int lo :: rngD (lo + 1) n := by
  unfold rngD
  rw [List.range_succ_eq_map, List.map_cons, List.map_map]
  congr 1
  · simp
  · refine List.map_congr_left fun i _ => ?_
    simp only [Function.comp]
    congr 1
    omega
theorem mul_bits {i j : Int} {n m : Nat} (h : i.natAbs < 2 ^ n) (h' : j.natAbs < 2 ^ m) : (i * j).natAbs < 2 ^ (n + m) := by
  rw [Int.natAbs_mul, Nat.pow_add]
  exact Nat.mul_lt_mul'' h h'
theorem add_bits {i j : Int} {n m : Nat} (h : i.natAbs < 2 ^ n) (h' : j.natAbs < 2 ^ n) (hm : n + 1 ≤ m) : (i + j).natAbs < 2 ^ m := by
  have a := Int.natAbs_add_le i j
  have b : 2 ^ (n + 1) ≤ 2 ^ m := Nat.pow_le_pow_right (by decide) hm
  have c : (2:Nat) ^ (n + 1) = 2 ^ n * 2 := Nat.pow_succ 2 n
  omega
theorem up_bits {i : Int} {n m : Nat} (h : i.natAbs < 2 ^ n) (hm : n ≤ m) : i.natAbs < 2 ^ m :=
  Nat.lt_of_lt_of_le h (Nat.pow_le_pow_right (by decide) hm)
theorem bits_mono {i : Int} (n : Nat) {b : Int} (h0 : 0 ≤ i) (h : i < b) (hb : b ≤ ((2 ^ n : Nat) : Int)) : i.natAbs < 2 ^ n := by
  omega
theorem digits_does {S : Sto} {c : Int} {Q : D → Sto → Prop} (q : ∀ k, Q (.cell S.length) (S ++ [.lst [.int k]])) : (m_law_digits [.int c] S).Does Q := by
  refine does_def rfl ?_
  simp
  by_cases h : 1000000000000000000 ≤ c
  · simp [h]
    exact q _
  · simp [h]
    refine forL_does (fun ds ρ S' => S' = S ∧ ∃ (t n : Nat) (m full : Int) (x : Option D), ρ = [some (.int c), some (.int m), some (.int full), x] ∧ ds = rngD t n ∧ t ≤ 19 ∧ t + n = 19 ∧ m.natAbs < 2 ^ 140 ∧ full.natAbs < 2 ^ (300 * t + 2)) ?_ ?_ _ _ _ ?_
    · rintro d r ρ S' ⟨rfl, t, n, m, full, x, rfl, e, ht, hn, hm, hf⟩
      cases n with
      | zero => rw [rngD_nil] at e; cases e
      | succ n =>
        rw [rngD_cons] at e
        injection e with e1 e2
        subst e1
        refine ⟨_, rfl, ?_⟩
        simp
        have ht' : (t : Int).natAbs < 2 ^ 140 := Nat.lt_of_le_of_lt (show t ≤ 19 by omega) (by decide)
        have hr0 := Int.emod_nonneg (m * m + 31415926535 * m + 271829 * t + 17) (b := 100000000000000000000000000000000000000009) (by decide)
        have hr1 := Int.emod_lt_of_pos (m * m + 31415926535 * m + 271829 * t + 17) (b := 100000000000000000000000000000000000000009) (by decide)
        generalize (m * m + 31415926535 * m + 271829 * t + 17) % 100000000000000000000000000000000000000009 = r1 at hr0 hr1
        have hr : r1.natAbs < 2 ^ 140 := bits_mono 140 hr0 hr1 (by decide +kernel)
        refine ⟨cmulw 140 140 hm hm (by decide), cmulw 140 140 (by decide) hm (by decide), cmulw 140 140 (by decide) ht' (by decide), ?_⟩
        have h300 : 300 * (t + 1) + 2 = (300 * t + 301) + 1 := by omega
        by_cases c3 : (2 : Int) < t
        · simp [c3]
          refine ⟨cmulw (300 * t + 2) 140 hf (by decide +kernel) (by omega), t + 1, n, _, _, ⟨rfl, rfl⟩, by rw [e2] <;> rfl, by omega, by omega, hr, ?_⟩
          refine add_bits (n := 300 * t + 301) (up_bits (mul_bits hf (m := 140) (by decide +kernel)) (by omega)) (up_bits hr (by omega)) (by omega)
        · simp [c3]
          exact ⟨t + 1, n, _, _, ⟨rfl, rfl⟩, by rw [e2] <;> rfl, by omega, by omega, hr, up_bits hf (by omega)⟩
    · rintro ρ S' ⟨rfl, t, n, m, full, x, rfl, _⟩
      simp
      exact q _
    · have hr0 := Int.emod_nonneg c (b := 100000000000000000000000000000000000133) (by decide)
      have hr1 := Int.emod_lt_of_pos c (b := 100000000000000000000000000000000000133) (by decide)
      exact ⟨rfl, 0, 19, _, 1, none, rfl, rfl, by decide, by decide, bits_mono 140 (b := 200000000000000000000000000000000000133) (by omega) (by omega) (by decide +kernel), by decide⟩
end Dm
-- text HmZone
namespace Dm
open PySem L2
theorem seq_cut {ρ : Rho} {S : Sto} {N B C : Rho → Sto → Prop} {R : D → Sto → Prop} {EO : EXO} {a b : MS} (M : Rho → Sto → Prop) (h : ∀ M' : Rho → Sto → Prop, (∀ ρ S, M ρ S → M' ρ S) → (a ρ S).DoesE EO M' R B C) (k : ∀ ρ S, M ρ S → (b ρ S).DoesE EO N R B C) : (mSeq a b ρ S).DoesE EO N R B C := by
  rw [does_seq]
  exact (h M fun _ _ h => h).mono k (fun _ _ h => h) (fun _ _ h => h) (fun _ _ h => h)
/-- a zone of one, two or three offsets -/
inductive ZoneOK : List Int → Int → Prop
  | one (a s : Int) : -900 ≤ a → a ≤ 900 → 0 < s → s ≤ 1000000 → ZoneOK [a] s
  | two (a b s : Int) : -900 ≤ a → a < b → b ≤ 900 → b - a < s → s ≤ 1000000 → ZoneOK [a, b] s
  | three (a b c s : Int) : -900 ≤ a → a < b → b < c → c ≤ 900 → c - a < s → s ≤ 1000000 → ZoneOK [a, b, c] s
def zoneD (os : List Int) (s : Int) : D := .tup [.tup (os.map .int), .int s]
@[simp] theorem atI_last1 {α : Type} {x : α} : atI [x] (-1) = some x := rfl
@[simp] theorem atI_last2 {α : Type} {x y : α} : atI [x, y] (-1) = some y := rfl
@[simp] theorem atI_last3 {α : Type} {x y z : α} : atI [x, y, z] (-1) = some z := rfl
theorem make_region_does {S : Sto} {p : Nat} {Q : D → Sto → Prop} (hp : Pot p S) (q : ∀ os s S', Go p S S' → ZoneOK os s → Q (zoneD os s) S') : (m_law_make_region [.cell p] S).Does Q := by
  refine does_def rfl ?_
  -- the kind
  refine seq_cut (fun ρ S' => ∃ k : Int, ρ = [some (.cell p), some (.int k), none, none, none, none, none, none, none, none, none] ∧ Go p S S' ∧ 0 ≤ k ∧ k < 6) (fun M hM => ?_) ?_
  · simp
    refine draw_does hp (by decide) (by decide) fun r S1 g1 h0 h1 => ?_
    exact hM _ _ ⟨r, rfl, g1, h0, h1⟩
  rintro ρ S1 ⟨k, rfl, g1, k0, k1⟩
  refine seq_cut (fun ρ S' => S' = S1 ∧ ρ = [some (.cell p), some (.int k), some (.int (-900)), none, none, none, none, none, none, none, none]) (fun M hM => ?_) ?_
  · simp
    exact hM _ _ ⟨rfl, by first | rfl | exact ⟨_, rfl, rfl⟩⟩
  rintro ρ _ ⟨rfl, rfl⟩
  refine seq_cut (fun ρ S' => ∃ low : Int, ρ = [some (.cell p), some (.int k), some (.int low), none, none, none, none, none, none, none, none] ∧ Go p S S' ∧ -900 ≤ low ∧ (k = 0 → low ≤ 3) ∧ (k = 1 → low ≤ 3) ∧ (k = 2 → low ≤ 660) ∧ (k = 3 → low = -900) ∧ (k = 4 → low ≤ 300) ∧ (k = 5 → low = -900)) (fun M hM => ?_) ?_
  · simp
    by_cases c1 : k < 2
    · simp [c1]
      refine draw_does g1.pot (by decide) (by decide) fun r S2 g2 a0 a1 => ?_
      simp
      exact hM _ _ ⟨_, rfl, g1.trans g2, by omega, by omega, by omega, by omega, by omega, by omega, by omega⟩
    · simp [c1]
      by_cases c2 : k = 2
      · subst c2
        simp
        refine draw_does g1.pot (by decide) (by decide) fun r S2 g2 a0 a1 => ?_
        simp
        exact ⟨cmulw64 (by omega) (by omega), hM _ _ ⟨_, rfl, g1.trans g2, by omega, by omega, by omega, by omega, by omega, by omega, by omega⟩⟩
      · simp [c2]
        by_cases c4 : k = 4
        · subst c4
          simp
          refine draw_does g1.pot (by decide) (by decide) fun r S2 g2 a0 a1 => ?_
          simp
          exact hM _ _ ⟨_, rfl, g1.trans g2, by omega, by omega, by omega, by omega, by omega, by omega, by omega⟩
        · simp [c4]
          exact hM _ _ ⟨_, rfl, g1, by omega, by omega, by omega, by omega, by omega, by omega, by omega⟩
  rintro ρ S2 ⟨low, rfl, g2, l0, l1⟩
  refine seq_cut (fun ρ S' => ∃ low u w: Int, ρ = [some (.cell p), some (.int k), some (.int low), some (.int u), some (.int w), none, none, none, none, none, none] ∧ Go p S S' ∧ -900 ≤ low ∧ ((u = 1 ∧ (w = 4 ∨ w = 900 ∨ w = 300)) ∨ (u = 30 ∧ w = 4) ∨ (u = 900 ∧ w = 1)) ∧ low + 2 * u * w ≤ 900) (fun M hM => ?_) ?_
  · have e : k = 0 ∨ k = 1 ∨ k = 2 ∨ k = 3 ∨ k = 4 ∨ k = 5 := by omega
    rcases e with e | e | e | e | e | e <;> subst e <;> simp [atI, ixN] <;> exact hM _ _ ⟨_, _, _, rfl, g2, by omega, by omega, by omega⟩
  rintro ρ S3 ⟨low, u, w, rfl, g3, l0, uw, l1⟩
  have hw : 0 < w := by omega
  have hw' : w < 1000 := by omega
  have hu : 0 < u ∧ u < 1000 := by omega
  refine seq_cut (fun ρ S' => ∃ mid : Int, ρ = [some (.cell p), some (.int k), some (.int low), some (.int u), some (.int w), some (.int mid), none, none, none, none, none] ∧ Go p S S' ∧ low < mid ∧ mid ≤ low + u * w) (fun M hM => ?_) ?_
  · simp
    refine draw_does g3.pot hw (by omega) fun r S4 g4 a0 a1 => ?_
    simp
    refine ⟨cmulw64 (by omega) (by omega), ?_⟩
    refine hM _ _ ⟨_, rfl, g3.trans g4, ?_⟩
    rcases uw with ⟨rfl, rfl | rfl | rfl⟩ | ⟨rfl, rfl⟩ | ⟨rfl, rfl⟩ <;> constructor <;> omega
  rintro ρ S4 ⟨mid, rfl, g4, m0, m1⟩
  refine seq_cut (fun ρ S' => ∃ top : Int, ρ = [some (.cell p), some (.int k), some (.int low), some (.int u), some (.int w), some (.int mid), some (.int top), none, none, none, none] ∧ Go p S S' ∧ mid < top ∧ top ≤ 900) (fun M hM => ?_) ?_
  · simp
    refine draw_does g4.pot hw (by omega) fun r S5 g5 a0 a1 => ?_
    simp
    refine ⟨cmulw64 (by omega) (by omega), ?_⟩
    refine hM _ _ ⟨_, rfl, g4.trans g5, ?_⟩
    rcases uw with ⟨rfl, rfl | rfl | rfl⟩ | ⟨rfl, rfl⟩ | ⟨rfl, rfl⟩ <;> constructor <;> omega
  rintro ρ S5 ⟨top, rfl, g5, t0, t1⟩
  clear l1 m1
  refine seq_cut (fun ρ S' => S' = S5 ∧ ∃ d, ρ = [some (.cell p), some (.int k), some (.int low), some (.int u), some (.int w), some (.int mid), some (.int top), some d, none, none, none] ∧ d = .lst [.tup [.int low, .int mid], .tup [.int low, .int mid, .int top], .tup [.int low, .int top], .tup [.int low, .int mid, .int top], .tup [.int top]]) (fun M hM => ?_) ?_
  · simp
    exact hM _ _ ⟨rfl, by first | rfl | exact ⟨_, rfl, rfl⟩⟩
  rintro ρ _ ⟨rfl, d, rfl, rfl⟩
  refine seq_cut (fun ρ S' => ∃ os x, ρ = [some (.cell p), some (.int k), some (.int low), some (.int u), some (.int w), some (.int mid), some (.int top), some (.tup (os.map .int)), none, none, x] ∧ Go p S S' ∧ ZoneOK os 1000000) (fun M hM => ?_) ?_
  · simp
    refine draw_does g5.pot (by decide) (by decide) fun r S6 g6 a0 a1 => ?_
    have g := g5.trans g6
    have e : r / 2 = 0 ∨ r / 2 = 1 ∨ r / 2 = 2 ∨ r / 2 = 3 ∨ r / 2 = 4 := by omega
    simp
    rcases e with e | e | e | e | e <;> rw [e] <;> simp [atI, ixN]
    · exact ⟨cdivw (by decide) (by decide), hM _ _ ⟨[low, mid], _, rfl, g, .two _ _ _ (by omega) (by omega) (by omega) (by omega) (by omega)⟩⟩
    · exact ⟨cdivw (by decide) (by decide), hM _ _ ⟨[low, mid, top], _, rfl, g, .three _ _ _ _ (by omega) (by omega) (by omega) (by omega) (by omega) (by omega)⟩⟩
    · exact ⟨cdivw (by decide) (by decide), hM _ _ ⟨[low, top], _, rfl, g, .two _ _ _ (by omega) (by omega) (by omega) (by omega) (by omega)⟩⟩
    · exact ⟨cdivw (by decide) (by decide), hM _ _ ⟨[low, mid, top], _, rfl, g, .three _ _ _ _ (by omega) (by omega) (by omega) (by omega) (by omega) (by omega)⟩⟩
    · exact ⟨cdivw (by decide) (by decide), hM _ _ ⟨[top], _, rfl, g, .one _ _ (by omega) (by omega) (by omega) (by omega)⟩⟩
  rintro ρ S6 ⟨os, x, rfl, g6, z6⟩
  refine seq_cut (fun ρ S' => ∃ os x, ρ = [some (.cell p), some (.int k), some (.int low), some (.int u), some (.int w), some (.int mid), some (.int top), some (.tup (os.map .int)), none, none, x] ∧ Go p S S' ∧ ZoneOK os 1000000) (fun M hM => ?_) ?_
  · simp
    refine draw_does g6.pot (by decide) (by decide) fun r S7 g7 a0 a1 => ?_
    have g := g6.trans g7
    by_cases c : r = 1
    · subst c
      cases z6 with
      | one a s h1 h2 h3 h4 =>
        simp [wipeD]
        exact hM _ _ ⟨[-a], _, rfl, g, .one _ _ (by omega) (by omega) (by omega) (by omega)⟩
      | two a b s h1 h2 h3 h4 h5 =>
        simp [wipeD]
        exact hM _ _ ⟨[-b, -a], _, rfl, g, .two _ _ _ (by omega) (by omega) (by omega) (by omega) (by omega)⟩
      | three a b c s h1 h2 h3 h4 h5 h6 =>
        simp [wipeD]
        exact hM _ _ ⟨[-c, -b, -a], _, rfl, g, .three _ _ _ _ (by omega) (by omega) (by omega) (by omega) (by omega) (by omega)⟩
    · simp [c]
      exact hM _ _ ⟨os, _, rfl, g, z6⟩
  rintro ρ S7 ⟨os, x, rfl, g7, z7⟩
  refine seq_cut (fun ρ S' => S' = S7 ∧ ∃ w' : Int, ρ = [some (.cell p), some (.int k), some (.int low), some (.int u), some (.int w), some (.int mid), some (.int top), some (.tup (os.map .int)), some (.int w'), none, x] ∧ 0 ≤ w' ∧ w' ≤ 1800 ∧ ∀ s, w' < s → s ≤ 1000000 → ZoneOK os s) (fun M hM => ?_) ?_
  · cases z7 with
      | one a s h1 h2 h3 h4 =>
        simp
        exact hM _ _ ⟨rfl, _, rfl, by omega, by omega, fun s k1 k2 => .one _ _ h1 h2 (by omega) k2⟩
      | two a b s h1 h2 h3 h4 h5 =>
        simp
        exact hM _ _ ⟨rfl, _, rfl, by omega, by omega, fun s k1 k2 => .two _ _ _ h1 h2 h3 (by omega) k2⟩
      | three a b c s h1 h2 h3 h4 h5 h6 =>
        simp
        exact hM _ _ ⟨rfl, _, rfl, by omega, by omega, fun s k1 k2 => .three _ _ _ _ h1 h2 h3 h4 (by omega) k2⟩
  rintro ρ _ ⟨rfl, w', rfl, w0, w1, zz⟩
  refine seq_cut (fun ρ S' => ∃ m1 m2 : Int, ρ = [some (.cell p), some (.int k), some (.int low), some (.int u), some (.int w), some (.int mid), some (.int top), some (.tup (os.map .int)), some (.int w'), some (.lst [.int 0, .int 0, .int 1, .int m1, .int m2, .int (999999 - w')]), x] ∧ Go p S S' ∧ 0 ≤ m1 ∧ m1 < 1000 ∧ 0 ≤ m2 ∧ m2 < 1000000 - w') (fun M hM => ?_) ?_
  · simp
    refine draw_does g7.pot (by decide) (by decide) fun r S8 g8 a0 a1 => ?_
    refine draw_does g8.pot (by omega) (by omega) fun r' S9 g9 b0 b1 => ?_
    exact hM _ _ ⟨_, _, rfl, g7.trans (g8.trans g9), a0, a1, b0, b1⟩
  rintro ρ S9 ⟨m1, m2, rfl, g9, a0, a1, b0, b1⟩
  simp
  refine draw_does g9.pot (by decide) (by decide) fun r S10 g10 r0 r1 => ?_
  have g := g9.trans g10
  have e : r = 0 ∨ r = 1 ∨ r = 2 ∨ r = 3 ∨ r = 4 ∨ r = 5 := by omega
  rcases e with e | e | e | e | e | e <;> subst e <;> simp [atI, ixN] <;> exact q os _ _ g (zz _ (by omega) (by omega))
end Dm
-- text HmDet1
namespace Dm
open PySem L2
/-! ### what is drawn hangs on the pot's number alone -/
def PotX (p : Nat) (x : Int) (S : Sto) : Prop := S[p]? = some (.lst [.int x])
theorem PotX.pot {p : Nat} {x : Int} {S : Sto} (h : PotX p x S) : Pot p S := ⟨x, h⟩
theorem PotX.push {p : Nat} {x : Int} {S : Sto} (h : PotX p x S) (c : Cell) : PotX p x (S ++ [c]) := by
  unfold PotX at h ⊢
  rw [List.getElem?_append_left (List.getElem?_eq_some_iff.mp h).1]
  exact h
theorem PotX.set {p n : Nat} {x : Int} {S : Sto} (h : PotX p x S) (hn : n ≠ p) (c : Cell) : PotX p x (S.set n c) := by
  unfold PotX at h ⊢
  rw [List.getElem?_set_ne hn]
  exact h
theorem draw_x {S : Sto} {p : Nat} {x u : Int} {Q : D → Sto → Prop} (hp : PotX p x S) (h0 : 0 < u) (hb : u < 18446744073709551616)
    (q : ∀ r S', Go p S S' → PotX p (x / u) S' → r = x % u → 0 ≤ r → r < u → Q (.int r) S') : (m_law_draw [.cell p, .int u] S).Does Q := by
  have e : S[p]? = some (.lst [.int x]) := hp
  refine does_def rfl ?_
  have hl := hp.pot.lt
  have hc : CDivW x u := cdivw h0 hb
  simp [gIx_cell e, h0, hc]
  refine ⟨[.int x], e, 0, rfl, ?_⟩
  have hx : PotX p (x / u) (S.set p (.lst (List.set [.int x] 0 (.int (x / u))))) := by
    unfold PotX
    rw [List.getElem?_set_self hl] <;> rfl
  refine q (x % u) _ ⟨by rw [List.length_set]; exact Nat.le_refl _, fun n h hn => List.getElem?_set_ne (Ne.symm hn), hx.pot⟩ hx rfl (Int.emod_nonneg _ (by omega)) (Int.emod_lt_of_pos _ h0)
/-! the pot of a cell -/
end Dm
-- text HmDet2
namespace Dm
open PySem L2
/-! ### a drawn zone by the pot's number -/
end Dm
-- text HmBag
namespace Dm
open PySem L2
/-- a bag of draws stands at p, n more can be drawn -/
def Bag (p n : Nat) (S : Sto) : Prop := ∃ a b c : Int, S[p]? = some (.lst [.int a, .int b, .int c]) ∧ 0 ≤ b ∧ b < 2305843009213693951 ∧ 0 ≤ c ∧ c + n ≤ 9223372036854775808
/-- from S to S': cells have come, all but p is as it was -/
structure GoB (p : Nat) (S S' : Sto) : Prop where
  len : S.length ≤ S'.length
  same : ∀ n, n < S.length → n ≠ p → S'[n]? = S[n]?
theorem Bag.lt {p n : Nat} {S : Sto} (h : Bag p n S) : p < S.length := by
  obtain ⟨a, b, c, e, _⟩ := h
  exact (List.getElem?_eq_some_iff.mp e).1
theorem Bag.mono {p n m : Nat} {S : Sto} (h : Bag p n S) (hm : m ≤ n) : Bag p m S := by
  obtain ⟨a, b, c, e, h1, h2, h3, h4⟩ := h
  exact ⟨a, b, c, e, h1, h2, h3, by omega⟩
theorem Bag.push {p n : Nat} {S : Sto} (h : Bag p n S) (c : Cell) : Bag p n (S ++ [c]) := by
  have hl := h.lt
  obtain ⟨a, b, c, e, r⟩ := h
  exact ⟨a, b, c, by rw [List.getElem?_append_left hl]; exact e, r⟩
theorem Bag.set {p n q : Nat} {S : Sto} (h : Bag p n S) (hq : q ≠ p) (c : Cell) : Bag p n (S.set q c) := by
  obtain ⟨a, b, c, e, r⟩ := h
  exact ⟨a, b, c, by rw [List.getElem?_set_ne hq]; exact e, r⟩
theorem GoB.refl {p : Nat} {S : Sto} : GoB p S S := ⟨Nat.le_refl _, fun _ _ _ => rfl⟩
theorem GoB.trans {p : Nat} {S S1 S2 : Sto} (a : GoB p S S1) (b : GoB p S1 S2) : GoB p S S2 :=
  ⟨Nat.le_trans a.len b.len, fun n h hn => (b.same n (Nat.lt_of_lt_of_le h a.len) hn).trans (a.same n h hn)⟩
theorem GoB.push {p : Nat} {S : Sto} (c : Cell) : GoB p S (S ++ [c]) := ⟨by rw [List.length_append]; omega, fun n h _ => List.getElem?_append_left h⟩
theorem GoB.setNew {p n : Nat} {S S1 : Sto} (a : GoB p S S1) (hn : S.length ≤ n) (c : Cell) : GoB p S (S1.set n c) :=
  ⟨by rw [List.length_set]; exact a.len, fun m h hm => by
    rw [List.getElem?_set_ne (by omega)]
    exact a.same m h hm⟩
theorem GoB.get {p n : Nat} {S S1 : Sto} {c : Cell} (a : GoB p S S1) (h : S[n]? = some c) (hn : n ≠ p) : S1[n]? = some c := by
  rw [a.same n (List.getElem?_eq_some_iff.mp h).1 hn]
  exact h
end Dm
-- text HmBelt
namespace Dm
open PySem L2
end Dm
-- text HmTab
namespace Dm
open PySem L2
theorem pure_of {α : Type} {r : Res α} {a : α} {S : Sto} (h : ∀ Q : α → Sto → Prop, Q a S → r.Does Q) : r = .ok a S := by
  obtain ⟨a', S', e, h1, h2⟩ := (h (fun x T => x = a ∧ T = S) ⟨rfl, rfl⟩).eq
  rw [e, h1, h2]
section
variable {S : Sto} {os : List Int} {s h m : Int} {js : List (Int × Int)}
theorem ZoneOK.len {os : List Int} {s : Int} (z : ZoneOK os s) : 1 ≤ os.length ∧ os.length ≤ 3 := by cases z <;> simp
theorem ZoneOK.sp (z : ZoneOK os s) : 0 < s ∧ s ≤ 1000000 := by cases z <;> constructor <;> omega
theorem ZoneOK.nodup (z : ZoneOK os s) : os.Nodup := by cases z <;> simp <;> omega
@[simp] theorem is_integer_int {i : Int} : m_is_integer [.int i] S = .ok (.bl true) S := by
  refine pure_of fun Q q => ?_
  refine does_def rfl ?_
  simpa [isTn] using q
theorem is_zone_ok (z : ZoneOK os s) : m_is_zone [zoneD os s] S = .ok (.bl true) S := by
  refine pure_of fun Q q => ?_
  refine does_def rfl ?_
  cases z with
  | one a s h1 h2 h3 h4 => simp [zoneD, isTn, rngD_cons, rngD_nil, h1, h2, h3, h4, q]
  | two a b s h1 h2 h3 h4 h5 =>
    have e1 : a ≤ 900 := by omega
    have e2 : -900 ≤ b := by omega
    have e3 : ¬ b ≤ a := by omega
    simp [zoneD, isTn, rngD_cons, rngD_nil, h1, h2, h3, h4, h5, e1, e2, e3, q]
  | three a b c s h1 h2 h3 h4 h5 h6 => 
    have e1 : a ≤ 900 := by omega
    have e2 : -900 ≤ b := by omega
    have e3 : ¬ b ≤ a := by omega
    have e4 : b ≤ 900 := by omega
    have e5 : -900 ≤ c := by omega
    have e6 : ¬ c ≤ b := by omega
    simp [zoneD, isTn, rngD_cons, rngD_nil, h1, h2, h3, h4, h5, h6, e1, e2, e3, e4, e5, e6, q]
@[simp] theorem need_zone_ok (z : ZoneOK os s) : m_need_zone [zoneD os s] S = .ok .non S := by
  refine pure_of fun Q q => ?_
  refine does_def rfl ?_
  simp [is_zone_ok z, q]
@[simp] theorem need_number_int {i : Int} : m_need_number [.int i] S = .ok .non S := by
  refine pure_of fun Q q => ?_
  refine does_def rfl ?_
  simp [q]
/-- a jump and a table, as data -/
def jmpD (j : Int × Int) : D := .tup [.int j.1, .int j.2]
def tabD (h : Int) (js : List (Int × Int)) : D := .tup [.int h, .tup (js.map jmpD)]
section
variable {j : Int × Int} {ρ : Rho} {f : List D → Rho → Option Rho}
@[simp] theorem ix_jmp0 : gIx S (jmpD j) (.int 0) = some (.int j.1) := by simp [jmpD]
@[simp] theorem ix_jmp1 : gIx S (jmpD j) (.int 1) = some (.int j.2) := by simp [jmpD]
@[simp] theorem ix_tab0 : gIx S (tabD h js) (.int 0) = some (.int h) := by simp [tabD]
@[simp] theorem ix_tab1 : gIx S (tabD h js) (.int 1) = some (.tup (js.map jmpD)) := by simp [tabD]
@[simp] theorem ix_zone0 : gIx S (zoneD os s) (.int 0) = some (.tup (os.map .int)) := by simp [zoneD]
@[simp] theorem ix_zone1 : gIx S (zoneD os s) (.int 1) = some (.int s) := by simp [zoneD]
@[simp] theorem len_jmp : gLen S [jmpD j] = some (.int 2) := rfl
@[simp] theorem len_tab : gLen S [tabD h js] = some (.int 2) := rfl
@[simp] theorem len_zone : gLen S [zoneD os s] = some (.int 2) := rfl
@[simp] theorem ty_jmp : tyOf S (jmpD j) = some .tup := rfl
@[simp] theorem ty_tab : tyOf S (tabD h js) = some .tup := rfl
@[simp] theorem ty_zone : tyOf S (zoneD os s) = some .tup := rfl
@[simp] theorem tg_jmp : tgT 2 f (jmpD j) ρ = f [.int j.1, .int j.2] ρ := rfl
@[simp] theorem tg_tab : tgT 2 f (tabD h js) ρ = f [.int h, .tup (js.map jmpD)] ρ := rfl
@[simp] theorem tg_zone : tgT 2 f (zoneD os s) ρ = f [.tup (os.map .int), .int s] ρ := rfl
end
/-- the jumps that may follow: the offset held, the moment of the jump before -/
def Chain (os : List Int) (s : Int) : Int → Option Int → List (Int × Int) → Prop
  | _, _, [] => True
  | h, p, (m, o) :: r => o ∈ os ∧ o ≠ h ∧ (∀ q, p = some q → q + s ≤ m) ∧ Chain os s o (some m) r
def endH : Int → List (Int × Int) → Int
  | h, [] => h
  | _, (_, o) :: r => endH o r
def endP : Option Int → List (Int × Int) → Option Int
  | p, [] => p
  | _, (m, _) :: r => endP (some m) r
theorem endH_snoc {m o : Int} : ∀ {h : Int} {js : List (Int × Int)}, endH h (js ++ [(m, o)]) = o
  | _, [] => rfl
  | _, (m', o') :: r => endH_snoc (h := o') (js := r)
theorem endP_snoc {m o : Int} : ∀ {p : Option Int} {js : List (Int × Int)}, endP p (js ++ [(m, o)]) = some m
  | _, [] => rfl
  | _, (m', o') :: r => endP_snoc (p := some m') (js := r)
theorem chain_snoc {m o : Int} : ∀ {h : Int} {p : Option Int} {js : List (Int × Int)}, Chain os s h p js → o ∈ os → o ≠ endH h js → (∀ q, endP p js = some q → q + s ≤ m) → Chain os s h p (js ++ [(m, o)])
  | _, _, [], _, a, b, c => ⟨a, b, c, trivial⟩
  | _, _, (m', o') :: r, ⟨x, y, z, w⟩, a, b, c => ⟨x, y, z, chain_snoc w a b c⟩
structure TabOK (os : List Int) (s h : Int) (js : List (Int × Int)) : Prop where
  held : h ∈ os
  chain : Chain os s h none js
theorem flat_ints (os : List Int) : (os.map D.int).all flatD = true := by
  rw [List.all_map]
  exact List.all_eq_true.mpr fun _ _ => rfl
theorem any_ints (os : List Int) (o : Int) : (os.map D.int).any (eqF · (.int o)) = decide (o ∈ os) := by
  induction os with
  | nil => simp
  | cons a r ih =>
    rw [List.map_cons, List.any_cons, ih, eqF_int]
    have e : (a == o) = decide (o = a) := by
      by_cases h : o = a
      · subst h; simp
      · have h' : ¬ a = o := fun x => h x.symm
        simp [h, h']
    rw [e]
    simp
theorem gIn_ints {o : Int} : gIn false S (.int o) (.tup (os.map .int)) = some (.bl (decide (o ∈ os))) := by
  unfold gIn
  rw [seqOf_tup]
  simp only
  rw [if_pos ⟨rfl, flat_ints os⟩, any_ints]
  simp
theorem is_offset_int {o : Int} : m_is_offset [zoneD os s, .int o] S = .ok (.bl (decide (o ∈ os))) S := by
  refine pure_of fun Q q => ?_
  refine does_def rfl ?_
  simp [gIn_ints, q]
theorem is_mark_jmp {j : Int × Int} : m_is_mark [zoneD os s, jmpD j] S = .ok (.bl (decide (j.2 ∈ os))) S := by
  refine pure_of fun Q q => ?_
  refine does_def rfl ?_
  simp [isTn, is_offset_int, q]
def enumF (k : Nat) (ds : List D) : List D := (ds.zipIdx k).map fun p => .tup [.int (p.2 : Nat), p.1]
theorem enumD_eq {ds : List D} : enumD ds = enumF 0 ds := rfl
theorem enumF_cons {k : Nat} {d : D} {r : List D} : enumF k (d :: r) = .tup [.int k, d] :: enumF (k + 1) r := rfl
theorem is_table_ok (z : ZoneOK os s) (t : TabOK os s h js) : m_is_table [zoneD os s, tabD h js] S = .ok (.bl true) S := by
  refine pure_of fun Q q => ?_
  refine does_def rfl ?_
  simp [isTn, need_zone_ok z, is_offset_int, t.held, enumD_eq]
  refine forL_cut (fun ds ρ S' => S' = S ∧ ∃ (pre suf : List (Int × Int)) (h' : Int) (pm : Option Int) (x4 x5 : Option D), ρ = [some (zoneD os s), some (tabD h js), some (.int h'), some (.tup (js.map jmpD)), x4, x5]
    ∧ js = pre ++ suf ∧ ds = enumF pre.length (suf.map jmpD) ∧ Chain os s h' pm suf ∧ (pre ≠ [] → ∃ m o, pm = some m ∧ atI (js.map jmpD) ((pre.length : Int) - 1) = some (jmpD (m, o)))) _ ⟨rfl, [], js, h, none, none, none, rfl, rfl, rfl, t.chain, fun h => (h rfl).elim⟩ ?_ ?_
  · rintro d r ρ S' ⟨rfl, pre, suf, h', pm, x4, x5, rfl, ej, e, c, l⟩
    cases suf with
    | nil => cases e
    | cons j suf =>
      rw [List.map_cons, enumF_cons] at e
      injection e with e1 e2
      subst e1
      obtain ⟨c1, c2, c3, c4⟩ := c
      refine ⟨[some (zoneD os s), some (tabD h js), some (.int h'), some (.tup (js.map jmpD)), some (.int pre.length), some (jmpD j)], by simp, fun M hM => ?_⟩
      have last : some (jmpD j) = atI (js.map jmpD) (((pre ++ [j]).length : Int) - 1) := by
        rw [ej, atI_of (by simp) (by simp; omega)]
        simp
      have fin : M [some (zoneD os s), some (tabD h js), some (.int j.2), some (.tup (js.map jmpD)), some (.int pre.length), some (jmpD j)] S' :=
        hM _ _ ⟨rfl, pre ++ [j], suf, _, _, _, _, rfl, by rw [ej, List.append_assoc] <;> rfl, by rw [e2, List.length_append] <;> rfl, c4, fun _ => ⟨_, _, rfl, last.symm⟩⟩
      simp [is_mark_jmp, c1, c2]
      by_cases hp : pre = []
      · subst hp
        simpa using fin
      · obtain ⟨m, o, e3, e4⟩ := l hp
        have c5 := c3 m e3
        rw [e4]
        have c6 : ¬ j.1 - m < s := by omega
        simp [List.length_pos_iff, hp, c6]
        exact fin
  · rintro ρ S' ⟨rfl, pre, suf, h', pm, x4, x5, rfl, ej, e, c, l⟩
    simpa using q
end
end Dm
-- text HmChart
namespace Dm
open PySem L2
section
variable {S : Sto} {os : List Int} {s h m : Int} {js : List (Int × Int)} {p : Nat}
@[simp] theorem need_table_ok (z : ZoneOK os s) (t : TabOK os s h js) : m_need_table [zoneD os s, tabD h js] S = .ok .non S := by
  refine pure_of fun Q q => ?_
  refine does_def rfl ?_
  simp [is_table_ok z t, q]
/-- the offset at a moment: up to the first jump after it -/
def offAt : Int → List (Int × Int) → Int → Int
  | h, [], _ => h
  | h, (a, o) :: r, m => if m < a then h else offAt o r m
def shAt : Int → List (Int × Int) → Int → Int
  | h, [], _ => h
  | h, (a, o) :: r, m => shAt (if a ≤ m then o else h) r m
theorem shAt_late {pm : Int} (hs : 0 < s) (hm : m < pm) : ∀ {js : List (Int × Int)} {h0 : Int} {pm : Int}, m < pm → Chain os s h0 (some pm) js → shAt h js m = h
  | [], _, _, _, _ => rfl
  | (a, o) :: r, h0, pm, hm, ⟨_, _, c, d⟩ => by
    have e := c pm rfl
    have n : ¬ a ≤ m := by omega
    rw [shAt, if_neg n]
    exact shAt_late hs (by omega) (show m < a by omega) d
theorem shAt_eq (hs : 0 < s) : ∀ {js : List (Int × Int)} {h : Int} {p : Option Int}, Chain os s h p js → shAt h js m = offAt h js m
  | [], _, _, _ => rfl
  | (a, o) :: r, h, p, ⟨_, _, c, d⟩ => by
    by_cases g : m < a
    · rw [shAt, offAt, if_pos g, if_neg (by omega)]
      exact shAt_late hs g g d
    · rw [shAt, offAt, if_neg g, if_pos (by omega)]
      exact shAt_eq hs d
theorem offset_in_ok : m_offset_in [tabD h js, .int m] S = .ok (.int (offAt h js m)) S := by
  refine pure_of fun Q q => ?_
  refine does_def rfl ?_
  simp
  refine forL_cut (fun ds ρ S' => S' = S ∧ ∃ (suf : List (Int × Int)) (h' : Int) (x3 x4 : Option D), ρ = [some (tabD h js), some (.int m), some (.int h'), x3, x4] ∧ ds = suf.map jmpD ∧ offAt h js m = offAt h' suf m) _ ⟨rfl, js, h, none, none, rfl, rfl, rfl⟩ ?_ ?_
  · rintro d r ρ S' ⟨rfl, suf, h', x3, x4, rfl, e, eo⟩
    cases suf with
    | nil => cases e
    | cons j suf =>
      obtain ⟨a, o⟩ := j
      injection e with e1 e2
      subst e1
      refine ⟨_, rfl, fun M hM => ?_⟩
      simp
      by_cases g : m < a
      · simp [g]
        rw [offAt, if_pos g] at eo
        rw [← eo]; exact q
      · simp [g]
        rw [offAt, if_neg g] at eo
        exact hM _ _ ⟨rfl, suf, o, _, _, rfl, e2, eo⟩
  · rintro ρ S' ⟨rfl, suf, h', x3, x4, rfl, e, eo⟩
    cases suf with
    | cons j suf => cases e
    | nil =>
      simp
      rw [show h' = offAt h js m from eo.symm]
      exact q
theorem offset_at_ok (z : ZoneOK os s) (t : TabOK os s h js) : m_offset_at [zoneD os s, tabD h js, .int m] S = .ok (.int (offAt h js m)) S := by
  refine pure_of fun Q q => ?_
  refine does_def rfl ?_
  simp [need_zone_ok z, need_table_ok z t, offset_in_ok, q]
theorem reading_at_ok (z : ZoneOK os s) (t : TabOK os s h js) : m_reading_at [zoneD os s, tabD h js, .int m] S = .ok (.int (m + offAt h js m)) S := by
  refine pure_of fun Q q => ?_
  refine does_def rfl ?_
  simp [offset_at_ok z t, q]
theorem shift_at_ok : m_law_shift_at [tabD h js, .int m] S = .ok (.int (shAt h js m)) S := by
  refine pure_of fun Q q => ?_
  refine does_def rfl ?_
  simp
  refine forL_cut (fun ds ρ S' => S' = S ∧ ∃ (suf : List (Int × Int)) (h' : Int) (x3 x4 : Option D), ρ = [some (tabD h js), some (.int m), some (.int h'), x3, x4] ∧ ds = suf.map jmpD ∧ shAt h js m = shAt h' suf m) _ ⟨rfl, js, h, none, none, rfl, rfl, rfl⟩ ?_ ?_
  · rintro d r ρ S' ⟨rfl, suf, h', x3, x4, rfl, e, eo⟩
    cases suf with
    | nil => cases e
    | cons j suf =>
      obtain ⟨a, o⟩ := j
      injection e with e1 e2
      subst e1
      refine ⟨_, rfl, fun M hM => ?_⟩
      simp
      by_cases g : a ≤ m
      · simp [g]
        rw [shAt, if_pos g] at eo
        exact hM _ _ ⟨rfl, suf, o, _, _, rfl, e2, eo⟩
      · simp [g]
        rw [shAt, if_neg g] at eo
        exact hM _ _ ⟨rfl, suf, _, _, _, rfl, e2, eo⟩
  · rintro ρ S' ⟨rfl, suf, h', x3, x4, rfl, e, eo⟩
    cases suf with
    | cons j suf => cases e
    | nil =>
      simp
      rw [show h' = shAt h js m from eo.symm]
      exact q
@[simp] theorem whole_int {i : Int} : m_law_whole [.int i] S = .ok (.bl true) S := by
  refine pure_of fun Q q => ?_
  refine does_def rfl ?_
  simpa [isTn] using q
theorem same_int {n : Nat} {i j : Int} : m_law_same (n + 1) [.int i, .int j] S = .ok (.bl (i == j)) S := by
  refine pure_of fun Q q => ?_
  unfold m_law_same
  refine does_def rfl ?_
  simpa [isTn] using q
@[simp] theorem same_int30 {i j : Int} : m_law_same 30 [.int i, .int j] S = .ok (.bl (i == j)) S := same_int
theorem ZoneOK.at (z : ZoneOK os s) {i : Int} (h0 : 0 ≤ i) (h1 : i < os.length) : ∃ o, atI (os.map D.int) i = some (.int o) ∧ o ∈ os ∧ os[i.toNat]? = some o := by
  have l : i.toNat < os.length := by omega
  refine ⟨os[i.toNat], ?_, List.getElem_mem l, List.getElem?_eq_getElem l⟩
  rw [atI_of h0 (by rw [List.length_map]; exact h1), List.getElem?_map, List.getElem?_eq_getElem l] <;> rfl
theorem nodup_ne {os : List Int} {i j : Nat} {a b : Int} (n : os.Nodup) (h : os[i]? = some a) (h' : os[j]? = some b) (ne : i ≠ j) : a ≠ b := by
  obtain ⟨l, e⟩ := List.getElem?_eq_some_iff.mp h
  obtain ⟨l', e'⟩ := List.getElem?_eq_some_iff.mp h'
  intro c
  subst e e'
  rcases Nat.lt_or_gt_of_ne ne with w | w
  · exact List.pairwise_iff_getElem.mp n i j l l' w c
  · exact List.pairwise_iff_getElem.mp n j i l' l w c.symm
/-- the bounds of a drawn chart -/
def Near (js : List (Int × Int)) : Prop := js.length ≤ 60 ∧ ∀ j, j ∈ js → -2000000000000 < j.1 ∧ j.1 < 2000000000000
theorem make_chart_does {u : Int} {Q : D → Sto → Prop} (hp : Pot p S) (z : ZoneOK os s) (u0 : 0 ≤ u) (u1 : u ≤ 60) (q : ∀ h js S', Go p S S' → TabOK os s h js → Near js → Q (tabD h js) S') : (m_law_make_chart [.cell p, zoneD os s, .int u] S).Does Q := by
  have hl := z.len
  have hs := z.sp
  refine does_def rfl ?_
  refine seq_cut (fun ρ S' => S = S' ∧ ρ = [some (.cell p), some (zoneD os s), some (.int u), some (.tup (os.map .int)), some (.int s), none, none, none, none, none, none]) (fun M hM => ?_) ?_
  · simp
    exact hM _ _ ⟨rfl, rfl⟩
  rintro ρ _ ⟨rfl, rfl⟩
  refine seq_cut (fun ρ S' => ∃ a : Int, ρ = [some (.cell p), some (zoneD os s), some (.int u), some (.tup (os.map .int)), some (.int s), some (.int a), none, none, none, none, none] ∧ Go p S S' ∧ 0 ≤ a ∧ a < os.length) (fun M hM => ?_) ?_
  · simp
    refine draw_does hp (by omega) (by omega) fun r S1 g1 a0 a1 => ?_
    exact hM _ _ ⟨_, rfl, g1, a0, a1⟩
  rintro ρ S1 ⟨a, rfl, g1, a0, a1⟩
  obtain ⟨o, ao, om, oi⟩ := z.at a0 a1
  refine seq_cut (fun ρ S' => S1 = S' ∧ ρ = [some (.cell p), some (zoneD os s), some (.int u), some (.tup (os.map .int)), some (.int s), some (.int a), some (.int o), none, none, none, none]) (fun M hM => ?_) ?_
  · simp [ao]
    exact hM _ _ ⟨rfl, rfl⟩
  rintro ρ _ ⟨rfl, rfl⟩
  refine seq_cut (fun ρ S' => ∃ hr : Int, ρ = [some (.cell p), some (zoneD os s), some (.int u), some (.tup (os.map .int)), some (.int s), some (.int a), some (.int o), some (.int hr), none, none, none] ∧ Go p S S' ∧ -1000000000000 < hr ∧ hr < 1000000000000) (fun M hM => ?_) ?_
  · simp
    refine any_hour_does g1.pot fun r S2 g2 b0 b1 => ?_
    exact hM _ _ ⟨_, rfl, g1.trans g2, b0, b1⟩
  rintro ρ S2 ⟨hr, rfl, g2, b0, b1⟩
  refine seq_cut (fun ρ S' => ρ = [some (.cell p), some (zoneD os s), some (.int u), some (.tup (os.map .int)), some (.int s), some (.int a), some (.int o), some (.int hr), some (.cell S2.length), none, none] ∧ S' = S2 ++ [.lst []]) (fun M hM => ?_) ?_
  · simp
    exact hM _ _ ⟨rfl, rfl⟩
  rintro ρ _ ⟨rfl, rfl⟩
  have g3 := g2.push (.lst [])
  have hn : p ≠ S2.length := by have := g2.pot.lt; omega
  have hn2 : S.length ≤ S2.length := g2.len
  generalize hN : S2.length = N at hn hn2
  have c3 : (S2 ++ [.lst []])[N]? = some (.lst []) := by subst hN; simp
  generalize S2 ++ [.lst []] = S3 at g3 c3
  refine seq_cut (fun ρ S' => ∃ (js : List (Int × Int)) (a' hr' : Int) (x9 x10 : Option D), ρ = [some (.cell p), some (zoneD os s), some (.int u), some (.tup (os.map .int)), some (.int s), some (.int a'), some (.int o), some (.int hr'), some (.cell N), x9, x10] ∧ Go p S S' ∧ S'[N]? = some (.lst (js.map jmpD)) ∧ TabOK os s o js ∧ Near js) (fun M hM => ?_) ?_
  · simp
    refine draw_does g3.pot (by omega) (by omega) fun c S4 g4 d0 d1 => ?_
    simp
    have c4 := g4.get c3 (Ne.symm hn)
    refine ⟨cmulw64 (by omega) (by split <;> omega), ?_, ?_⟩
    · split <;> omega
    generalize hC : c * (if (1 : Int) < (os.length : Int) then (1 : Int) else 0) = k
    have hk : 0 ≤ k ∧ k ≤ 60 ∧ (os.length = 1 → k = 0) := by
      subst hC
      split <;> omega
    refine forL_cut (fun ds ρ S' => ∃ (js : List (Int × Int)) (n : Nat) (t a' hr' : Int) (x9 x10 : Option D), ds = rngD t n ∧ ρ = [some (.cell p), some (zoneD os s), some (.int u), some (.tup (os.map .int)), some (.int s), some (.int a'), some (.int o), some (.int hr'), some (.cell N), x9, x10] ∧ Go p S S' ∧ S'[N]? = some (.lst (js.map jmpD)) ∧
      0 ≤ a' ∧ a' < os.length ∧ os[a'.toNat]? = some (endH o js) ∧ Chain os s o none js ∧ (∀ j, j ∈ js → -2000000000000 < j.1 ∧ j.1 < 2000000000000) ∧ (∀ pm, endP none js = some pm → pm + s ≤ hr') ∧ js.length + n ≤ 60 ∧ -1000000000000 < hr' ∧ hr' < 1000000000000 + 3000000 * js.length ∧ (os.length = 1 → n = 0)) _
      ⟨[], k.toNat, 0, a, hr, none, none, rfl, rfl, g3.trans g4, c4, a0, a1, oi, trivial, (fun _ h => nomatch h), (fun _ h => nomatch h), by simp; omega, b0, by simpa using b1, fun h => by omega⟩ ?_ ?_
    · rintro d r ρ S5 ⟨js, n, t, a', hr', x9, x10, e, rfl, g5, c5, q0, q1, qi, ch, bd, pr, ln, r0, r1, one⟩
      cases n with
      | zero => cases e
      | succ n =>
        rw [rngD_cons] at e
        injection e with e1 e2
        subst e1
        refine ⟨_, rfl, fun M2 hM2 => ?_⟩
        have two : 1 < os.length := by
          have := fun h => one h
          omega
        simp
        refine draw_does g5.pot (by omega) (by omega) fun c2 S6 g6 f0 f1 => ?_
        simp
        refine ⟨by omega, ?_⟩
        have w0 := Int.emod_nonneg (a' + 1 + c2) (b := (os.length : Int)) (by omega)
        have w1 := Int.emod_lt_of_pos (a' + 1 + c2) (b := (os.length : Int)) (by omega)
        have w2 : (a' + 1 + c2) % (os.length : Int) ≠ a' := by
          intro w
          have l3 : (os.length : Int) = 2 ∨ (os.length : Int) = 3 := by omega
          rcases l3 with l3 | l3 <;> rw [l3] at w f1 q1 <;> omega
        generalize (a' + 1 + c2) % (os.length : Int) = a2 at w0 w1 w2
        obtain ⟨o2, ao2, om2, oi2⟩ := z.at w0 w1
        have ne2 : o2 ≠ endH o js := nodup_ne z.nodup oi2 qi (by omega)
        have c6 := g6.get c5 (Ne.symm hn)
        rw [c6]
        simp only [Option.some.injEq, Cell.lst.injEq, exists_eq_left', ao2, optQ_some]
        refine ⟨⟨_, rfl⟩, by rw [List.length_map]; omega, ?_⟩
        have g7 : Go p S (S6.set N (.lst (js.map jmpD ++ [.tup [.int hr', .int o2]]))) := (g5.trans g6).setNew hp hn2 _
        have c7 : (S6.set N (.lst (js.map jmpD ++ [.tup [.int hr', .int o2]])))[N]? = some (.lst ((js ++ [(hr', o2)]).map jmpD)) := by
          rw [List.getElem?_set_self (List.getElem?_eq_some_iff.mp c6).1, List.map_append] <;> rfl
        generalize S6.set N (.lst (js.map jmpD ++ [.tup [.int hr', .int o2]])) = S7 at g7 c7
        have ch2 := chain_snoc ch om2 ne2 pr
        have bd2 : ∀ j, j ∈ js ++ [(hr', o2)] → -2000000000000 < j.1 ∧ j.1 < 2000000000000 := by
          intro j hj
          rcases List.mem_append.mp hj with hj | hj
          · exact bd j hj
          · cases List.mem_singleton.mp hj
            constructor <;> simp only <;> omega
        have fin : ∀ (z : Int) (x : Option D) (S8 : Sto), hr' + s ≤ z → z < hr' + 3000000 → Go p S7 S8 → M2 [some (.cell p), some (zoneD os s), some (.int u), some (.tup (os.map .int)), some (.int s), some (.int a2), some (.int o), some (.int z), some (.cell N), some (.int t), x] S8 := by
          intro zz x S8 z0 z1 g8
          refine hM2 _ _ ⟨js ++ [(hr', o2)], n, t + 1, a2, zz, _, _, e2, rfl, g7.trans g8, g8.get c7 (Ne.symm hn), w0, w1, ?_, ch2, bd2, ?_, ?_, ?_, ?_, ?_⟩
          · rw [endH_snoc]; exact oi2
          · intro pm hpm
            rw [endP_snoc] at hpm
            cases hpm
            exact z0
          · rw [List.length_append, List.length_singleton]; omega
          · omega
          · rw [List.length_append, List.length_singleton]; omega
          · intro h; omega
        refine draw_does g7.pot (by decide) (by decide) fun c3 S8 g8 k0 k1 => ?_
        simp
        by_cases cc : 2 < c3
        · have e5 : c3 = 3 ∨ c3 = 4 := by omega
          rcases e5 with e5 | e5 <;> subst e5 <;> simp [atI, ixN]
          · refine ⟨cmulw64 (by decide) (by omega), ?_⟩
            refine draw_does g8.pot (by decide) (by decide) fun c4 S9 g9 k2 k3 => ?_
            simp
            exact fin _ _ _ (by omega) (by omega) (g8.trans g9)
          · refine ⟨cmulw64 (by decide) (by omega), ?_⟩
            refine draw_does g8.pot (by omega) (by omega) fun c4 S9 g9 k2 k3 => ?_
            simp
            exact fin _ _ _ (by omega) (by omega) (g8.trans g9)
        · simp [cc]
          exact fin _ _ _ (by omega) (by omega) g8
    · rintro ρ S5 ⟨js, n, t, a', hr', x9, x10, e, rfl, g5, c5, q0, q1, qi, ch, bd, pr, ln, r0, r1, one⟩
      exact hM _ _ ⟨js, a', hr', _, _, rfl, g5, c5, ⟨om, ch⟩, by omega, bd⟩
  rintro ρ S5 ⟨js, a', hr', x9, x10, rfl, g5, c5, t, nr⟩
  simp [gTuple_cell c5]
  exact q _ _ _ g5 t nr
end
end Dm
-- text HmNear
namespace Dm
open PySem L2
section
variable {S : Sto} {os : List Int} {s h m : Int} {js : List (Int × Int)} {p : Nat}
theorem at_jmp {js : List (Int × Int)} {i : Int} (h0 : 0 ≤ i) (h1 : i < js.length) : ∃ j, atI (js.map jmpD) i = some (jmpD j) ∧ j ∈ js := by
  have l : i.toNat < js.length := by omega
  refine ⟨js[i.toNat], ?_, List.getElem_mem l⟩
  rw [atI_of h0 (by rw [List.length_map]; exact h1), List.getElem?_map, List.getElem?_eq_getElem l] <;> rfl
theorem near_does {Q : D → Sto → Prop} (hp : Pot p S) (z : ZoneOK os s) (nr : js.length < 1000000000) (q : ∀ i S', Go p S S' → -1000000000000 < i → i < 1000000000000 → Q (.int i) S') : (m_law_near [.cell p, zoneD os s, tabD h js] S).Does Q := by
  have ends : ∃ f l, atI (os.map D.int) (-1) = some (.int l) ∧ atI (os.map D.int) 0 = some (.int f) ∧ 0 ≤ l - f ∧ l - f < 1000000 := by
    cases z
    · exact ⟨_, _, rfl, rfl, by omega, by omega⟩
    · exact ⟨_, _, rfl, rfl, by omega, by omega⟩
    · exact ⟨_, _, rfl, rfl, by omega, by omega⟩
  obtain ⟨f, l, ef, el, w0, w1⟩ := ends
  refine does_def rfl ?_
  refine seq_cut (fun ρ S' => S = S' ∧ ρ = [some (.cell p), some (zoneD os s), some (tabD h js), some (.tup (js.map jmpD)), none, none, none]) (fun M hM => ?_) ?_
  · simp
    exact hM _ _ ⟨rfl, rfl⟩
  rintro ρ _ ⟨rfl, rfl⟩
  cases js with
  | nil =>
    simp
    exact any_hour_does hp fun i S1 g1 b0 b1 => q _ _ g1 b0 b1
  | cons j0 jr =>
    have hlen : 0 < (j0 :: jr).length := by simp
    generalize hjs : j0 :: jr = js at hlen nr
    have hl0 : ¬ (js = []) := by intro e; subst e; cases hjs
    simp [hl0]
    refine draw_does hp (by decide) (by decide) fun c S1 g1 c0 c1 => ?_
    simp
    by_cases c7 : c = 7
    · simp [c7]
      exact any_hour_does g1.pot fun i S2 g2 b0 b1 => q _ _ (g1.trans g2) b0 b1
    · simp [c7]
      refine draw_does g1.pot (by omega) (by omega) fun c S2 g2 d0 d1 => ?_
      obtain ⟨j, ej, hj⟩ := at_jmp d0 d1
      simp [ej, ef, el]
      refine ⟨cmulw64 (by omega) (by omega), ?_⟩
      refine draw_does g2.pot (by omega) (by omega) fun c2 S3 g3 e0 e1 => ?_
      simp
      refine draw_does g3.pot (by omega) (by omega) fun c3 S4 g4 f0 f1 => ?_
      have g := (g1.trans g2).trans (g3.trans g4)
      have e : c3 = 0 ∨ c3 = 1 ∨ c3 = 2 ∨ c3 = 3 ∨ c3 = 4 ∨ c3 = 5 ∨ c3 = 6 ∨ c3 = 7 := by omega
      rcases e with e | e | e | e | e | e | e | e <;> subst e <;> simp [atI, ixN] <;> refine q _ _ g ?_ ?_ <;> (repeat' split) <;> omega
theorem Pot.set {n : Nat} {c : Cell} (h : Pot p S) (hn : p ≠ n) : Pot p (S.set n c) := by
  obtain ⟨k, e⟩ := h
  exact ⟨k, by rw [List.getElem?_set_ne (Ne.symm hn)]; exact e⟩
end
theorem cut_len {ds : List D} {lo hi : Option Int} : (cutD ds lo hi).length ≤ ds.length := by
  unfold cutD
  rw [List.length_take, List.length_drop]
  omega
theorem cut_mem {ds : List D} {lo hi : Option Int} {d : D} (h : d ∈ cutD ds lo hi) : d ∈ ds := List.mem_of_mem_drop (List.mem_of_mem_take h)
/-- the loop over the cells of a script -/
theorem law_loop {nN : Nat} {C k : Int} {body : MS} (hn : 2 ≤ nN) (hb : ∀ c L (xs : List (Option D)) (S : Sto), xs.length = nN - 2 → (body (some L :: some (.int c) :: xs) S).Does (fun ρ S' => ∃ y xs', ρ = some L :: y :: xs' ∧ xs'.length = nN - 2) (fun _ _ => False) (fun _ _ => False) (fun _ _ => False)) :
    LawTrue (mDef 1 nN (mSeq (mFor (iSeq (mFz (mCatL (mLst (mCons (mK (.int C)) mNil)) (mSlL (mVar 0) mNoPart (mPart (mK (.int k))))))) (tgN 1) body) (mRet (mK (.bl true))))) := by
  intro ns hl
  obtain ⟨m, rfl⟩ : ∃ m, nN = m + 2 := ⟨nN - 2, by omega⟩
  have main : (mDef 1 (m + 2) (mSeq (mFor (iSeq (mFz (mCatL (mLst (mCons (mK (.int C)) mNil)) (mSlL (mVar 0) mNoPart (mPart (mK (.int k))))))) (tgN 1) body) (mRet (mK (.bl true)))) [.lst (ns.map .int)] []).Does fun d _ => d = .bl true := by
    refine does_def rfl ?_
    rw [does_seq, does_for]
    simp only [does_iSeq, does_fz, does_catL, does_lst, does_cons, does_k, does_nil, does_slL, does_var, List.map_cons, List.map_nil, List.singleton_append, List.getElem?_cons_zero, does_noPart, does_part, lstOf_lst]
    refine ⟨by simp, ?_⟩
    have cl : (cutD (ns.map .int) none (some k)).length ≤ 63 := Nat.le_trans cut_len (by rw [List.length_map]; exact hl)
    refine ⟨by simp only [List.length_cons, List.length_nil]; omega, ?_⟩
    refine forL_cut (fun ds ρ S' => (∀ d, d ∈ ds → ∃ c : Int, d = .int c) ∧ ∃ y xs', ρ = some (.lst (ns.map .int)) :: y :: xs' ∧ xs'.length = m) _ ⟨?_, none, List.replicate m none, rfl, List.length_replicate⟩ ?_ ?_
    · intro d hd
      rcases List.mem_cons.mp hd with rfl | hd
      · exact ⟨_, rfl⟩
      · obtain ⟨c, _, rfl⟩ := List.mem_map.mp (cut_mem hd)
        exact ⟨c, rfl⟩
    · rintro d r ρ S' ⟨hd, y, xs', rfl, hx⟩
      obtain ⟨c, rfl⟩ := hd d List.mem_cons_self
      refine ⟨_, rfl, fun M hM => ?_⟩
      refine (hb c _ xs' S' (by omega)).mono ?_ (fun _ _ h => h.elim) (fun _ _ h => h.elim) (fun _ _ h => h.elim)
      rintro ρ2 S2 ⟨y, xs2, rfl, h2⟩
      exact hM _ _ ⟨fun d h => hd d (List.mem_cons_of_mem _ h), y, xs2, rfl, by omega⟩
    · rintro ρ S' _
      rfl
  obtain ⟨d, S', e, rfl⟩ := main.eq
  exact ⟨S', e⟩
end Dm
-- text HmSame
namespace Dm
open PySem L2
/-- data that the law calls the same, of a depth -/
inductive Eqv (S : Sto) : Nat → D → D → Prop
  | non {n : Nat} : Eqv S n .non .non
  | int {n : Nat} {i : Int} : Eqv S n (.int i) (.int i)
  | bl {n : Nat} {b : Bool} : Eqv S n (.bl b) (.bl b)
  | str {n : Nat} {x : Str} : Eqv S n (.str x) (.str x)
  | tup {n : Nat} {ds es : List D} : ds.length = es.length → es.length ≤ 16777216 → (∀ (i : Nat) (d e : D), ds[i]? = some d → es[i]? = some e → Eqv S n d e) → Eqv S (n + 1) (.tup ds) (.tup es)
  | lst {n : Nat} {d e : D} {ds es : List D} : lstOf S d = some ds → lstOf S e = some es → ds.length = es.length → es.length ≤ 16777216 → (∀ (i : Nat) (d e : D), ds[i]? = some d → es[i]? = some e → Eqv S n d e) → Eqv S (n + 1) d e
section
variable {S : Sto}
theorem lstOf_ty {d : D} {ds : List D} (h : lstOf S d = some ds) : tyOf S d = some .lst := by
  cases d with
  | lst xs => rfl
  | cell n =>
    simp only [lstOf] at h
    cases e : S[n]? with
    | none => rw [e] at h; exact nomatch h
    | some c =>
      rw [e] at h
      cases c with
      | lst es => exact tyOf_cell e
      | _ => exact nomatch h
  | _ => exact nomatch h
theorem lstOf_len {d : D} {ds : List D} (h : lstOf S d = some ds) : gLen S [d] = some (.int ds.length) := by
  cases d with
  | lst xs => cases h; rfl
  | cell n =>
    show (lstOf S (.cell n)).map _ = _
    rw [h] <;> rfl
  | _ => exact nomatch h
theorem lstOf_ix {d : D} {ds : List D} {i : Int} (h : lstOf S d = some ds) : gIx S d (.int i) = atI ds i := by
  cases d with
  | lst xs => cases h; rfl
  | cell n =>
    show (lstOf S (.cell n)).bind _ = _
    rw [h] <;> rfl
  | _ => exact nomatch h
theorem bls_true {α : Type} : ∀ {l : List α}, blsOf (l.map fun _ => D.bl true) = some (l.map fun _ => true)
  | [] => rfl
  | a :: l => by
    rw [List.map_cons, blsOf, bls_true] <;> rfl
theorem all_true {α : Type} : ∀ {l : List α}, (l.map fun _ => true).all id = true
  | [] => rfl
  | a :: l => by rw [List.map_cons, List.all_cons, all_true] <;> rfl
theorem gAll_true {α : Type} {l : List α} : gAll S [.lst (l.map fun _ => D.bl true)] = some (.bl true) := by
  unfold gAll
  simp only [lstOf_lst, Option.bind_some, bls_true, Option.map_some, all_true]
theorem mem_rngD {n : Nat} {d : D} (h : d ∈ rngD 0 n) : ∃ i : Nat, d = .int i ∧ i < n := by
  unfold rngD at h
  obtain ⟨i, hi, rfl⟩ := List.mem_map.mp h
  exact ⟨i, by simp, List.mem_range.mp hi⟩
theorem same_pairs {n : Nat} {d e : D} {ds es : List D} {Q : D → Sto → Prop} (hl : ds.length = es.length) (h16 : es.length ≤ 16777216) (h1 : ∀ i, gIx S d (.int i) = atI ds i) (h2 : ∀ i, gIx S e (.int i) = atI es i) (l2 : gLen S [e] = some (.int es.length))
    (ih : ∀ (i : Nat) (d e : D), ds[i]? = some d → es[i]? = some e → m_law_same n [d, e] S = .ok (.bl true) S) (q : Q (.bl true) S) :
    (mCallB gAll (mCons (mFz (mLc (iRange1 (mCons (mCallB gLen (mCons (mVar 1) mNil)) mNil)) (tgN 2) mYes (mCall (m_law_same n) (mCons (mOp gIx (mVar 0) (mVar 2)) (mCons (mOp gIx (mVar 1) (mVar 2)) mNil))) [2])) mNil) [some d, some e, none] S).Does Q := by
  simp [l2]
  refine ⟨by omega, ?_⟩
  refine lcQ_map (fun _ => .bl true) ?_ ?_
  · intro x hx
    obtain ⟨i, rfl, hi⟩ := mem_rngD hx
    refine ⟨_, rfl, fun Q q => ?_⟩
    have w1 : i < ds.length := by omega
    have e1 : atI ds (i : Int) = some ds[i] := by
      rw [atI_of (by omega) (by omega)]
      exact List.getElem?_eq_getElem w1
    have e2 : atI es (i : Int) = some es[i] := by
      rw [atI_of (by omega) (by omega)]
      exact List.getElem?_eq_getElem hi
    simp [wipeD, h1, h2, e1, e2]
    rw [ih i _ _ (List.getElem?_eq_getElem w1) (List.getElem?_eq_getElem hi)]
    exact q
  · rw [gAll_true]
    exact q
theorem same_eqv : ∀ {n : Nat} {d e : D}, Eqv S n d e → m_law_same (n + 1) [d, e] S = .ok (.bl true) S := by
  intro n d e h
  refine pure_of fun Q q => ?_
  induction h generalizing Q with
  | non => unfold m_law_same; refine does_def rfl ?_; simpa [isTn] using q
  | int => rw [same_int]; simpa using q
  | bl => unfold m_law_same; refine does_def rfl ?_; simpa [isTn] using q
  | str => unfold m_law_same; refine does_def rfl ?_; simpa [isTn] using q
  | @tup n ds es hl h16 _ ih =>
    unfold m_law_same
    refine does_def rfl ?_
    rw [does_seq]
    rw [does_ifS]
    have go := same_pairs (n := n + 1) (Q := Q) (d := .tup ds) (e := .tup es) hl h16 (fun _ => rfl) (fun _ => rfl) rfl (fun i d e h1 h2 => pure_of fun Q q => ih i d e h1 h2 Q q) q
    simp [isTn, hl]
    simpa [isTn] using go
  | @lst n d e ds es hd he hl h16 _ ih =>
    unfold m_law_same
    refine does_def rfl ?_
    have go := same_pairs (n := n + 1) (Q := Q) hl h16 (fun _ => lstOf_ix hd) (fun _ => lstOf_ix he) (lstOf_len he) (fun i d e h1 h2 => pure_of fun Q q => ih i d e h1 h2 Q q) q
    simp [isTn, hl, lstOf_ty hd, lstOf_ty he, lstOf_len hd, lstOf_len he]
    simpa [isTn, lstOf_len he] using go
theorem Eqv.up {n m : Nat} {d e : D} (h : Eqv S n d e) (hm : n ≤ m) : Eqv S m d e := by
  induction h generalizing m with
  | non => exact .non
  | int => exact .int
  | bl => exact .bl
  | str => exact .str
  | tup hl h16 _ ih =>
    obtain ⟨k, rfl⟩ : ∃ k, m = k + 1 := ⟨m - 1, by omega⟩
    exact .tup hl h16 fun i d e a b => ih i d e a b (by omega)
  | lst hd he hl h16 _ ih =>
    obtain ⟨k, rfl⟩ : ∃ k, m = k + 1 := ⟨m - 1, by omega⟩
    exact .lst hd he hl h16 fun i d e a b => ih i d e a b (by omega)
theorem same30 {d e : D} {n : Nat} (h : Eqv S n d e) (hn : n ≤ 29) : m_law_same 30 [d, e] S = .ok (.bl true) S := same_eqv (h.up hn)
theorem eqv_ints {d e : D} {l : List Int} (hd : lstOf S d = some (l.map .int)) (he : lstOf S e = some (l.map .int)) (h : l.length ≤ 16777216) : Eqv S 1 d e := by
  refine .lst hd he rfl (by rw [List.length_map]; exact h) fun i d e a b => ?_
  rw [a] at b
  cases b
  rw [List.getElem?_map] at a
  cases c : l[i]? with
  | none => rw [c] at a; exact nomatch a
  | some v => rw [c] at a; cases a; exact .int
end
end Dm
-- text HmHours
namespace Dm
open PySem L2
theorem asc_ext : ∀ {l l' : List Int}, l.Pairwise (· < ·) → l'.Pairwise (· < ·) → (∀ x, x ∈ l ↔ x ∈ l') → l = l'
  | [], [], _, _, _ => rfl
  | [], a :: r, _, _, e => nomatch (e a).mpr List.mem_cons_self
  | a :: r, [], _, _, e => nomatch (e a).mp List.mem_cons_self
  | a :: r, b :: t, p, p', e => by
    obtain ⟨p1, p2⟩ := List.pairwise_cons.mp p
    obtain ⟨q1, q2⟩ := List.pairwise_cons.mp p'
    have ab : a = b := by
      rcases List.mem_cons.mp ((e a).mp List.mem_cons_self) with h | h
      · exact h
      · have h1 := q1 a h
        rcases List.mem_cons.mp ((e b).mpr List.mem_cons_self) with k | k
        · exact k.symm
        · have h2 := p1 b k
          omega
    subst ab
    congr 1
    refine asc_ext p2 q2 fun x => ⟨fun h => ?_, fun h => ?_⟩
    · rcases List.mem_cons.mp ((e x).mp (List.mem_cons_of_mem _ h)) with k | k
      · subst k; have := p1 x h; omega
      · exact k
    · rcases List.mem_cons.mp ((e x).mpr (List.mem_cons_of_mem _ h)) with k | k
      · subst k; have := q1 x h; omega
      · exact k
section
variable {S : Sto} {os : List Int} {s h m r : Int} {js : List (Int × Int)} {p : Nat}
theorem ZoneOK.asc (z : ZoneOK os s) : os.Pairwise (· < ·) := by cases z <;> simp <;> omega
theorem off_mem : ∀ {js : List (Int × Int)} {h : Int} {p : Option Int}, h ∈ os → Chain os s h p js → offAt h js m ∈ os
  | [], _, _, hh, _ => hh
  | (a, o) :: t, h, p, hh, ⟨c1, _, _, c4⟩ => by
    rw [offAt]
    split
    · exact hh
    · exact off_mem c1 c4
/-- the moments of a reading, by the offsets -/
def momsOf (os : List Int) (h : Int) (js : List (Int × Int)) (r : Int) : List Int := (os.reverse.filter fun o => offAt h js (r - o) == o).map fun o => r - o
theorem moms_mem (hm : ∀ m, offAt h js m ∈ os) : m ∈ momsOf os h js r ↔ offAt h js m = r - m := by
  unfold momsOf
  rw [List.mem_map]
  constructor
  · rintro ⟨o, ho, rfl⟩
    obtain ⟨_, h2⟩ := List.mem_filter.mp ho
    have h3 : offAt h js (r - o) = o := by simpa using h2
    omega
  · intro e
    refine ⟨r - m, List.mem_filter.mpr ⟨List.mem_reverse.mpr (e ▸ hm m), ?_⟩, by omega⟩
    have : r - (r - m) = m := by omega
    simp [this, e]
theorem moms_asc (z : os.Pairwise (· < ·)) : (momsOf os h js r).Pairwise (· < ·) := by
  unfold momsOf
  rw [List.pairwise_map]
  refine List.Pairwise.imp ?_ ((List.pairwise_reverse.mpr z).filter _)
  intro a b hab
  omega
/-- .. by the stretches between the jumps -/
def hrsOf : Option Int → Int → List (Int × Int) → Int → List Int
  | lo, h, [], r => if (∀ q, lo = some q → q ≤ r - h) then [r - h] else []
  | lo, h, (a, o) :: t, r => (if (∀ q, lo = some q → q ≤ r - h) ∧ r - h < a then [r - h] else []) ++ hrsOf (some a) o t r
theorem hrs_mem (hs : 0 < s) : ∀ {js : List (Int × Int)} {lo : Option Int} {h : Int}, Chain os s h lo js → (m ∈ hrsOf lo h js r ↔ (∀ q, lo = some q → q ≤ m) ∧ offAt h js m = r - m)
  | [], lo, h, _ => by
    rw [hrsOf, offAt]
    split
    · rename_i g
      rw [List.mem_singleton]
      constructor
      · rintro rfl; exact ⟨g, by omega⟩
      · rintro ⟨_, e⟩; omega
    · rename_i g
      constructor
      · intro h; nomatch h
      · rintro ⟨g', e⟩
        exact (g fun q hq => by have := g' q hq; omega).elim
  | (a, o) :: t, lo, h, ⟨_, _, c3, c4⟩ => by
    rw [hrsOf, List.mem_append, hrs_mem hs c4, offAt]
    by_cases hm : m < a
    · rw [if_pos hm]
      constructor
      · rintro (k | k)
        · split at k
          · rename_i g
            cases List.mem_singleton.mp k
            exact ⟨g.1, by omega⟩
          · nomatch k
        · have := k.1 a rfl; omega
      · rintro ⟨g, e⟩
        refine .inl ?_
        have e' : r - h = m := by omega
        rw [e', if_pos ⟨g, hm⟩]
        exact List.mem_singleton.mpr rfl
    · rw [if_neg hm]
      constructor
      · rintro (k | k)
        · split at k
          · rename_i g
            cases List.mem_singleton.mp k
            omega
          · nomatch k
        · exact ⟨fun q hq => by have := c3 q hq; omega, k.2⟩
      · rintro ⟨g, e⟩
        exact .inr ⟨fun q hq => by cases hq; omega, e⟩
theorem hrs_asc (hs : 0 < s) : ∀ {js : List (Int × Int)} {lo : Option Int} {h : Int}, Chain os s h lo js → (hrsOf lo h js r).Pairwise (· < ·)
  | [], lo, h, _ => by
    rw [hrsOf]
    split <;> simp
  | (a, o) :: t, lo, h, ⟨_, _, c3, c4⟩ => by
    rw [hrsOf, List.pairwise_append]
    refine ⟨by split <;> simp, hrs_asc hs c4, fun x hx y hy => ?_⟩
    have hy' := ((hrs_mem hs c4).mp hy).1 a rfl
    split at hx
    · rename_i g
      cases List.mem_singleton.mp hx
      omega
    · nomatch hx
theorem hrs_moms (z : ZoneOK os s) (t : TabOK os s h js) : hrsOf none h js r = momsOf os h js r :=
  asc_ext (hrs_asc z.sp.1 t.chain) (moms_asc z.asc) fun x => (hrs_mem z.sp.1 t.chain).trans (Iff.trans ⟨fun a => a.2, fun a => ⟨(fun _ h => nomatch h), a⟩⟩ (moms_mem fun m => off_mem t.held t.chain).symm)
theorem moms_len (z : ZoneOK os s) : (momsOf os h js r).length ≤ 3 := by
  unfold momsOf
  rw [List.length_map]
  refine Nat.le_trans (List.length_filter_le _ _) ?_
  rw [List.length_reverse]
  exact z.len.2
theorem set_new {c c' : Cell} : (S ++ [c]).set S.length c' = S ++ [c'] := by
  rw [List.set_append_right _ _ (Nat.le_refl _), Nat.sub_self] <;> rfl
theorem get_new {c : Cell} : (S ++ [c])[S.length]? = some c := by simp
theorem lcQ_filter {f : D → Rho → Option Rho} {mt me : ME} {ρ : Rho} {α : Type} {as : List α} {i : α → D} {S : Sto} {Q : List D → Sto → Prop} (t : α → Bool) (g : α → D) (h : ∀ a, a ∈ as → ∃ ρ1, f (i a) ρ = some ρ1 ∧ (∀ Q : D → Sto → Prop, Q (.bl (t a)) S → (mt ρ1 S).Does Q) ∧ ∀ Q : D → Sto → Prop, t a = true → Q (g a) S → (me ρ1 S).Does Q) (q : Q ((as.filter t).map g) S) : LcQ f mt me ρ (as.map i) S Q := by
  induction as generalizing Q with
  | nil => rw [List.map_nil, lcQ_nil]; exact q
  | cons a r ih =>
    obtain ⟨ρ1, e, k1, k2⟩ := h a List.mem_cons_self
    rw [List.map_cons, lcQ_cons, e]
    refine k1 _ ?_
    rw [blQ_bl]
    cases c : t a with
    | true =>
      rw [if_pos rfl]
      refine k2 _ c (ih (fun d hd => h d (List.mem_cons_of_mem _ hd)) ?_)
      rw [List.filter_cons, if_pos c] at q
      exact q
    | false =>
      rw [if_neg (by decide)]
      refine ih (fun d hd => h d (List.mem_cons_of_mem _ hd)) ?_
      rw [List.filter_cons, if_neg (by rw [c]; decide)] at q
      exact q
theorem moments_of_does {Q : D → Sto → Prop} (z : ZoneOK os s) (t : TabOK os s h js) (q : Q (.cell S.length) (S ++ [.lst ((momsOf os h js r).map .int)])) : (m_moments_of [zoneD os s, tabD h js, .int r] S).Does Q := by
  refine does_def rfl ?_
  simp [need_zone_ok z, need_table_ok z t, wipeD]
  rw [← List.map_reverse]
  refine lcQ_filter (fun o => offAt h js (r - o) == o) (fun o => .int (r - o)) ?_ ?_
  · intro o ho
    refine ⟨_, rfl, fun Q q => ?_, fun Q e q => ?_⟩
    · simpa [offset_in_ok] using q
    · simpa using q
  · unfold momsOf at q
    rw [List.map_map] at q
    exact q
theorem hours_of_does {Q : D → Sto → Prop} (hl : js.length < 1000000) (q : Q (.cell S.length) (S ++ [.lst ((hrsOf none h js r).map .int)])) : (m_law_hours_of [tabD h js, .int r] S).Does Q := by
  unfold m_law_hours_of
  refine does_def (ds := [tabD h js, .int r]) rfl ?_
  simp
  refine ⟨⟨by omega, by omega⟩, ?_⟩
  refine forL_cut (fun ds ρ S' => ∃ (h' : Int) (acc : List Int) (x5 x6 : Option D), ρ = [some (tabD h js), some (.int r), some (.tup (js.map jmpD)), some (.cell S.length), some (.int h'), x5, x6] ∧ S' = S ++ [.lst (acc.map .int)] ∧ acc.length + ds.length ≤ 1000001 ∧
    ((ds = [] ∧ acc = hrsOf none h js r) ∨ ∃ (pre suf : List (Int × Int)) (lo : Option Int), ds = rngD pre.length (suf.length + 1) ∧ js = pre ++ suf ∧ hrsOf none h js r = acc ++ hrsOf lo h' suf r ∧ (pre = [] → lo = none) ∧ (pre ≠ [] → ∃ a o, lo = some a ∧ atI (js.map jmpD) ((pre.length : Int) - 1) = some (jmpD (a, o))))) _
    ⟨h, [], none, none, rfl, rfl, ?_, .inr ⟨[], js, none, ?_, rfl, rfl, fun _ => rfl, fun e => (e rfl).elim⟩⟩ ?_ ?_
  · rw [rngD_length]; simp; omega
  · rfl
  · rintro d r' ρ S' ⟨h', acc, x5, x6, rfl, rfl, ln, hh⟩
    rcases hh with ⟨e, _⟩ | ⟨pre, suf, lo, e, ej, eh, l0, l1⟩
    · cases e
    rw [rngD_cons] at e
    injection e with e1 e2
    subst e1
    refine ⟨_, rfl, fun M hM => ?_⟩
    simp only [List.length_cons] at ln
    obtain ⟨b, hb⟩ : ∃ b, b = decide (∀ q, lo = some q → q ≤ r - h') := ⟨_, rfl⟩
    have hlo : ∀ Q : D → Sto → Prop, Q (.bl b) (S ++ [.lst (acc.map .int)]) →
      ((mOr (mOp gEq (mVar 5) (mK (.int 0))) (mOp gLe (mOp gIx (mOp gIx (mVar 2) (mOp gSub (mVar 5) (mK (.int 1)))) (mK (.int 0))) (mVar 6))) [some (tabD h js), some (.int r), some (.tup (js.map jmpD)), some (.cell S.length), some (.int h'), some (.int pre.length), some (.int (r - h'))] (S ++ [.lst (acc.map .int)])).Does Q := by
      intro Q q
      subst hb
      by_cases hp : pre = []
      · subst hp
        have := l0 rfl
        subst this
        simpa using q
      · obtain ⟨a, o, rfl, ea⟩ := l1 hp
        have hp' : ¬ ((pre.length : Int) = 0) := by
          have := List.length_pos_iff.mpr hp
          omega
        simp [hp, ea]
        simpa using q
    refine seq_cut (fun ρ S' => ρ = [some (tabD h js), some (.int r), some (.tup (js.map jmpD)), some (.cell S.length), some (.int h'), some (.int pre.length), some (.int (r - h'))] ∧ S' = S ++ [.lst (acc.map .int)]) (fun M hM => ?_) ?_
    · simp
      exact hM _ _ ⟨rfl, rfl⟩
    rintro ρ _ ⟨rfl, rfl⟩
    rw [does_seq, does_ifS, does_and]
    refine hlo _ ?_
    rw [blQ_bl]
    have lenS : (S ++ [Cell.lst (acc.map D.int)])[S.length]? = some (.lst (acc.map .int)) := get_new
    cases suf with
    | nil =>
      have e3 : js.length = pre.length := by rw [ej, List.append_nil]
      have fin : ∀ (b : Bool) (x : Option D), (b = decide (∀ q, lo = some q → q ≤ r - h')) → M [some (tabD h js), some (.int r), some (.tup (js.map jmpD)), some (.cell S.length), some (.int h'), some (.int pre.length), x] (S ++ [.lst ((if b then acc ++ [r - h'] else acc).map .int)]) := by
        intro b x hb
        refine hM _ _ ⟨h', _, _, _, rfl, rfl, ?_, .inl ⟨by rw [e2] <;> rfl, ?_⟩⟩
        · split
          · simp at ln ⊢; omega
          · omega
        · rw [eh, hrsOf]
          by_cases c : ∀ q, lo = some q → q ≤ r - h'
          · rw [if_pos c, hb, decide_eq_true c] <;> rfl
          · rw [if_neg c, hb, decide_eq_false c, List.append_nil] <;> rfl
      cases b with
      | true =>
        simp [e3, lenS]
        refine ⟨by omega, ?_⟩
        simpa [set_new] using fin true _ hb
      | false =>
        simp [e3]
        simpa using fin false _ hb
    | cons ao suf =>
      obtain ⟨a, o⟩ := ao
      have e3 : (js.length : Int) ≠ pre.length := by rw [ej]; simp; omega
      have e4 : (pre.length : Int) ≠ js.length := Ne.symm e3
      have e5 : (pre.length : Int) < js.length := by rw [ej]; simp; omega
      have e6 : ¬ pre.length = js.length := by omega
      have e7 : pre.length < js.length := by omega
      have at1 : atI (js.map jmpD) (pre.length : Int) = some (jmpD (a, o)) := by
        rw [atI_of (by omega) (by rw [List.length_map]; exact e5), ej]
        simp
      have fin : ∀ (b : Bool) (x : Option D), (b = decide ((∀ q, lo = some q → q ≤ r - h') ∧ r - h' < a)) → M [some (tabD h js), some (.int r), some (.tup (js.map jmpD)), some (.cell S.length), some (.int o), some (.int pre.length), x] (S ++ [.lst ((if b then acc ++ [r - h'] else acc).map .int)]) := by
        intro b x hb
        refine hM _ _ ⟨o, _, _, _, rfl, rfl, ?_, .inr ⟨pre ++ [(a, o)], suf, some a, ?_, ?_, ?_, ?_, ?_⟩⟩
        · split
          · simp at ln ⊢; omega
          · omega
        · rw [e2, List.length_append] <;> rfl
        · rw [ej, List.append_assoc] <;> rfl
        · rw [eh, hrsOf]
          by_cases c : (∀ q, lo = some q → q ≤ r - h') ∧ r - h' < a
          · rw [if_pos c, hb, decide_eq_true c] <;> simp
          · rw [if_neg c, hb, decide_eq_false c] <;> simp
        · intro e; simp at e
        · intro _
          refine ⟨a, o, rfl, ?_⟩
          rw [← at1]
          congr 1
          simp
      cases b with
      | true =>
        have c := of_decide_eq_true hb.symm
        by_cases c' : r - h' < a
        · simp [e4, e6, e7, at1, c', lenS]
          refine ⟨by omega, ?_⟩
          simpa [set_new] using fin true _ (decide_eq_true ⟨c, c'⟩).symm
        · simp [e4, e6, e7, at1, c']
          simpa using fin false _ (decide_eq_false fun k => c' k.2).symm
      | false =>
        simp [e4, e6, e7, at1]
        simpa using fin false _ (decide_eq_false fun k => (of_decide_eq_false hb.symm) k.1).symm
  · rintro ρ S' ⟨h', acc, x5, x6, rfl, rfl, ln, hh⟩
    rcases hh with ⟨e, ea⟩ | ⟨pre, suf, lo, e, ej, eh, l0, l1⟩
    · subst ea
      simpa using q
    · rw [rngD_cons] at e; cases e
end
end Dm
-- text HmLooks
namespace Dm
open PySem L2
/-- from S to S': the pots of P have turned, all else is as it was -/
structure GoS (P : Nat → Prop) (S S' : Sto) : Prop where
  len : S.length ≤ S'.length
  same : ∀ n, n < S.length → ¬ P n → S'[n]? = S[n]?
  pot : ∀ n, P n → Pot n S'
section
variable {P : Nat → Prop} {S S1 S2 : Sto} {p q n : Nat} {os : List Int} {s : Int}
theorem GoS.refl (h : ∀ n, P n → Pot n S) : GoS P S S := ⟨Nat.le_refl _, fun _ _ _ => rfl, h⟩
theorem GoS.trans (a : GoS P S S1) (b : GoS P S1 S2) : GoS P S S2 :=
  ⟨Nat.le_trans a.len b.len, fun n h hn => (b.same n (Nat.lt_of_lt_of_le h a.len) hn).trans (a.same n h hn), b.pot⟩
theorem Pot.push {c : Cell} (h : Pot p S) : Pot p (S ++ [c]) := by
  obtain ⟨k, e⟩ := h
  exact ⟨k, by rw [List.getElem?_append_left (List.getElem?_eq_some_iff.mp e).1]; exact e⟩
theorem GoS.push (a : GoS P S S1) (c : Cell) : GoS P S (S1 ++ [c]) :=
  ⟨by rw [List.length_append]; exact Nat.le_trans a.len (Nat.le_add_right _ _), fun n h hn => by
    rw [List.getElem?_append_left (Nat.lt_of_lt_of_le h a.len)]
    exact a.same n h hn, fun n hn => (a.pot n hn).push⟩
theorem GoS.setNew (h : ∀ n, P n → Pot n S) (a : GoS P S S1) (hn : S.length ≤ n) (c : Cell) : GoS P S (S1.set n c) :=
  ⟨by rw [List.length_set]; exact a.len, fun m hm hp => by
    rw [List.getElem?_set_ne (by omega)]
    exact a.same m hm hp, fun m hm => by
    have := (h m hm).lt
    exact (a.pot m hm).set (by omega)⟩
theorem GoS.get {c : Cell} (a : GoS P S S1) (h : S[n]? = some c) (hn : ¬ P n) : S1[n]? = some c := by
  rw [a.same n (List.getElem?_eq_some_iff.mp h).1 hn]
  exact h
theorem Go.all (g : Go q S S1) (hq : P q) (h : ∀ n, P n → Pot n S) : GoS P S S1 :=
  ⟨g.len, fun n hn hp => g.same n hn fun e => hp (e ▸ hq), fun n hn => by
    by_cases e : n = q
    · subst e; exact g.pot
    · obtain ⟨k, z⟩ := h n hn
      exact ⟨k, g.get z e⟩⟩
theorem GoS.one (g : GoS (· = p) S S1) : Go p S S1 := ⟨g.len, fun n hn e => g.same n hn e, g.pot p rfl⟩
def looksD (ls : List (Int × Int)) : D := .tup (ls.map jmpD)
end
end Dm
-- text HmCrowd
namespace Dm
open PySem L2
/-! ### looks by their places -/
def Hh (ls : List (Int × Int)) (i : Nat) : Int := (ls.getD i (0, 0)).1
section
variable {S : Sto} {os : List Int} {s : Int} {ls : List (Int × Int)} {n p : Nat}
@[simp] theorem ty_looks : tyOf S (looksD ls) = some .tup := rfl
@[simp] theorem len_looks : gLen S [looksD ls] = some (.int ls.length) := by simp [looksD]
@[simp] theorem ix_looks {i : Int} : gIx S (looksD ls) (.int i) = atI (ls.map jmpD) i := rfl
end
end Dm
-- text HmEarly
namespace Dm
open PySem L2
end Dm
-- text HmFit
namespace Dm
open PySem L2
end Dm
namespace Dm
open PySem L2
/-- data without cells -/
inductive Plain : Nat → D → Prop
  | non {n : Nat} : Plain n .non
  | int {n : Nat} {i : Int} : Plain n (.int i)
  | bl {n : Nat} {b : Bool} : Plain n (.bl b)
  | str {n : Nat} {x : Str} : Plain n (.str x)
  | tup {n : Nat} {ds : List D} : ds.length ≤ 16777216 → (∀ d, d ∈ ds → Plain n d) → Plain (n + 1) (.tup ds)
theorem Plain.eqv {S : Sto} {n : Nat} {d : D} (h : Plain n d) : Eqv S n d d := by
  induction h with
  | non => exact .non
  | int => exact .int
  | bl => exact .bl
  | str => exact .str
  | tup hl _ ih => exact .tup rfl hl fun i d e a b => by rw [a] at b; cases b; exact ih d (List.mem_of_getElem? a)
theorem Plain.up {n m : Nat} {d : D} (h : Plain n d) (hm : n ≤ m) : Plain m d := by
  induction h generalizing m with
  | non => exact .non
  | int => exact .int
  | bl => exact .bl
  | str => exact .str
  | tup hl _ ih =>
    obtain ⟨k, rfl⟩ : ∃ k, m = k + 1 := ⟨m - 1, by omega⟩
    exact .tup hl fun d hd => ih d hd (by omega)
end Dm
-- text HmEtab
namespace Dm
open PySem L2
end Dm
-- text HmHold
namespace Dm
open PySem L2
/-! ### looks that some table has are not crowded -/
end Dm
-- text HmLeft
namespace Dm
open PySem L2
theorem cut_take {ds : List D} {k : Int} (h : 0 ≤ k) : cutD ds none (some k) = ds.take k.toNat := by
  unfold cutD
  have e : k = (k.toNat : Int) := by omega
  rw [e, HT.sIx_nat, HT.sIx_none, List.drop_zero, Nat.sub_zero, Int.toNat_natCast]
  by_cases c : k.toNat ≤ ds.length
  · rw [Nat.min_eq_left c]
  · rw [Nat.min_eq_right (by omega), List.take_length, List.take_of_length_le (by omega)]
theorem cut_drop {ds : List D} {k : Int} (h : 0 ≤ k) : cutD ds (some k) none = ds.drop k.toNat := by
  unfold cutD
  have e : k = (k.toNat : Int) := by omega
  rw [e, HT.sIx_nat, HT.sIx_none, Int.toNat_natCast]
  by_cases c : k.toNat ≤ ds.length
  · rw [Nat.min_eq_left c, List.take_of_length_le (by rw [List.length_drop]; omega)]
  · rw [Nat.min_eq_right (by omega), List.drop_eq_nil_of_le (Nat.le_refl _), List.drop_eq_nil_of_le (by omega), List.take_nil]
/-! ### looks with one more -/
section
variable {S : Sto} {os : List Int} {s m o : Int} {ls : List (Int × Int)} {n p : Nat}
/-- cells have come -/
def Grow (S S' : Sto) : Prop := ∃ cs, S' = S ++ cs
theorem Grow.refl : Grow S S := ⟨[], (List.append_nil _).symm⟩
theorem Grow.push {S' : Sto} (h : Grow S S') (c : Cell) : Grow S (S' ++ [c]) := by
  obtain ⟨cs, rfl⟩ := h
  exact ⟨cs ++ [c], by rw [List.append_assoc]⟩
theorem Grow.trans {S1 S2 : Sto} (h : Grow S S1) (h2 : Grow S1 S2) : Grow S S2 := by
  obtain ⟨cs, rfl⟩ := h
  obtain ⟨ds, rfl⟩ := h2
  exact ⟨cs ++ ds, by rw [List.append_assoc]⟩
theorem Grow.get {S' : Sto} {c : Cell} (h : Grow S S') (e : S[n]? = some c) : S'[n]? = some c := by
  obtain ⟨cs, rfl⟩ := h
  rw [List.getElem?_append_left (List.getElem?_eq_some_iff.mp e).1]
  exact e
theorem Grow.len {S' : Sto} (h : Grow S S') : S.length ≤ S'.length := by
  obtain ⟨cs, rfl⟩ := h
  rw [List.length_append]; omega
theorem Grow.go {S' : Sto} (h : Grow S S') (hp : Pot p S) : Go p S S' := by
  refine ⟨h.len, fun n hn _ => ?_, ?_⟩
  · obtain ⟨cs, rfl⟩ := h
    rw [List.getElem?_append_left hn]
  · obtain ⟨k, e⟩ := hp
    exact ⟨k, h.get e⟩
end
end Dm
-- text HmFind
namespace Dm
open PySem L2
section
variable {S : Sto} {os : List Int} {s h r : Int} {js : List (Int × Int)} {fold gap : Str}
/-! ### the law's gap -/
def gapL (r : Int) : Option (Int × Int) → Int → List (Int × Int) → Option (Int × Int)
  | acc, _, [] => acc
  | acc, h, (a, o) :: t => gapL r (if a ≤ r - h ∧ r - o < a then some (h, o) else acc) o t
theorem off_late {m p : Int} (hm : m < p + s) : ∀ {js : List (Int × Int)} {h : Int}, Chain os s h (some p) js → offAt h js m = h
  | [], _, _ => rfl
  | (a, o) :: t, h, ch => by
    have := ch.2.2.1 p rfl
    rw [offAt, if_pos (by omega)]
theorem gap_late {lo hi : Int} (hs : 0 < s) (hlo : ∀ o, o ∈ os → r - o ≤ hi) : ∀ {js : List (Int × Int)} {h p : Int} {acc : Option (Int × Int)}, h ∈ os → hi < p + s → Chain os s h (some p) js → gapL r acc h js = acc
  | [], _, _, _, _, _, _ => rfl
  | (a, o) :: t, h, p, acc, hh, hp, ch => by
    have h1 := ch.2.2.1 p rfl
    have h2 := hlo h hh
    rw [gapL, if_neg (by omega)]
    exact gap_late (lo := lo) hs hlo ch.1 (by omega) ch.2.2.2
theorem gap_one {lo hi : Int} (hs : 0 < s) (hw : hi - lo < s) (hhi : ∀ o, o ∈ os → r - o ≤ hi) (hlo : ∀ o, o ∈ os → lo ≤ r - o) : ∀ {js : List (Int × Int)} {h : Int} {p : Option Int}, h ∈ os → Chain os s h p js → (∀ o, o ∈ os → offAt h js (r - o) ≠ o) →
    gapL r none h js = some (offAt h js lo, offAt h js hi)
  | [], h, p, hh, ch, no => absurd rfl (no h hh)
  | (a, o) :: t, h, p, hh, ch, no => by
    obtain ⟨c1, c2, c3, c4⟩ := ch
    by_cases c : a ≤ lo
    · have h1 := hlo o c1
      rw [gapL, if_neg (by omega)]
      have e : ∀ m, a ≤ m → offAt h ((a, o) :: t) m = offAt o t m := fun m hm => by rw [offAt, if_neg (by omega)]
      have hl := hlo h hh
      have hh2 := hhi h hh
      rw [e lo c, e hi (by omega)]
      refine gap_one hs hw hhi hlo c1 c4 fun o' ho' => ?_
      have := no o' ho'
      rw [e _ (by have := hlo o' ho'; omega)] at this
      exact this
    · have n1 := no h hh
      have n2 := no o c1
      by_cases d : r - h < a
      · rw [offAt, if_pos d] at n1
        exact absurd rfl n1
      · have h1 := hhi h hh
        by_cases d2 : a ≤ r - o
        · rw [offAt, if_neg (by omega), off_late (p := a) (by have := hhi o c1; omega) c4] at n2
          exact absurd rfl n2
        · rw [gapL, if_pos (by omega), gap_late (lo := lo) hs hhi c1 (show hi < a + s by omega) c4]
          rw [offAt, if_pos (by omega), offAt, if_neg (by omega), off_late (p := a) (by omega) c4]
/-- three moments, no farther apart than jumps -/
theorem two_same {m1 m2 m3 : Int} (h12 : m1 < m2) (h23 : m2 ≤ m3) (hw : m3 - m1 < s) : ∀ {js : List (Int × Int)} {h : Int} {p : Option Int}, Chain os s h p js → offAt h js m1 ≠ offAt h js m2 → offAt h js m2 = offAt h js m3
  | [], _, _, _, ne => absurd rfl ne
  | (a, o) :: t, h, p, ch, ne => by
    by_cases c : m1 < a
    · rw [offAt, if_pos c] at ne
      by_cases d : m2 < a
      · rw [offAt, if_pos d] at ne; exact absurd rfl ne
      · rw [offAt, if_neg d, offAt, if_neg (by omega), off_late (p := a) (by omega) ch.2.2.2, off_late (p := a) (by omega) ch.2.2.2]
    · rw [offAt, if_neg c, offAt, if_neg (by omega)] at ne
      have := two_same h12 h23 hw ch.2.2.2 ne
      rw [offAt, if_neg (by omega), offAt, if_neg (by omega)]
      exact this
/-- the widest offsets -/
structure Ends2 (os : List Int) (s a b : Int) : Prop where
  lo : atI (os.map D.int) 0 = some (.int a)
  hi : atI (os.map D.int) (-1) = some (.int b)
  w : b - a < s
  mem : ∀ o, o ∈ os → a ≤ o ∧ o ≤ b
  ma : a ∈ os
  mb : b ∈ os
theorem ZoneOK.ends2 (z : ZoneOK os s) : ∃ a b, Ends2 os s a b := by
  cases z with
  | one a s => exact ⟨a, a, rfl, rfl, by omega, by simp, by simp, by simp⟩
  | two a b s => exact ⟨a, b, rfl, rfl, by omega, by simp; omega, by simp, by simp⟩
  | three a b c s => exact ⟨a, c, rfl, rfl, by omega, by simp; omega, by simp, by simp⟩
theorem moms_two (z : ZoneOK os s) (t : TabOK os s h js) : (momsOf os h js r).length ≤ 2 := by
  obtain ⟨a, b, E⟩ := z.ends2
  have asc := moms_asc (h := h) (js := js) (r := r) z.asc
  have mm : ∀ m, m ∈ momsOf os h js r → offAt h js m = r - m := fun m hm => (moms_mem (fun m => off_mem t.held t.chain)).mp hm
  match e : momsOf os h js r with
  | [] => simp
  | [_] => simp
  | [_, _] => simp
  | m1 :: m2 :: m3 :: _ =>
    rw [e] at asc mm
    have h1 := mm m1 (by simp)
    have h2 := mm m2 (by simp)
    have h3 := mm m3 (by simp)
    simp only [List.pairwise_cons, List.mem_cons] at asc
    have a1 : m1 < m2 := asc.1 m2 (.inl rfl)
    have a2 : m2 < m3 := asc.2.1 m3 (.inl rfl)
    have o1 := E.mem _ (off_mem (m := m1) t.held t.chain)
    have o3 := E.mem _ (off_mem (m := m3) t.held t.chain)
    have := two_same a1 (Int.le_of_lt a2) (by have := E.w; omega) t.chain (by omega)
    omega
theorem gap_both (z : ZoneOK os s) (t : TabOK os s h js) {a b : Int} (E : Ends2 os s a b) (e : momsOf os h js r = []) : gapL r none h js = some (offAt h js (r - b), offAt h js (r - a)) := by
  have hw := E.w
  refine gap_one z.sp.1 (by omega) (fun o ho => by have := E.mem o ho; omega) (fun o ho => by have := E.mem o ho; omega) t.held t.chain fun o ho hq => ?_
  have : r - o ∈ momsOf os h js r := (moms_mem (fun m => off_mem t.held t.chain)).mpr (by omega)
  rw [e] at this
  exact nomatch this
/-! ### what is found -/
@[simp] theorem gDIx_new {kvs : List (Key × D)} {y : D} : gDIx (S ++ [.dic kvs]) (.cell S.length) y = (keyD y).bind fun k => valD kvs k := gDIx_cell (by simp)
def RuleF (x : Str) : Prop := x = "early" ∨ x = "late" ∨ x = "refuse"
def RuleG (x : Str) : Prop := x = "ahead" ∨ x = "behind" ∨ x = "refuse"
def findO (ms : List Int) (g : Int × Int) (r : Int) (fold gap : Str) : D := match ms with
  | [m] => .int m
  | [m, m'] => if fold = "refuse" then .non else if fold = "early" then .int m else .int m'
  | _ => if gap = "refuse" then .non else if gap = "ahead" then .int (r - g.1) else .int (r - g.2)
theorem valD_put_same {kvs : List (Key × D)} {k : Key} {v : D} : valD (putD kvs k v) k = some v := by
  unfold putD
  split
  · next c =>
    unfold valD
    induction kvs with
    | nil => simp at c
    | cons p kvs ih =>
      rw [List.map_cons, List.find?_cons]
      by_cases e : p.1 = k
      · simp [e]
      · have c2 : (kvs.any fun kv => decide (kv.1 = k)) = true := by
          rw [List.any_cons] at c
          simpa [e] using c
        simp only [if_neg e, decide_eq_false e]
        exact ih c2
  · next c =>
    unfold valD
    have : kvs.find? (fun kv => decide (kv.1 = k)) = none := by
      rw [List.find?_eq_none]
      intro x hx hq
      exact c (List.any_eq_true.mpr ⟨x, hx, hq⟩)
    rw [List.find?_append, this]
    simp
theorem valD_put_other {kvs : List (Key × D)} {k k' : Key} {v : D} (hn : k' ≠ k) : valD (putD kvs k v) k' = valD kvs k' := by
  unfold putD
  split
  · next c =>
    clear c
    unfold valD
    induction kvs with
    | nil => rfl
    | cons p kvs ih =>
      rw [List.map_cons, List.find?_cons, List.find?_cons]
      by_cases e : p.1 = k
      · have e2 : ¬ p.1 = k' := fun q => hn (q.symm.trans e)
        simp only [if_pos e, decide_eq_false e2]
        exact ih
      · simp only [if_neg e]
        by_cases e2 : p.1 = k'
        · simp [e2]
        · simp only [decide_eq_false e2]
          exact ih
  · unfold valD
    rw [List.find?_append]
    have : ¬ k = k' := fun q => hn q.symm
    simp [this]
theorem valD_foldl {α : Type} {k : α → Key} {g : α → D} {a : α} : ∀ {as : List α} {acc : List (Key × D)}, (a ∈ as ∨ valD acc (k a) = some (g a)) → (∀ b, b ∈ as → k b = k a → g b = g a) → valD (as.foldl (fun acc a => putD acc (k a) (g a)) acc) (k a) = some (g a)
  | [], acc, h, _ => by
    rcases h with h | h
    · exact nomatch h
    · exact h
  | b :: as, acc, h, hk => by
    rw [List.foldl_cons]
    refine valD_foldl ?_ fun c hc => hk c (List.mem_cons_of_mem _ hc)
    by_cases e : k b = k a
    · refine .inr ?_
      rw [← e, valD_put_same, hk b List.mem_cons_self e]
    · rcases h with h | h
      · rcases List.mem_cons.mp h with rfl | h
        · exact absurd rfl e
        · exact .inl h
      · refine .inr ?_
        rw [valD_put_other (fun q => e q.symm)]
        exact h
@[simp] theorem flatD_str {x : Str} : flatD (.str x) = true := rfl
/-- by the rules -/
theorem need_rules_ok (hf : RuleF fold) (hg : RuleG gap) : m_need_rules [.str fold, .str gap] S = .ok .non S := by
  refine pure_of fun Q q => ?_
  refine does_def rfl ?_
  rcases hf with rfl | rfl | rfl <;> rcases hg with rfl | rfl | rfl <;> (simp [isTn, gIn, eqF]; exact q)
theorem held_dict {Q : D → Sto → Prop} (q : ∀ kvs, (∀ o, o ∈ os → valD kvs (.inl (r - o)) = some (.int (offAt h js (r - o)))) → Q (.cell S.length) (S ++ [.dic kvs])) {x3 x4 x5 x6 : Option D} :
    (mDcA (mOp gIx (mVar 0) (mK (.int 0))) (tgN 6) mYes (mOp gSub (mVar 2) (mVar 6)) (mCall m_offset_in (mCons (mVar 1) (mCons (mOp gSub (mVar 2) (mVar 6)) mNil))) [6] [some (zoneD os s), some (tabD h js), some (.int r), x3, x4, x5, x6] S).Does Q := by
  refine does_dcA (d := .tup (os.map .int)) (S1 := S) (S2 := S) (ds := os.map .int) (kvs := os.foldl (fun acc o => putD acc (.inl (r - o)) (.int (offAt h js (r - o)))) []) ?_ rfl ?_ ?_
  · rfl
  · rw [List.length_map]
    refine dcA_map (i := D.int) (k := fun o => .inl (r - o)) (g := fun o => .int (offAt h js (r - o))) (as := os) (pre := []) rfl ?_ rfl
    intro o ho
    refine ⟨_, .int (r - o), rfl, ?_, rfl, ?_⟩
    · simp [wipeD, mOp, Res.bind]
    · refine pure_of fun Q q => ?_
      simp [wipeD, offset_in_ok]
      exact q
  · refine q _ fun o ho => ?_
    refine valD_foldl (k := fun o : Int => Sum.inl (r - o)) (g := fun o => .int (offAt h js (r - o))) (.inl ho) fun b hb e => ?_
    have : r - b = r - o := by injection e
    rw [this]
theorem found_by_does {Q : D → Sto → Prop} {n : Nat} {kvs : List (Key × D)} (z : ZoneOK os s) (hn : S[n]? = some (.dic kvs)) (hk : ∀ o, o ∈ os → valD kvs (.inl (r - o)) = some (.int (offAt h js (r - o))))
    {a b : Int} (E : Ends2 os s a b) (hf : RuleF fold) (hg : RuleG gap) (q : Q (findO (momsOf os h js r) (offAt h js (r - b), offAt h js (r - a)) r fold gap) S) : (m_found_by [.tup (os.map .int), .cell n, .int r, .str fold, .str gap] S).Does Q := by
  refine does_def rfl ?_
  refine seq_cut (fun ρ S' => S = S' ∧ ∃ x6, ρ = [some (.tup (os.map .int)), some (.cell n), some (.int r), some (.str fold), some (.str gap), some (.lst ((momsOf os h js r).map .int)), x6]) (fun M hM => ?_) ?_
  · simp [wipeD]
    rw [← List.map_reverse, lcAQ_fix (.inl rfl) (by rw [List.length_map, List.length_reverse])]
    refine lcQ_filter (fun o : Int => offAt h js (r - o) == o) (fun o => .int (r - o)) ?_ ?_
    · intro o ho
      have ho' : o ∈ os := List.mem_reverse.mp ho
      refine ⟨_, rfl, fun Q q => ?_, fun Q e q => ?_⟩
      · simp [gDIx_cell hn, hk o ho']
        exact q
      · simp
        exact q
    · have := hM [some (.tup (os.map .int)), some (.cell n), some (.int r), some (.str fold), some (.str gap), some (.lst ((momsOf os h js r).map .int)), none] S ⟨rfl, _, rfl⟩
      have e : (momsOf os h js r).map D.int = (os.reverse.filter fun o => offAt h js (r - o) == o).map fun o => D.int (r - o) := by
        unfold momsOf
        rw [List.map_map] <;> rfl
      rw [e] at this
      exact this
  rintro ρ _ ⟨rfl, x6, rfl⟩
  have ha := hk a E.ma
  have hb := hk b E.mb
  simp [E.lo, E.hi, gDIx_cell hn, ha, hb]
  unfold findO at q
  match e : momsOf os h js r with
  | [] =>
    rw [e] at q
    rcases hg with rfl | rfl | rfl <;> (simp at q ⊢; exact q)
  | [m] =>
    rw [e] at q
    simp at q ⊢
    exact q
  | [m1, m2] =>
    rw [e] at q
    rcases hf with rfl | rfl | rfl <;> (simp at q ⊢; exact q)
  | m1 :: m2 :: m3 :: l =>
    rw [e] at q
    have n1 : ¬ ((l.length : Int) + 1 + 1 + 1 = 1) := by omega
    have n2 : ¬ ((l.length : Int) + 1 + 1 + 1 = 2) := by omega
    rcases hg with rfl | rfl | rfl <;> (simp [n1, n2] at q ⊢; exact q)
theorem find_moment_does {Q : D → Sto → Prop} (z : ZoneOK os s) (t : TabOK os s h js) {a b : Int} (E : Ends2 os s a b) (hf : RuleF fold) (hg : RuleG gap) (q : ∀ c, Q (findO (momsOf os h js r) (offAt h js (r - b), offAt h js (r - a)) r fold gap) (S ++ [c])) :
    (m_find_moment [zoneD os s, tabD h js, .int r, .str fold, .str gap] S).Does Q := by
  refine does_def rfl ?_
  simp [need_zone_ok z, need_table_ok z t, need_rules_ok hf hg]
  refine held_dict fun kvs hk => ?_
  exact found_by_does z (by simp) hk E hf hg (q _)
/-- the law's -/
theorem law_found_does {Q : D → Sto → Prop} (z : ZoneOK os s) (t : TabOK os s h js) (hl : js.length < 1000000) {a b : Int} (E : Ends2 os s a b) (hf : RuleF fold) (hg : RuleG gap) (q : ∀ S', Grow S S' → Q (findO (momsOf os h js r) (offAt h js (r - b), offAt h js (r - a)) r fold gap) S') :
    (m_law_found [tabD h js, .int r, .str fold, .str gap] S).Does Q := by
  refine does_def rfl ?_
  simp
  refine hours_of_does hl ?_
  rw [hrs_moms z t]
  have m2 := moms_two (r := r) z t
  obtain ⟨ms, hms⟩ : ∃ ms, momsOf os h js r = ms := ⟨_, rfl⟩
  rw [hms] at q m2 ⊢
  have cn : (S ++ [Cell.lst (ms.map .int)])[S.length]? = some (.lst (ms.map .int)) := by simp
  have gS : Grow S (S ++ [Cell.lst (ms.map .int)]) := ⟨_, rfl⟩
  generalize S ++ [Cell.lst (ms.map .int)] = S1 at cn gS ⊢
  generalize S.length = n at cn ⊢
  match ms, m2 with
  | [m], _ =>
    simp only [List.map_cons, List.map_nil] at cn
    simp [gLen_cell cn, gIx_cell cn]
    exact q _ gS
  | [m1, m2], _ =>
    simp only [List.map_cons, List.map_nil] at cn
    simp [gLen_cell cn, gIx_cell cn, keysD]
    have q1 := q _ (gS.push (.dic (mergeD [] [(.inr "early", .int m1), (.inr "late", .int m2), (.inr "refuse", .non)])))
    rcases hf with rfl | rfl | rfl <;> (simp [mergeD, putD, valD, findO] at q1 ⊢; exact q1)
  | [], _ =>
    simp only [List.map_nil] at cn
    simp [gLen_cell cn]
    have gb := gap_both (r := r) z t E hms
    refine forL_cut (fun ds ρ S' => ∃ (js' : List (Int × Int)) (h' : Int) (acc : Option (Int × Int)) (x7 x8 : Option D) (m : Nat) (kvs : List (Key × D)), ds = js'.map jmpD ∧ ρ = [some (tabD h js), some (.int r), some (.str fold), some (.str gap), some (.cell n), some (.int h'), some (.cell m), x7, x8] ∧ Grow S S' ∧ gapL r acc h' js' = some (offAt h js (r - b), offAt h js (r - a)) ∧
      S'[m]? = some (.dic kvs) ∧ (∀ g, acc = some g → kvs = mergeD [] [(.inr "ahead", .int (r - g.1)), (.inr "behind", .int (r - g.2)), (.inr "refuse", .non)])) _
      ⟨js, h, none, none, none, S1.length, [], rfl, rfl, gS.push _, gb, by simp, fun _ z => nomatch z⟩ ?_ ?_
    · rintro d r' ρ S2 ⟨js', h', acc, x7, x8, m, kvs, e, rfl, g2, gl, cm, ca⟩
      cases js' with
      | nil => cases e
      | cons j js' =>
        obtain ⟨hr, o⟩ := j
        rw [List.map_cons] at e
        injection e with e1 e2
        subst e1
        refine ⟨_, rfl, fun M hM => ?_⟩
        rw [gapL] at gl
        by_cases c1 : hr ≤ r - h'
        · by_cases c2 : r - o < hr
          · rw [if_pos ⟨c1, c2⟩] at gl
            simp [c1, c2, keysD]
            exact hM _ _ ⟨js', o, _, _, _, S2.length, mergeD [] [(.inr "ahead", .int (r - h')), (.inr "behind", .int (r - o)), (.inr "refuse", .non)], e2, rfl, g2.push _, gl, by simp, fun g hg => by cases hg; rfl⟩
          · rw [if_neg (fun h => c2 h.2)] at gl
            simp [c1, c2]
            exact hM _ _ ⟨js', o, _, _, _, m, kvs, e2, rfl, g2, gl, cm, ca⟩
        · rw [if_neg (fun h => c1 h.1)] at gl
          simp [c1]
          exact hM _ _ ⟨js', o, _, _, _, m, kvs, e2, rfl, g2, gl, cm, ca⟩
    · rintro ρ S2 ⟨js', h', acc, x7, x8, m, kvs, e, rfl, g2, gl, cm, ca⟩
      cases js' with
      | cons j js' => cases e
      | nil =>
        have gl : acc = _ := gl
        have := ca _ gl
        subst this
        simp [gDIx_cell cm]
        have q1 := q _ g2
        rcases hg with rfl | rfl | rfl <;> (simp [mergeD, putD, valD, findO] at q1 ⊢; exact q1)
  | m1 :: m2 :: m3 :: l, h => simp at h
end
end Dm
-- text HmProg
namespace Dm
open PySem L2
/-! ### programs of steps -/
inductive Kd where
  | mom | rdg | spn
  deriving DecidableEq
inductive Stp where
  | read (i p : Nat) | find (i p : Nat) (f g : Str) | offset (i p : Nat) | edition (i p : Nat)
  | plus (i j : Nat) | less (i j : Nat) | add (i : Nat) (m : Int)
/-- a step behind values of these kinds, beside nz zones -/
def Stp.OK (nz : Nat) (row : List Kd) : Stp → Prop
  | .read i p => row[i]? = some .mom ∧ p < nz
  | .find i p f g => row[i]? = some .rdg ∧ p < nz ∧ RuleF f ∧ RuleG g
  | .offset i p => row[i]? = some .mom ∧ p < nz
  | .edition i p => row[i]? = some .mom ∧ p < nz
  | .plus i j => row[i]? = some .mom ∧ row[j]? = some .spn
  | .less i j => row[i]? = some .rdg ∧ row[j]? = some .spn
  | .add i m => (row[i]? = some .mom ∨ row[i]? = some .rdg) ∧ -100000 ≤ m ∧ m ≤ 100000
/-! ### the parts of a step -/
end Dm
-- text HmProg2
namespace Dm
open PySem L2
abbrev Zs := List (List Int × Int)
/-- one or two zones -/
structure ZsOK (zs : Zs) : Prop where
  all : ∀ z, z ∈ zs → ZoneOK z.1 z.2
  len : zs.length = 1 ∨ zs.length = 2
end Dm
-- text HmDeed
namespace Dm
open PySem L2
end Dm
-- text HmWanted
namespace Dm
open PySem L2
end Dm
-- text HmPlan
namespace Dm
open PySem L2
end Dm
-- text HmPlan2
namespace Dm
open PySem L2
end Dm
-- text HmEarth
namespace Dm
open PySem L2
/-! ### tables by zones -/
abbrev Tb := Int × List (Int × Int)
def Tb.d (t : Tb) : D := tabD t.1 t.2
def Tb.of (t : Tb) (m : Int) : Int := offAt t.1 t.2 m
structure TbsOK (zs : Zs) (tb : List Tb) : Prop where
  len : tb.length = zs.length
  ok : ∀ (p : Nat) (z : List Int × Int) (t : Tb), zs[p]? = some z → tb[p]? = some t → TabOK z.1 z.2 t.1 t.2
def getT (tb : List Tb) (p : Nat) : Tb := tb.getD p (0, [])
def getZ (zs : Zs) (p : Nat) : List Int × Int := zs.getD p ([], 1)
def getV (vs : List Int) (i : Nat) : Int := vs.getD i 0
theorem getV_at {vs : List Int} {i : Nat} (h : i < vs.length) : vs[i]? = some (getV vs i) := by
  unfold getV
  rw [List.getD_eq_getElem?_getD, List.getElem?_eq_getElem h]; rfl
theorem getT_at {tb : List Tb} {i : Nat} (h : i < tb.length) : tb[i]? = some (getT tb i) := by
  unfold getT
  rw [List.getD_eq_getElem?_getD, List.getElem?_eq_getElem h]; rfl
theorem getZ_at {zs : Zs} {i : Nat} (h : i < zs.length) : zs[i]? = some (getZ zs i) := by
  unfold getZ
  rw [List.getD_eq_getElem?_getD, List.getElem?_eq_getElem h]; rfl
theorem ZsOK.at {zs : Zs} (z : ZsOK zs) {p : Nat} (hp : p < zs.length) : ZoneOK (getZ zs p).1 (getZ zs p).2 := z.all _ (List.mem_of_getElem? (getZ_at hp))
theorem TbsOK.set {zs : Zs} {tb later : List Tb} (h : TbsOK zs tb) (h' : TbsOK zs later) (p : Nat) : TbsOK zs (tb.set p (getT later p)) := by
  refine ⟨by rw [List.length_set]; exact h.len, fun i z t hz ht => ?_⟩
  by_cases e : p = i
  · subst e
    have hp : p < tb.length := by
      have := (List.getElem?_eq_some_iff.mp ht).1
      rw [List.length_set] at this
      exact this
    rw [List.getElem?_set_self hp] at ht
    cases ht
    exact h'.ok p z _ hz (getT_at (by rw [h'.len, ← h.len]; exact hp))
  · rw [List.getElem?_set_ne e] at ht
    exact h.ok i z t hz ht
section
variable {S : Sto} {os : List Int} {s h m r : Int} {js : List (Int × Int)}
@[simp] theorem tgU_jmp {j : Int × Int} {ρ : Rho} {f : List D → Rho → Option Rho} : tgU 2 f (jmpD j) ρ = f [.int j.1, .int j.2] ρ := rfl
@[simp] theorem tgU_zone {ρ : Rho} {f : List D → Rho → Option Rho} : tgU 2 f (zoneD os s) ρ = f [.tup (os.map .int), .int s] ρ := rfl
@[simp] theorem tgU_tab {ρ : Rho} {f : List D → Rho → Option Rho} : tgU 2 f (tabD h js) ρ = f [.int h, .tup (js.map jmpD)] ρ := rfl
/-! ### a find -/
end
end Dm
-- text HmFollow
namespace Dm
open PySem L2
/-! ### a run by the document -/
def Stp.base : Stp → Nat
  | .read i _ => i
  | .find i _ _ _ => i
  | .offset i _ => i
  | .edition i _ => i
  | .plus i _ => i
  | .less i _ => i
  | .add i _ => i
theorem Stp.OK.base {nz : Nat} {row : List Kd} {t : Stp} (h : t.OK nz row) : t.base < row.length := by
  cases t with
  | add i m => rcases h.1 with h | h <;> exact (List.getElem?_eq_some_iff.mp h).1
  | _ => exact (List.getElem?_eq_some_iff.mp h.1).1
section
variable {S : Sto} {zs : Zs} {tb : List Tb} {vs : List Int} {row : List Kd} {n c : Nat} {t : Stp}
/-! ### what is looked at -/
abbrev Lk := Int × Int × Int × Int
def lkD (m : Lk) : D := .tup [.int m.1, .int m.2.1, .int m.2.2.1, .int m.2.2.2]
def edD : Option (Nat × Int) → List (Key × D)
  | none => []
  | some (q, m) => [(.inl q, .int m)]
end
end Dm
-- text HmFollow2
namespace Dm
open PySem L2
end Dm
-- text HmFollow3
namespace Dm
open PySem L2
section
variable {S : Sto} {zs : Zs} {tb later : List Tb} {vs : List Int} {row : List Kd} {n c : Nat} {t : Stp} {ts : List Stp}
/-- the four cells of a run -/
structure Cells (S : Sto) (a : Nat) (tb : List Tb) (ed : Option (Nat × Int)) (vs : List Int) (lk : List Lk) : Prop where
  c4 : S[a]? = some (.lst (tb.map Tb.d))
  c5 : S[a + 1]? = some (.dic (edD ed))
  c6 : S[a + 2]? = some (.lst (vs.map .int))
  c7 : S[a + 3]? = some (.lst (lk.map lkD))
theorem set_at {S : Sto} {n : Nat} {c c' : Cell} (h : S[n]? = some c') : (S.set n c)[n]? = some c := List.getElem?_set_self (List.getElem?_eq_some_iff.mp h).1
theorem Cells.val {S : Sto} {a : Nat} {tb : List Tb} {ed : Option (Nat × Int)} {vs : List Int} {lk : List Lk} (h : Cells S a tb ed vs lk) (vs' : List Int) : Cells (S.set (a + 2) (.lst (vs'.map .int))) a tb ed vs' lk :=
  ⟨by rw [List.getElem?_set_ne (by omega)]; exact h.c4, by rw [List.getElem?_set_ne (by omega)]; exact h.c5, set_at h.c6, by rw [List.getElem?_set_ne (by omega)]; exact h.c7⟩
end
end Dm
-- text HmRun
namespace Dm
open PySem L2
end Dm
-- text HmRun2
namespace Dm
open PySem L2
@[simp] theorem does_raise {c : Str} {ρ : Rho} {S : Sto} {N B C : Rho → Sto → Prop} {R : D → Sto → Prop} {EO : EXO} : (mRaise c ρ S).DoesE EO N R B C = EO c [] ρ S := rfl
@[simp] theorem does_raiseX {c : Str} {ns : List Str} {ma : MA} {ρ : Rho} {S : Sto} {N B C : Rho → Sto → Prop} {R : D → Sto → Prop} {EO : EXO} : (mRaiseX c ns ma ρ S).DoesE EO N R B C = (ma ρ S).DoesE (eAt EO ρ) fun ds S1 => ds.length = ns.length ∧ EO c (ns.zip ds).reverse ρ S1 := by
  unfold mRaiseX
  rw [does_ofRes]; congr 1; funext ds S1
  by_cases h : ds.length = ns.length
  · rw [if_pos h]; simp [h, Out.DoesE]
  · rw [if_neg h]; simp [h, Out.DoesE]
end Dm
-- text HmOdd1
namespace Dm
open PySem L2
/-- data of any kind: nothing that may change -/
inductive OddD : D → Prop
  | non : OddD .non
  | bl (b : Bool) : OddD (.bl b)
  | int (i : Int) : OddD (.int i)
  | str (x : Str) : OddD (.str x)
  | exn (c : Str) (fs : List (Str × Int)) : OddD (.exn c fs)
  | tup {ds : List D} : ds.length ≤ 1000 → (∀ d, d ∈ ds → OddD d) → OddD (.tup ds)
  | lst {ds : List D} : ds.length ≤ 1000 → (∀ d, d ∈ ds → OddD d) → OddD (.lst ds)
def isI : D → Bool
  | .int _ => true
  | _ => false
def inO (os : List Int) : D → Bool
  | .int o => decide (o ∈ os)
  | _ => false
def jmpOf : D → Option (Int × Int)
  | .tup [.int a, .int o] => some (a, o)
  | _ => none
def markB (os : List Int) (d : D) : Bool := match jmpOf d with
  | some (_, o) => decide (o ∈ os)
  | none => false
def sepB (s a : Int) : Option Int → Bool
  | none => true
  | some q => !decide (a - q < s)
def chartJ (os : List Int) (s : Int) : Int → Option Int → List D → Bool
  | _, _, [] => true
  | h, p, d :: r => match jmpOf d with
    | some (a, o) => decide (o ∈ os) && !decide (o = h) && sepB s a p && chartJ os s o (some a) r
    | none => false
def chartB (os : List Int) (s : Int) : D → Bool
  | .tup [.int h, .tup js] => decide (h ∈ os) && chartJ os s h none js
  | _ => false
theorem jmpOf_some {d : D} {j : Int × Int} (h : jmpOf d = some j) : d = jmpD j := by
  unfold jmpOf at h
  split at h
  · cases h; rfl
  · cases h
section
variable {S : Sto} {os : List Int} {s : Int} {d : D}
theorem is_integer_odd (h : OddD d) : m_is_integer [d] S = .ok (.bl (isI d)) S := by
  refine pure_of fun Q q => ?_
  refine does_def rfl ?_
  cases h <;> (simp [isTn]; exact q)
theorem is_offset_odd (h : OddD d) : m_is_offset [zoneD os s, d] S = .ok (.bl (inO os d)) S := by
  refine pure_of fun Q q => ?_
  refine does_def rfl ?_
  simp [is_integer_odd h]
  cases h with
  | int o =>
    simp [isI, gIn_ints]
    exact q
  | _ => simp [isI]; exact q
theorem is_mark_odd (h : OddD d) : m_is_mark [zoneD os s, d] S = .ok (.bl (markB os d)) S := by
  refine pure_of fun Q q => ?_
  refine does_def rfl ?_
  cases h with
  | @tup ds hl hd =>
    match ds, hl, hd with
    | [], _, _ => simp [isTn]; exact q
    | [a], _, _ => simp [isTn]; cases a <;> exact q
    | [a, b], _, hd =>
      have ha := hd a (by simp)
      have hb := hd b (by simp)
      simp [isTn, is_integer_odd ha, is_offset_odd hb]
      cases a with
      | int i =>
        simp [isI]
        cases b <;> exact q
      | _ => simp [isI]; exact q
    | a :: b :: c :: r, _, _ =>
      have : ¬ ((r.length : Int) + 1 + 1 + 1 = 2) := by omega
      simp [isTn, this]
      cases a <;> cases b <;> exact q
  | _ => simp [isTn]; exact q
end
end Dm
-- text HmOdd2
namespace Dm
open PySem L2
section
variable {S : Sto} {os : List Int} {s : Int} {d : D}
theorem at_last {α : Type} {pre : List α} {x : α} {suf js : List α} (e : js = pre ++ x :: suf) : atI js (((pre ++ [x]).length : Int) - 1) = some x := by
  rw [e, atI_of (by simp) (by simp; omega)]
  simp
theorem is_table_odd (z : ZoneOK os s) (h : OddD d) : m_is_table [zoneD os s, d] S = .ok (.bl (chartB os s d)) S := by
  refine pure_of fun Q q => ?_
  refine does_def rfl ?_
  cases h with
  | @tup ds hl hd =>
    match ds, hl, hd with
    | [], _, _ => simp [isTn, need_zone_ok z]; exact q
    | [a], _, _ => simp [isTn, need_zone_ok z]; cases a <;> exact q
    | a :: b :: c :: r, _, _ =>
      have : ¬ ((r.length : Int) + 1 + 1 + 1 = 2) := by omega
      simp [isTn, this, need_zone_ok z]
      cases a <;> cases b <;> exact q
    | [a, b], _, hd =>
      have ha := hd a (by simp)
      have hb := hd b (by simp)
      simp [isTn, need_zone_ok z, is_offset_odd ha]
      cases a with
      | int h =>
        by_cases hin : h ∈ os
        · simp [inO, hin]
          cases hb with
          | @tup js jl jd =>
            have key : chartB os s (.tup [.int h, .tup js]) = chartJ os s h none js := by
              show (decide (h ∈ os) && chartJ os s h none js) = _
              rw [decide_eq_true hin, Bool.true_and]
            rw [key] at q
            simp [isTn, enumD_eq]
            refine forL_cut (fun ds ρ S' => S' = S ∧ ∃ (pre suf : List D) (h' : Int) (pm : Option Int) (x4 x5 : Option D), ρ = [some (zoneD os s), some (.tup [.int h, .tup js]), some (.int h'), some (.tup js), x4, x5]
              ∧ js = pre ++ suf ∧ ds = enumF pre.length suf ∧ chartJ os s h none js = chartJ os s h' pm suf ∧ (pre = [] → pm = none) ∧ (pre ≠ [] → ∃ m o, pm = some m ∧ atI js ((pre.length : Int) - 1) = some (jmpD (m, o)))) _ ⟨rfl, [], js, h, none, none, none, rfl, rfl, rfl, rfl, fun _ => rfl, fun h => (h rfl).elim⟩ ?_ ?_
            · rintro d r ρ S' ⟨rfl, pre, suf, h', pm, x4, x5, rfl, ej, e, c, l0, l⟩
              cases suf with
              | nil => cases e
              | cons j suf =>
                rw [enumF_cons] at e
                injection e with e1 e2
                subst e1
                have hj := jd j (by rw [ej]; simp)
                refine ⟨[some (zoneD os s), some (.tup [.int h, .tup js]), some (.int h'), some (.tup js), some (.int pre.length), some j], by simp, fun M hM => ?_⟩
                simp [is_mark_odd hj]
                unfold markB
                cases ejm : jmpOf j with
                | none =>
                  have e0 : chartJ os s h none js = false := by
                    rw [c]
                    unfold chartJ
                    rw [ejm]
                  rw [e0] at q
                  simp
                  exact q
                | some ao =>
                  obtain ⟨a, o⟩ := ao
                  have ed := jmpOf_some ejm
                  subst ed
                  have cj : chartJ os s h none js = (decide (o ∈ os) && !decide (o = h') && sepB s a pm && chartJ os s o (some a) suf) := by
                    rw [c]
                    conv => lhs; unfold chartJ
                    rw [ejm]
                  by_cases c1 : o ∈ os
                  · by_cases c2 : o = h'
                    · simp [c1, c2]
                      simp [c2] at cj
                      rw [cj] at q
                      exact q
                    · simp [c1, c2]
                      have fin : chartJ os s h none js = chartJ os s o (some a) suf → M [some (zoneD os s), some (.tup [.int h, .tup js]), some (.int o), some (.tup js), some (.int pre.length), some (jmpD (a, o))] S' := fun ec =>
                        hM _ _ ⟨rfl, pre ++ [jmpD (a, o)], suf, _, _, _, _, rfl, by rw [ej, List.append_assoc] <;> rfl, by rw [e2, List.length_append] <;> rfl, ec, fun e => by simp at e, fun _ => ⟨_, _, rfl, at_last ej⟩⟩
                      by_cases hp : pre = []
                      · have := l0 hp
                        subst this hp
                        simp [c1, c2, sepB] at cj
                        simp
                        exact fin cj
                      · obtain ⟨m, o', e3, e4⟩ := l hp
                        subst e3
                        have cj2 : chartJ os s h none js = (!decide (a - m < s) && chartJ os s o (some a) suf) := by
                          rw [cj, decide_eq_true c1, decide_eq_false c2]; rfl
                        rw [e4]
                        by_cases c3 : a - m < s
                        · have c3' : ¬ (s ≤ a - m) := by omega
                          simp [List.length_pos_iff, hp, c3]
                          rw [cj2, decide_eq_true c3] at q
                          exact q
                        · have c3' : s ≤ a - m := by omega
                          simp [List.length_pos_iff, hp, c3]
                          rw [decide_eq_false c3] at cj2
                          exact fin cj2
                  · simp [c1]
                    simp [c1] at cj
                    rw [cj] at q
                    exact q
            · rintro ρ S' ⟨rfl, pre, suf, h', pm, x4, x5, rfl, ej, e, c, l0, l⟩
              cases suf with
              | cons j suf => cases e
              | nil =>
                rw [c, show chartJ os s h' pm [] = true by simp only [chartJ]] at q
                simpa using q
          | _ => simp [isTn]; exact q
        · simp [inO, hin]
          have e0 : chartB os s (.tup [.int h, b]) = false := by
            unfold chartB
            split
            · rename_i h0 js e
              injection e with e
              injection e with e1 e2
              injection e1 with e1
              subst e1
              rw [decide_eq_false hin, Bool.false_and]
            · rfl
          rw [e0] at q
          exact q
      | _ => simp [inO]; exact q
  | _ => simp [isTn, need_zone_ok z]; exact q
end
end Dm
-- text HmEarth2
namespace Dm
open PySem L2
end Dm
-- text HmEarth3
namespace Dm
open PySem L2
section
variable {S : Sto} {p n : Nat} {os : List Int} {s : Int} {zs : Zs} {ts : List Stp}
theorem TbsOK.cons {z : List Int × Int} {t : Tb} {zs : Zs} {tb : List Tb} (h : TabOK z.1 z.2 t.1 t.2) (k : TbsOK zs tb) : TbsOK (z :: zs) (t :: tb) := by
  refine ⟨by simp [k.len], fun p z' t' hz ht => ?_⟩
  cases p with
  | zero =>
    simp at hz ht
    subst hz ht
    exact h
  | succ p =>
    simp at hz ht
    exact k.ok p z' t' hz ht
/-! ### bounds of the values -/
def VB (row : List Kd) (vs : List Int) : Prop := row.length = vs.length ∧ ∀ (i : Nat) (v : Int) (k : Kd), vs[i]? = some v → row[i]? = some k → (-(2000000000000 + 200000 * (i : Int)) ≤ v ∧ v ≤ 2000000000000 + 200000 * i) ∧ (k = .spn → -900 ≤ v ∧ v ≤ 900)
theorem VB.at {row : List Kd} {vs : List Int} (h : VB row vs) {i : Nat} {k : Kd} (hi : row[i]? = some k) : (-(2000000000000 + 200000 * (i : Int)) ≤ getV vs i ∧ getV vs i ≤ 2000000000000 + 200000 * i) ∧ (k = .spn → -900 ≤ getV vs i ∧ getV vs i ≤ 900) ∧ i < vs.length := by
  have hl := (List.getElem?_eq_some_iff.mp hi).1
  rw [h.1] at hl
  exact ⟨(h.2 i _ k (getV_at hl) hi).1, (h.2 i _ k (getV_at hl) hi).2, hl⟩
/-! ### the same numbers -/
end
end Dm
-- text HmRan
namespace Dm
open PySem L2
/-! ### try -/
section
variable {ρ : Rho} {S : Sto} {N B C : Rho → Sto → Prop} {R : D → Sto → Prop} {EO : EXO}
@[simp] theorem does_try {cs : List Str} {hs : List (Str × Option Nat × MS)} {mb : MS} : (mTry cs hs mb ρ S).DoesE EO N R B C = (mb ρ S).DoesE (fun c fs ρ1 S1 => ∃ ns, intFsOf fs = some ns ∧ c ∈ cs ∧ (catchD c fs ns hs ρ1 S1).DoesE EO N R B C) N R B C := by
  unfold mTry
  cases mb ρ S with
  | exc c fs ρ1 S1 =>
    simp only [Out.DoesE]
    cases e : intFsOf fs with
    | none => simp [Out.DoesE, e]
    | some ns =>
      by_cases h : c ∈ cs
      · simp [h, e, Out.DoesE]
      · simp [h, e, Out.DoesE]
  | _ => rfl
@[simp] theorem catch_nil {c : Str} {fs : List (Str × D)} {ns : List (Str × Int)} : (catchD c fs ns [] ρ S).DoesE EO N R B C = EO c fs ρ S := rfl
@[simp] theorem catch_cons {c h : Str} {fs : List (Str × D)} {ns : List (Str × Int)} {oi : Option Nat} {ms : MS} {r : List (Str × Option Nat × MS)} : (catchD c fs ns ((h, oi, ms) :: r) ρ S).DoesE EO N R B C =
    if xSub c h = true then (ms (setI oi ρ (.exn c ns)) S).DoesE (fun _ _ _ _ => False) (fun ρ S => N (clearI oi ρ) S) R (fun ρ S => B (clearI oi ρ) S) (fun ρ S => C (clearI oi ρ) S) else (catchD c fs ns r ρ S).DoesE EO N R B C := by
  rw [catchD]
  by_cases h : xSub c h = true
  · simp only [if_pos h]
    cases ms (setI oi ρ (.exn c ns)) S <;> rfl
  · simp only [if_neg h]
@[simp] theorem gXf_exn {c f : Str} {fs : List (Str × Int)} : gXf c f S (.exn c fs) = (fs.lookup f).map D.int := by simp [gXf]
end
/-! ### repr of pairs -/
/-! ### what becomes of a run -/
end Dm
-- text HmOdd3
namespace Dm
open PySem L2
section
variable {S : Sto} {zs : Zs} {d : D} {ds : List D} {n p : Nat}
theorem gAll_blp {α : Type} (p : α → Bool) (l : List α) : gAll S [.lst (l.map fun x => D.bl (p x))] = some (.bl (l.all p)) := by
  have hb : ∀ l : List α, blsOf (l.map fun x => D.bl (p x)) = some (l.map p) := by
    intro l
    induction l with
    | nil => rfl
    | cons a l ih => rw [List.map_cons, blsOf, ih] <;> rfl
  unfold gAll
  simp only [lstOf_lst, Option.bind_some, hb, Option.map_some]
  congr 2
  rw [List.all_map] <;> rfl
end
end Dm
-- text HmOdd4
namespace Dm
open PySem L2
/-- a row of data, so many at most -/
structure OddL (k : Nat) (ds : List D) : Prop where
  len : ds.length ≤ k
  all : ∀ d, d ∈ ds → OddD d
theorem OddL.one {d : D} (h : OddD d) : OddL 1 [d] := ⟨by simp, fun x hx => by rw [List.mem_singleton.mp hx]; exact h⟩
theorem OddL.tup {k : Nat} {ds : List D} (h : OddL k ds) (hk : k ≤ 1000 := by decide) : OddD (.tup ds) := .tup (Nat.le_trans h.len hk) h.all
theorem OddL.lst {k : Nat} {ds : List D} (h : OddL k ds) (hk : k ≤ 1000 := by decide) : OddD (.lst ds) := .lst (Nat.le_trans h.len hk) h.all
theorem OddL.mono {k m : Nat} {ds : List D} (h : OddL k ds) (hk : k ≤ m) : OddL m ds := ⟨Nat.le_trans h.len hk, h.all⟩
end Dm
-- text HmDet3
namespace Dm
open PySem L2
/-! ### data with a bound for what they hold and for their depth -/
inductive OddK (m : Nat) : Nat → D → Prop
  | non {k : Nat} : OddK m k .non
  | bl {k : Nat} (b : Bool) : OddK m k (.bl b)
  | int {k : Nat} {i : Int} : i.natAbs < 2 ^ m → OddK m k (.int i)
  | str {k : Nat} (x : Str) : OddK m k (.str x)
  | exn {k : Nat} (c : Str) (fs : List (Str × Int)) : OddK m k (.exn c fs)
  | tup {k : Nat} {ds : List D} : ds.length ≤ m → (∀ d, d ∈ ds → OddK m k d) → OddK m (k + 1) (.tup ds)
  | lst {k : Nat} {ds : List D} : ds.length ≤ m → (∀ d, d ∈ ds → OddK m k d) → OddK m (k + 1) (.lst ds)
theorem OddK.odd {m k : Nat} {d : D} (hm : m ≤ 1000) (h : OddK m k d) : OddD d := by
  induction h with
  | non => exact .non
  | bl b => exact .bl b
  | int _ => exact .int _
  | str x => exact .str x
  | exn c fs => exact .exn c fs
  | tup hl _ ih => exact .tup (Nat.le_trans hl hm) ih
  | lst hl _ ih => exact .lst (Nat.le_trans hl hm) ih
theorem OddK.up {m n k l : Nat} {d : D} (h : OddK m k d) (hm : m ≤ n) (hk : k ≤ l) : OddK n l d := by
  induction h generalizing l with
  | non => exact .non
  | bl b => exact .bl b
  | int h => exact .int (Nat.lt_of_lt_of_le h (Nat.pow_le_pow_right (by decide) hm))
  | str x => exact .str x
  | exn c fs => exact .exn c fs
  | tup hl _ ih =>
    obtain ⟨l, rfl⟩ : ∃ l', l = l' + 1 := ⟨l - 1, by omega⟩
    exact .tup (Nat.le_trans hl hm) fun d hd => ih d hd (by omega)
  | lst hl _ ih =>
    obtain ⟨l, rfl⟩ : ∃ l', l = l' + 1 := ⟨l - 1, by omega⟩
    exact .lst (Nat.le_trans hl hm) fun d hd => ih d hd (by omega)
/-! ### an odd value -/
def plainL (b : Int) : List D := [.non, .bl true, .bl false, .str "", .str "early", .str "0", .int 0, .int 1, .int (-1), .int 60, .int 900, .int 901, .int 1000001, .int b, .int (-b)]
theorem at_ex {l : List D} {i : Int} (h0 : 0 ≤ i) (h1 : i < l.length) : ∃ d, atI l i = some d ∧ d ∈ l := by
  have hi : i.toNat < l.length := by omega
  exact ⟨l[i.toNat], by rw [atI_of h0 h1]; exact List.getElem?_eq_getElem hi, List.getElem_mem hi⟩
theorem plain_odd {b : Int} {m k : Nat} (hb : b.natAbs < 2 ^ m) (hm : 30 ≤ m) : ∀ d, d ∈ plainL b → OddK m k d := by
  have c : ∀ i : Int, i.natAbs < 2 ^ 30 → OddK m k (.int i) := fun i hi => .int (Nat.lt_of_lt_of_le hi (Nat.pow_le_pow_right (by decide) hm))
  intro d hd
  unfold plainL at hd
  simp only [List.mem_cons, List.not_mem_nil, or_false] at hd
  rcases hd with rfl | rfl | rfl | rfl | rfl | rfl | rfl | rfl | rfl | rfl | rfl | rfl | rfl | rfl | rfl
  · exact .non
  · exact .bl _
  · exact .bl _
  · exact .str _
  · exact .str _
  · exact .str _
  · exact c _ (by decide)
  · exact c _ (by decide)
  · exact c _ (by decide)
  · exact c _ (by decide)
  · exact c _ (by decide)
  · exact c _ (by decide)
  · exact c _ (by decide)
  · exact .int hb
  · exact .int (by rw [Int.natAbs_neg]; exact hb)
def deepF : Nat → Nat → D → D
  | 0, _, d => d
  | n + 1, t, d => deepF n (t + 1) (if t % 2 = 0 then .tup [d] else .lst [d])
theorem deepF_odd {m : Nat} (hm : 1 ≤ m) : ∀ {n t k : Nat} {d : D}, OddK m k d → OddK m (k + n) (deepF n t d)
  | 0, _, _, _, h => h
  | n + 1, t, k, d, h => by
    rw [deepF]
    have e : k + (n + 1) = (k + 1) + n := by omega
    rw [e]
    refine deepF_odd hm ?_
    have h1 : ∀ x, x ∈ [d] → OddK m k x := fun x hx => by rw [List.mem_singleton.mp hx]; exact h
    split
    · exact .tup hm h1
    · exact .lst hm h1
theorem deep_loop {S : Sto} {a b c e f g R : D} {EO : EXO} {M B C : Rho → Sto → Prop} {Q : D → Sto → Prop} (hM : ∀ y, M [some a, some b, some c, some e, some f, some g, some R, y] S) : ∀ {n t : Nat} {dd : D} {y : Option D}, deepF n t dd = R →
   (forL (tgN 7) (mAsg 6 (mOp gIx (mFz (mLst (mCons (mTup (mCons (mVar 6) mNil)) (mCons (mFz (mLst (mCons (mVar 6) mNil))) mNil)))) (mOp gMod (mVar 7) (mK (.int 2))))) (rngD t n) [some a, some b, some c, some e, some f, some g, some dd, y] S).DoesE EO M Q B C
  | 0, t, dd, y, h => by
    rw [deepF] at h
    subst h
    rw [rngD_nil]
    exact hM y
  | n + 1, t, dd, y, h => by
    have ih := fun (dd : D) (y : Option D) h => deep_loop (EO := EO) (Q := Q) (B := B) (C := C) hM (n := n) (t := t + 1) (dd := dd) (y := y) h
    rw [rngD_cons]
    rw [deepF] at h
    have e1 : ((t : Int) + 1) = ((t + 1 : Nat) : Int) := by omega
    rw [does_forL_cons, e1]
    show Out.DoesE _ _ _ _ _ _
    by_cases c2 : t % 2 = 0
    · have c3 : (t : Int) % 2 = 0 := by omega
      rw [if_pos c2] at h
      generalize rngD ((t + 1 : Nat) : Int) n = L at ih ⊢

      simp [c3, atI, ixN]
      exact ih _ _ h
    · have c3 : (t : Int) % 2 = 1 := by omega
      rw [if_neg c2] at h
      generalize rngD ((t + 1 : Nat) : Int) n = L at ih ⊢

      simp [c3, atI, ixN]
      exact ih _ _ h
end Dm
-- text HmDet3b
set_option maxHeartbeats 1000000
namespace Dm
open PySem L2
/-- what a draw makes of a pot's number, wherever the pot stands -/
def Makes (f : Nat → Sto → Res D) (x : Int) (d : D) (x' : Int) : Prop := ∀ (S : Sto) (p : Nat) (Q : D → Sto → Prop), PotX p x S → (∀ S', Go p S S' → PotX p x' S' → Q d S') → (f p S).Does Q
theorem deep20 {S : Sto} {a b c e f g R dd : D} {y : Option D} {EO : EXO} {M B C : Rho → Sto → Prop} {Q : D → Sto → Prop} {n : Nat} (h : deepF n 0 dd = R) (hM : ∀ y, M [some a, some b, some c, some e, some f, some g, some R, y] S) :
   (forL (tgN 7) (mAsg 6 (mOp gIx (mFz (mLst (mCons (mTup (mCons (mVar 6) mNil)) (mCons (mFz (mLst (mCons (mVar 6) mNil))) mNil)))) (mOp gMod (mVar 7) (mK (.int 2))))) (rngD 0 n) [some a, some b, some c, some e, some f, some g, some dd, y] S).DoesE EO M Q B C := by
  have h2 := deep_loop (n := n) (t := 0) (y := y) (EO := EO) (Q := Q) (B := B) (C := C) hM h
  rw [show ((0 : Nat) : Int) = 0 from rfl] at h2
  exact h2
theorem odd_deep {S : Sto} {a big L d1 d2 R : D} {EO : EXO} {N B C : Rho → Sto → Prop} {Q : D → Sto → Prop} {n : Nat} (hn : n = 20) (hR : deepF n 0 d1 = R) (q : Q R S) :
    ((mSeq (mIfS (mOp gEq (mVar 3) (mK (.int 15))) (mRet (mNew0 "InvalidZone")) mNop) (mSeq (mIfS (mOp gEq (mVar 3) (mK (.int 16))) (mRet (mNewX "Crowded" ["first", "last"] (mCons (mVar 4) (mCons (mVar 5) mNil)))) mNop) (mSeq (mIfS (mOp gEq (mVar 3) (mK (.int 17))) (mRet (mFz (mRepL (mLst (mCons (mVar 4) mNil)) (mK (.int 600))))) mNop) (mSeq (mIfS (mOp gEq (mVar 3) (mK (.int 18))) (mSeq (mAsg 6 (mVar 4)) (mSeq (mFor (iRange1 (mCons (mK (.int 20)) mNil)) (tgN 7) (mAsg 6 (mOp gIx (mFz (mLst (mCons (mTup (mCons (mVar 6) mNil)) (mCons (mFz (mLst (mCons (mVar 6) mNil))) mNil)))) (mOp gMod (mVar 7) (mK (.int 2)))))) (mRet (mVar 6)))) mNop) (mRet (mOp gIx (mFz (mLst (mCons (mFz (mLst mNil)) (mCons (mTup mNil) (mCons (mFz (mLst (mCons (mVar 4) (mCons (mVar 5) mNil)))) (mCons (mTup (mCons (mVar 4) (mCons (mVar 5) mNil))) (mCons (mTup (mCons (mTup (mCons (mVar 4) (mCons (mVar 5) mNil))) (mCons (mK (.int 100)) mNil))) mNil))))))) (mOp gSub (mVar 3) (mK (.int 19))))))))) [some a, some big, some L, some (.int 18), some d1, some d2, none, none] S).DoesE EO N Q B C := by
  refine seq_cut (fun ρ S' => ρ = [some a, some big, some L, some (.int 18), some d1, some d2, none, none] ∧ S = S') (fun M hM => ?_) ?_
  · simp
    exact hM _ _ ⟨rfl, rfl⟩
  rintro ρ _ ⟨rfl, rfl⟩
  refine seq_cut (fun ρ S' => ρ = [some a, some big, some L, some (.int 18), some d1, some d2, none, none] ∧ S = S') (fun M hM => ?_) ?_
  · simp
    exact hM _ _ ⟨rfl, rfl⟩
  rintro ρ _ ⟨rfl, rfl⟩
  refine seq_cut (fun ρ S' => ρ = [some a, some big, some L, some (.int 18), some d1, some d2, none, none] ∧ S = S') (fun M hM => ?_) ?_
  · simp
    exact hM _ _ ⟨rfl, rfl⟩
  rintro ρ _ ⟨rfl, rfl⟩
  have hc : ∀ Q : D → Sto → Prop, Q (.bl true) S → (mOp gEq (mVar 3) (mK (.int 18)) [some a, some big, some L, some (.int 18), some d1, some d2, none, none] S).Does Q := by
    intro Q q
    simp
    exact q
  rw [does_seq, does_ifS]
  refine Res.Does.toE (hc _ ?_)
  show Out.DoesE _ _ _ _ _ _
  refine seq_cut (fun ρ S' => ρ = [some a, some big, some L, some (.int 18), some d1, some d2, some d1, none] ∧ S = S') (fun M hM => ?_) ?_
  · simp
    exact hM _ _ ⟨rfl, rfl⟩
  rintro ρ _ ⟨rfl, rfl⟩
  have hr : ∀ Q : List D → Sto → Prop, Q (rngD 0 20) S → (iRange1 (mCons (mK (.int 20)) mNil) [some a, some big, some L, some (.int 18), some d1, some d2, some d1, none] S).Does Q := by
    intro Q q
    simp
    exact q
  rw [does_seq, does_for]
  refine Res.Does.toE (hr _ ?_)
  show Out.DoesE _ _ _ _ _ _
  rw [← hn]
  refine deep20 hR fun y => ?_
  simp
  exact q
theorem odd_makes (x : Int) {m : Nat} (hm : 600 ≤ m) : ∃ d x', OddK m 20 d ∧ Makes (fun p => m_law_odd_thing [.cell p]) x d x' := by
  have b0 := Int.emod_nonneg x (b := 1000) (by decide)
  have b1 := Int.emod_lt_of_pos x (b := 1000) (by decide)
  have k0 := Int.emod_nonneg (x / 1000) (b := 24) (by decide)
  have k1 := Int.emod_lt_of_pos (x / 1000) (b := 24) (by decide)
  have hb : (1000000000000000000000000000000 + x % 1000).natAbs < 2 ^ m := Nat.lt_of_lt_of_le (Nat.lt_of_lt_of_le (show _ < 2 ^ 101 by
    have : (2 : Nat) ^ 101 = 2535301200456458802993406410752 := by decide +kernel
    omega) (Nat.pow_le_pow_right (by decide) (show 101 ≤ m by omega))) (Nat.le_refl _)
  have po : ∀ k d, d ∈ plainL (1000000000000000000000000000000 + x % 1000) → OddK m k d := fun k => plain_odd hb (by omega)
  obtain ⟨d1, e1, i1⟩ := at_ex (l := plainL (1000000000000000000000000000000 + x % 1000)) (i := x / 1000 / 24 % 15) (Int.emod_nonneg _ (by decide)) (Int.emod_lt_of_pos _ (by decide))
  obtain ⟨d2, e2, i2⟩ := at_ex (l := plainL (1000000000000000000000000000000 + x % 1000)) (i := x / 1000 / 24 / 15 % 15) (Int.emod_nonneg _ (by decide)) (Int.emod_lt_of_pos _ (by decide))
  by_cases c : x / 1000 % 24 < 15
  · obtain ⟨d0, e0, i0⟩ := at_ex (l := plainL (1000000000000000000000000000000 + x % 1000)) (i := x / 1000 % 24) k0 c
    refine ⟨d0, x / 1000 / 24, po _ _ i0, fun S p Q hp q => ?_⟩
    refine does_def rfl ?_
    refine seq_cut (fun ρ S' => ρ = [some (.cell p), some (.int (1000000000000000000000000000000 + x % 1000)), none, none, none, none, none, none] ∧ Go p S S' ∧ PotX p (x / 1000) S') (fun M hM => ?_) ?_
    · simp
      refine draw_x hp (by decide) (by decide) fun r S1 g1 p1 er _ _ => ?_
      subst er
      simp
      exact hM _ _ ⟨rfl, g1, p1⟩
    rintro ρ S1 ⟨rfl, g1, p1⟩
    refine seq_cut (fun ρ S' => ρ = [some (.cell p), some (.int (1000000000000000000000000000000 + x % 1000)), some (.lst (plainL (1000000000000000000000000000000 + x % 1000))), none, none, none, none, none] ∧ S' = S1) (fun M hM => ?_) ?_
    · simp
      exact hM _ _ ⟨rfl, rfl⟩
    rintro ρ _ ⟨rfl, rfl⟩
    generalize plainL (1000000000000000000000000000000 + x % 1000) = L at e0
    simp
    refine draw_x p1 (by decide) (by decide) fun r S2 g2 p2 er _ _ => ?_
    subst er
    simp [c, e0]
    exact q _ (g1.trans g2) p2
  · have o1 : ∀ k, OddK m k d1 := fun k => po k d1 i1
    have o2 : ∀ k, OddK m k d2 := fun k => po k d2 i2
    have two : ∀ k d, d ∈ [d1, d2] → OddK m k d := fun k d hd => by
      simp only [List.mem_cons, List.not_mem_nil, or_false] at hd
      rcases hd with rfl | rfl
      · exact o1 k
      · exact o2 k
    have go : ∀ d, (∀ (S0 S : Sto) (p : Nat) (Q : D → Sto → Prop) (big L : D) (EO : EXO) (N B C : Rho → Sto → Prop), Go p S0 S → PotX p (x / 1000 / 24 / 15 / 15) S → (∀ S', Go p S0 S' → PotX p (x / 1000 / 24 / 15 / 15) S' → Q d S') →
        ((mSeq (mIfS (mOp gEq (mVar 3) (mK (.int 15))) (mRet (mNew0 "InvalidZone")) mNop) (mSeq (mIfS (mOp gEq (mVar 3) (mK (.int 16))) (mRet (mNewX "Crowded" ["first", "last"] (mCons (mVar 4) (mCons (mVar 5) mNil)))) mNop) (mSeq (mIfS (mOp gEq (mVar 3) (mK (.int 17))) (mRet (mFz (mRepL (mLst (mCons (mVar 4) mNil)) (mK (.int 600))))) mNop) (mSeq (mIfS (mOp gEq (mVar 3) (mK (.int 18))) (mSeq (mAsg 6 (mVar 4)) (mSeq (mFor (iRange1 (mCons (mK (.int 20)) mNil)) (tgN 7) (mAsg 6 (mOp gIx (mFz (mLst (mCons (mTup (mCons (mVar 6) mNil)) (mCons (mFz (mLst (mCons (mVar 6) mNil))) mNil)))) (mOp gMod (mVar 7) (mK (.int 2)))))) (mRet (mVar 6)))) mNop) (mRet (mOp gIx (mFz (mLst (mCons (mFz (mLst mNil)) (mCons (mTup mNil) (mCons (mFz (mLst (mCons (mVar 4) (mCons (mVar 5) mNil)))) (mCons (mTup (mCons (mVar 4) (mCons (mVar 5) mNil))) (mCons (mTup (mCons (mTup (mCons (mVar 4) (mCons (mVar 5) mNil))) (mCons (mK (.int 100)) mNil))) mNil))))))) (mOp gSub (mVar 3) (mK (.int 19))))))))) [some (.cell p), some big, some L, some (.int (x / 1000 % 24)), some d1, some d2, none, none] S).DoesE EO N Q B C) →
        Makes (fun p => m_law_odd_thing [.cell p]) x d (x / 1000 / 24 / 15 / 15) := by
      intro d h S p Q hp q
      refine does_def rfl ?_
      refine seq_cut (fun ρ S' => ρ = [some (.cell p), some (.int (1000000000000000000000000000000 + x % 1000)), none, none, none, none, none, none] ∧ Go p S S' ∧ PotX p (x / 1000) S') (fun M hM => ?_) ?_
      · simp
        refine draw_x hp (by decide) (by decide) fun r S1 g1 p1 er _ _ => ?_
        subst er
        simp
        exact hM _ _ ⟨rfl, g1, p1⟩
      rintro ρ S1 ⟨rfl, g1, p1⟩
      refine seq_cut (fun ρ S' => ρ = [some (.cell p), some (.int (1000000000000000000000000000000 + x % 1000)), some (.lst (plainL (1000000000000000000000000000000 + x % 1000))), none, none, none, none, none] ∧ S' = S1) (fun M hM => ?_) ?_
      · simp
        exact hM _ _ ⟨rfl, rfl⟩
      rintro ρ _ ⟨rfl, rfl⟩
      generalize plainL (1000000000000000000000000000000 + x % 1000) = L at e1 e2
      refine seq_cut (fun ρ S' => ρ = [some (.cell p), some (.int (1000000000000000000000000000000 + x % 1000)), some (.lst L), some (.int (x / 1000 % 24)), none, none, none, none] ∧ Go p S S' ∧ PotX p (x / 1000 / 24) S') (fun M hM => ?_) ?_
      · simp
        refine draw_x p1 (by decide) (by decide) fun r S2 g2 p2 er _ _ => ?_
        subst er
        exact hM _ _ ⟨rfl, g1.trans g2, p2⟩
      rintro ρ S2 ⟨rfl, g2, p2⟩
      refine seq_cut (fun ρ S' => ρ = [some (.cell p), some (.int (1000000000000000000000000000000 + x % 1000)), some (.lst L), some (.int (x / 1000 % 24)), none, none, none, none] ∧ S' = S2) (fun M hM => ?_) ?_
      · simp [c]
        exact hM _ _ ⟨rfl, rfl⟩
      rintro ρ _ ⟨rfl, rfl⟩
      refine seq_cut (fun ρ S' => ρ = [some (.cell p), some (.int (1000000000000000000000000000000 + x % 1000)), some (.lst L), some (.int (x / 1000 % 24)), some d1, none, none, none] ∧ Go p S S' ∧ PotX p (x / 1000 / 24 / 15) S') (fun M hM => ?_) ?_
      · simp
        refine draw_x p2 (by decide) (by decide) fun r S3 g3 p3 er _ _ => ?_
        subst er
        simp [e1]
        exact hM _ _ ⟨rfl, g2.trans g3, p3⟩
      rintro ρ S3 ⟨rfl, g3, p3⟩
      refine seq_cut (fun ρ S' => ρ = [some (.cell p), some (.int (1000000000000000000000000000000 + x % 1000)), some (.lst L), some (.int (x / 1000 % 24)), some d1, some d2, none, none] ∧ Go p S S' ∧ PotX p (x / 1000 / 24 / 15 / 15) S') (fun M hM => ?_) ?_
      · simp
        refine draw_x p3 (by decide) (by decide) fun r S4 g4 p4 er _ _ => ?_
        subst er
        simp [e2]
        exact hM _ _ ⟨rfl, g3.trans g4, p4⟩
      rintro ρ S4 ⟨rfl, g4, p4⟩
      exact h S S4 p Q _ _ _ _ _ _ g4 p4 q
    generalize x / 1000 % 24 = kind at *
    have e : kind = 15 ∨ kind = 16 ∨ kind = 17 ∨ kind = 18 ∨ kind = 19 ∨ kind = 20 ∨ kind = 21 ∨ kind = 22 ∨ kind = 23 := by omega
    rcases e with e | e | e | e | e | e | e | e | e <;> subst e
    · refine ⟨.exn "InvalidZone" [], _, .exn _ _, go _ fun S0 S p Q big L EO N B C g hp q => ?_⟩
      simp
      exact q _ g hp
    · refine ⟨.exn "Crowded" (newFs ["first", "last"] [d1, d2]), _, .exn _ _, go _ fun S0 S p Q big L EO N B C g hp q => ?_⟩
      simp
      exact q _ g hp
    · refine ⟨.lst (List.replicate 600 d1), _, .lst (by simpa using hm) (fun d hd => by rw [List.eq_of_mem_replicate hd]; exact o1 _), go _ fun S0 S p Q big L EO N B C g hp q => ?_⟩
      simp
      exact q _ g hp
    · obtain ⟨n, hn⟩ : ∃ n : Nat, n = 20 := ⟨_, rfl⟩
      obtain ⟨R, hR, oR⟩ : ∃ R, deepF n 0 d1 = R ∧ OddK m 20 R := ⟨_, rfl, by have := deepF_odd (m := m) (n := n) (t := 0) (by omega) (o1 0); rw [Nat.zero_add] at this; rw [← hn]; exact this⟩
      refine ⟨R, _, oR, go _ fun S0 S p Q big L EO N B C g hp q => ?_⟩
      exact odd_deep hn hR (q _ g hp)
    · refine ⟨.lst [], _, .lst (by simp) (fun d hd => nomatch hd), go _ fun S0 S p Q big L EO N B C g hp q => ?_⟩
      simp [atI, ixN]
      exact q _ g hp
    · refine ⟨.tup [], _, .tup (by simp) (fun d hd => nomatch hd), go _ fun S0 S p Q big L EO N B C g hp q => ?_⟩
      simp [atI, ixN]
      exact q _ g hp
    · refine ⟨.lst [d1, d2], _, .lst (by simp; omega) (two _), go _ fun S0 S p Q big L EO N B C g hp q => ?_⟩
      simp [atI, ixN]
      exact q _ g hp
    · refine ⟨.tup [d1, d2], _, .tup (by simp; omega) (two _), go _ fun S0 S p Q big L EO N B C g hp q => ?_⟩
      simp [atI, ixN]
      exact q _ g hp
    · refine ⟨.tup [.tup [d1, d2], .int 100], _, .tup (by simp; omega) (fun d hd => ?_), go _ fun S0 S p Q big L EO N B C g hp q => ?_⟩
      · simp only [List.mem_cons, List.not_mem_nil, or_false] at hd
        rcases hd with rfl | rfl
        · exact .tup (by simp; omega) (two _)
        · exact .int (Nat.lt_of_lt_of_le (show _ < 2 ^ 30 by decide) (Nat.pow_le_pow_right (by decide) (by omega)))
      · simp [atI, ixN]
        exact q _ g hp
end Dm
-- text HmDet4
set_option maxHeartbeats 1000000
namespace Dm
open PySem L2
/-! ### one thing put otherwise -/
theorem ifS_no {ρ : Rho} {S : Sto} {c : ME} {a b : MS} {EO : EXO} {N B C : Rho → Sto → Prop} {R : D → Sto → Prop} (h : ∀ Q : D → Sto → Prop, Q (.bl false) S → (c ρ S).Does Q) (k : (b ρ S).DoesE EO N R B C) : (mSeq (mIfS c a mNop) b ρ S).DoesE EO N R B C := by
  rw [does_seq, does_ifS]
  exact Res.Does.toE (h _ k)
theorem ifS_yes {ρ : Rho} {S : Sto} {c : ME} {a b : MS} {EO : EXO} {N B C : Rho → Sto → Prop} {R : D → Sto → Prop} (h : ∀ Q : D → Sto → Prop, Q (.bl true) S → (c ρ S).Does Q) (k : (a ρ S).DoesE EO (fun ρ S => (b ρ S).DoesE EO N R B C) R B C) : (mSeq (mIfS c a mNop) b ρ S).DoesE EO N R B C := by
  rw [does_seq, does_ifS]
  exact Res.Does.toE (h _ k)
theorem is_whole_law {S : Sto} {d : D} (h : OddD d) : m_law_whole [d] S = .ok (.bl (isI d)) S := by
  unfold m_law_whole
  cases h <;> rfl
theorem cutK_hi {ds : List D} {a : Int} (h : 0 ≤ a) : (cutD ds none (some a)).length ≤ a.toNat := by
  rw [cut_take h]; simp; omega
theorem cutK_lo {ds : List D} {a : Int} (h : 0 ≤ a) : (cutD ds (some a) none).length ≤ ds.length - a.toNat := by
  rw [cut_drop h]; simp
theorem cutK_mid {ds : List D} {a b : Int} (h : 0 ≤ a) (hb : 0 ≤ b) : (cutD ds (some a) (some b)).length ≤ b.toNat - a.toNat := by
  unfold cutD
  have e1 : HT.sIx ds.length 0 (some a) = min a.toNat ds.length := by
    show (if a < 0 then _ else min a.toNat ds.length) = _
    rw [if_neg (by omega)]
  have e2 : HT.sIx ds.length ds.length (some b) = min b.toNat ds.length := by
    show (if b < 0 then _ else min b.toNat ds.length) = _
    rw [if_neg (by omega)]
  rw [e1, e2]
  simp
  omega
def bentL (i : Int) : List D := [.int (i + 1), .int (i - 1), .int (-i), .int (i + 60), .str (Str.ofString (Int.repr i)), .bl (i == 1), .lst [.int i], .tup [.int i], .int (i + 1000000)]
theorem log2_small {i : Int} {m : Nat} (h : i.natAbs < 2 ^ m) (hm : m < 1000) : i.natAbs.log2 < 1920 := by
  by_cases c : i.natAbs = 0
  · rw [c]; decide
  · exact (Nat.log2_lt c).mpr (Nat.lt_of_lt_of_le h (Nat.pow_le_pow_right (by decide) (by omega)))
theorem bentL_odd {i : Int} {m k : Nat} (h : i.natAbs < 2 ^ m) (hm : 30 ≤ m) (hk : 1 ≤ k) : ∀ d, d ∈ bentL i → OddK (m + 1) k d := by
  have e : (2 : Nat) ^ (m + 1) = 2 ^ m + 2 ^ m := by rw [Nat.pow_succ]; omega
  have b : (2 : Nat) ^ 30 ≤ 2 ^ m := Nat.pow_le_pow_right (by decide) hm
  have b' : (2 : Nat) ^ 30 = 1073741824 := by decide
  obtain ⟨k, rfl⟩ : ∃ k', k = k' + 1 := ⟨k - 1, by omega⟩
  have one : ∀ x, x ∈ [D.int i] → OddK (m + 1) k x := fun x hx => by rw [List.mem_singleton.mp hx]; exact .int (by omega)
  intro d hd
  unfold bentL at hd
  simp only [List.mem_cons, List.not_mem_nil, or_false] at hd
  rcases hd with rfl | rfl | rfl | rfl | rfl | rfl | rfl | rfl | rfl
  · exact .int (by omega)
  · exact .int (by omega)
  · exact .int (by omega)
  · exact .int (by omega)
  · exact .str _
  · exact .bl _
  · exact .lst (by simp) one
  · exact .tup (by simp) one
  · exact .int (by omega)
theorem bend_makes : ∀ {n : Nat} (x : Int) {m k : Nat} {d : D} {deep : Nat}, 600 ≤ m → m < 1000 → OddK m k d → deep < n → deep + 21 ≤ k →
    ∃ d' x', OddK (m + 1) k d' ∧ Makes (fun p => m_law_bend_v2 n [.cell p, d, .int (deep : Int)]) x d' x'
  | 0, _, _, _, _, _, _, _, _, h, _ => absurd h (Nat.not_lt_zero _)
  | n + 1, x, m, k, d, deep, hm, hm2, hd, hn, hk => by
    have w0 := Int.emod_nonneg x (b := 12) (by decide)
    have w1 := Int.emod_lt_of_pos x (b := 12) (by decide)
    have hod : OddD d := hd.odd (by omega)
    cases hd with
    | @tup k ds hl hall =>
      have l0 : (0 : Int) < (ds.length : Int) + 1 := by omega
      have at0 := Int.emod_nonneg (x / 12) (b := (ds.length : Int) + 1) (by omega)
      have at1 := Int.emod_lt_of_pos (x / 12) l0
      have mem : ∀ {lo hi : Option Int} (y : D), y ∈ cutD ds lo hi → OddK (m + 1) k y := fun y hy => (hall y (cut_mem hy)).up (by omega) (by omega)
      by_cases c : deep = 0 ∨ ds.length = 0 ∨ 5 < x % 12
      · have pre : ∀ d' x', (∀ (S0 S : Sto) (p : Nat) (Q : D → Sto → Prop) (EO : EXO) (N B C : Rho → Sto → Prop), Go p S0 S → PotX p (x / 12 / ((ds.length : Int) + 1)) S → (∀ S', Go p S0 S' → PotX p x' S' → Q d' S') →
            ((mSeq (mIfS (mOr (mOp gEq (mVar 3) (mK (.int 6))) (mOp gEq (mVar 3) (mK (.int 0)))) (mRet (mOp gAdd (mSlT (mVar 1) mNoPart (mPart (mVar 4))) (mSlT (mVar 1) (mPart (mOp gAdd (mVar 4) (mK (.int 1)))) mNoPart))) mNop) (mSeq (mIfS (mOr (mOp gEq (mVar 3) (mK (.int 7))) (mOp gEq (mVar 3) (mK (.int 1)))) (mRet (mOp gAdd (mOp gAdd (mSlT (mVar 1) mNoPart (mPart (mVar 4))) (mSlT (mVar 1) (mPart (mVar 4)) (mPart (mOp gAdd (mVar 4) (mK (.int 1)))))) (mSlT (mVar 1) (mPart (mVar 4)) mNoPart))) mNop) (mSeq (mIfS (mOr (mOp gEq (mVar 3) (mK (.int 8))) (mOp gEq (mVar 3) (mK (.int 2)))) (mRet (mFz (mCallBL gList (mCons (mVar 1) mNil)))) mNop) (mSeq (mIfS (mOr (mOp gEq (mVar 3) (mK (.int 9))) (mOp gEq (mVar 3) (mK (.int 3)))) (mRet (mOp gAdd (mSlT (mVar 1) mNoPart (mPart (mVar 4))) (mBackA (mSlT (mVar 1) (mPart (mVar 4)) mNoPart)))) mNop) (mSeq (mIfS (mOp gEq (mVar 3) (mK (.int 10))) (mRet (mOp gAdd (mOp gAdd (mSlT (mVar 1) (mPart (mK (.int 1))) (mPart (mOp gAdd (mVar 4) (mK (.int 1))))) (mSlT (mVar 1) mNoPart (mPart (mK (.int 1))))) (mSlT (mVar 1) (mPart (mOp gAdd (mVar 4) (mK (.int 1)))) mNoPart))) mNop) (mRet (mOp gAdd (mOp gAdd (mSlT (mVar 1) mNoPart (mPart (mVar 4))) (mTup (mCons (mCall m_law_odd_thing (mCons (mVar 0) mNil)) mNil))) (mSlT (mVar 1) (mPart (mVar 4)) mNoPart)))))))) [some (.cell p), some (.tup ds), some (.int (deep : Int)), some (.int (x % 12)), some (.int (x / 12 % ((ds.length : Int) + 1))), none] S).DoesE EO N Q B C) →
            Makes (fun p => m_law_bend_v2 (n + 1) [.cell p, .tup ds, .int (deep : Int)]) x d' x' := by
          intro d' x' h S p Q hp q
          refine does_def rfl ?_
          refine seq_cut (fun ρ S' => ρ = [some (.cell p), some (.tup ds), some (.int (deep : Int)), some (.int (x % 12)), none, none] ∧ Go p S S' ∧ PotX p (x / 12) S') (fun M hM => ?_) ?_
          · simp
            refine draw_x hp (by decide) (by decide) fun r S1 g1 p1 er _ _ => ?_
            subst er
            exact hM _ _ ⟨rfl, g1, p1⟩
          rintro ρ S1 ⟨rfl, g1, p1⟩
          have test : ∀ Q : D → Sto → Prop, Q (.bl true) S1 → (mAnd (mIsi .tup (mVar 1)) (mOr (mOp gEq (mVar 2) (mK (.int 0))) (mOr (mOp gEq (mCallB gLen (mCons (mVar 1) mNil)) (mK (.int 0))) (mOp gGt (mVar 3) (mK (.int 5))))) [some (.cell p), some (.tup ds), some (.int (deep : Int)), some (.int (x % 12)), none, none] S1).Does Q := by
            intro Q q
            by_cases c1 : deep = 0
            · subst c1
              simp [isTn]
              exact q
            · have c1' : ¬ (deep : Int) = 0 := by omega
              by_cases c2 : ds = []
              · subst c2
                simp [isTn, c1, c1']
                exact q
              · have c3 : 5 < x % 12 := by
                  rcases c with c | c | c
                  · exact absurd c c1
                  · exact absurd (List.length_eq_zero_iff.mp c) c2
                  · exact c
                have c2' : ¬ (ds.length : Int) = 0 := by
                  have : ds.length ≠ 0 := fun h => c2 (List.length_eq_zero_iff.mp h)
                  omega
                simp [isTn, c1, c1', c2, c2', c3]
                exact q
          rw [does_seq, does_ifS]
          refine Res.Does.toE (test _ ?_)
          show Out.DoesE _ _ _ _ _ _
          refine seq_cut (fun ρ S' => ρ = [some (.cell p), some (.tup ds), some (.int (deep : Int)), some (.int (x % 12)), some (.int (x / 12 % ((ds.length : Int) + 1))), none] ∧ Go p S S' ∧ PotX p (x / 12 / ((ds.length : Int) + 1)) S') (fun M hM => ?_) ?_
          · simp
            refine draw_x p1 l0 (by omega) fun r S2 g2 p2 er _ _ => ?_
            subst er
            exact hM _ _ ⟨rfl, g1.trans g2, p2⟩
          rintro ρ S2 ⟨rfl, g2, p2⟩
          exact h S S2 p Q _ _ _ _ g2 p2 q
        generalize x / 12 % ((ds.length : Int) + 1) = a at *
        have ya := odd_makes (x / 12 / ((ds.length : Int) + 1)) hm
        generalize x / 12 / ((ds.length : Int) + 1) = y at *
        have lh := cutK_hi (ds := ds) at0
        have ll := cutK_lo (ds := ds) at0
        have lh1 := cutK_lo (ds := ds) (a := a + 1) (by omega)
        have lm := cutK_mid (ds := ds) (a := a) (b := a + 1) at0 (by omega)
        have l1 := cutK_mid (ds := ds) (a := 1) (b := a + 1) (by decide) (by omega)
        have l2 := cutK_hi (ds := ds) (a := 1) (by decide)
        have lw := cut_len (ds := ds) (lo := none) (hi := some 1)
        have lA : (cutD ds none (some a) ++ cutD ds (some (a + 1)) none).length ≤ m + 1 := by rw [List.length_append]; omega
        have lB : (cutD ds none (some a) ++ (cutD ds (some a) (some (a + 1)) ++ cutD ds (some a) none)).length ≤ m + 1 := by rw [List.length_append, List.length_append]; omega
        have lE : (cutD ds none (some a) ++ (cutD ds (some a) none).reverse).length ≤ m + 1 := by rw [List.length_append, List.length_reverse]; omega
        have lG : (cutD ds (some 1) (some (a + 1)) ++ (cutD ds none (some 1) ++ cutD ds (some (a + 1)) none)).length ≤ m + 1 := by rw [List.length_append, List.length_append]; omega
        have lZ : ∀ o : D, (cutD ds none (some a) ++ (o :: cutD ds (some a) none)).length ≤ m + 1 := fun o => by rw [List.length_append, List.length_cons]; omega
        clear lh ll lh1 lm l1 l2 lw
        have h1 := cut_len (ds := ds) (lo := none) (hi := some a)
        have h2 := cut_len (ds := ds) (lo := some a) (hi := none)
        have h3 := cut_len (ds := ds) (lo := some (a + 1)) (hi := none)
        have h4 := cut_len (ds := ds) (lo := some a) (hi := some (a + 1))
        have h5 := cut_len (ds := ds) (lo := some 1) (hi := some (a + 1))
        have h6 := cut_len (ds := ds) (lo := none) (hi := some 1)
        clear at0 at1 l0 hn
        have app : ∀ {a b : List D}, (∀ y, y ∈ a → OddK (m + 1) k y) → (∀ y, y ∈ b → OddK (m + 1) k y) → ∀ y, y ∈ a ++ b → OddK (m + 1) k y := fun h1 h2 y hy => (List.mem_append.mp hy).elim (h1 y) (h2 y)
        clear c
        have A : x % 12 = 0 ∨ x % 12 = 6 → ∃ d' x', OddK (m + 1) (k + 1) d' ∧ Makes (fun p => m_law_bend_v2 (n + 1) [.cell p, .tup ds, .int (deep : Int)]) x d' x' := fun hw => ⟨.tup (cutD ds none (some a) ++ cutD ds (some (a + 1)) none), y, .tup lA (app mem mem), pre _ _ fun S0 S p Q EO N B C g hp q => by
          rcases hw with hw | hw <;> (rw [hw]; refine ifS_yes (fun Q q => by simp; exact q) ?_; (simp; (repeat' (first | exact q _ g hp | refine ⟨?_, ?_⟩ | omega))))⟩
        have B : x % 12 = 1 ∨ x % 12 = 7 → ∃ d' x', OddK (m + 1) (k + 1) d' ∧ Makes (fun p => m_law_bend_v2 (n + 1) [.cell p, .tup ds, .int (deep : Int)]) x d' x' := fun hw => ⟨.tup (cutD ds none (some a) ++ (cutD ds (some a) (some (a + 1)) ++ cutD ds (some a) none)), y, .tup lB (app mem (app mem mem)), pre _ _ fun S0 S p Q EO N B C g hp q => by
          rcases hw with hw | hw <;> (rw [hw]; refine ifS_no (fun Q q => by simp; exact q) ?_; refine ifS_yes (fun Q q => by simp; exact q) ?_; (simp; (repeat' (first | exact q _ g hp | refine ⟨?_, ?_⟩ | omega))))⟩
        have C : x % 12 = 2 ∨ x % 12 = 8 → ∃ d' x', OddK (m + 1) (k + 1) d' ∧ Makes (fun p => m_law_bend_v2 (n + 1) [.cell p, .tup ds, .int (deep : Int)]) x d' x' := fun hw => ⟨.lst ds, y, .lst (by omega) (fun y hy => (hall y hy).up (by omega) (by omega)), pre _ _ fun S0 S p Q EO N B C g hp q => by
          rcases hw with hw | hw <;> (rw [hw]; refine ifS_no (fun Q q => by simp; exact q) ?_; refine ifS_no (fun Q q => by simp; exact q) ?_; refine ifS_yes (fun Q q => by simp; exact q) ?_; (simp; (repeat' (first | exact q _ g hp | refine ⟨?_, ?_⟩ | omega))))⟩
        have E : x % 12 = 3 ∨ x % 12 = 9 → ∃ d' x', OddK (m + 1) (k + 1) d' ∧ Makes (fun p => m_law_bend_v2 (n + 1) [.cell p, .tup ds, .int (deep : Int)]) x d' x' := fun hw => ⟨.tup (cutD ds none (some a) ++ (cutD ds (some a) none).reverse), y, .tup lE (app mem fun y hy => mem y (List.mem_reverse.mp hy)), pre _ _ fun S0 S p Q EO N B C g hp q => by
          rcases hw with hw | hw <;> (rw [hw]; refine ifS_no (fun Q q => by simp; exact q) ?_; refine ifS_no (fun Q q => by simp; exact q) ?_; refine ifS_no (fun Q q => by simp; exact q) ?_; refine ifS_yes (fun Q q => by simp; exact q) ?_; (simp; (repeat' (first | exact q _ g hp | refine ⟨?_, ?_⟩ | omega))))⟩
        have G : x % 12 = 10 → ∃ d' x', OddK (m + 1) (k + 1) d' ∧ Makes (fun p => m_law_bend_v2 (n + 1) [.cell p, .tup ds, .int (deep : Int)]) x d' x' := fun hw => ⟨.tup (cutD ds (some 1) (some (a + 1)) ++ (cutD ds none (some 1) ++ cutD ds (some (a + 1)) none)), y, .tup lG (app mem (app mem mem)), pre _ _ fun S0 S p Q EO N B C g hp q => by
          (rw [hw]; refine ifS_no (fun Q q => by simp; exact q) ?_; refine ifS_no (fun Q q => by simp; exact q) ?_; refine ifS_no (fun Q q => by simp; exact q) ?_; refine ifS_no (fun Q q => by simp; exact q) ?_; refine ifS_yes (fun Q q => by simp; exact q) ?_; (simp; (repeat' (first | exact q _ g hp | refine ⟨?_, ?_⟩ | omega))))⟩
        have Z : x % 12 = 4 ∨ x % 12 = 5 ∨ x % 12 = 11 → ∃ d' x', OddK (m + 1) (k + 1) d' ∧ Makes (fun p => m_law_bend_v2 (n + 1) [.cell p, .tup ds, .int (deep : Int)]) x d' x' := fun hw => by
          obtain ⟨o, x3, ho, mo⟩ := ya
          refine ⟨.tup (cutD ds none (some a) ++ (o :: cutD ds (some a) none)), x3, .tup (lZ o) (app mem fun y hy => ?_), pre _ _ fun S0 S p Q EO N B C g hp q => ?_⟩
          · rcases List.mem_cons.mp hy with rfl | hy
            · exact ho.up (by omega) (by omega)
            · exact mem y hy
          · rcases hw with hw | hw | hw <;> (rw [hw]; refine ifS_no (fun Q q => by simp; exact q) ?_; refine ifS_no (fun Q q => by simp; exact q) ?_; refine ifS_no (fun Q q => by simp; exact q) ?_; refine ifS_no (fun Q q => by simp; exact q) ?_; refine ifS_no (fun Q q => by simp; exact q) ?_; simp; refine Res.Does.toE (mo _ _ _ hp fun S' g' p' => ?_); (repeat' (first | exact q _ (g.trans g') p' | refine ⟨?_, ?_⟩ | omega)))
        have e : x % 12 = 0 ∨ x % 12 = 1 ∨ x % 12 = 2 ∨ x % 12 = 3 ∨ x % 12 = 4 ∨ x % 12 = 5 ∨ x % 12 = 6 ∨ x % 12 = 7 ∨ x % 12 = 8 ∨ x % 12 = 9 ∨ x % 12 = 10 ∨ x % 12 = 11 := by omega
        rcases e with e | e | e | e | e | e | e | e | e | e | e | e
        · exact A (.inl e)
        · exact B (.inl e)
        · exact C (.inl e)
        · exact E (.inl e)
        · exact Z (.inl e)
        · exact Z (.inr (.inl e))
        · exact A (.inr e)
        · exact B (.inr e)
        · exact C (.inr e)
        · exact E (.inr e)
        · exact G e
        · exact Z (.inr (.inr e))
      · have c1 : ¬ deep = 0 := fun h => c (.inl h)
        have c2 : ¬ ds.length = 0 := fun h => c (.inr (.inl h))
        have c3 : ¬ 5 < x % 12 := fun h => c (.inr (.inr h))
        obtain ⟨deep, rfl⟩ : ∃ e, deep = e + 1 := ⟨deep - 1, by omega⟩
        have a0 := Int.emod_nonneg (x / 12) (b := (ds.length : Int)) (by omega)
        have a1 := Int.emod_lt_of_pos (x / 12) (b := (ds.length : Int)) (by omega)
        obtain ⟨e, he, me⟩ := at_ex a0 a1
        obtain ⟨o, x3, ho, mo⟩ := bend_makes (x / 12 / (ds.length : Int)) (deep := deep) hm hm2 (hall e me) (show deep < n by omega) (by omega)
        have mem' : ∀ {lo hi : Option Int} (y : D), y ∈ cutD ds lo hi → OddK (m + 1) k y := fun y hy => (hall y (cut_mem hy)).up (by omega) (by omega)
        have lh := cutK_hi (ds := ds) a0
        have lh1 := cutK_lo (ds := ds) (a := x / 12 % (ds.length : Int) + 1) (by omega)
        refine ⟨.tup (cutD ds none (some (x / 12 % (ds.length : Int))) ++ (o :: cutD ds (some (x / 12 % (ds.length : Int) + 1)) none)), x3, ?_, fun S p Q hp q => ?_⟩
        · refine .tup (by rw [List.length_append, List.length_cons]; omega) fun y hy => ?_
          rcases List.mem_append.mp hy with hy | hy
          · exact mem' y hy
          · rcases List.mem_cons.mp hy with rfl | hy
            · exact ho.up (by omega) (by omega)
            · exact mem' y hy
        · have c1' : ¬ ((deep : Int) + 1 = 0) := by omega
          have c2' : ¬ ds = [] := fun h => c2 (by rw [h]; rfl)
          have c2'' : ¬ (ds.length : Int) = 0 := by omega
          have c2p : 0 < (ds.length : Int) := by omega
          refine does_def rfl ?_
          simp [isTn]
          refine draw_x hp (by decide) (by decide) fun r S1 g1 p1 er _ _ => ?_
          subst er
          simp [isTn, c1', c2', c2'', c3]
          refine draw_x p1 c2p (by omega) fun r S2 g2 p2 er _ _ => ?_
          subst er
          simp [isTn, he]
          refine mo _ _ _ p2 fun S' g' p' => ?_
          exact ⟨by omega, by omega, q _ (g1.trans (g2.trans g')) p'⟩
    | @int k i hi =>
      by_cases c : x % 12 < 9
      · obtain ⟨o, eo, io⟩ := at_ex (l := bentL i) w0 c
        refine ⟨o, x / 12, bentL_odd hi (by omega) (by omega) o io, fun S p Q hp q => ?_⟩
        have hlog := log2_small hi (by omega)
        refine does_def rfl ?_
        unfold bentL at eo
        simp [isTn]
        refine draw_x hp (by decide) (by decide) fun r S1 g1 p1 er _ _ => ?_
        subst er
        simp [isTn, is_whole_law hod, isI, gStrI, hlog]
        rw [if_pos c, eo]
        exact q _ g1 p1
      · obtain ⟨o, x2, ho, mo⟩ := odd_makes (x / 12) hm
        refine ⟨o, x2, ho.up (by omega) (by omega), fun S p Q hp q => ?_⟩
        refine does_def rfl ?_
        simp [isTn]
        refine draw_x hp (by decide) (by decide) fun r S1 g1 p1 er _ _ => ?_
        subst er
        simp [isTn, is_whole_law hod, isI, c]
        exact mo _ _ _ p1 fun S' g' p' => q _ (g1.trans g') p'
    | non =>
      obtain ⟨o, x2, ho, mo⟩ := odd_makes (x / 12) hm
      refine ⟨o, x2, ho.up (by omega) (by omega), fun S p Q hp q => ?_⟩
      refine does_def rfl ?_
      refine seq_cut (fun ρ S' => ∃ y, ρ = [some (.cell p), some (.non), some (.int (deep : Int)), some (.int y), none, none] ∧ Go p S S' ∧ PotX p (x / 12) S') (fun M hM => ?_) ?_
      · simp
        refine draw_x hp (by decide) (by decide) fun r S1 g1 p1 er _ _ => ?_
        exact hM _ _ ⟨_, rfl, g1, p1⟩
      rintro ρ S1 ⟨y, rfl, g1, p1⟩
      refine ifS_no (fun Q q => by simp [isTn]; exact q) ?_
      refine ifS_no (fun Q q => by simp [isTn]; exact q) ?_
      refine ifS_no (fun Q q => by simp [is_whole_law hod, isI]; exact q) ?_
      simp
      exact mo _ _ _ p1 fun S' g' p' => q _ (g1.trans g') p'
    | bl b =>
      obtain ⟨o, x2, ho, mo⟩ := odd_makes (x / 12) hm
      refine ⟨o, x2, ho.up (by omega) (by omega), fun S p Q hp q => ?_⟩
      refine does_def rfl ?_
      refine seq_cut (fun ρ S' => ∃ y, ρ = [some (.cell p), some (.bl b), some (.int (deep : Int)), some (.int y), none, none] ∧ Go p S S' ∧ PotX p (x / 12) S') (fun M hM => ?_) ?_
      · simp
        refine draw_x hp (by decide) (by decide) fun r S1 g1 p1 er _ _ => ?_
        exact hM _ _ ⟨_, rfl, g1, p1⟩
      rintro ρ S1 ⟨y, rfl, g1, p1⟩
      refine ifS_no (fun Q q => by simp [isTn]; exact q) ?_
      refine ifS_no (fun Q q => by simp [isTn]; exact q) ?_
      refine ifS_no (fun Q q => by simp [is_whole_law hod, isI]; exact q) ?_
      simp
      exact mo _ _ _ p1 fun S' g' p' => q _ (g1.trans g') p'
    | str z =>
      obtain ⟨o, x2, ho, mo⟩ := odd_makes (x / 12) hm
      refine ⟨o, x2, ho.up (by omega) (by omega), fun S p Q hp q => ?_⟩
      refine does_def rfl ?_
      refine seq_cut (fun ρ S' => ∃ y, ρ = [some (.cell p), some (.str z), some (.int (deep : Int)), some (.int y), none, none] ∧ Go p S S' ∧ PotX p (x / 12) S') (fun M hM => ?_) ?_
      · simp
        refine draw_x hp (by decide) (by decide) fun r S1 g1 p1 er _ _ => ?_
        exact hM _ _ ⟨_, rfl, g1, p1⟩
      rintro ρ S1 ⟨y, rfl, g1, p1⟩
      refine ifS_no (fun Q q => by simp [isTn]; exact q) ?_
      refine ifS_no (fun Q q => by simp [isTn]; exact q) ?_
      refine ifS_no (fun Q q => by simp [is_whole_law hod, isI]; exact q) ?_
      simp
      exact mo _ _ _ p1 fun S' g' p' => q _ (g1.trans g') p'
    | exn c fs =>
      obtain ⟨o, x2, ho, mo⟩ := odd_makes (x / 12) hm
      refine ⟨o, x2, ho.up (by omega) (by omega), fun S p Q hp q => ?_⟩
      refine does_def rfl ?_
      refine seq_cut (fun ρ S' => ∃ y, ρ = [some (.cell p), some (.exn c fs), some (.int (deep : Int)), some (.int y), none, none] ∧ Go p S S' ∧ PotX p (x / 12) S') (fun M hM => ?_) ?_
      · simp
        refine draw_x hp (by decide) (by decide) fun r S1 g1 p1 er _ _ => ?_
        exact hM _ _ ⟨_, rfl, g1, p1⟩
      rintro ρ S1 ⟨y, rfl, g1, p1⟩
      refine ifS_no (fun Q q => by simp [isTn]; exact q) ?_
      refine ifS_no (fun Q q => by simp [isTn]; exact q) ?_
      refine ifS_no (fun Q q => by simp [is_whole_law hod, isI]; exact q) ?_
      simp
      exact mo _ _ _ p1 fun S' g' p' => q _ (g1.trans g') p'
    | @lst k ds hl hall =>
      obtain ⟨o, x2, ho, mo⟩ := odd_makes (x / 12) hm
      refine ⟨o, x2, ho.up (by omega) (by omega), fun S p Q hp q => ?_⟩
      refine does_def rfl ?_
      refine seq_cut (fun ρ S' => ∃ y, ρ = [some (.cell p), some (.lst ds), some (.int (deep : Int)), some (.int y), none, none] ∧ Go p S S' ∧ PotX p (x / 12) S') (fun M hM => ?_) ?_
      · simp
        refine draw_x hp (by decide) (by decide) fun r S1 g1 p1 er _ _ => ?_
        exact hM _ _ ⟨_, rfl, g1, p1⟩
      rintro ρ S1 ⟨y, rfl, g1, p1⟩
      refine ifS_no (fun Q q => by simp [isTn]; exact q) ?_
      refine ifS_no (fun Q q => by simp [isTn]; exact q) ?_
      refine ifS_no (fun Q q => by simp [is_whole_law hod, isI]; exact q) ?_
      simp
      exact mo _ _ _ p1 fun S' g' p' => q _ (g1.trans g') p'
end Dm
-- text HmLeftAt
namespace Dm
open PySem L2
@[simp] theorem does_callBL {S : Sto} {ρ : Rho} {g : Sto → List D → Option (List D)} {a : MA} {E : EX} {Q : List D → Sto → Prop} : (mCallBL g a ρ S).DoesE E Q = (a ρ S).DoesE E fun xs S1 => match g S1 xs with
    | some z => Q z S1
    | none => False := by
  unfold mCallBL
  rw [does_bind]
  congr 1
  funext x S1
  cases g S1 x <;> rfl
section
variable {S : Sto} {os : List Int} {s m o : Int} {ls : List (Int × Int)} {n p : Nat}
@[simp] theorem gList_looks : gList S [looksD ls] = some (ls.map jmpD) := rfl
@[simp] theorem gList_tup {ds : List D} : gList S [.tup ds] = some ds := rfl
@[simp] theorem gList_lst {ds : List D} : gList S [.lst ds] = some ds := rfl
end
end Dm
-- text HmCchart
namespace Dm
open PySem L2
end Dm
-- text HmGone
namespace Dm
open PySem L2
end Dm
-- text HmGone2
namespace Dm
open PySem L2
end Dm
-- text HmTurn
namespace Dm
open PySem L2
section
variable {S : Sto} {os : List Int} {s h r c d : Int} {js : List (Int × Int)} {fold gap : Str}
@[simp] theorem lcAQ_mapT {f : D → Rho → Option Rho} {mt me : ME} {ρ : Rho} {Q : List D → Sto → Prop} {α : Type} {g : α → D} {as : List α} : LcAQ (.tup (as.map g)) f mt me ρ as.length S Q = LcQ f mt me ρ (as.map g) S Q := lcAQ_fix (.inl rfl) (by rw [List.length_map])
@[simp] theorem lcAQ_mapL {f : D → Rho → Option Rho} {mt me : ME} {ρ : Rho} {Q : List D → Sto → Prop} {α : Type} {g : α → D} {as : List α} : LcAQ (.lst (as.map g)) f mt me ρ as.length S Q = LcQ f mt me ρ (as.map g) S Q := lcAQ_fix (.inr rfl) (by rw [List.length_map])
/-! ### the zone, the table, moved and turned -/
end
end Dm
-- text HmOdd5
namespace Dm
open PySem L2
end Dm
-- text HmOdd6
namespace Dm
open PySem L2
end Dm
-- text HmOdd7
namespace Dm
open PySem L2
end Dm
-- text HmZodd
namespace Dm
open PySem L2
/-! ### what is a zone, data of any kind -/
def ZoneOf (d : D) : Prop := ∃ os s, d = zoneD os s ∧ ZoneOK os s
noncomputable def zoneB (d : D) : Bool := @decide (ZoneOf d) (Classical.propDecidable _)
theorem zoneB_iff {d : D} : zoneB d = true ↔ ZoneOf d := by unfold zoneB; simp
theorem zoneB_no {d : D} (h : ¬ ZoneOf d) : zoneB d = false := by
  cases e : zoneB d with
  | false => rfl
  | true => exact absurd (zoneB_iff.mp e) h
def offK : D → Bool
  | .int i => decide (-900 ≤ i) && decide (i ≤ 900)
  | _ => false
theorem zone_parts {a b : D} (h : ZoneOf (.tup [a, b])) : ∃ os s, a = .tup (os.map .int) ∧ b = .int s ∧ ZoneOK os s := by
  obtain ⟨os, s, e, z⟩ := h
  unfold zoneD at e
  injection e with e
  injection e with e1 e2
  injection e2 with e2 _
  exact ⟨os, s, e1, e2, z⟩
theorem zone_offs {os : List D} {b : D} (h : ZoneOf (.tup [.tup os, b])) : 1 ≤ os.length ∧ os.length ≤ 3 ∧ ∀ x, x ∈ os → offK x = true := by
  obtain ⟨is, s, e, _, z⟩ := zone_parts h
  injection e with e
  subst e
  refine ⟨?_, ?_, ?_⟩
  · cases z <;> simp
  · cases z <;> simp
  · intro x hx
    obtain ⟨i, hi, rfl⟩ := List.mem_map.mp hx
    show (decide (-900 ≤ i) && decide (i ≤ 900)) = true
    cases z with
    | one a s h1 h2 h3 h4 => simp at hi; simp; omega
    | two a b s h1 h2 h3 h4 h5 => simp at hi; simp; rcases hi with rfl | rfl <;> omega
    | three a b c s h1 h2 h3 h4 h5 h6 => simp at hi; simp; rcases hi with rfl | rfl | rfl <;> omega
theorem offK_some {x : D} (h : offK x = true) : ∃ i : Int, x = .int i ∧ -900 ≤ i ∧ i ≤ 900 := by
  cases x with
  | int i =>
    have h : (decide (-900 ≤ i) && decide (i ≤ 900)) = true := h
    simp at h
    exact ⟨i, rfl, h.1, h.2⟩
  | _ => cases h
theorem offs_ints : ∀ {os : List D}, (∀ x, x ∈ os → offK x = true) → ∃ is : List Int, os = is.map .int ∧ ∀ i, i ∈ is → -900 ≤ i ∧ i ≤ 900
  | [], _ => ⟨[], rfl, fun _ h => nomatch h⟩
  | x :: os, h => by
    obtain ⟨i, rfl, hi⟩ := offK_some (h x List.mem_cons_self)
    obtain ⟨is, rfl, his⟩ := offs_ints fun y hy => h y (List.mem_cons_of_mem _ hy)
    exact ⟨i :: is, rfl, List.forall_mem_cons.mpr ⟨hi, his⟩⟩
theorem ints_inj : ∀ {a b : List Int}, a.map D.int = b.map D.int → a = b
  | [], [], _ => rfl
  | [], _ :: _, h => by cases h
  | _ :: _, [], h => by cases h
  | x :: a, y :: b, h => by
    injection h with h1 h2
    injection h1 with h1
    rw [h1, ints_inj h2]
theorem zone_ints {is : List Int} {b : D} (h : ZoneOf (.tup [.tup (is.map .int), b])) : ∃ s, b = .int s ∧ ZoneOK is s := by
  obtain ⟨os, s, e, eb, z⟩ := zone_parts h
  injection e with e
  rw [ints_inj e]
  exact ⟨s, eb, z⟩
section
variable {S : Sto} {d : D}
theorem is_zone_odd (h : OddD d) : m_is_zone [d] S = .ok (.bl (zoneB d)) S := by
  refine pure_of fun Q q => ?_
  refine does_def rfl ?_
  cases h with
  | @tup ds hl hd =>
    match ds, hl, hd with
    | [], _, _ =>
      rw [zoneB_no fun ⟨os, s, e, _⟩ => nomatch e] at q
      simp [isTn]; exact q
    | [a], _, _ =>
      rw [zoneB_no fun ⟨os, s, e, _⟩ => nomatch e] at q
      simp [isTn]; exact q
    | a :: b :: c :: r, _, _ =>
      have : ¬ ((r.length : Int) + 1 + 1 + 1 = 2) := by omega
      rw [zoneB_no fun ⟨os, s, e, _⟩ => nomatch e] at q
      simp [isTn, this]
      exact q
    | [a, b], _, hd =>
      have ha := hd a (by simp)
      have hb := hd b (by simp)
      simp [isTn]
      cases ha with
      | @tup os ol oo =>
        by_cases c1 : 1 ≤ os.length ∧ os.length ≤ 3
        · have c2 : ((1 : Int) ≤ os.length) := by omega
          have c3 : ((os.length : Int) ≤ 3) := by omega
          simp [isTn, c2, c3]
          refine forL_cut (fun es ρ S' => S = S' ∧ ∃ x3 pre, os = pre ++ es ∧ ρ = [some (.tup [.tup os, b]), some (.tup os), some b, x3, none] ∧ ∀ x, x ∈ pre → offK x = true) _
            ⟨rfl, none, [], rfl, rfl, fun _ h => nomatch h⟩ ?_ ?_
          · rintro x es ρ _ ⟨rfl, x3, pre, e, rfl, hp⟩
            refine ⟨_, rfl, fun M2 hM2 => ?_⟩
            have ox := oo x (by rw [e]; simp)
            have no : offK x = false → zoneB (.tup [.tup os, b]) = false := fun hx => zoneB_no fun h => by
              have := (zone_offs h).2.2 x (by rw [e]; simp)
              rw [hx] at this
              cases this
            simp [is_integer_odd ox]
            cases ox with
            | int i =>
              simp [isI]
              have ei : offK (.int i) = (decide (-900 ≤ i) && decide (i ≤ 900)) := rfl
              by_cases h1 : -900 ≤ i
              · by_cases h2 : i ≤ 900
                · simp [h1, h2]
                  refine hM2 _ _ ⟨rfl, _, pre ++ [.int i], by rw [e]; simp, rfl, ?_⟩
                  intro x hx
                  rcases List.mem_append.mp hx with hx | hx
                  · exact hp x hx
                  · rw [List.mem_singleton.mp hx, ei, decide_eq_true h1, decide_eq_true h2]; rfl
                · rw [no (by rw [ei, decide_eq_false h2, Bool.and_false])] at q
                  simp [h1, h2]
                  exact q
              · rw [no (by rw [ei, decide_eq_false h1, Bool.false_and])] at q
                simp [h1]
                exact q
            | _ =>
              rw [no rfl] at q
              simp [isI]
              exact q
          · rintro ρ _ ⟨rfl, x3, pre, e, rfl, hp⟩
            rw [List.append_nil] at e
            subst e
            have hall := hp
            obtain ⟨is, rfl, hi⟩ := offs_ints hall
            match is, hi, c1 with
            | [], _, c1 => simp at c1
            | [x], hi, _ =>
              have h1 := hi x (by simp)
              simp [rngD_cons, rngD_nil, is_integer_odd hb]
              cases hb with
              | int s =>
                have e : zoneB (.tup [.tup ([x].map .int), .int s]) = (decide (0 < s) && decide (s ≤ 1000000)) := by
                  by_cases hs : 0 < s ∧ s ≤ 1000000
                  · rw [decide_eq_true hs.1, decide_eq_true hs.2]
                    exact zoneB_iff.mpr ⟨[x], s, rfl, .one x s h1.1 h1.2 hs.1 hs.2⟩
                  · have : (decide (0 < s) && decide (s ≤ 1000000)) = false := by
                      by_cases h : 0 < s
                      · rw [decide_eq_false (fun h2 => hs ⟨h, h2⟩), Bool.and_false]
                      · rw [decide_eq_false h, Bool.false_and]
                    rw [this]
                    refine zoneB_no fun h => ?_
                    obtain ⟨s', es, z⟩ := zone_ints h
                    injection es with es
                    subst es
                    cases z
                    exact hs ⟨by assumption, by assumption⟩
                rw [e] at q
                simp [isI]
                by_cases h : 0 < s
                · simp [h] at q ⊢
                  exact q
                · simp [h] at q ⊢
                  exact q
              | _ =>
                rw [zoneB_no fun h => by obtain ⟨s, es, _⟩ := zone_ints h; cases es] at q
                simp [isI]
                exact q
            | [x, y], hi, _ =>
              have h1 := hi x (by simp)
              have h2 := hi y (by simp)
              by_cases xy : y ≤ x
              · rw [zoneB_no fun h => by obtain ⟨s, es, z⟩ := zone_ints h; cases z; omega] at q
                simp [rngD_cons, rngD_nil, xy]
                exact q
              · simp [rngD_cons, rngD_nil, is_integer_odd hb, xy]
                cases hb with
                | int s =>
                  have e : zoneB (.tup [.tup ([x, y].map .int), .int s]) = (decide (y - x < s) && decide (s ≤ 1000000)) := by
                    by_cases hs : y - x < s ∧ s ≤ 1000000
                    · rw [decide_eq_true hs.1, decide_eq_true hs.2]
                      exact zoneB_iff.mpr ⟨[x, y], s, rfl, .two x y s h1.1 (by omega) h2.2 hs.1 hs.2⟩
                    · have : (decide (y - x < s) && decide (s ≤ 1000000)) = false := by
                        by_cases h : y - x < s
                        · rw [decide_eq_false (fun h2 => hs ⟨h, h2⟩), Bool.and_false]
                        · rw [decide_eq_false h, Bool.false_and]
                      rw [this]
                      refine zoneB_no fun h => ?_
                      obtain ⟨s', es, z⟩ := zone_ints h
                      injection es with es
                      subst es
                      cases z
                      exact hs ⟨by assumption, by assumption⟩
                  rw [e] at q
                  simp [isI]
                  by_cases h : y - x < s
                  · simp [h] at q ⊢
                    exact q
                  · simp [h] at q ⊢
                    exact q
                | _ =>
                  rw [zoneB_no fun h => by obtain ⟨s, es, _⟩ := zone_ints h; cases es] at q
                  simp [isI]
                  exact q
            | [x, y, w], hi, _ =>
              have h1 := hi x (by simp)
              have h2 := hi y (by simp)
              have h3 := hi w (by simp)
              by_cases xy : y ≤ x
              · rw [zoneB_no fun h => by obtain ⟨s, es, z⟩ := zone_ints h; cases z; omega] at q
                simp [rngD_cons, rngD_nil, xy]
                exact q
              · by_cases yw : w ≤ y
                · rw [zoneB_no fun h => by obtain ⟨s, es, z⟩ := zone_ints h; cases z; omega] at q
                  simp [rngD_cons, rngD_nil, xy, yw]
                  exact q
                · simp [rngD_cons, rngD_nil, is_integer_odd hb, xy, yw]
                  cases hb with
                  | int s =>
                    have e : zoneB (.tup [.tup ([x, y, w].map .int), .int s]) = (decide (w - x < s) && decide (s ≤ 1000000)) := by
                      by_cases hs : w - x < s ∧ s ≤ 1000000
                      · rw [decide_eq_true hs.1, decide_eq_true hs.2]
                        exact zoneB_iff.mpr ⟨[x, y, w], s, rfl, .three x y w s h1.1 (by omega) (by omega) h3.2 hs.1 hs.2⟩
                      · have : (decide (w - x < s) && decide (s ≤ 1000000)) = false := by
                          by_cases h : w - x < s
                          · rw [decide_eq_false (fun h2 => hs ⟨h, h2⟩), Bool.and_false]
                          · rw [decide_eq_false h, Bool.false_and]
                        rw [this]
                        refine zoneB_no fun h => ?_
                        obtain ⟨s', es, z⟩ := zone_ints h
                        injection es with es
                        subst es
                        cases z
                        exact hs ⟨by assumption, by assumption⟩
                    rw [e] at q
                    simp [isI]
                    by_cases h : w - x < s
                    · simp [h] at q ⊢
                      exact q
                    · simp [h] at q ⊢
                      exact q
                  | _ =>
                    rw [zoneB_no fun h => by obtain ⟨s, es, _⟩ := zone_ints h; cases es] at q
                    simp [isI]
                    exact q
            | _ :: _ :: _ :: _ :: _, _, c1 => simp at c1
        · rw [zoneB_no fun h => c1 ⟨(zone_offs h).1, (zone_offs h).2.1⟩] at q
          by_cases c2 : ((1 : Int) ≤ os.length)
          · have c3 : ¬ ((os.length : Int) ≤ 3) := by omega
            simp [isTn, c2, c3]
            exact q
          · simp [isTn, c2]
            exact q
      | _ =>
        rw [zoneB_no fun ⟨os, s, e, _⟩ => nomatch e] at q
        simp [isTn]
        exact q
  | _ =>
    rw [zoneB_no fun ⟨os, s, e, _⟩ => nomatch e] at q
    simp [isTn]
    exact q
end
end Dm
-- text HmZodd2
namespace Dm
open PySem L2
section
variable {S : Sto} {d : D}
theorem need_number_bad (h : OddD d) (hb : isI d = false) : m_need_number [d] S = .exc "InvalidNumber" [] S := by
  unfold m_need_number mDef
  simp [mIfS, mNot, mCall, mCons, mVar, mNil, Res.bind, is_integer_odd h, hb, mRaise, ofRes]
end
end Dm
-- text HmDet5
namespace Dm
open PySem L2
/-! ### some times one thing put otherwise -/
/-! ### drawn zones -/
theorem zone_oddK {os : List Int} {s : Int} {m k : Nat} (z : ZoneOK os s) (hm : 600 ≤ m) (hk : 2 ≤ k) : OddK m k (zoneD os s) := by
  obtain ⟨k, rfl⟩ : ∃ k', k = k' + 1 + 1 := ⟨k - 2, by omega⟩
  have b : (2 : Nat) ^ 30 ≤ 2 ^ m := Nat.pow_le_pow_right (by decide) (by omega)
  have b' : (2 : Nat) ^ 30 = 1073741824 := by decide
  have hl := z.len
  have hs := z.sp
  refine .tup (by simp; omega) fun d hd => ?_
  simp only [List.mem_cons, List.not_mem_nil, or_false] at hd
  rcases hd with rfl | rfl
  · refine .tup (by rw [List.length_map]; omega) fun d hd => ?_
    obtain ⟨i, hi, rfl⟩ := List.mem_map.mp hd
    have := zone_offs (show ZoneOf (.tup [.tup (os.map .int), .int s]) from ⟨os, s, rfl, z⟩)
    obtain ⟨i', e, h1, h2⟩ := offK_some (this.2.2 (.int i) (List.mem_map.mpr ⟨i, hi, rfl⟩))
    cases e
    exact .int (by omega)
  · exact .int (by omega)
end Dm
-- text HmDet6
namespace Dm
open PySem L2
theorem ints_of : ∀ {os : List D}, (os.all isI) = true → ∃ is : List Int, os = is.map .int
  | [], _ => ⟨[], rfl⟩
  | x :: os, h => by
    rw [List.all_cons, Bool.and_eq_true] at h
    obtain ⟨is, rfl⟩ := ints_of h.2
    cases x with
    | int i => exact ⟨i :: is, rfl⟩
    | _ => cases h.1
theorem zone_ok_of {is : List Int} {s : Int} (h : zoneB (.tup [.tup (is.map .int), .int s]) = true) : ZoneOK is s := by
  obtain ⟨s', e, z⟩ := zone_ints (zoneB_iff.mp h)
  cases e
  exact z
section
variable {S : Sto} {d : D}
theorem is_region_odd (h : OddD d) : m_law_is_region [d] S = .ok (.bl (zoneB d)) S := by
  refine pure_of fun Q q => ?_
  refine does_def rfl ?_
  cases h with
  | @tup ds hl hd =>
    match ds, hl, hd with
    | [], _, _ =>
      rw [zoneB_no fun ⟨os, s, e, _⟩ => nomatch e] at q
      simp [isTn]; exact q
    | [a], _, _ =>
      rw [zoneB_no fun ⟨os, s, e, _⟩ => nomatch e] at q
      simp [isTn]; exact q
    | a :: b :: c :: r, _, _ =>
      have : ¬ ((r.length : Int) + 1 + 1 + 1 = 2) := by omega
      rw [zoneB_no fun ⟨os, s, e, _⟩ => nomatch e] at q
      simp [isTn, this]
      exact q
    | [a, b], _, hd =>
      have ha := hd a (by simp)
      have hb := hd b (by simp)
      refine seq_cut (fun ρ S' => ρ = [some (.tup [a, b]), none, none, none, none, none] ∧ S = S') (fun M hM => ?_) ?_
      · simp [isTn]
        exact hM _ _ ⟨rfl, rfl⟩
      rintro ρ _ ⟨rfl, rfl⟩
      refine seq_cut (fun ρ S' => ρ = [some (.tup [a, b]), some a, some b, none, none, none] ∧ S = S') (fun M hM => ?_) ?_
      · simp [isTn]
        exact hM _ _ ⟨rfl, rfl⟩
      rintro ρ _ ⟨rfl, rfl⟩
      cases ha with
      | @tup os ol oo =>
        by_cases c1 : 1 ≤ os.length ∧ os.length ≤ 3
        · refine seq_cut (fun ρ S' => ρ = [some (.tup [.tup os, b]), some (.tup os), some b, none, none, none] ∧ S = S') (fun M hM => ?_) ?_
          · have e : os.length = 1 ∨ os.length = 2 ∨ os.length = 3 := by omega
            rcases e with e | e | e <;> simp [isTn, e] <;> exact hM _ _ ⟨rfl, rfl⟩
          rintro ρ _ ⟨rfl, rfl⟩
          have t4 : ∀ Q : D → Sto → Prop, Q (.bl (!((os ++ [b]).all isI))) S → (mNot (mCallB gAll (mCons (mFz (mLc (iSeq (mFz (mCatL (mCallBL gList (mCons (mVar 1) mNil)) (mLst (mCons (mVar 2) mNil))))) (tgN 4) mYes (mCall m_law_whole (mCons (mVar 4) mNil)) [4])) mNil)) [some (.tup [.tup os, b]), some (.tup os), some b, none, none, none] S).Does Q := by
            intro Q q
            simp [wipeD]
            refine ⟨by omega, ?_⟩
            refine lcQ_map (fun d => .bl (isI d)) ?_ ?_
            · intro d hd
              refine ⟨_, rfl, fun Q q => ?_⟩
              have od : OddD d := by
                rcases List.mem_append.mp hd with hd | hd
                · exact oo d hd
                · rw [List.mem_singleton.mp hd]; exact hb
              simp [is_whole_law od]
              exact q
            · rw [gAll_blp]
              simpa using q
          rw [does_seq, does_ifS]
          refine Res.Does.toE (t4 _ ?_)
          cases hall : (os ++ [b]).all isI with
          | false =>
            rw [zoneB_no fun h => by
              obtain ⟨os', s, e1, e2, z⟩ := zone_parts h
              injection e1 with e1
              subst e1 e2
              rw [show (os'.map D.int ++ [D.int s]).all isI = true from by simp [isI]] at hall
              cases hall] at q
            simp
            exact q
          | true =>
            rw [List.all_append, Bool.and_eq_true] at hall
            obtain ⟨is, rfl⟩ := ints_of hall.1
            obtain ⟨s, rfl⟩ : ∃ s, b = .int s := by
              cases b with
              | int s => exact ⟨s, rfl⟩
              | _ => cases hall.2
            rw [List.length_map] at c1
            have no : ¬ ZoneOK is s → zoneB (.tup [.tup (is.map .int), .int s]) = false := fun h => by
              cases e : zoneB (.tup [.tup (is.map .int), .int s]) with
              | false => rfl
              | true => exact absurd (zone_ok_of e) h
            have yes : ZoneOK is s → zoneB (.tup [.tup (is.map .int), .int s]) = true := fun z => zoneB_iff.mpr ⟨is, s, rfl, z⟩
            clear hall t4 ol oo hl hd hb
            match is, c1 with
            | [], c1 => simp at c1
            | [x], _ =>
              simp [wipeD, rngD_cons, rngD_nil, gAll, lstOf, blsOf]
              by_cases k1 : -900 ≤ x
              · by_cases k2 : x ≤ 900
                · by_cases k3 : 0 < s
                  · by_cases k4 : s ≤ 1000000
                    · rw [yes (.one x s k1 k2 k3 k4)] at q
                      simp [k1, k2, k3, k4]; exact q
                    · rw [no (fun z => by cases z; omega)] at q
                      simp [k1, k2, k3, k4]; exact q
                  · rw [no (fun z => by cases z; omega)] at q
                    simp [k1, k2, k3]; exact q
                · rw [no (fun z => by cases z; omega)] at q
                  simp [k1, k2]; exact q
              · rw [no (fun z => by cases z; omega)] at q
                simp [k1]; exact q
            | [x, y], _ =>
              by_cases k0 : x < y
              · simp [wipeD, rngD_cons, rngD_nil, gAll, lstOf, blsOf, k0]
                by_cases k1 : -900 ≤ x
                · by_cases k2 : y ≤ 900
                  · by_cases k3 : y - x < s
                    · by_cases k4 : s ≤ 1000000
                      · rw [yes (.two x y s k1 k0 k2 k3 k4)] at q
                        simp [k1, k2, k3, k4]; exact q
                      · rw [no (fun z => by cases z; omega)] at q
                        simp [k1, k2, k3, k4]; exact q
                    · rw [no (fun z => by cases z; omega)] at q
                      simp [k1, k2, k3]; exact q
                  · rw [no (fun z => by cases z; omega)] at q
                    simp [k1, k2]; exact q
                · rw [no (fun z => by cases z; omega)] at q
                  simp [k1]; exact q
              · rw [no (fun z => by cases z; omega)] at q
                simp [wipeD, rngD_cons, rngD_nil, gAll, lstOf, blsOf, k0]
                exact q
            | [x, y, w], _ =>
              by_cases k0 : x < y
              · by_cases k5 : y < w
                · simp [wipeD, rngD_cons, rngD_nil, gAll, lstOf, blsOf, k0, k5]
                  by_cases k1 : -900 ≤ x
                  · by_cases k2 : w ≤ 900
                    · by_cases k3 : w - x < s
                      · by_cases k4 : s ≤ 1000000
                        · rw [yes (.three x y w s k1 k0 k5 k2 k3 k4)] at q
                          simp [k1, k2, k3, k4]; exact q
                        · rw [no (fun z => by cases z; omega)] at q
                          simp [k1, k2, k3, k4]; exact q
                      · rw [no (fun z => by cases z; omega)] at q
                        simp [k1, k2, k3]; exact q
                    · rw [no (fun z => by cases z; omega)] at q
                      simp [k1, k2]; exact q
                  · rw [no (fun z => by cases z; omega)] at q
                    simp [k1]; exact q
                · rw [no (fun z => by cases z; omega)] at q
                  simp [wipeD, rngD_cons, rngD_nil, gAll, lstOf, blsOf, k0, k5]
                  exact q
              · rw [no (fun z => by cases z; omega)] at q
                simp [wipeD, rngD_cons, rngD_nil, gAll, lstOf, blsOf, k0]
                exact q
            | _ :: _ :: _ :: _ :: _, c1 => simp at c1
        · rw [zoneB_no fun h => by have := zone_offs h; omega] at q
          have n1 : ¬ ((os.length : Int) = 1) := by omega
          have n2 : ¬ ((os.length : Int) = 2) := by omega
          have n3 : ¬ ((os.length : Int) = 3) := by omega
          have g1 : gIn true S (.int os.length) (.lst [.int 1, .int 2, .int 3]) = some (.bl true) := by
            unfold gIn
            simp [seqOf, eqF]
            omega
          simp [isTn, g1]
          exact q
      | _ =>
        rw [zoneB_no fun h => by obtain ⟨os', s, e1, _⟩ := zone_parts h; cases e1] at q
        simp [isTn]
        exact q
  | _ =>
    rw [zoneB_no fun ⟨os, s, e, _⟩ => nomatch e] at q
    simp [isTn]
    exact q
end
end Dm
-- text HmDet7
set_option maxHeartbeats 1000000
namespace Dm
open PySem L2
/-! ### a drawn table by the pot's number -/
theorem any_hour_makes (x : Int) : ∃ h x', -1000000000000 < h ∧ h < 1000000000000 ∧ Makes (fun p => m_law_any_hour [.cell p]) x (.int h) x' := by
  have w0 := Int.emod_nonneg x (b := 4) (by decide)
  have w1 := Int.emod_lt_of_pos x (b := 4) (by decide)
  by_cases c1 : x % 4 < 2
  · have a0 := Int.emod_nonneg (x / 4) (b := 241) (by decide)
    have a1 := Int.emod_lt_of_pos (x / 4) (b := 241) (by decide)
    refine ⟨x / 4 % 241 - 120, x / 4 / 241, by omega, by omega, fun S p Q hp q => ?_⟩
    refine does_def rfl ?_
    simp
    refine draw_x hp (by decide) (by decide) fun r S1 g1 p1 er _ _ => ?_
    subst er
    simp [c1]
    refine draw_x p1 (by decide) (by decide) fun r S2 g2 p2 er _ _ => ?_
    subst er
    simp
    exact q _ (g1.trans g2) p2
  · by_cases c2 : x % 4 = 2
    · have a0 := Int.emod_nonneg (x / 4) (b := 1800000000001) (by decide)
      have a1 := Int.emod_lt_of_pos (x / 4) (b := 1800000000001) (by decide)
      refine ⟨x / 4 % 1800000000001 - 900000000000, x / 4 / 1800000000001, by omega, by omega, fun S p Q hp q => ?_⟩
      refine does_def rfl ?_
      simp
      refine draw_x hp (by decide) (by decide) fun r S1 g1 p1 er _ _ => ?_
      subst er
      simp [c1, c2]
      refine draw_x p1 (by decide) (by decide) fun r S2 g2 p2 er _ _ => ?_
      subst er
      simp
      exact q _ (g1.trans g2) p2
    · have a0 := Int.emod_nonneg (x / 4) (b := 7) (by decide)
      have a1 := Int.emod_lt_of_pos (x / 4) (b := 7) (by decide)
      obtain ⟨h, eh, h0, h1⟩ : ∃ h, atI [D.int 0, .int 1, .int (-1), .int 1440, .int (-525600), .int 999799999999, .int (-999999999999)] (x / 4 % 7) = some (.int h) ∧ -1000000000000 < h ∧ h < 1000000000000 := by
        have e : x / 4 % 7 = 0 ∨ x / 4 % 7 = 1 ∨ x / 4 % 7 = 2 ∨ x / 4 % 7 = 3 ∨ x / 4 % 7 = 4 ∨ x / 4 % 7 = 5 ∨ x / 4 % 7 = 6 := by omega
        rcases e with e | e | e | e | e | e | e <;> rw [e]
        · exact ⟨0, rfl, by decide, by decide⟩
        · exact ⟨1, rfl, by decide, by decide⟩
        · exact ⟨-1, rfl, by decide, by decide⟩
        · exact ⟨1440, rfl, by decide, by decide⟩
        · exact ⟨-525600, rfl, by decide, by decide⟩
        · exact ⟨999799999999, rfl, by decide, by decide⟩
        · exact ⟨-999999999999, rfl, by decide, by decide⟩
      refine ⟨h, x / 4 / 7, h0, h1, fun S p Q hp q => ?_⟩
      refine does_def rfl ?_
      simp
      refine draw_x hp (by decide) (by decide) fun r S1 g1 p1 er _ _ => ?_
      subst er
      simp [c1, c2]
      refine draw_x p1 (by decide) (by decide) fun r S2 g2 p2 er _ _ => ?_
      subst er
      simp [eh]
      exact q _ (g1.trans g2) p2
def swF (s m x : Int) : Int × Int := if m = 3 then (x % 5, x / 5) else if m = 4 then (x % (2 * s), x / (2 * s)) else (0, x)
def chF (os : List Int) (s : Int) : Nat → Int → Int → Int → List (Int × Int) × Int
  | 0, _, _, x => ([], x)
  | n + 1, a, h, x =>
    let a2 := (a + 1 + x % ((os.length : Int) - 1)) % (os.length : Int)
    let x1 := x / ((os.length : Int) - 1)
    let e := swF s (x1 % 5) (x1 / 5)
    ((h, os.getD a2.toNat 0) :: (chF os s n a2 (h + s + e.1) e.2).1, (chF os s n a2 (h + s + e.1) e.2).2)
section
variable {os : List Int} {s : Int}
theorem swF_le {m x : Int} (hs : 0 < s ∧ s ≤ 1000000) : 0 ≤ (swF s m x).1 ∧ (swF s m x).1 < 2000000 := by
  unfold swF
  split
  · have a0 := Int.emod_nonneg x (b := 5) (by decide)
    have a1 := Int.emod_lt_of_pos x (b := 5) (by decide)
    constructor <;> simp only <;> omega
  · split
    · have a0 := Int.emod_nonneg x (b := 2 * s) (by omega)
      have a1 := Int.emod_lt_of_pos x (b := 2 * s) (by omega)
      constructor <;> simp only <;> omega
    · constructor <;> simp only <;> omega
theorem chF_len : ∀ {n : Nat} {a h x : Int}, (chF os s n a h x).1.length = n
  | 0, _, _, _ => rfl
  | n + 1, a, h, x => by rw [chF]; simp only [List.length_cons, chF_len]
theorem chF_odd (hs : 0 < s ∧ s ≤ 1000000) (ho : ∀ o, o ∈ os → -900 ≤ o ∧ o ≤ 900) {m k : Nat} (hm : 600 ≤ m) (hk : 1 ≤ k) : ∀ {n : Nat} {a h x : Int}, n ≤ 200 → -1000000000000 < h → h < 1000000000000 + 3000000 * (200 - n) → ∀ j, j ∈ (chF os s n a h x).1 → OddK m k (jmpD j)
  | 0, _, _, _, _, _, _, _, hj => nomatch hj
  | n + 1, a, h, x, hn, h0, h1, j, hj => by
    rw [chF] at hj
    simp only [List.mem_cons] at hj
    have e := swF_le (s := s) (m := x / ((os.length : Int) - 1) % 5) (x := x / ((os.length : Int) - 1) / 5) hs
    rcases hj with rfl | hj
    · obtain ⟨k, rfl⟩ : ∃ k', k = k' + 1 := ⟨k - 1, by omega⟩
      have b : (2 : Nat) ^ 50 ≤ 2 ^ m := Nat.pow_le_pow_right (by decide) (by omega)
      have b' : (2 : Nat) ^ 50 = 1125899906842624 := by decide
      refine .tup (by simp; omega) fun d hd => ?_
      simp only [List.mem_cons, List.not_mem_nil, or_false] at hd
      rcases hd with rfl | rfl
      · exact .int (by omega)
      · refine .int ?_
        have : -900 ≤ os.getD ((a + 1 + x % ((os.length : Int) - 1)) % (os.length : Int)).toNat 0 ∧ os.getD ((a + 1 + x % ((os.length : Int) - 1)) % (os.length : Int)).toNat 0 ≤ 900 := by
          rw [List.getD_eq_getElem?_getD]
          cases e : os[((a + 1 + x % ((os.length : Int) - 1)) % (os.length : Int)).toNat]? with
          | none => exact ⟨by decide, by decide⟩
          | some o => exact ho o (List.mem_of_getElem? e)
        omega
    · exact chF_odd hs ho hm hk (by omega) (by omega) (by omega) j hj
theorem chart_makes (z : ZoneOK os s) (x : Int) {u : Int} (u0 : 0 ≤ u) (u1 : u ≤ 200) {m k : Nat} (hm : 600 ≤ m) (hk : 3 ≤ k) : ∃ d x', OddK m k d ∧ Makes (fun p => m_law_make_chart [.cell p, zoneD os s, .int u]) x d x' := by
  have hl := z.len
  have hs := z.sp
  have ho : ∀ o, o ∈ os → -900 ≤ o ∧ o ≤ 900 := fun o hi => by
    have := zone_offs (show ZoneOf (.tup [.tup (os.map .int), .int s]) from ⟨os, s, rfl, z⟩)
    obtain ⟨i', e, h1, h2⟩ := offK_some (this.2.2 (.int o) (List.mem_map.mpr ⟨o, hi, rfl⟩))
    cases e
    exact ⟨h1, h2⟩
  have a0 := Int.emod_nonneg x (b := (os.length : Int)) (by omega)
  have a1 := Int.emod_lt_of_pos x (b := (os.length : Int)) (by omega)
  obtain ⟨o, ao, om, oi⟩ := z.at a0 a1
  obtain ⟨hr, x2, b0, b1, mh⟩ := any_hour_makes (x / (os.length : Int))
  have d0 := Int.emod_nonneg x2 (b := u + 1) (by omega)
  have d1 := Int.emod_lt_of_pos x2 (b := u + 1) (by omega)
  obtain ⟨n, hn, nn, none1⟩ : ∃ n : Nat, x2 % (u + 1) * (if (1 : Int) < (os.length : Int) then (1 : Int) else 0) = (n : Int) ∧ n ≤ 200 ∧ (os.length = 1 → n = 0) := by
    refine ⟨(x2 % (u + 1) * (if (1 : Int) < (os.length : Int) then (1 : Int) else 0)).toNat, ?_, ?_, ?_⟩
    · split <;> omega
    · split <;> omega
    · intro h; rw [h]; simp
  refine ⟨tabD o (chF os s n (x % (os.length : Int)) hr (x2 / (u + 1))).1, (chF os s n (x % (os.length : Int)) hr (x2 / (u + 1))).2, ?_, fun S p Q hp q => ?_⟩
  · obtain ⟨k, rfl⟩ : ∃ k', k = k' + 1 + 1 := ⟨k - 2, by omega⟩
    have b : (2 : Nat) ^ 30 ≤ 2 ^ m := Nat.pow_le_pow_right (by decide) (by omega)
    have b' : (2 : Nat) ^ 30 = 1073741824 := by decide
    refine .tup (by simp; omega) fun d hd => ?_
    simp only [List.mem_cons, List.not_mem_nil, or_false] at hd
    rcases hd with rfl | rfl
    · have := ho o om
      exact .int (by omega)
    · refine .tup (by rw [List.length_map, chF_len]; omega) fun d hd => ?_
      obtain ⟨j, hj, rfl⟩ := List.mem_map.mp hd
      exact chF_odd hs ho hm (by omega) nn b0 (by omega) j hj
  · refine does_def rfl ?_
    refine seq_cut (fun ρ S' => S = S' ∧ ρ = [some (.cell p), some (zoneD os s), some (.int u), some (.tup (os.map .int)), some (.int s), none, none, none, none, none, none]) (fun M hM => ?_) ?_
    · simp
      exact hM _ _ ⟨rfl, rfl⟩
    rintro ρ _ ⟨rfl, rfl⟩
    refine seq_cut (fun ρ S' => ρ = [some (.cell p), some (zoneD os s), some (.int u), some (.tup (os.map .int)), some (.int s), some (.int (x % (os.length : Int))), none, none, none, none, none] ∧ Go p S S' ∧ PotX p (x / (os.length : Int)) S') (fun M hM => ?_) ?_
    · simp
      refine draw_x hp (by omega) (by omega) fun r S1 g1 p1 er _ _ => ?_
      subst er
      exact hM _ _ ⟨rfl, g1, p1⟩
    rintro ρ S1 ⟨rfl, g1, p1⟩
    refine seq_cut (fun ρ S' => S1 = S' ∧ ρ = [some (.cell p), some (zoneD os s), some (.int u), some (.tup (os.map .int)), some (.int s), some (.int (x % (os.length : Int))), some (.int o), none, none, none, none]) (fun M hM => ?_) ?_
    · simp [ao]
      exact hM _ _ ⟨rfl, rfl⟩
    rintro ρ _ ⟨rfl, rfl⟩
    refine seq_cut (fun ρ S' => ρ = [some (.cell p), some (zoneD os s), some (.int u), some (.tup (os.map .int)), some (.int s), some (.int (x % (os.length : Int))), some (.int o), some (.int hr), none, none, none] ∧ Go p S S' ∧ PotX p x2 S') (fun M hM => ?_) ?_
    · simp
      refine mh _ _ _ p1 fun S2 g2 p2 => ?_
      exact hM _ _ ⟨rfl, g1.trans g2, p2⟩
    rintro ρ S2 ⟨rfl, g2, p2⟩
    refine seq_cut (fun ρ S' => ρ = [some (.cell p), some (zoneD os s), some (.int u), some (.tup (os.map .int)), some (.int s), some (.int (x % (os.length : Int))), some (.int o), some (.int hr), some (.cell S2.length), none, none] ∧ S' = S2 ++ [.lst []]) (fun M hM => ?_) ?_
    · simp
      exact hM _ _ ⟨rfl, rfl⟩
    rintro ρ _ ⟨rfl, rfl⟩
    have g3 := g2.push (.lst [])
    have p3 := p2.push (.lst [])
    have hn1 : p ≠ S2.length := by have := g2.pot.lt; omega
    have hn2 : S.length ≤ S2.length := g2.len
    generalize hN : S2.length = N at hn1 hn2
    have c3 : (S2 ++ [.lst []])[N]? = some (.lst []) := by subst hN; simp
    generalize S2 ++ [.lst []] = S3 at g3 c3 p3
    generalize x % (os.length : Int) = a at *
    generalize hJ : chF os s n a hr (x2 / (u + 1)) = J at q
    refine seq_cut (fun ρ S' => ∃ (a' hr' : Int) (x9 x10 : Option D), ρ = [some (.cell p), some (zoneD os s), some (.int u), some (.tup (os.map .int)), some (.int s), some (.int a'), some (.int o), some (.int hr'), some (.cell N), x9, x10] ∧ Go p S S' ∧ PotX p J.2 S' ∧ S'[N]? = some (.lst (J.1.map jmpD))) (fun M hM => ?_) ?_
    · simp
      refine draw_x p3 (by omega) (by omega) fun c S4 g4 p4 er d0 d1 => ?_
      subst er
      simp
      have c4 := g4.get c3 (Ne.symm hn1)
      refine ⟨cmulw64 (by omega) (by split <;> omega), ?_, ?_⟩
      · split <;> omega
      rw [hn]
      refine forL_cut (fun ds ρ S' => ∃ (js : List (Int × Int)) (n : Nat) (t a' hr' y : Int) (x9 x10 : Option D), ds = rngD t n ∧ ρ = [some (.cell p), some (zoneD os s), some (.int u), some (.tup (os.map .int)), some (.int s), some (.int a'), some (.int o), some (.int hr'), some (.cell N), x9, x10] ∧ Go p S S' ∧ S'[N]? = some (.lst (js.map jmpD)) ∧ PotX p y S' ∧
        0 ≤ a' ∧ a' < os.length ∧ js.length + n ≤ 200 ∧ (os.length = 1 → n = 0) ∧ js ++ (chF os s n a' hr' y).1 = J.1 ∧ (chF os s n a' hr' y).2 = J.2) _
        ⟨[], n, 0, a, hr, x2 / (u + 1), none, none, by rw [Int.toNat_natCast], rfl, g3.trans g4, c4, p4, a0, a1, by simpa using nn, none1, by rw [hJ] <;> rfl, by rw [hJ]⟩ ?_ ?_
      · rintro d r ρ S5 ⟨js, n, t, a', hr', y, x9, x10, e, rfl, g5, c5, p5, q0, q1, ln, one, hc1, hc2⟩
        cases n with
        | zero => cases e
        | succ n =>
          rw [rngD_cons] at e
          injection e with e1 e2
          subst e1
          refine ⟨_, rfl, fun M2 hM2 => ?_⟩
          have two : 1 < os.length := by
            have := fun h => one h
            omega
          rw [chF] at hc1 hc2
          simp only at hc1 hc2
          simp
          refine draw_x p5 (by omega) (by omega) fun c2 S6 g6 p6 er f0 f1 => ?_
          rw [← er] at hc1 hc2
          simp
          refine ⟨by omega, ?_⟩
          have w0 := Int.emod_nonneg (a' + 1 + c2) (b := (os.length : Int)) (by omega)
          have w1 := Int.emod_lt_of_pos (a' + 1 + c2) (b := (os.length : Int)) (by omega)
          generalize (a' + 1 + c2) % (os.length : Int) = a2 at w0 w1 hc1 hc2
          obtain ⟨o2, ao2, om2, oi2⟩ := z.at w0 w1
          have c6 := g6.get c5 (Ne.symm hn1)
          have eo : os.getD a2.toNat 0 = o2 := by rw [List.getD_eq_getElem?_getD, oi2]; rfl
          rw [eo] at hc1
          rw [c6]
          simp only [Option.some.injEq, Cell.lst.injEq, exists_eq_left', ao2, optQ_some]
          refine ⟨⟨_, rfl⟩, by rw [List.length_map]; omega, ?_⟩
          have g7 : Go p S (S6.set N (.lst (js.map jmpD ++ [.tup [.int hr', .int o2]]))) := (g5.trans g6).setNew hp.pot hn2 _
          have p7 := p6.set (Ne.symm hn1) (.lst (js.map jmpD ++ [.tup [.int hr', .int o2]]))
          have c7 : (S6.set N (.lst (js.map jmpD ++ [.tup [.int hr', .int o2]])))[N]? = some (.lst ((js ++ [(hr', o2)]).map jmpD)) := by
            rw [List.getElem?_set_self (List.getElem?_eq_some_iff.mp c6).1, List.map_append] <;> rfl
          generalize S6.set N (.lst (js.map jmpD ++ [.tup [.int hr', .int o2]])) = S7 at g7 c7 p7
          generalize y / ((os.length : Int) - 1) = y1 at p7 hc1 hc2
          have fin : ∀ (z : Int) (x : Option D) (S8 : Sto), z = hr' + s + (swF s (y1 % 5) (y1 / 5)).1 → PotX p (swF s (y1 % 5) (y1 / 5)).2 S8 → Go p S7 S8 → M2 [some (.cell p), some (zoneD os s), some (.int u), some (.tup (os.map .int)), some (.int s), some (.int a2), some (.int o), some (.int z), some (.cell N), some (.int t), x] S8 := by
            intro zz x S8 ez p8 g8
            subst ez
            refine hM2 _ _ ⟨js ++ [(hr', o2)], n, t + 1, a2, _, _, _, _, e2, rfl, g7.trans g8, g8.get c7 (Ne.symm hn1), p8, w0, w1, ?_, ?_, ?_, hc2⟩
            · rw [List.length_append, List.length_singleton]; omega
            · intro h; omega
            · rw [List.append_assoc]
              exact hc1
          refine draw_x p7 (by decide) (by decide) fun c3 S8 g8 p8 er k0 k1 => ?_
          rw [← er] at fin
          simp
          by_cases cc : 2 < c3
          · have e5 : c3 = 3 ∨ c3 = 4 := by omega
            clear er
            rcases e5 with e5 | e5 <;> subst e5 <;> simp [atI, ixN]
            · refine ⟨cmulw64 (by decide) (by omega), ?_⟩
              refine draw_x p8 (by decide) (by decide) fun c4 S9 g9 p9 er k2 k3 => ?_
              subst er
              simp
              exact fin _ _ _ rfl p9 (g8.trans g9)
            · refine ⟨cmulw64 (by decide) (by omega), ?_⟩
              refine draw_x p8 (by omega) (by omega) fun c4 S9 g9 p9 er k2 k3 => ?_
              subst er
              simp
              exact fin _ _ _ rfl p9 (g8.trans g9)
          · have e6 : swF s c3 (y1 / 5) = (0, y1 / 5) := by unfold swF; rw [if_neg (by omega), if_neg (by omega)]
            simp [cc]
            exact fin _ _ _ (by rw [e6]; simp) (by rw [e6]; exact p8) g8
      · rintro ρ S5 ⟨js, n, t, a', hr', y, x9, x10, e, rfl, g5, c5, p5, q0, q1, ln, one, hc1, hc2⟩
        cases n with
        | succ n => rw [rngD_cons] at e; cases e
        | zero =>
          rw [chF] at hc1 hc2
          rw [← hc1, ← hc2] at hM
          simp only [List.append_nil] at hM
          exact hM _ _ ⟨a', hr', _, _, rfl, g5, p5, c5⟩
    rintro ρ S5 ⟨a', hr', x9, x10, rfl, g5, p5, c5⟩
    simp [gTuple_cell c5]
    exact q _ g5 p5
end
end Dm
-- text HmDet8
set_option maxHeartbeats 1000000
namespace Dm
open PySem L2
theorem atI_neg1 {α : Type} {l : List α} {x : α} : atI (l ++ [x]) (-1) = some x := by
  have e : ((-1 : Int) + ((l.length : Int) + 1)).toNat = l.length := by omega
  have h : (1 : Int) ≤ (l.length : Int) + 1 := by omega
  simp [atI, ixN, e, h]
section
variable {S : Sto} {os : List Int} {s : Int} {d : D}
theorem is_among_odd (h : OddD d) : m_law_among [d, .tup (os.map .int)] S = .ok (.bl (inO os d)) S := by
  refine pure_of fun Q q => ?_
  refine does_def rfl ?_
  simp [is_whole_law h]
  cases h with
  | int o =>
    simp [isI, gIn_ints]
    exact q
  | _ => simp [isI]; exact q
theorem is_chart1_odd {Q : D → Sto → Prop} (h : OddD d) (q : ∀ S', Grow S S' → Q (.bl (chartB os s d)) S') : (m_law_is_chart [zoneD os s, d] S).Does Q := by
  have q0 := q S ⟨[], by simp⟩
  refine does_def rfl ?_
  refine seq_cut (fun ρ S' => S = S' ∧ ρ = [some (zoneD os s), some d, some (.tup (os.map .int)), some (.int s), none, none, none]) (fun M hM => ?_) ?_
  · simp
    exact hM _ _ ⟨rfl, rfl⟩
  rintro ρ _ ⟨rfl, rfl⟩
  cases h with
  | @tup ds hl hd =>
    match ds, hl, hd with
    | [], _, _ => simp [isTn]; exact q0
    | [a], _, _ => simp [isTn]; cases a <;> exact q0
    | a :: b :: c :: r, _, _ =>
      have : ¬ ((r.length : Int) + 1 + 1 + 1 = 2) := by omega
      simp [isTn, this]
      cases a <;> cases b <;> exact q0
    | [a, b], _, hd =>
      have ha := hd a (by simp)
      have hb := hd b (by simp)
      cases a with
      | int h =>
        by_cases hin : h ∈ os
        · cases hb with
          | @tup js jl jd =>
            have key : chartB os s (.tup [.int h, .tup js]) = chartJ os s h none js := by
              show (decide (h ∈ os) && chartJ os s h none js) = _
              rw [decide_eq_true hin, Bool.true_and]
            rw [key] at q
            simp [isTn, is_among_odd ha, inO, hin]
            refine forL_cut (fun ds ρ S' => ∃ (pre : List D) (hs : List Int) (h' : Int) (pm : Option Int) (x6 : Option D), ρ = [some (zoneD os s), some (.tup [.int h, .tup js]), some (.tup (os.map .int)), some (.int s), some (.int h'), some (.cell S.length), x6]
              ∧ S' = S ++ [.lst (hs.map .int)] ∧ js = pre ++ ds ∧ hs.length = pre.length ∧ chartJ os s h none js = chartJ os s h' pm ds ∧ (hs = [] → pm = none) ∧ (∀ l m, hs = l ++ [m] → pm = some m)) _ ⟨[], [], h, none, none, rfl, rfl, rfl, rfl, rfl, fun _ => rfl, fun l m e => by simp at e⟩ ?_ ?_
            · rintro j suf ρ S' ⟨pre, hs, h', pm, x6, rfl, rfl, ej, el, c, l0, l⟩
              have hj := jd j (by rw [ej]; simp)
              have hlen : pre.length ≤ 1000 := by
                have : js.length = pre.length + (suf.length + 1) := by rw [ej]; simp
                omega
              refine ⟨_, rfl, fun M hM => ?_⟩
              have qf := q (S ++ [.lst (hs.map .int)]) ⟨_, rfl⟩
              cases ejm : jmpOf j with
              | none =>
                have e0 : chartJ os s h none js = false := by
                  rw [c]
                  unfold chartJ
                  rw [ejm]
                rw [e0] at qf
                cases hj with
                | @tup xs xl xd =>
                  match xs, xl, xd, ejm with
                  | [], _, _, _ => simp [isTn]; exact qf
                  | [x], _, _, _ => simp [isTn]; exact qf
                  | x :: y :: w :: t, _, _, _ =>
                    have : ¬ ((t.length : Int) + 1 + 1 + 1 = 2) := by omega
                    simp [isTn, this]
                    exact qf
                  | [x, y], _, xd, ejm =>
                    have hx := xd x (by simp)
                    have hy := xd y (by simp)
                    simp [isTn, is_whole_law hx, is_among_odd hy]
                    cases x with
                    | int i =>
                      simp [isI]
                      cases y with
                      | int o => cases ejm
                      | _ => simp [inO]; exact qf
                    | _ => simp [isI]; exact qf
                | _ => simp [isTn]; exact qf
              | some ao =>
                obtain ⟨a, o⟩ := ao
                have ed := jmpOf_some ejm
                subst ed
                have cj : chartJ os s h none js = (decide (o ∈ os) && !decide (o = h') && sepB s a pm && chartJ os s o (some a) suf) := by
                  rw [c]
                  conv => lhs; unfold chartJ
                  rw [ejm]
                have hn : (S ++ [.lst (hs.map .int)])[S.length]? = some (.lst (hs.map .int)) := by simp
                simp [isTn, is_whole_law (.int a), is_among_odd (.int o), isI, inO]
                by_cases c1 : o ∈ os
                · by_cases c2 : o = h'
                  · simp [c1, c2]
                    simp [c2] at cj
                    rw [cj] at qf
                    exact qf
                  · have fin : chartJ os s h none js = chartJ os s o (some a) suf → M [some (zoneD os s), some (.tup [.int h, .tup js]), some (.tup (os.map .int)), some (.int s), some (.int o), some (.cell S.length), some (jmpD (a, o))] (S ++ [.lst (hs.map .int ++ [.int a])]) := fun ec =>
                      hM _ _ ⟨pre ++ [jmpD (a, o)], hs ++ [a], o, some a, _, rfl, by simp, by rw [ej, List.append_assoc] <;> rfl, by simp [el], ec, fun e => by simp at e, fun l m e => by
                        have := List.append_inj' e rfl
                        have := this.2
                        simp at this
                        rw [this]⟩
                    simp [c1, c2]
                    rcases List.eq_nil_or_concat hs with hs0 | ⟨l', m, hs1⟩
                    · have pm0 := l0 hs0
                      subst hs0 pm0
                      simp [c1, c2, sepB] at cj
                      have l1 : gLen (S ++ [Cell.lst []]) [.cell S.length] = some (.int 0) := gLen_cell (ds := []) (by simp)
                      simp at fin
                      simp [l1]
                      exact fin cj
                    · rw [List.concat_eq_append] at hs1
                      have pm1 := l l' m hs1
                      subst hs1 pm1
                      have cj2 : chartJ os s h none js = (!decide (a - m < s) && chartJ os s o (some a) suf) := by
                        rw [cj, decide_eq_true c1, decide_eq_false c2]; rfl
                      have hn' : (S ++ [Cell.lst (l'.map .int ++ [.int m])])[S.length]? = some (.lst (l'.map .int ++ [.int m])) := by simp
                      have l1 : gLen (S ++ [Cell.lst (l'.map .int ++ [.int m])]) [.cell S.length] = some (.int ((l'.length : Int) + 1)) := by rw [gLen_cell hn']; simp
                      have l2 : gIx (S ++ [Cell.lst (l'.map .int ++ [.int m])]) (.cell S.length) (.int (-1)) = some (.int m) := by rw [gIx_cell hn']; exact atI_neg1
                      have lp : (0 : Int) < (l'.length : Int) + 1 := by omega
                      simp at fin el
                      simp at qf
                      by_cases c3 : a < m + s
                      · have c4 : a - m < s := by omega
                        rw [decide_eq_true c4] at cj2
                        simp at cj2
                        rw [cj2] at qf
                        simp [l1, l2, lp, c3]
                        exact qf
                      · have c4 : ¬ a - m < s := by omega
                        rw [decide_eq_false c4] at cj2
                        simp at cj2
                        simp [l1, l2, lp, c3]
                        exact ⟨by omega, fin cj2⟩
                · simp [c1]
                  rw [decide_eq_false c1, Bool.false_and, Bool.false_and, Bool.false_and] at cj
                  rw [cj] at qf
                  exact qf
            · rintro ρ S' ⟨pre, hs, h', pm, x6, rfl, rfl, ej, el, c, l0, l⟩
              have qf := q (S ++ [.lst (hs.map .int)]) ⟨_, rfl⟩
              rw [c] at qf
              exact qf
          | _ => simp [isTn, is_among_odd ha, inO, hin]; exact q0
        · have e0 : chartB os s (.tup [.int h, b]) = false := by
            cases b with
            | tup js =>
              show (decide (h ∈ os) && chartJ os s h none js) = _
              rw [decide_eq_false hin, Bool.false_and]
            | _ => rfl
          rw [e0] at q0
          simp [isTn, is_among_odd ha, inO, hin]
          exact q0
      | _ => simp [isTn, is_among_odd ha, inO]; exact q0
  | _ => simp [isTn]; exact q0
end
end Dm
-- text HmDet9
set_option maxHeartbeats 1000000
namespace Dm
open PySem L2
/-! ### what are looks, data of any kind -/
end Dm
-- text HmDet10
set_option maxHeartbeats 1000000
namespace Dm
open PySem L2
/-! ### drawn looks by the pot's number -/
def mx (i j : Int) : Int := if i < j then j else i
end Dm
-- text HmBad1
set_option maxHeartbeats 1000000
namespace Dm
open PySem L2
/-! ### wrong arguments -/
theorem resMono {α : Type} {r : Res α} {E E' : EX} {Q Q' : α → Sto → Prop} (h : r.DoesE E Q) (hE : ∀ c fs S, E c fs S → E' c fs S) (hQ : ∀ a S, Q a S → Q' a S) : r.DoesE E' Q' := by
  cases r with
  | ok a S => exact hQ _ _ h
  | exc c fs S => exact hE _ _ _ h
  | bad => exact h
theorem resBoth {α : Type} {r : Res α} {Q Q' : α → Sto → Prop} (h : r.Does Q) (h' : r.Does Q') : r.Does fun a S => Q a S ∧ Q' a S := by
  cases r with
  | ok a S => exact ⟨h, h'⟩
  | exc c fs S => exact h
  | bad => exact h
section
variable {S : Sto} {os : List Int} {s : Int} {d a b : D} {ls : List (Int × Int)}
theorem need_zone_bad (h : OddD d) (hb : zoneB d = false) : m_need_zone [d] S = .exc "InvalidZone" [] S := by
  unfold m_need_zone mDef
  simp [mIfS, mNot, mCall, mCons, mVar, mNil, Res.bind, is_zone_odd h, hb, mRaise, ofRes]
/-! what is told of a call -/
def rzD (k : Int) : D := .tup [.str "raised", .lst [.int k]]
def tellD (v : D) : D := .tup [.str "told", v]
theorem xq1 : xSub "InvalidZone" "HourError" = true := by decide +kernel
theorem xq2 : xSub "InvalidLooks" "HourError" = true := by decide +kernel
theorem xq3 : xSub "InvalidNumber" "HourError" = true := by decide +kernel
end
end Dm
-- text HmBad2
set_option maxHeartbeats 1000000
namespace Dm
open PySem L2
section
variable {S : Sto} {os : List Int} {s : Int} {d a b : D} {ls : List (Int × Int)} {p : Nat}
theorem ifS_b {ρ : Rho} {b : Bool} {P : Sto → Prop} {c : ME} {ma mb : MS} {EO : EXO} {N B C : Rho → Sto → Prop} {R : D → Sto → Prop} (h : ∀ Q : D → Sto → Prop, (∀ S', P S' → Q (.bl b) S') → (c ρ S).Does Q) (k : ∀ S', P S' → if b = true then (ma ρ S').DoesE EO (fun ρ S => (mb ρ S).DoesE EO N R B C) R B C else (mb ρ S').DoesE EO N R B C) : (mSeq (mIfS c ma mNop) mb ρ S).DoesE EO N R B C := by
  rw [does_seq, does_ifS]
  refine Res.Does.toE (h _ fun S' hs => ?_)
  have := k S' hs
  cases b <;> exact this
theorem strange_number_does {Q : D → Sto → Prop} (hp : Pot p S) (q : ∀ d S', Go p S S' → OddD d → isI d = false → Q d S') : (m_law_strange_number [.cell p] S).Does Q := by
  refine does_def rfl ?_
  simp
  refine draw_does hp (by decide) (by decide) fun r S1 g1 r0 r1 => ?_
  have hlog : r.natAbs.log2 < 1920 := log2_small (m := 30) (by omega) (by decide)
  simp [gStrI, hlog]
  refine draw_does g1.pot (by decide) (by decide) fun r2 S2 g2 b0 b1 => ?_
  have g := g1.trans g2
  have one : ∀ x, x ∈ [D.int r] → OddD x := fun x hx => by rw [List.mem_singleton.mp hx]; exact .int r
  have e : r2 = 0 ∨ r2 = 1 ∨ r2 = 2 ∨ r2 = 3 ∨ r2 = 4 ∨ r2 = 5 ∨ r2 = 6 ∨ r2 = 7 ∨ r2 = 8 ∨ r2 = 9 := by omega
  rcases e with e | e | e | e | e | e | e | e | e | e <;> subst e <;> simp [atI, ixN]
  · exact q _ _ g .non rfl
  · exact q _ _ g (.bl _) rfl
  · exact q _ _ g (.bl _) rfl
  · exact q _ _ g (.str _) rfl
  · exact q _ _ g (.str _) rfl
  · exact q _ _ g (.lst (by simp) one) rfl
  · exact q _ _ g (.tup (by simp) one) rfl
  · exact q _ _ g (.exn _ _) rfl
  · exact q _ _ g (.tup (by simp) (fun x hx => nomatch hx)) rfl
  · exact q _ _ g (.str _) rfl
theorem ints_oddL (is : List Int) : ∀ x, x ∈ is.map D.int → OddD x := fun x hx => by
  obtain ⟨i, _, rfl⟩ := List.mem_map.mp hx
  exact .int i
theorem bad_region_does {Q : D → Sto → Prop} (hp : Pot p S) (z : ZoneOK os s) (q : ∀ d S', Go p S S' → OddD d → zoneB d = false → Q d S') : (m_law_bad_region [.cell p, zoneD os s] S).Does Q := by
  obtain ⟨y, hy⟩ := id hp
  have hy : PotX p y S := hy
  have hl := z.len
  obtain ⟨d, x', od, mk⟩ := bend_makes (n := 12) y (m := 600) (k := 23) (deep := 2) (Nat.le_refl _) (by decide) (zone_oddK z (Nat.le_refl _) (by decide)) (by decide) (by decide)
  have oo : OddD d := od.odd (by decide)
  have zo : OddD (zoneD os s) := (zone_oddK z (m := 600) (k := 2) (Nat.le_refl _) (Nat.le_refl _)).odd (by decide)
  refine does_def rfl ?_
  refine seq_cut (fun ρ S' => ρ = [some (.cell p), some (zoneD os s), some d, none] ∧ Go p S S') (fun M hM => ?_) ?_
  · simp
    exact mk _ _ _ hy fun S' g _ => hM _ _ ⟨rfl, g⟩
  rintro ρ S1 ⟨rfl, g1⟩
  cases hb : zoneB d with
  | false =>
    refine ifS_no (fun Q q => by simp [is_region_odd oo, hb]; exact q) ?_
    simp
    exact q _ _ g1 oo hb
  | true =>
    refine ifS_yes (fun Q q => by simp [is_region_odd oo, hb]; exact q) ?_
    have ot : OddD (.tup (os.map .int)) := .tup (by rw [List.length_map]; omega) (ints_oddL os)
    have ol : OddD (.lst (os.map .int)) := .lst (by rw [List.length_map]; omega) (ints_oddL os)
    have c5 : ∀ x, x ∈ [D.lst [.tup (os.map .int), .int s], .tup (os.map .int), .tup [.tup (os.map .int), .int s, .int 1], .tup [.tup (os.map .int), .str "1"], .tup [.lst (os.map .int), .int s]] → OddD x ∧ zoneB x = false := by
      intro x hx
      simp only [List.mem_cons, List.not_mem_nil, or_false] at hx
      rcases hx with rfl | rfl | rfl | rfl | rfl
      · refine ⟨.lst (by simp) (List.forall_mem_cons.mpr ⟨ot, List.forall_mem_cons.mpr ⟨.int _, List.forall_mem_nil _⟩⟩), zoneB_no fun ⟨_, _, e, _⟩ => nomatch e⟩
      · refine ⟨ot, zoneB_no fun ⟨os', s', e, _⟩ => ?_⟩
        injection e with e
        cases os with
        | nil => cases e
        | cons o r => cases e
      · refine ⟨.tup (by simp) (List.forall_mem_cons.mpr ⟨ot, List.forall_mem_cons.mpr ⟨.int _, List.forall_mem_cons.mpr ⟨.int _, List.forall_mem_nil _⟩⟩⟩), zoneB_no fun ⟨os', s', e, _⟩ => ?_⟩
        injection e with e
        injection e with _ e
        injection e with _ e
        cases e
      · refine ⟨.tup (by simp) (List.forall_mem_cons.mpr ⟨ot, List.forall_mem_cons.mpr ⟨.str _, List.forall_mem_nil _⟩⟩), zoneB_no fun h => ?_⟩
        obtain ⟨_, _, _, e, _⟩ := zone_parts h
        cases e
      · refine ⟨.tup (by simp) (List.forall_mem_cons.mpr ⟨ol, List.forall_mem_cons.mpr ⟨.int _, List.forall_mem_nil _⟩⟩), zoneB_no fun h => ?_⟩
        obtain ⟨_, _, e, _⟩ := zone_parts h
        cases e
    refine seq_cut (fun ρ S' => ρ = [some (.cell p), some (zoneD os s), some d, some (.lst [D.lst [.tup (os.map .int), .int s], .tup (os.map .int), .tup [.tup (os.map .int), .int s, .int 1], .tup [.tup (os.map .int), .str "1"], .tup [.lst (os.map .int), .int s]])] ∧ S1 = S') (fun M hM => ?_) ?_
    · simp [zoneD]
      exact hM _ _ ⟨rfl, rfl⟩
    rintro ρ _ ⟨rfl, rfl⟩
    generalize hL : [D.lst [.tup (os.map .int), .int s], .tup (os.map .int), .tup [.tup (os.map .int), .int s, .int 1], .tup [.tup (os.map .int), .str "1"], .tup [.lst (os.map .int), .int s]] = L at c5
    have lL : L.length = 5 := by rw [← hL]; rfl
    simp
    refine draw_does g1.pot (by decide) (by decide) fun r S2 g2 b0 b1 => ?_
    obtain ⟨x, ex, mx⟩ := at_ex (l := L) b0 (by omega)
    simp [ex]
    exact q _ _ (g1.trans g2) (c5 x mx).1 (c5 x mx).2
end
end Dm
-- text M_k06
namespace Dm
open PySem L2
theorem findO_eqv {S : Sto} {ms : List Int} {g : Int × Int} {r : Int} {f p : Str} : Plain 0 (findO ms g r f p) := by
  unfold findO
  split
  · exact .int
  · split
    · exact .non
    · split <;> exact .int
  · split
    · exact .non
    · split <;> exact .int
theorem at3s {r : Int} {a b c : Str} (h0 : 0 ≤ r) (h1 : r < 3) : ∃ u, atI [D.str a, .str b, .str c] r = some (.str u) ∧ (u = a ∨ u = b ∨ u = c) := by
  have e : r = 0 ∨ r = 1 ∨ r = 2 := by omega
  rcases e with rfl | rfl | rfl
  · exact ⟨a, rfl, by simp⟩
  · exact ⟨b, rfl, by simp⟩
  · exact ⟨c, rfl, by simp⟩
end Dm
-- text HmTbad1
set_option maxHeartbeats 1000000
namespace Dm
open PySem L2
/-! ### wrong arguments of the functions on tables -/
def noWord (d : D) (a b c : Str) : Prop := ∀ x, d = .str x → x ≠ a ∧ x ≠ b ∧ x ≠ c
section
variable {S : Sto} {os : List Int} {s : Int} {d a b f g : D} {h m : Int} {js : List (Int × Int)}
theorem ifS1_yes {ρ : Rho} {c : ME} {ma mb : MS} {EO : EXO} {N B C : Rho → Sto → Prop} {R : D → Sto → Prop} (h : ∀ Q : D → Sto → Prop, Q (.bl true) S → (c ρ S).Does Q) (k : (ma ρ S).DoesE EO N R B C) : (mIfS c ma mb ρ S).DoesE EO N R B C := by
  rw [does_ifS]
  exact Res.Does.toE (h _ k)
theorem rule_test {x1 x2 x3 : Str} {ρ : Rho} {i : Nat} {Q : D → Sto → Prop} (ho : OddD d) (hi : ρ[i]? = some (some d)) (hb : noWord d x1 x2 x3) (q : Q (.bl true) S) : (mOr (mNot (mIsi .str (mVar i))) (mOp (gIn true) (mVar i) (mK (.tup [.str x1, .str x2, .str x3]))) ρ S).Does Q := by
  cases ho with
  | str x =>
    obtain ⟨n1, n2, n3⟩ := hb x rfl
    have e : gIn true S (.str x) (.tup [.str x1, .str x2, .str x3]) = some (.bl true) := by
      unfold gIn
      simp [seqOf, eqF, flatD, Ne.symm n1, Ne.symm n2, Ne.symm n3]
    simp [hi, isTn, e]
    exact q
  | _ =>
    simp [hi, isTn]
    exact q
theorem need_rules_fbad {E : EX} {Q : D → Sto → Prop} (ho : OddD f) (hb : noWord f "early" "late" "refuse") (q : E "InvalidRule" [] S) : (m_need_rules [f, g] S).DoesE E Q := by
  refine does_def rfl ?_
  refine ifS_yes (fun Q q => rule_test ho rfl hb q) ?_
  simp
  exact q
theorem need_rules_gbad {E : EX} {Q : D → Sto → Prop} {x : Str} (hf : RuleF x) (ho : OddD g) (hb : noWord g "ahead" "behind" "refuse") (q : E "InvalidRule" [] S) : (m_need_rules [.str x, g] S).DoesE E Q := by
  refine does_def rfl ?_
  have e : gIn true S (.str x) (.tup [.str "early", .str "late", .str "refuse"]) = some (.bl false) := by
    unfold gIn
    rcases hf with rfl | rfl | rfl <;> simp [seqOf, eqF, flatD]
  refine ifS_no (fun Q q => by simp [isTn, e]; exact q) ?_
  refine ifS1_yes (fun Q q => rule_test ho rfl hb q) ?_
  simp
  exact q
theorem need_table_bad (z : ZoneOK os s) (h : OddD d) (hb : chartB os s d = false) : m_need_table [zoneD os s, d] S = .exc "InvalidTable" [] S := by
  unfold m_need_table mDef
  simp [mIfS, mNot, mCall, mCons, mVar, mNil, Res.bind, is_table_odd z h, hb, mRaise, ofRes]
/-! the zone is wrong -/
theorem offset_at_zbad {E : EX} {Q : D → Sto → Prop} (h : OddD a) (hb : zoneB a = false) (q : E "InvalidZone" [] S) : (m_offset_at [a, b, d] S).DoesE E Q := by
  refine does_def rfl ?_
  simp [need_zone_bad h hb]
  exact q
theorem reading_at_zbad {E : EX} {Q : D → Sto → Prop} (h : OddD a) (hb : zoneB a = false) (q : E "InvalidZone" [] S) : (m_reading_at [a, b, d] S).DoesE E Q := by
  refine does_def rfl ?_
  simp
  exact offset_at_zbad h hb q
theorem moments_of_zbad {E : EX} {Q : D → Sto → Prop} (h : OddD a) (hb : zoneB a = false) (q : E "InvalidZone" [] S) : (m_moments_of [a, b, d] S).DoesE E Q := by
  refine does_def rfl ?_
  simp [need_zone_bad h hb]
  exact q
theorem find_moment_zbad {E : EX} {Q : D → Sto → Prop} (h : OddD a) (hb : zoneB a = false) (q : E "InvalidZone" [] S) : (m_find_moment [a, b, d, f, g] S).DoesE E Q := by
  refine does_def rfl ?_
  simp [need_zone_bad h hb]
  exact q
theorem is_table_zbad {E : EX} {Q : D → Sto → Prop} (h : OddD a) (hb : zoneB a = false) (q : E "InvalidZone" [] S) : (m_is_table [a, b] S).DoesE E Q := by
  refine does_def rfl ?_
  simp [need_zone_bad h hb]
  exact q
/-! the table is wrong -/
theorem offset_at_tbad {E : EX} {Q : D → Sto → Prop} (z : ZoneOK os s) (h : OddD b) (hb : chartB os s b = false) (q : E "InvalidTable" [] S) : (m_offset_at [zoneD os s, b, d] S).DoesE E Q := by
  refine does_def rfl ?_
  simp [need_zone_ok z, need_table_bad z h hb]
  exact q
theorem reading_at_tbad {E : EX} {Q : D → Sto → Prop} (z : ZoneOK os s) (h : OddD b) (hb : chartB os s b = false) (q : E "InvalidTable" [] S) : (m_reading_at [zoneD os s, b, d] S).DoesE E Q := by
  refine does_def rfl ?_
  simp
  exact offset_at_tbad z h hb q
theorem moments_of_tbad {E : EX} {Q : D → Sto → Prop} (z : ZoneOK os s) (h : OddD b) (hb : chartB os s b = false) (q : E "InvalidTable" [] S) : (m_moments_of [zoneD os s, b, d] S).DoesE E Q := by
  refine does_def rfl ?_
  simp [need_zone_ok z, need_table_bad z h hb]
  exact q
theorem find_moment_tbad {E : EX} {Q : D → Sto → Prop} (z : ZoneOK os s) (h : OddD b) (hb : chartB os s b = false) (q : E "InvalidTable" [] S) : (m_find_moment [zoneD os s, b, d, f, g] S).DoesE E Q := by
  refine does_def rfl ?_
  simp [need_zone_ok z, need_table_bad z h hb]
  exact q
/-! the number is wrong -/
theorem offset_at_nbad {E : EX} {Q : D → Sto → Prop} (z : ZoneOK os s) (t : TabOK os s h js) (ho : OddD d) (hb : isI d = false) (q : E "InvalidNumber" [] S) : (m_offset_at [zoneD os s, tabD h js, d] S).DoesE E Q := by
  refine does_def rfl ?_
  simp [need_zone_ok z, need_table_ok z t, need_number_bad ho hb]
  exact q
theorem reading_at_nbad {E : EX} {Q : D → Sto → Prop} (z : ZoneOK os s) (t : TabOK os s h js) (ho : OddD d) (hb : isI d = false) (q : E "InvalidNumber" [] S) : (m_reading_at [zoneD os s, tabD h js, d] S).DoesE E Q := by
  refine does_def rfl ?_
  simp
  exact offset_at_nbad z t ho hb q
theorem moments_of_nbad {E : EX} {Q : D → Sto → Prop} (z : ZoneOK os s) (t : TabOK os s h js) (ho : OddD d) (hb : isI d = false) (q : E "InvalidNumber" [] S) : (m_moments_of [zoneD os s, tabD h js, d] S).DoesE E Q := by
  refine does_def rfl ?_
  simp [need_zone_ok z, need_table_ok z t, need_number_bad ho hb]
  exact q
theorem find_moment_nbad {E : EX} {Q : D → Sto → Prop} (z : ZoneOK os s) (t : TabOK os s h js) (ho : OddD d) (hb : isI d = false) (q : E "InvalidNumber" [] S) : (m_find_moment [zoneD os s, tabD h js, d, f, g] S).DoesE E Q := by
  refine does_def rfl ?_
  simp [need_zone_ok z, need_table_ok z t, need_number_bad ho hb]
  exact q
/-! a rule is wrong -/
theorem find_moment_fbad {E : EX} {Q : D → Sto → Prop} (z : ZoneOK os s) (t : TabOK os s h js) (ho : OddD f) (hb : noWord f "early" "late" "refuse") (q : E "InvalidRule" [] S) : (m_find_moment [zoneD os s, tabD h js, .int m, f, g] S).DoesE E Q := by
  refine does_def rfl ?_
  simp [need_zone_ok z, need_table_ok z t]
  exact need_rules_fbad ho hb q
theorem find_moment_gbad {E : EX} {Q : D → Sto → Prop} {x : Str} (z : ZoneOK os s) (t : TabOK os s h js) (hf : RuleF x) (ho : OddD g) (hb : noWord g "ahead" "behind" "refuse") (q : E "InvalidRule" [] S) : (m_find_moment [zoneD os s, tabD h js, .int m, .str x, g] S).DoesE E Q := by
  refine does_def rfl ?_
  simp [need_zone_ok z, need_table_ok z t]
  exact need_rules_gbad hf ho hb q
end
end Dm
-- text HmTbad2
set_option maxHeartbeats 1000000
namespace Dm
open PySem L2
section
variable {S : Sto} {os : List Int} {s : Int} {d a b f g : D} {h m : Int} {js : List (Int × Int)} {p : Nat}
theorem bad_chart_does {Q : D → Sto → Prop} (hp : Pot p S) (z : ZoneOK os s) (hk : OddK 600 24 (tabD h js)) (q : ∀ d S', Go p S S' → OddD d → chartB os s d = false → Q d S') : (m_law_bad_chart [.cell p, zoneD os s, tabD h js] S).Does Q := by
  obtain ⟨y, hy⟩ := id hp
  have hy : PotX p y S := hy
  obtain ⟨d, x', od, mk⟩ := bend_makes (n := 12) y (m := 600) (k := 24) (deep := 3) (Nat.le_refl _) (by decide) hk (by decide) (by decide)
  have oo : OddD d := od.odd (by decide)
  have oj : (js.map jmpD).length ≤ 600 ∧ ∀ x, x ∈ js.map jmpD → OddD x := by
    cases hk with
    | tup h1 h2 =>
      have := h2 (.tup (js.map jmpD)) (by simp)
      cases this with
      | tup h3 h4 => exact ⟨h3, fun x hx => (h4 x hx).odd (by decide)⟩
  have h901 : (901 : Int) ∉ os := fun h => by
    have := zone_offs (show ZoneOf (.tup [.tup (os.map .int), .int s]) from ⟨os, s, rfl, z⟩)
    obtain ⟨i', e, h1, h2⟩ := offK_some (this.2.2 (.int 901) (List.mem_map.mpr ⟨901, h, rfl⟩))
    cases e
    omega
  refine does_def rfl ?_
  refine seq_cut (fun ρ S' => ρ = [some (.cell p), some (zoneD os s), some (tabD h js), some d] ∧ Go p S S') (fun M hM => ?_) ?_
  · simp
    exact mk _ _ _ hy fun S' g _ => hM _ _ ⟨rfl, g⟩
  rintro ρ S1 ⟨rfl, g1⟩
  have test : ∀ Q : D → Sto → Prop, (∀ S', Grow S1 S' → Q (.bl (chartB os s d)) S') → (mCall m_law_is_chart (mCons (mVar 1) (mCons (mVar 3) mNil)) [some (.cell p), some (zoneD os s), some (tabD h js), some d] S1).Does Q := by
    intro Q q
    simp
    exact is_chart1_odd oo q
  refine ifS_b (P := fun S' => Grow S1 S') (b := chartB os s d) (fun Q q => test Q q) fun S2 gr => ?_
  have g2 : Go p S S2 := g1.trans (gr.go g1.pot)
  cases hb : chartB os s d with
  | false =>
    rw [if_neg Bool.false_ne_true]
    simp
    exact q _ _ g2 oo hb
  | true =>
    rw [if_pos rfl]
    have ot : OddD (.tup (js.map jmpD)) := .tup (by omega) oj.2
    have ol : OddD (.lst (js.map jmpD)) := .lst (by omega) oj.2
    have c4 : ∀ x, x ∈ [D.lst [.int h, .tup (js.map jmpD)], .tup [.int h, .lst (js.map jmpD)], .tup [.int h, .tup (js.map jmpD), .tup []], .tup [.int 901, .tup (js.map jmpD)]] → OddD x ∧ chartB os s x = false := by
      intro x hx
      simp only [List.mem_cons, List.not_mem_nil, or_false] at hx
      rcases hx with rfl | rfl | rfl | rfl
      · exact ⟨.lst (by simp) (List.forall_mem_cons.mpr ⟨.int _, List.forall_mem_cons.mpr ⟨ot, List.forall_mem_nil _⟩⟩), rfl⟩
      · exact ⟨.tup (by simp) (List.forall_mem_cons.mpr ⟨.int _, List.forall_mem_cons.mpr ⟨ol, List.forall_mem_nil _⟩⟩), rfl⟩
      · exact ⟨.tup (by simp) (List.forall_mem_cons.mpr ⟨.int _, List.forall_mem_cons.mpr ⟨ot, List.forall_mem_cons.mpr ⟨.tup (by simp) (List.forall_mem_nil _), List.forall_mem_nil _⟩⟩⟩), rfl⟩
      · refine ⟨.tup (by simp) (List.forall_mem_cons.mpr ⟨.int _, List.forall_mem_cons.mpr ⟨ot, List.forall_mem_nil _⟩⟩), ?_⟩
        show (decide ((901 : Int) ∈ os) && chartJ os s 901 none (js.map jmpD)) = false
        rw [decide_eq_false h901, Bool.false_and]
    generalize hL : [D.lst [.int h, .tup (js.map jmpD)], .tup [.int h, .lst (js.map jmpD)], .tup [.int h, .tup (js.map jmpD), .tup []], .tup [.int 901, .tup (js.map jmpD)]] = L at c4
    have lL : L.length = 4 := by rw [← hL]; rfl
    simp [tabD]
    refine draw_does g2.pot (by decide) (by decide) fun r S3 g3 b0 b1 => ?_
    obtain ⟨x, ex, mx⟩ := at_ex (l := L) b0 (by omega)
    rw [hL]
    simp [ex]
    exact q _ _ (g2.trans g3) (c4 x mx).1 (c4 x mx).2
theorem up_late : Txt.upper (Str.ofString "late") = Str.ofString "LATE" := by decide +kernel
theorem up_behind : Txt.upper (Str.ofString "behind") = Str.ofString "BEHIND" := by decide +kernel
def badR0 (w0 w1 : Str) (u0 u1 : Str) : List D := [.str u0, .str u1, .str "", .str (w0 ++ Str.ofString " "), .str "Early", .non, .bl true, .int 0, .lst [.str w0], .tup [.str w1]]
def badR (w0 w1 : Str) (u0 u1 v : Str) : List D := badR0 w0 w1 u0 u1 ++ [.str v]
theorem badR_odd {w0 w1 u0 u1 v : Str} : ∀ x, x ∈ badR w0 w1 u0 u1 v → OddD x := by
  intro x hx
  unfold badR badR0 at hx
  simp only [List.cons_append, List.nil_append, List.mem_cons, List.not_mem_nil, or_false] at hx
  rcases hx with rfl | rfl | rfl | rfl | rfl | rfl | rfl | rfl | rfl | rfl | rfl
  · exact .str _
  · exact .str _
  · exact .str _
  · exact .str _
  · exact .str _
  · exact .non
  · exact .bl _
  · exact .int _
  · exact .lst (by simp) (List.forall_mem_cons.mpr ⟨.str _, List.forall_mem_nil _⟩)
  · exact .tup (by simp) (List.forall_mem_cons.mpr ⟨.str _, List.forall_mem_nil _⟩)
  · exact .str _
theorem bad_fold_does {Q : D → Sto → Prop} (hp : Pot p S) (q : ∀ d S', Go p S S' → OddD d → noWord d "early" "late" "refuse" → Q d S') : (m_law_bad_rule [.cell p, .lst [.str "early", .str "late", .str "refuse"], .lst [.str "ahead", .str "behind", .str "refuse"]] S).Does Q := by
  refine does_def rfl ?_
  refine seq_cut (fun ρ S' => ρ = [some (.cell p), some (.lst [.str "early", .str "late", .str "refuse"]), some (.lst [.str "ahead", .str "behind", .str "refuse"]), some (.lst (badR0 "early" "late" "ahead" "behind"))] ∧ S = S') (fun M hM => ?_) ?_
  · have hc : gCatS S (.str "early") (.str " ") = some (.str (Str.ofString "early" ++ Str.ofString " ")) := by
      unfold gCatS
      simp only
      rw [if_pos (by decide +kernel)]
    simp [hc]
    exact ⟨by decide +kernel, hM _ _ ⟨rfl, rfl⟩⟩
  rintro ρ _ ⟨rfl, rfl⟩
  have hu : gUpper S (.str "late") = some (.str "LATE") := by
    unfold gUpper
    simp only
    rw [if_pos (by decide +kernel), up_late]
  simp [hu]
  refine ⟨by decide, ?_⟩
  refine draw_does hp (by decide) (by decide) fun r S2 g2 b0 b1 => ?_
  obtain ⟨x, ex, mx⟩ := at_ex (l := badR "early" "late" "ahead" "behind" "LATE") b0 (by show r < 11; omega)
  have ex2 : gIx S2 (.lst (badR0 "early" "late" "ahead" "behind" ++ [.str "LATE"])) (.int r) = some x := ex
  simp [ex2]
  refine q _ _ g2 (badR_odd x mx) ?_
  unfold badR badR0 at mx
  simp only [List.cons_append, List.nil_append, List.mem_cons, List.not_mem_nil, or_false] at mx
  rcases mx with rfl | rfl | rfl | rfl | rfl | rfl | rfl | rfl | rfl | rfl | rfl <;> intro y hy <;> first | (cases hy; done) | (cases hy; refine ⟨?_, ?_, ?_⟩ <;> decide +kernel)
theorem bad_gap_does {Q : D → Sto → Prop} (hp : Pot p S) (q : ∀ d S', Go p S S' → OddD d → noWord d "ahead" "behind" "refuse" → Q d S') : (m_law_bad_rule [.cell p, .lst [.str "ahead", .str "behind", .str "refuse"], .lst [.str "early", .str "late", .str "refuse"]] S).Does Q := by
  refine does_def rfl ?_
  refine seq_cut (fun ρ S' => ρ = [some (.cell p), some (.lst [.str "ahead", .str "behind", .str "refuse"]), some (.lst [.str "early", .str "late", .str "refuse"]), some (.lst (badR0 "ahead" "behind" "early" "late"))] ∧ S = S') (fun M hM => ?_) ?_
  · have hc : gCatS S (.str "ahead") (.str " ") = some (.str (Str.ofString "ahead" ++ Str.ofString " ")) := by
      unfold gCatS
      simp only
      rw [if_pos (by decide +kernel)]
    simp [hc]
    exact ⟨by decide +kernel, hM _ _ ⟨rfl, rfl⟩⟩
  rintro ρ _ ⟨rfl, rfl⟩
  have hu : gUpper S (.str "behind") = some (.str "BEHIND") := by
    unfold gUpper
    simp only
    rw [if_pos (by decide +kernel), up_behind]
  simp [hu]
  refine ⟨by decide, ?_⟩
  refine draw_does hp (by decide) (by decide) fun r S2 g2 b0 b1 => ?_
  obtain ⟨x, ex, mx⟩ := at_ex (l := badR "ahead" "behind" "early" "late" "BEHIND") b0 (by show r < 11; omega)
  have ex2 : gIx S2 (.lst (badR0 "ahead" "behind" "early" "late" ++ [.str "BEHIND"])) (.int r) = some x := ex
  simp [ex2]
  refine q _ _ g2 (badR_odd x mx) ?_
  unfold badR badR0 at mx
  simp only [List.cons_append, List.nil_append, List.mem_cons, List.not_mem_nil, or_false] at mx
  rcases mx with rfl | rfl | rfl | rfl | rfl | rfl | rfl | rfl | rfl | rfl | rfl <;> intro y hy <;> first | (cases hy; done) | (cases hy; refine ⟨?_, ?_, ?_⟩ <;> decide +kernel)
end
end Dm
-- text HmTbad3
set_option maxHeartbeats 1000000
namespace Dm
open PySem L2
section
variable {S : Sto} {a b d f g : D}
/-! what is told of a call -/
def rzE (k : Int) : D := .tup [.str "raised", .lst [.int k]]
def tellE (v : D) : D := .tup [.str "told", v]
noncomputable def callG (w : Int) (a b d f g : D) (S : Sto) : Res D := if w = 0 then m_offset_at [a, b, d] S else if w = 1 then m_reading_at [a, b, d] S else if w = 2 then m_moments_of [a, b, d] S else if w = 3 then m_find_moment [a, b, d, f, g] S else m_is_table [a, b] S
def rcls : Str → Int → Prop := fun c k => (c = "InvalidZone" ∧ k = 0) ∨ (c = "InvalidTable" ∧ k = 1) ∨ (c = "InvalidNumber" ∧ k = 2) ∨ (c = "InvalidRule" ∧ k = 3)
theorem rcls_in {c : Str} {k : Int} (h : rcls c k) : c ∈ (["InvalidNumber", "InvalidRule", "InvalidTable", "InvalidZone"] : List Str) ∧ xSub c "HourError" = true ∧ [xSub c "InvalidZone", xSub c "InvalidTable", xSub c "InvalidNumber", xSub c "InvalidRule", xSub c "InvalidLooks"] = [decide (k = 0), decide (k = 1), decide (k = 2), decide (k = 3), false] := by
  rcases h with ⟨rfl, rfl⟩ | ⟨rfl, rfl⟩ | ⟨rfl, rfl⟩ | ⟨rfl, rfl⟩ <;> exact ⟨by decide +kernel, by decide +kernel, by decide +kernel⟩
theorem growSet {S S' : Sto} {n : Nat} {c : Cell} (g : Grow S S') (h : S.length ≤ n) : Grow S (S'.set n c) := by
  obtain ⟨cs, rfl⟩ := g
  exact ⟨cs.set (n - S.length) c, List.set_append_right _ _ h⟩
theorem told_flags {n : Nat} {r0 r1 r2 r3 r4 r6 : Option D} {f1 f2 f3 f4 f5 : Bool} {Q : D → Sto → Prop} (hn : S[n]? = some (.lst [.bl f1, .bl f2, .bl f3, .bl f4, .bl f5])) (q : Q (.tup [.str "raised", .lst ((if f1 then [D.int 0] else []) ++ (if f2 then [D.int 1] else []) ++ (if f3 then [D.int 2] else []) ++ (if f4 then [D.int 3] else []) ++ (if f5 then [D.int 4] else []))]) S) :
    (mTup (mCons (mK (.str "raised")) (mCons (mFz (mLc (iRange1 (mCons (mK (.int 5)) mNil)) (tgN 6) (mOp gIx (mVar 5) (mVar 6)) (mVar 6) [6])) mNil)) [r0, r1, r2, r3, r4, some (.cell n), r6] S).Does Q := by
  have g0 : gIx S (.cell n) (.int 0) = some (.bl f1) := by rw [gIx_cell hn]; rfl
  have g1 : gIx S (.cell n) (.int 1) = some (.bl f2) := by rw [gIx_cell hn]; rfl
  have g2 : gIx S (.cell n) (.int 2) = some (.bl f3) := by rw [gIx_cell hn]; rfl
  have g3 : gIx S (.cell n) (.int 3) = some (.bl f4) := by rw [gIx_cell hn]; rfl
  have g4 : gIx S (.cell n) (.int 4) = some (.bl f5) := by rw [gIx_cell hn]; rfl
  clear hn
  cases f1 <;> cases f2 <;> cases f3 <;> cases f4 <;> cases f5 <;> (simp [wipeD, rngD_cons, rngD_nil, g0, g1, g2, g3, g4]; exact q)
theorem heard2_does {w : Int} {Q : D → Sto → Prop} (w0 : 0 ≤ w) (w1 : w < 5) (h : (callG w a b d f g S).DoesE (fun c fs S' => fs = [] ∧ ∃ k, rcls c k ∧ ∀ S2, Grow S' S2 → Q (rzE k) S2) (fun v S' => Q (tellE v) S')) : (m_law_heard_v2 [.int w, .lst [a, b, d, f, g]] S).Does Q := by
  refine does_def rfl ?_
  refine seq_cut (fun ρ S' => ρ = [some (.int w), some (.lst [a, b, d, f, g]), some .non, none, none, none, none] ∧ S = S') (fun M hM => ?_) ?_
  · simp
    exact hM _ _ ⟨rfl, rfl⟩
  rintro ρ _ ⟨rfl, rfl⟩
  refine seq_cut (fun ρ S' => ρ = [some (.int w), some (.lst [a, b, d, f, g]), some .non, some .non, none, none, none] ∧ S = S') (fun M hM => ?_) ?_
  · simp
    exact hM _ _ ⟨rfl, rfl⟩
  rintro ρ _ ⟨rfl, rfl⟩
  refine seq_cut (fun ρ S' => (∃ v, ρ = [some (.int w), some (.lst [a, b, d, f, g]), some .non, some v, none, none, none] ∧ Q (tellE v) S') ∨ ∃ x3 c, ρ = [some (.int w), some (.lst [a, b, d, f, g]), some (.exn c []), x3, none, none, none] ∧ ∃ k, rcls c k ∧ ∀ S2, Grow S' S2 → Q (rzE k) S2) (fun M hM => ?_) ?_
  · rw [does_try]
    have key : ∀ (E : EX) (Q' : D → Sto → Prop), (∀ (c : Str) fs S', fs = [] → (∃ k, rcls c k ∧ ∀ S2, Grow S' S2 → Q (rzE k) S2) → E c fs S') → (∀ v S', Q (tellE v) S' → Q' v S') → (callG w a b d f g S).DoesE E Q' := fun E Q' hE hQ => resMono h (fun c fs S' hh => hE c fs S' hh.1 hh.2) hQ
    have fin : ∀ (c : Str) (k : Int) (S' : Sto), rcls c k → (∀ S2, Grow S' S2 → Q (rzE k) S2) → ∃ ns, intFsOf [] = some ns ∧ (c = "InvalidNumber" ∨ c = "InvalidRule" ∨ c = "InvalidTable" ∨ c = "InvalidZone") ∧ xSub c "HourError" = true ∧ M [some (.int w), some (.lst [a, b, d, f, g]), some (.exn c ns), some .non, none, none, none] S' := fun c k S' hk hq => by
      obtain ⟨h1, h2, _⟩ := rcls_in hk
      simp only [List.mem_cons, List.not_mem_nil, or_false] at h1
      exact ⟨[], rfl, h1, h2, hM _ _ (.inr ⟨_, _, rfl, k, hk, hq⟩)⟩
    unfold callG at key
    have e : w = 0 ∨ w = 1 ∨ w = 2 ∨ w = 3 ∨ w = 4 := by omega
    clear h
    rcases e with e | e | e | e | e <;> subst e <;> simp at key ⊢ <;> refine key _ _ (fun c fs S' e k hk hq => ?_) (fun v S' hq => hM _ _ (.inl ⟨v, rfl, hq⟩)) <;> subst e <;> obtain ⟨ns, e1, e2, e3, e4⟩ := fin c k S' hk hq <;> cases e1 <;> exact ⟨[], rfl, e2, e3, e4⟩
  rintro ρ S1 (⟨v, rfl, hq⟩ | ⟨x3, c, rfl, k, hk, hq⟩)
  · simp
    exact hq
  · obtain ⟨cs, _, fl⟩ := rcls_in hk
    have gx : ∀ (S : Sto) X, gIsX ["InvalidNumber", "InvalidRule", "InvalidTable", "InvalidZone"] X S (.exn c []) = some (.bl (xSub c X)) := fun S X => by
      unfold gIsX
      simp only
      rw [if_pos cs]
    refine ifS_no (fun Q q => by simp [isNon]; exact q) ?_
    refine seq_cut (fun ρ S' => ρ = [some (.int w), some (.lst [a, b, d, f, g]), some (.exn c []), x3, none, some (.cell S1.length), none] ∧ S' = S1 ++ [.lst [.bl (xSub c "InvalidZone"), .bl (xSub c "InvalidTable")]]) (fun M hM => ?_) ?_
    · simp [gx]
      exact hM _ _ ⟨rfl, rfl⟩
    rintro ρ _ ⟨rfl, rfl⟩
    refine seq_cut (fun ρ S' => ∃ n, ρ = [some (.int w), some (.lst [a, b, d, f, g]), some (.exn c []), x3, none, some (.cell n), none] ∧ n + 1 = S'.length ∧ S1.length ≤ n ∧ Grow S1 S' ∧ S'[n]? = some (.lst [.bl (xSub c "InvalidZone"), .bl (xSub c "InvalidTable"), .bl (xSub c "InvalidNumber"), .bl (xSub c "InvalidRule")])) (fun M hM => ?_) ?_
    · simp [gx]
      exact hM _ _ ⟨_, rfl, by simp, by omega, ⟨_, rfl⟩, by simp⟩
    rintro ρ S2 ⟨n, rfl, nl, hn1, g2, hn⟩
    have hlt := (List.getElem?_eq_some_iff.mp hn).1
    refine seq_cut (fun ρ S' => ρ = [some (.int w), some (.lst [a, b, d, f, g]), some (.exn c []), x3, none, some (.cell n), none] ∧ Grow S1 S' ∧ S'[n]? = some (.lst [.bl (xSub c "InvalidZone"), .bl (xSub c "InvalidTable"), .bl (xSub c "InvalidNumber"), .bl (xSub c "InvalidRule"), .bl (xSub c "InvalidLooks")])) (fun M hM => ?_) ?_
    · simp [gx, hn]
      exact hM _ _ ⟨rfl, growSet g2 hn1, by rw [List.getElem?_set_self hlt]⟩
    rintro ρ S3 ⟨rfl, g3, hn3⟩
    rw [does_ret]
    refine Res.Does.toE (told_flags hn3 ?_)
    simp only [List.cons.injEq] at fl
    obtain ⟨f1, f2, f3, f4, f5, _⟩ := fl
    rw [f1, f2, f3, f4, f5]
    have := hq _ g3
    rcases hk with ⟨_, rfl⟩ | ⟨_, rfl⟩ | ⟨_, rfl⟩ | ⟨_, rfl⟩ <;> exact this
end
end Dm
-- text HmBad3
set_option maxHeartbeats 1000000
namespace Dm
open PySem L2
section
variable {S : Sto} {os : List Int} {s : Int} {a b d : D} {ls : List (Int × Int)} {n : Nat} {w0 w1 w2 w m : Int}
theorem tell_same {v v' : D} {k : Nat} (h : Eqv S k v v') (hk : k ≤ 28) : m_law_same 30 [tellD v, tellD v'] S = .ok (.bl true) S := by
  refine same30 (n := 29) (.tup (n := 28) rfl (by simp) fun i d e h1 h2 => ?_) (by decide)
  match i with
  | 0 => cases h1; cases h2; exact .str
  | 1 => cases h1; cases h2; exact h.up hk
  | i + 2 => cases h1
theorem rz_same {k : Int} : m_law_same 30 [rzD k, rzD k] S = .ok (.bl true) S := by
  refine same30 (n := 3) (.tup (n := 2) rfl (by simp) fun i d e h1 h2 => ?_) (by decide)
  match i with
  | 0 => cases h1; cases h2; exact .str
  | 1 =>
    cases h1; cases h2
    exact (eqv_ints (l := [k]) rfl rfl (by simp)).up (by decide)
  | i + 2 => cases h1
/-! what is awaited -/
/-! both -/
def pk (w : Int) (x y : D) : D := if w = 0 then x else y
end
end Dm
-- text HmTbad4
set_option maxHeartbeats 1000000
namespace Dm
open PySem L2
section
variable {S : Sto} {os : List Int} {s : Int} {a b d f g : D} {h m : Int} {js : List (Int × Int)} {n : Nat} {w v0 v1 v2 v3 v4 : Int}
theorem aw2_zone {Q : D → Sto → Prop} (hn : S[n]? = some (.lst [.int 1, .int v1, .int v2, .int v3, .int v4])) (q : Q (rzE 0) S) : (m_law_awaited_v2 [.int w, .lst [a, b, d, f, g], .cell n, zoneD os s] S).Does Q := by
  refine does_def rfl ?_
  refine ifS_yes (fun Q q => by simp [gIx_cell hn]; exact q) ?_
  simp
  exact q
theorem aw2_look {Q : D → Sto → Prop} (hn : S[n]? = some (.lst [.int 0, .int v1, .int v2, .int v3, .int v4])) (hb : OddD b) (q : ∀ S', Grow S S' → Q (tellE (.bl (chartB os s b))) S') : (m_law_awaited_v2 [.int 4, .lst [a, b, d, f, g], .cell n, zoneD os s] S).Does Q := by
  refine does_def rfl ?_
  refine ifS_no (fun Q q => by simp [gIx_cell hn]; exact q) ?_
  refine ifS_yes (fun Q q => by simp; exact q) ?_
  simp
  exact is_chart1_odd hb q
theorem aw2_tab {Q : D → Sto → Prop} (hw : w = 0 ∨ w = 1 ∨ w = 2 ∨ w = 3) (hn : S[n]? = some (.lst [.int 0, .int 1, .int v2, .int v3, .int v4])) (q : Q (rzE 1) S) : (m_law_awaited_v2 [.int w, .lst [a, b, d, f, g], .cell n, zoneD os s] S).Does Q := by
  refine does_def rfl ?_
  refine ifS_no (fun Q q => by simp [gIx_cell hn]; exact q) ?_
  refine ifS_no (fun Q' q' => by rcases hw with rfl | rfl | rfl | rfl <;> (simp; exact q')) ?_
  have g0 : gIx S (.cell n) (.int 0) = some (.int 0) := by rw [gIx_cell hn]; rfl
  have g1 : gIx S (.cell n) (.int 1) = some (.int 1) := by rw [gIx_cell hn]; rfl
  clear hn
  rcases hw with rfl | rfl | rfl | rfl <;> simp [rngD_cons, rngD_nil, g0, g1, atI, ixN] <;> exact q
theorem aw2_num {Q : D → Sto → Prop} (hw : w = 0 ∨ w = 1 ∨ w = 2 ∨ w = 3) (hn : S[n]? = some (.lst [.int 0, .int 0, .int 1, .int v3, .int v4])) (q : Q (rzE 2) S) : (m_law_awaited_v2 [.int w, .lst [a, b, d, f, g], .cell n, zoneD os s] S).Does Q := by
  refine does_def rfl ?_
  refine ifS_no (fun Q q => by simp [gIx_cell hn]; exact q) ?_
  refine ifS_no (fun Q' q' => by rcases hw with rfl | rfl | rfl | rfl <;> (simp; exact q')) ?_
  have g0 : gIx S (.cell n) (.int 0) = some (.int 0) := by rw [gIx_cell hn]; rfl
  have g1 : gIx S (.cell n) (.int 1) = some (.int 0) := by rw [gIx_cell hn]; rfl
  have g2 : gIx S (.cell n) (.int 2) = some (.int 1) := by rw [gIx_cell hn]; rfl
  clear hn
  rcases hw with rfl | rfl | rfl | rfl <;> simp [rngD_cons, rngD_nil, g0, g1, g2, atI, ixN] <;> exact q
theorem aw2_rule {Q : D → Sto → Prop} (hv : v3 = 1 ∨ (v3 = 0 ∧ v4 = 1)) (hn : S[n]? = some (.lst [.int 0, .int 0, .int 0, .int v3, .int v4])) (q : Q (rzE 3) S) : (m_law_awaited_v2 [.int 3, .lst [a, b, d, f, g], .cell n, zoneD os s] S).Does Q := by
  refine does_def rfl ?_
  refine ifS_no (fun Q q => by simp [gIx_cell hn]; exact q) ?_
  refine ifS_no (fun Q q => by simp; exact q) ?_
  have g0 : gIx S (.cell n) (.int 0) = some (.int 0) := by rw [gIx_cell hn]; rfl
  have g1 : gIx S (.cell n) (.int 1) = some (.int 0) := by rw [gIx_cell hn]; rfl
  have g2 : gIx S (.cell n) (.int 2) = some (.int 0) := by rw [gIx_cell hn]; rfl
  have g3 : gIx S (.cell n) (.int 3) = some (.int v3) := by rw [gIx_cell hn]; rfl
  have g4 : gIx S (.cell n) (.int 4) = some (.int v4) := by rw [gIx_cell hn]; rfl
  clear hn
  rcases hv with rfl | ⟨rfl, rfl⟩ <;> simp [rngD_cons, rngD_nil, g0, g1, g2, g3, g4, atI, ixN] <;> exact q
/-- nothing is wrong: the answer -/
theorem aw2_good {Q : D → Sto → Prop} (hw : w = 0 ∨ w = 1 ∨ w = 2 ∨ (w = 3 ∧ v3 = 0 ∧ v4 = 0)) (hn : S[n]? = some (.lst [.int 0, .int 0, .int 0, .int v3, .int v4])) (q : (m_law_answer [.int w, .lst [a, b, d, f, g]] S).Does fun v S' => Q (tellE v) S') : (m_law_awaited_v2 [.int w, .lst [a, b, d, f, g], .cell n, zoneD os s] S).Does Q := by
  refine does_def rfl ?_
  refine ifS_no (fun Q q => by simp [gIx_cell hn]; exact q) ?_
  refine ifS_no (fun Q' q' => by rcases hw with rfl | rfl | rfl | ⟨rfl, _⟩ <;> (simp; exact q')) ?_
  have g0 : gIx S (.cell n) (.int 0) = some (.int 0) := by rw [gIx_cell hn]; rfl
  have g1 : gIx S (.cell n) (.int 1) = some (.int 0) := by rw [gIx_cell hn]; rfl
  have g2 : gIx S (.cell n) (.int 2) = some (.int 0) := by rw [gIx_cell hn]; rfl
  have g3 : gIx S (.cell n) (.int 3) = some (.int v3) := by rw [gIx_cell hn]; rfl
  have g4 : gIx S (.cell n) (.int 4) = some (.int v4) := by rw [gIx_cell hn]; rfl
  clear hn
  rcases hw with rfl | rfl | rfl | ⟨rfl, rfl, rfl⟩ <;> simp [rngD_cons, rngD_nil, g0, g1, g2, g3, g4, atI, ixN] <;> exact q
theorem answer_num {Q : D → Sto → Prop} (hl : js.length < 1000000) (hw : w = 0 ∨ w = 1) (q : ∀ S', Grow S S' → Q (.int (if w = 0 then shAt h js m else m + shAt h js m)) S') : (m_law_answer [.int w, .lst [a, tabD h js, .int m, f, g]] S).Does Q := by
  refine does_def rfl ?_
  rcases hw with rfl | rfl
  · simp [shift_at_ok]
    refine hours_of_does hl ?_
    exact q _ ⟨_, rfl⟩
  · simp [shift_at_ok]
    refine hours_of_does hl ?_
    exact q _ ⟨_, rfl⟩
theorem answer_hours {Q : D → Sto → Prop} (hl : js.length < 1000000) (q : ∀ c S', Grow S S' → S'[c]? = some (.lst ((hrsOf none h js m).map .int)) → Q (.cell c) S') : (m_law_answer [.int 2, .lst [a, tabD h js, .int m, f, g]] S).Does Q := by
  refine does_def rfl ?_
  simp [shift_at_ok]
  refine hours_of_does hl ?_
  exact q _ _ ⟨_, rfl⟩ (by simp)
theorem answer_found {Q : D → Sto → Prop} {x y : Str} (q : (m_law_found [tabD h js, .int m, .str x, .str y] S).Does Q) : (m_law_answer [.int 3, .lst [a, tabD h js, .int m, .str x, .str y]] S).Does Q := by
  refine does_def rfl ?_
  simp [shift_at_ok]
  exact q
/-! both -/
theorem callG0 : callG 0 a b d f g S = m_offset_at [a, b, d] S := if_pos rfl
theorem callG1 : callG 1 a b d f g S = m_reading_at [a, b, d] S := by unfold callG; rw [if_neg (by decide), if_pos rfl]
theorem callG2 : callG 2 a b d f g S = m_moments_of [a, b, d] S := by unfold callG; rw [if_neg (by decide), if_neg (by decide), if_pos rfl]
theorem callG3 : callG 3 a b d f g S = m_find_moment [a, b, d, f, g] S := by unfold callG; rw [if_neg (by decide), if_neg (by decide), if_neg (by decide), if_pos rfl]
theorem callG4 : callG 4 a b d f g S = m_is_table [a, b] S := by unfold callG; rw [if_neg (by decide), if_neg (by decide), if_neg (by decide), if_neg (by decide)]
theorem agree2_does {bz bt bn bf bg : D} {x y : Str} {Q : Sto → Prop} (z : ZoneOK os s) (t : TabOK os s h js) (hl : js.length < 1000000) (ot : OddD (tabD h js)) (oz : OddD bz) (hz : zoneB bz = false) (ob : OddD bt) (hb : chartB os s bt = false) (on : OddD bn) (hbn : isI bn = false)
    (hx : RuleF x) (hy : RuleG y) (of : OddD bf) (hbf : noWord bf "early" "late" "refuse") (og : OddD bg) (hbg : noWord bg "ahead" "behind" "refuse")
    (hw : 0 ≤ w) (hw5 : w < 5) (h0 : v0 = 0 ∨ v0 = 1) (h1 : v1 = 0 ∨ v1 = 1) (h2 : v2 = 0 ∨ v2 = 1) (h3 : v3 = 0 ∨ v3 = 1) (h4 : v4 = 0 ∨ v4 = 1) (hn : S[n]? = some (.lst [.int v0, .int v1, .int v2, .int v3, .int v4])) (q : ∀ S', Grow S S' → Q S') :
    (m_law_heard_v2 [.int w, .lst [pk v0 (zoneD os s) bz, pk v1 (tabD h js) bt, pk v2 (.int m) bn, pk v3 (.str x) bf, pk v4 (.str y) bg]] S).Does fun hh S1 => (m_law_awaited_v2 [.int w, .lst [pk v0 (zoneD os s) bz, pk v1 (tabD h js) bt, pk v2 (.int m) bn, pk v3 (.str x) bf, pk v4 (.str y) bg], .cell n, zoneD os s] S1).Does fun aw S2 => m_law_same 30 [hh, aw] S2 = .ok (.bl true) S2 ∧ Q S2 := by
  have e : w = 0 ∨ w = 1 ∨ w = 2 ∨ w = 3 ∨ w = 4 := by omega
  have rc0 : rcls "InvalidZone" 0 := .inl ⟨rfl, rfl⟩
  have rc1 : rcls "InvalidTable" 1 := .inr (.inl ⟨rfl, rfl⟩)
  have rc2 : rcls "InvalidNumber" 2 := .inr (.inr (.inl ⟨rfl, rfl⟩))
  have rc3 : rcls "InvalidRule" 3 := .inr (.inr (.inr ⟨rfl, rfl⟩))
  rcases h0 with rfl | rfl
  · rw [show pk 0 (zoneD os s) bz = zoneD os s from rfl]
    by_cases c4 : w = 4
    · subst c4
      have ox : OddD (pk v1 (tabD h js) bt) := by unfold pk; split; exact ot; exact ob
      refine heard2_does hw hw5 ?_
      rw [callG4, is_table_odd z ox]
      exact aw2_look hn ox fun S' g => ⟨tell_same (k := 1) .bl (by decide), q _ g⟩
    · have hw4 : w = 0 ∨ w = 1 ∨ w = 2 ∨ w = 3 := by omega
      rcases h1 with rfl | rfl
      · rw [show pk 0 (tabD h js) bt = tabD h js from rfl]
        rcases h2 with rfl | rfl
        · rw [show pk 0 (.int m) bn = .int m from rfl]
          by_cases c3 : w = 3 ∧ (v3 = 1 ∨ v4 = 1)
          · obtain ⟨rfl, c3⟩ := c3
            refine heard2_does hw hw5 ?_
            have aw : ∀ S2, Grow S S2 → (m_law_awaited_v2 [.int 3, .lst [zoneD os s, tabD h js, .int m, pk v3 (.str x) bf, pk v4 (.str y) bg], .cell n, zoneD os s] S2).Does fun aw S3 => m_law_same 30 [rzE 3, aw] S3 = .ok (.bl true) S3 ∧ Q S3 := fun S2 g2 =>
              aw2_rule (by rcases h3 with h3 | h3 <;> rcases h4 with h4 | h4 <;> omega) (g2.get hn) ⟨rz_same, q _ g2⟩
            rw [callG3]
            rcases h3 with rfl | rfl
            · rcases h4 with rfl | rfl
              · rcases c3 with c3 | c3 <;> exact absurd c3 (by decide)
              · exact find_moment_gbad z t hx og hbg ⟨rfl, 3, rc3, aw⟩
            · exact find_moment_fbad z t of hbf ⟨rfl, 3, rc3, aw⟩
          · have hg : w = 0 ∨ w = 1 ∨ w = 2 ∨ (w = 3 ∧ v3 = 0 ∧ v4 = 0) := by omega
            have es : ∀ r, shAt h js r = offAt h js r := fun r => shAt_eq z.sp.1 t.chain
            rcases hg with rfl | rfl | rfl | ⟨rfl, rfl, rfl⟩
            · refine heard2_does hw hw5 ?_
              rw [callG0, offset_at_ok z t]
              refine aw2_good (.inl rfl) hn (answer_num hl (.inl rfl) fun S' g => ⟨?_, q _ g⟩)
              rw [if_pos rfl, es]
              exact tell_same (k := 1) .int (by decide)
            · refine heard2_does hw hw5 ?_
              rw [callG1, reading_at_ok z t]
              refine aw2_good (.inr (.inl rfl)) hn (answer_num hl (.inr rfl) fun S' g => ⟨?_, q _ g⟩)
              rw [if_neg (by decide), es]
              exact tell_same (k := 1) .int (by decide)
            · refine heard2_does hw hw5 ?_
              rw [callG2]
              refine Res.Does.toE (moments_of_does z t ?_)
              have gn : Grow S (S ++ [Cell.lst ((momsOf os h js m).map .int)]) := ⟨_, rfl⟩
              refine aw2_good (.inr (.inr (.inl rfl))) (gn.get hn) (answer_hours hl fun c S' g hc => ⟨?_, q _ (gn.trans g)⟩)
              rw [hrs_moms z t] at hc
              have cm : (S ++ [Cell.lst ((momsOf os h js m).map .int)])[S.length]? = some (.lst ((momsOf os h js m).map .int)) := by simp
              exact tell_same (eqv_ints (l := momsOf os h js m) (lstOf_cell (g.get cm)) (lstOf_cell hc) (by have := moms_len (h := h) (js := js) (r := m) z; omega)) (by decide)
            · obtain ⟨lo, hi, E⟩ := z.ends2
              rw [show pk 0 (.str x) bf = .str x from rfl, show pk 0 (.str y) bg = .str y from rfl]
              refine heard2_does hw hw5 ?_
              rw [callG3]
              refine Res.Does.toE (find_moment_does z t E hx hy fun c => ?_)
              have gn : Grow S (S ++ [c]) := ⟨_, rfl⟩
              refine aw2_good (.inr (.inr (.inr ⟨rfl, rfl, rfl⟩))) (gn.get hn) (answer_found (law_found_does z t hl E hx hy fun S' g => ⟨?_, q _ (gn.trans g)⟩))
              exact tell_same (findO_eqv (S := S')).eqv (by decide)
        · rw [show pk 1 (.int m) bn = bn from rfl]
          refine heard2_does hw hw5 ?_
          have aw : ∀ S2, Grow S S2 → (m_law_awaited_v2 [.int w, .lst [zoneD os s, tabD h js, bn, pk v3 (.str x) bf, pk v4 (.str y) bg], .cell n, zoneD os s] S2).Does fun aw S3 => m_law_same 30 [rzE 2, aw] S3 = .ok (.bl true) S3 ∧ Q S3 := fun S2 g2 =>
            aw2_num hw4 (g2.get hn) ⟨rz_same, q _ g2⟩
          rcases hw4 with rfl | rfl | rfl | rfl
          · rw [callG0]; exact offset_at_nbad z t on hbn ⟨rfl, 2, rc2, aw⟩
          · rw [callG1]; exact reading_at_nbad z t on hbn ⟨rfl, 2, rc2, aw⟩
          · rw [callG2]; exact moments_of_nbad z t on hbn ⟨rfl, 2, rc2, aw⟩
          · rw [callG3]; exact find_moment_nbad z t on hbn ⟨rfl, 2, rc2, aw⟩
      · rw [show pk 1 (tabD h js) bt = bt from rfl]
        refine heard2_does hw hw5 ?_
        have aw : ∀ S2, Grow S S2 → (m_law_awaited_v2 [.int w, .lst [zoneD os s, bt, pk v2 (.int m) bn, pk v3 (.str x) bf, pk v4 (.str y) bg], .cell n, zoneD os s] S2).Does fun aw S3 => m_law_same 30 [rzE 1, aw] S3 = .ok (.bl true) S3 ∧ Q S3 := fun S2 g2 =>
          aw2_tab hw4 (g2.get hn) ⟨rz_same, q _ g2⟩
        rcases hw4 with rfl | rfl | rfl | rfl
        · rw [callG0]; exact offset_at_tbad z ob hb ⟨rfl, 1, rc1, aw⟩
        · rw [callG1]; exact reading_at_tbad z ob hb ⟨rfl, 1, rc1, aw⟩
        · rw [callG2]; exact moments_of_tbad z ob hb ⟨rfl, 1, rc1, aw⟩
        · rw [callG3]; exact find_moment_tbad z ob hb ⟨rfl, 1, rc1, aw⟩
  · rw [show pk 1 (zoneD os s) bz = bz from rfl]
    refine heard2_does hw hw5 ?_
    have aw : ∀ S2, Grow S S2 → (m_law_awaited_v2 [.int w, .lst [bz, pk v1 (tabD h js) bt, pk v2 (.int m) bn, pk v3 (.str x) bf, pk v4 (.str y) bg], .cell n, zoneD os s] S2).Does fun aw S3 => m_law_same 30 [rzE 0, aw] S3 = .ok (.bl true) S3 ∧ Q S3 := fun S2 g2 =>
      aw2_zone (g2.get hn) ⟨rz_same, q _ g2⟩
    rcases e with rfl | rfl | rfl | rfl | rfl
    · rw [callG0]; exact offset_at_zbad oz hz ⟨rfl, 0, rc0, aw⟩
    · rw [callG1]; exact reading_at_zbad oz hz ⟨rfl, 0, rc0, aw⟩
    · rw [callG2]; exact moments_of_zbad oz hz ⟨rfl, 0, rc0, aw⟩
    · rw [callG3]; exact find_moment_zbad oz hz ⟨rfl, 0, rc0, aw⟩
    · rw [callG4]; exact is_table_zbad oz hz ⟨rfl, 0, rc0, aw⟩
end
end Dm
-- text M_k07
set_option maxHeartbeats 1000000
namespace Dm
open PySem L2
theorem make_chart_both {S : Sto} {p : Nat} {os : List Int} {s u : Int} {Q : D → Sto → Prop} (hp : Pot p S) (z : ZoneOK os s) (u0 : 0 ≤ u) (u1 : u ≤ 60) (q : ∀ h js S', Go p S S' → TabOK os s h js → Near js → OddK 600 24 (tabD h js) → Q (tabD h js) S') : (m_law_make_chart [.cell p, zoneD os s, .int u] S).Does Q := by
  obtain ⟨y, hy⟩ := id hp
  have hy : PotX p y S := hy
  obtain ⟨d, x', od, mk⟩ := chart_makes z y (u := u) u0 (by omega) (m := 600) (k := 24) (Nat.le_refl _) (by decide)
  have h1 : (m_law_make_chart [.cell p, zoneD os s, .int u] S).Does fun a S' => a = d := mk _ _ _ hy fun S' _ _ => rfl
  have h2 : (m_law_make_chart [.cell p, zoneD os s, .int u] S).Does fun a S' => ∃ h js, a = tabD h js ∧ Go p S S' ∧ TabOK os s h js ∧ Near js := make_chart_does hp z u0 u1 fun h js S' g t nr => ⟨h, js, rfl, g, t, nr⟩
  refine resMono (resBoth h1 h2) (fun _ _ _ h => h) ?_
  rintro a S' ⟨rfl, h, js, rfl, g, t, nr⟩
  exact q h js S' g t nr od
theorem law_k07_errors_of_tables_true : LawTrue m_law_k07_errors_of_tables := by
  refine law_loop (by decide) fun c L xs S hx => ?_
  obtain ⟨x2, x3, x4, x5, x6, x7, x8, x9, x10, x11, x12, x13, x14, x15, rfl⟩ : ∃ x2 x3 x4 x5 x6 x7 x8 x9 x10 x11 x12 x13 x14 x15, xs = [x2, x3, x4, x5, x6, x7, x8, x9, x10, x11, x12, x13, x14, x15] := match xs, hx with
    | [_, _, _, _, _, _, _, _, _, _, _, _, _, _], _ => ⟨_, _, _, _, _, _, _, _, _, _, _, _, _, _, rfl⟩
  refine seq_cut (fun ρ S' => ∃ p, ρ = [some L, some (.int c), some (.cell p), x3, x4, x5, x6, x7, x8, x9, x10, x11, x12, x13, x14, x15] ∧ Pot p S') (fun M hM => ?_) ?_
  · simp
    refine digits_does fun k => hM _ _ ⟨_, rfl, k, by simp⟩
  rintro ρ S1 ⟨p, rfl, hp⟩
  refine seq_cut (fun ρ S' => ∃ w : Int, ρ = [some L, some (.int c), some (.cell p), some (.int w), x4, x5, x6, x7, x8, x9, x10, x11, x12, x13, x14, x15] ∧ Pot p S' ∧ 0 ≤ w ∧ w < 5) (fun M hM => ?_) ?_
  · simp
    refine draw_does hp (by decide) (by decide) fun r S2 g2 r0 r1 => ?_
    exact hM _ _ ⟨r, rfl, g2.pot, r0, r1⟩
  rintro ρ S2 ⟨w, rfl, hp, hw0, hw5⟩
  refine seq_cut (fun ρ S' => ∃ os s, ρ = [some L, some (.int c), some (.cell p), some (.int w), some (zoneD os s), x5, x6, x7, x8, x9, x10, x11, x12, x13, x14, x15] ∧ Pot p S' ∧ ZoneOK os s) (fun M hM => ?_) ?_
  · simp
    refine make_region_does hp fun os s S3 g3 z => ?_
    exact hM _ _ ⟨os, s, rfl, g3.pot, z⟩
  rintro ρ S3 ⟨os, s, rfl, hp, z⟩
  refine seq_cut (fun ρ S' => ∃ h js, ρ = [some L, some (.int c), some (.cell p), some (.int w), some (zoneD os s), some (tabD h js), x6, x7, x8, x9, x10, x11, x12, x13, x14, x15] ∧ Pot p S' ∧ TabOK os s h js ∧ Near js ∧ OddK 600 24 (tabD h js)) (fun M hM => ?_) ?_
  · simp
    refine make_chart_both hp z (by decide) (by decide) fun h js S4 g4 t nr ok => ?_
    exact hM _ _ ⟨h, js, rfl, g4.pot, t, nr, ok⟩
  rintro ρ S4 ⟨h, js, rfl, hp, t, nr, ok⟩
  have jl : js.length < 1000000 := by have := nr.1; omega
  refine seq_cut (fun ρ S' => ∃ r1 : Int, ρ = [some L, some (.int c), some (.cell p), some (.int w), some (zoneD os s), some (tabD h js), some (.int r1), x7, x8, x9, x10, x11, x12, x13, x14, x15] ∧ Pot p S' ∧ 0 ≤ r1 ∧ r1 < 3) (fun M hM => ?_) ?_
  · simp
    refine draw_does hp (by decide) (by decide) fun r S2 g2 r0 r1 => ?_
    exact hM _ _ ⟨r, rfl, g2.pot, r0, r1⟩
  rintro ρ S5 ⟨r1, rfl, hp, r10, r11⟩
  refine seq_cut (fun ρ S' => ∃ r2 : Int, ρ = [some L, some (.int c), some (.cell p), some (.int w), some (zoneD os s), some (tabD h js), some (.int r1), some (.int r2), x8, x9, x10, x11, x12, x13, x14, x15] ∧ Pot p S' ∧ 0 ≤ r2 ∧ r2 < 3) (fun M hM => ?_) ?_
  · simp
    refine draw_does hp (by decide) (by decide) fun r S2 g2 r0 r1 => ?_
    exact hM _ _ ⟨r, rfl, g2.pot, r0, r1⟩
  rintro ρ S6 ⟨r2, rfl, hp, r20, r21⟩
  refine seq_cut (fun ρ S' => ρ = [some L, some (.int c), some (.cell p), some (.int w), some (zoneD os s), some (tabD h js), some (.int r1), some (.int r2), some (.lst [.str "early", .str "late", .str "refuse"]), x9, x10, x11, x12, x13, x14, x15] ∧ Pot p S') (fun M hM => ?_) ?_
  · simp
    exact hM _ _ ⟨rfl, hp⟩
  rintro ρ S7 ⟨rfl, hp⟩
  refine seq_cut (fun ρ S' => ρ = [some L, some (.int c), some (.cell p), some (.int w), some (zoneD os s), some (tabD h js), some (.int r1), some (.int r2), some (.lst [.str "early", .str "late", .str "refuse"]), some (.lst [.str "ahead", .str "behind", .str "refuse"]), x10, x11, x12, x13, x14, x15] ∧ Pot p S') (fun M hM => ?_) ?_
  · simp
    exact hM _ _ ⟨rfl, hp⟩
  rintro ρ S8 ⟨rfl, hp⟩
  obtain ⟨x, ex, hx⟩ := at3s (a := "early") (b := "late") (c := "refuse") r10 r11
  obtain ⟨y, ey, hy⟩ := at3s (a := "ahead") (b := "behind") (c := "refuse") r20 r21
  have hx : RuleF x := hx
  have hy : RuleG y := hy
  refine seq_cut (fun ρ S' => ∃ m, ρ = [some L, some (.int c), some (.cell p), some (.int w), some (zoneD os s), some (tabD h js), some (.int r1), some (.int r2), some (.lst [.str "early", .str "late", .str "refuse"]), some (.lst [.str "ahead", .str "behind", .str "refuse"]), some (.lst [zoneD os s, tabD h js, .int m, .str x, .str y]), x11, x12, x13, x14, x15] ∧ Pot p S') (fun M hM => ?_) ?_
  · simp
    refine near_does hp z (by omega) fun m S9 g9 _ _ => ?_
    simp [ex, ey]
    exact hM _ _ ⟨m, rfl, g9.pot⟩
  rintro ρ S9 ⟨m, rfl, hp⟩
  refine seq_cut (fun ρ S' => ∃ bz bt N, ρ = [some L, some (.int c), some (.cell p), some (.int w), some (zoneD os s), some (tabD h js), some (.int r1), some (.int r2), some (.lst [.str "early", .str "late", .str "refuse"]), some (.lst [.str "ahead", .str "behind", .str "refuse"]), some (.lst [zoneD os s, tabD h js, .int m, .str x, .str y]), some (.cell N), x12, x13, x14, x15] ∧ Pot p S' ∧ N ≠ p ∧ S'[N]? = some (.lst [bz, bt]) ∧ (OddD bz ∧ zoneB bz = false) ∧ OddD bt ∧ chartB os s bt = false) (fun M hM => ?_) ?_
  · simp
    refine bad_region_does hp z fun bz S10 g10 o1 h1 => ?_
    refine bad_chart_does g10.pot z ok fun bt S11 g11 o2 h2 => ?_
    have := g11.pot.lt
    exact hM _ _ ⟨bz, bt, _, rfl, ((Go.refl g11.pot).push _).pot, by omega, by simp, ⟨o1, h1⟩, o2, h2⟩
  rintro ρ S10 ⟨bz, bt, N, rfl, hp, nN, cN, ⟨o1, h1⟩, o2, h2⟩
  refine seq_cut (fun ρ S' => ∃ bn bf N, ρ = [some L, some (.int c), some (.cell p), some (.int w), some (zoneD os s), some (tabD h js), some (.int r1), some (.int r2), some (.lst [.str "early", .str "late", .str "refuse"]), some (.lst [.str "ahead", .str "behind", .str "refuse"]), some (.lst [zoneD os s, tabD h js, .int m, .str x, .str y]), some (.cell N), x12, x13, x14, x15] ∧ Pot p S' ∧ N ≠ p ∧ S'[N]? = some (.lst [bz, bt, bn, bf]) ∧ (OddD bn ∧ isI bn = false) ∧ OddD bf ∧ noWord bf "early" "late" "refuse") (fun M hM => ?_) ?_
  · simp
    refine strange_number_does hp fun bn S11 g11 o3 h3 => ?_
    refine bad_fold_does g11.pot fun bf S12 g12 o4 h4 => ?_
    have := g12.pot.lt
    simp [(g11.trans g12).get cN nN]
    exact hM _ _ ⟨bn, bf, _, rfl, ((Go.refl g12.pot).push _).pot, by omega, by simp, ⟨o3, h3⟩, o4, h4⟩
  rintro ρ S11 ⟨bn, bf, N, rfl, hp, nN, cN, ⟨o3, h3⟩, o4, h4⟩
  refine seq_cut (fun ρ S' => ∃ bg, ρ = [some L, some (.int c), some (.cell p), some (.int w), some (zoneD os s), some (tabD h js), some (.int r1), some (.int r2), some (.lst [.str "early", .str "late", .str "refuse"]), some (.lst [.str "ahead", .str "behind", .str "refuse"]), some (.lst [zoneD os s, tabD h js, .int m, .str x, .str y]), some (.cell N), x12, x13, x14, x15] ∧ Pot p S' ∧ S'[N]? = some (.lst [bz, bt, bn, bf, bg]) ∧ OddD bg ∧ noWord bg "ahead" "behind" "refuse") (fun M hM => ?_) ?_
  · simp
    refine ⟨⟨_, cN⟩, ?_⟩
    refine bad_gap_does hp fun bg S12 g12 o5 h5 => ?_
    have cN' := g12.get cN nN
    simp [cN']
    exact hM _ _ ⟨bg, rfl, g12.pot.set (Ne.symm nN), by rw [List.getElem?_set_self (List.getElem?_eq_some_iff.mp cN').1], o5, h5⟩
  rintro ρ S12 ⟨bg, rfl, hp, cN, o5, h5⟩
  refine seq_cut (fun ρ S' => ∃ (n : Nat) (v0 v1 v2 v3 v4 : Int), ρ = [some L, some (.int c), some (.cell p), some (.int w), some (zoneD os s), some (tabD h js), some (.int r1), some (.int r2), some (.lst [.str "early", .str "late", .str "refuse"]), some (.lst [.str "ahead", .str "behind", .str "refuse"]), some (.lst [zoneD os s, tabD h js, .int m, .str x, .str y]), some (.cell N), some (.cell n), x13, x14, x15] ∧ n ≠ N ∧ S'[N]? = some (.lst [bz, bt, bn, bf, bg]) ∧ S'[n]? = some (.lst [.int v0, .int v1, .int v2, .int v3, .int v4]) ∧ (v0 = 0 ∨ v0 = 1) ∧ (v1 = 0 ∨ v1 = 1) ∧ (v2 = 0 ∨ v2 = 1) ∧ (v3 = 0 ∨ v3 = 1) ∧ (v4 = 0 ∨ v4 = 1)) (fun M hM => ?_) ?_
  · have cd : ∀ v : Int, CDivW v 2 := fun v => cdivw (by decide) (by decide)
    simp [wipeD, rngD_cons, rngD_nil]
    refine draw_does (u := 3) hp (by decide) (by decide) fun q1 T1 k1 a1 b1 => ?_
    simp [cd]
    refine draw_does (u := 3) k1.pot (by decide) (by decide) fun q2 T2 k2 a2 b2 => ?_
    simp [cd]
    refine draw_does (u := 3) k2.pot (by decide) (by decide) fun q3 T3 k3 a3 b3 => ?_
    simp [cd]
    refine draw_does (u := 3) k3.pot (by decide) (by decide) fun q4 T4 k4 a4 b4 => ?_
    simp [cd]
    refine draw_does (u := 3) k4.pot (by decide) (by decide) fun q5 T5 k5 a5 b5 => ?_
    simp [cd]
    have cN' := (k1.trans (k2.trans (k3.trans (k4.trans k5)))).get cN nN
    have hlt := (List.getElem?_eq_some_iff.mp cN').1
    exact hM _ _ ⟨T5.length, q1 / 2, q2 / 2, q3 / 2, q4 / 2, q5 / 2, rfl, by omega, by rw [List.getElem?_append_left hlt]; exact cN', by simp, by omega, by omega, by omega, by omega, by omega⟩
  rintro ρ S13 ⟨n, v0, v1, v2, v3, v4, rfl, nn, cN, hn, hv⟩
  simp
  refine forL_cut (fun es ρ S' => ∃ (t k : Nat) (v0 v1 v2 v3 v4 : Int) (x13 x14 x15 : Option D), es = rngD t k ∧ t + k = 3 ∧ ρ = [some L, some (.int c), some (.cell p), some (.int w), some (zoneD os s), some (tabD h js), some (.int r1), some (.int r2), some (.lst [.str "early", .str "late", .str "refuse"]), some (.lst [.str "ahead", .str "behind", .str "refuse"]), some (.lst [zoneD os s, tabD h js, .int m, .str x, .str y]), some (.cell N), some (.cell n), x13, x14, x15] ∧ S'[N]? = some (.lst [bz, bt, bn, bf, bg]) ∧ S'[n]? = some (.lst [.int v0, .int v1, .int v2, .int v3, .int v4]) ∧ (v0 = 0 ∨ v0 = 1) ∧ (v1 = 0 ∨ v1 = 1) ∧ (v2 = 0 ∨ v2 = 1) ∧ (v3 = 0 ∨ v3 = 1) ∧ (v4 = 0 ∨ v4 = 1)) _ ⟨0, 3, v0, v1, v2, v3, v4, _, _, _, rfl, rfl, rfl, cN, hn, hv⟩ ?_ ?_
  · rintro d r ρ S14 ⟨t', k, v0, v1, v2, v3, v4, x13, x14, x15, e, tk, rfl, cN, hn, a0, a1, a2, a3, a4⟩
    cases k with
    | zero => cases e
    | succ k =>
      rw [rngD_cons] at e
      injection e with e1 e2
      subst e1
      refine ⟨_, rfl, fun M hM => ?_⟩
      refine seq_cut (fun ρ S' => ρ = [some L, some (.int c), some (.cell p), some (.int w), some (zoneD os s), some (tabD h js), some (.int r1), some (.int r2), some (.lst [.str "early", .str "late", .str "refuse"]), some (.lst [.str "ahead", .str "behind", .str "refuse"]), some (.lst [zoneD os s, tabD h js, .int m, .str x, .str y]), some (.cell N), some (.cell n), some (.int t'), some (.lst [pk v0 (zoneD os s) bz, pk v1 (tabD h js) bt, pk v2 (.int m) bn, pk v3 (.str x) bf, pk v4 (.str y) bg]), x15] ∧ S14 = S') (fun M hM => ?_) ?_
      · have pick : ∀ (v : Int) (u w : D), (v = 0 ∨ v = 1) → atI [u, w] v = some (pk v u w) := fun v u w hv => by rcases hv with rfl | rfl <;> rfl
        have N0 : gIx S14 (.cell N) (.int 0) = some bz := by rw [gIx_cell cN]; rfl
        have N1 : gIx S14 (.cell N) (.int 1) = some bt := by rw [gIx_cell cN]; rfl
        have N2 : gIx S14 (.cell N) (.int 2) = some bn := by rw [gIx_cell cN]; rfl
        have N3 : gIx S14 (.cell N) (.int 3) = some bf := by rw [gIx_cell cN]; rfl
        have N4 : gIx S14 (.cell N) (.int 4) = some bg := by rw [gIx_cell cN]; rfl
        have m0 : gIx S14 (.cell n) (.int 0) = some (.int v0) := by rw [gIx_cell hn]; rfl
        have m1 : gIx S14 (.cell n) (.int 1) = some (.int v1) := by rw [gIx_cell hn]; rfl
        have m2 : gIx S14 (.cell n) (.int 2) = some (.int v2) := by rw [gIx_cell hn]; rfl
        have m3 : gIx S14 (.cell n) (.int 3) = some (.int v3) := by rw [gIx_cell hn]; rfl
        have m4 : gIx S14 (.cell n) (.int 4) = some (.int v4) := by rw [gIx_cell hn]; rfl
        have A3 : ∀ a b c d e : D, atI [a, b, c, d, e] 3 = some d := fun _ _ _ _ _ => rfl
        have A4 : ∀ a b c d e : D, atI [a, b, c, d, e] 4 = some e := fun _ _ _ _ _ => rfl
        simp [wipeD, rngD_cons, rngD_nil, N0, N1, N2, N3, N4, m0, m1, m2, m3, m4, pick _ _ _ a0, pick _ _ _ a1, pick _ _ _ a2, pick _ _ _ a3, pick _ _ _ a4, A3, A4]
        exact hM _ _ ⟨rfl, rfl⟩
      rintro ρ _ ⟨rfl, rfl⟩
      have ag := agree2_does (m := m) (n := n) (w := w) (Q := fun S' => S'[n]? = some (.lst [.int v0, .int v1, .int v2, .int v3, .int v4]) ∧ S'[N]? = some (.lst [bz, bt, bn, bf, bg])) z t jl (ok.odd (by decide)) o1 h1 o2 h2 o3 h3 hx hy o4 h4 o5 h5 hw0 hw5 a0 a1 a2 a3 a4 hn (fun S' g => ⟨g.get hn, g.get cN⟩)
      refine ifS_b (P := fun S' => S'[n]? = some (.lst [.int v0, .int v1, .int v2, .int v3, .int v4]) ∧ S'[N]? = some (.lst [bz, bt, bn, bf, bg])) (b := false) (fun Q q => ?_) fun S15 hn15 => ?_
      · simp
        refine resMono ag (fun _ _ _ h => h) fun h S9 ag2 => ?_
        refine resMono ag2 (fun _ _ _ h => h) fun aw S10 hh => ?_
        simp [hh.1]
        exact q _ hh.2
      · rw [if_neg Bool.false_ne_true]
        obtain ⟨hn9, cN9⟩ := hn15
        have hlt := (List.getElem?_eq_some_iff.mp hn9).1
        have key : ∀ u0 u1 u2 : Int, (u0 = 0 ∨ u0 = 1) → (u1 = 0 ∨ u1 = 1) → (u2 = 0 ∨ u2 = 1) → M [some L, some (.int c), some (.cell p), some (.int w), some (zoneD os s), some (tabD h js), some (.int r1), some (.int r2), some (.lst [.str "early", .str "late", .str "refuse"]), some (.lst [.str "ahead", .str "behind", .str "refuse"]), some (.lst [zoneD os s, tabD h js, .int m, .str x, .str y]), some (.cell N), some (.cell n), some (.int t'), some (.lst [pk v0 (zoneD os s) bz, pk v1 (tabD h js) bt, pk v2 (.int m) bn, pk v3 (.str x) bf, pk v4 (.str y) bg]), x15] (S15.set n (.lst [.int u0, .int u1, .int u2, .int v3, .int v4])) := fun u0 u1 u2 b0 b1 b2 =>
          hM _ _ ⟨t' + 1, k, u0, u1, u2, v3, v4, _, _, _, by rw [e2] <;> rfl, by omega, rfl, by rw [List.getElem?_set_ne nn]; exact cN9, by rw [List.getElem?_set_self hlt] <;> rfl, b0, b1, b2, a3, a4⟩
        have et : t' = 0 ∨ t' = 1 ∨ t' = 2 := by omega
        clear e2 hM
        rcases et with rfl | rfl | rfl
        · simp [hn9]
          exact ⟨0, rfl, key 0 v1 v2 (.inl rfl) a1 a2⟩
        · simp [hn9]
          exact ⟨1, rfl, key v0 0 v2 a0 (.inl rfl) a2⟩
        · simp [hn9]
          exact ⟨2, rfl, key v0 v1 0 a0 a1 (.inl rfl)⟩
  · rintro ρ S14 ⟨t', k, v0, v1, v2, v3, v4, x13, x14, x15, e, tk, rfl, _⟩
    exact ⟨_, _, rfl, rfl⟩
end Dm
-- text E_k07
open PySem PySem.W PyProof.Rows in
set_option maxRecDepth 100000 in
set_option maxHeartbeats 0 in
theorem PySem.Challenge.cw_hoursmeant_k07_errors_of_tables_holds : PySem.Challenge.rw_hoursmeant_k07_errors_of_tables.Holds := by
  w_on; o_law; k_head; (case hw => w_witness2)
  k_fill
  refine V.walk (l := PySem.Challenge.rw_hoursmeant_k07_errors_of_tables) rfl rfl (fun w h Y => PySem.W.kIn_of Y) ?F
  case F =>
    intro w mg fa h KX G hmg
    refine' V.all_mk Dm.law_k07_errors_of_tables_true KX G hmg ?a0 ?l0 ?c0 ?k0 ?a1 ?l1 ?c1 ?k1 ?a2 ?l2 ?c2 ?k2 ?a3 ?l3 ?c3 ?k3 ?a4 ?l4 ?c4 ?k4 ?a5 ?l5 ?c5 ?k5 ?a6 ?l6 ?c6 ?k6 ?a7 ?l7 ?c7 ?k7 ?a8 ?l8 ?c8 ?k8 ?a9 ?l9 ?c9 ?k9 ?a10 ?l10 ?c10 ?k10 ?a11 ?l11 ?c11 ?k11 ?a12 ?l12 ?c12 ?k12 ?a13 ?l13 ?c13 ?k13 ?a14 ?l14 ?lD14_0 ?lD14_1 ?c14 ?k14 ?a15 ?l15 ?c15 ?k15 ?a16 ?l16 ?c16 ?k16 ?a17 ?l17 ?c17 ?k17 ?a18 ?l18 ?c18 ?k18 ?a19 ?l19 ?c19 ?k19 ?a20 ?l20 ?c20 ?k20 ?a21 ?l21 ?c21 ?k21 ?a22 ?l22 ?c22 ?k22 ?a23 ?l23 ?c23 ?k23 ?a24 ?l24 ?c24 ?k24 ?a25 ?l25 ?c25 ?k25 ?a26 ?l26 ?c26 ?k26 ?a27 ?l27 ?c27 ?k27 ?a28 ?l28 ?c28 ?k28 ?a29 ?l29 ?c29 ?k29 ?a30 ?l30 ?c30 ?k30 ?a31 ?l31 ?c31 ?k31 ?a32 ?l32 ?c32 ?k32 ?a33 ?l33 ?c33 ?k33 ?a34 ?l34 ?c34 ?k34 ?a35 ?l35 ?c35 ?k35 ?a36 ?l36 ?c36 ?k36 ?a37 ?l37 ?c37 ?k37 ?a38 ?l38 ?c38 ?k38 ?z0 ?z1 ?z2 ?z3 ?z4 ?z5 ?z6 ?z7 ?z8 ?z9 ?z10 ?z11 ?v0 ?q0_1 ?v1 ?q1_1 ?v2 ?v3 ?xa0 ?xq0 ?xk0 ?xb0 ?xt0 ?xa1 ?xq1 ?xk1 ?xb1 ?xt1 ?xa2 ?xq2 ?xk2 ?xb2 ?xt2 ?xa3 ?xq3 ?xk3 ?xb3 ?xt3 ?xa4 ?xf0 ?xf1 ?xf2 ?xf3 ?xf4 ?xf5 ?xf6 ?xf7 ?xf8 ?xf9 ?xf10 ?xf11 ?xf12 ?xf13 ?xf14 ?xf15 ?xf16 ?xf17 ?xf18 ?xf19 ?xf20 ?xf21 ?xf22 ?xf23 ?xf24 ?xf25 ?xf26 ?xf27 ?xf28 ?xf29 ?xf30 ?xf31 ?xf32 ?xf33 ?xf34 ?xf35 ?xf36 ?xf37 ?xf38 ?xf39 ?xf40 ?xf41 ?xf42 ?xf43 ?xf44 ?xa5 ?xf45 ?xf46 ?xf47 ?xf48 ?xf49 ?xf50 ?xf51 ?xf52 ?xf53 ?xf54 ?xf55 ?xf56 ?xf57 ?xf58 ?xf59 ?xf60 ?xf61 ?xf62 ?xf63 ?xf64 ?xf65 ?xf66 ?xf67 ?xf68 ?xf69 ?xf70 ?xf71 ?xf72 ?xf73 ?xf74 ?xf75 ?xf76 ?xf77 ?xf78 ?xf79 ?xf80 ?xa6 ?xf81 ?xf82 ?xf83 ?xf84 ?xf85 ?xf86 ?xf87 ?xL5 ?rb5 ?xf88 ?xf89 ?lI5 ?cI5 ?xf90 ?xf91 ?xf92 ?xf93 ?xf94 ?xf95 ?xf96 ?xf97 ?xf98
    (case a0 => k_is)
    (case l0 => k_is)
    (case c0 => k_is)
    (case k0 => k_is)
    (case a1 => k_is)
    (case l1 => k_is)
    (case c1 => k_is)
    (case k1 => k_is)
    (case a2 => k_is)
    (case l2 => k_is)
    (case c2 => k_is)
    (case k2 => k_is)
    (case a3 => k_is)
    (case l3 => k_is)
    (case c3 => k_is)
    (case k3 => k_is)
    (case a4 => k_is)
    (case l4 => k_is)
    (case c4 => k_is)
    (case k4 => k_is)
    (case a5 => k_is)
    (case l5 => k_is)
    (case c5 => k_is)
    (case k5 => k_is)
    (case a6 => k_is)
    (case l6 => k_is)
    (case c6 => k_is)
    (case k6 => k_is)
    (case a7 => k_is)
    (case l7 => k_is)
    (case c7 => k_is)
    (case k7 => k_is)
    (case a8 => k_is)
    (case l8 => k_is)
    (case c8 => k_is)
    (case k8 => k_is)
    (case a9 => k_is)
    (case l9 => k_is)
    (case c9 => k_is)
    (case k9 => k_is)
    (case a10 => k_is)
    (case l10 => k_is)
    (case c10 => k_is)
    (case k10 => k_is)
    (case a11 => k_is)
    (case l11 => k_is)
    (case c11 => k_is)
    (case k11 => k_is)
    (case a12 => k_is)
    (case l12 => k_is)
    (case c12 => k_is)
    (case k12 => k_is)
    (case a13 => k_is)
    (case l13 => k_is)
    (case c13 => k_is)
    (case k13 => k_is)
    (case a14 => k_is)
    (case l14 => k_is)
    (case lD14_0 => k_is)
    (case lD14_1 => k_is)
    (case c14 => k_is)
    (case k14 => k_is)
    (case a15 => k_is)
    (case l15 => k_is)
    (case c15 => k_is)
    (case k15 => k_is)
    (case a16 => k_is)
    (case l16 => k_is)
    (case c16 => k_is)
    (case k16 => k_is)
    (case a17 => k_is)
    (case l17 => k_is)
    (case c17 => k_is)
    (case k17 => k_is)
    (case a18 => k_is)
    (case l18 => k_is)
    (case c18 => k_is)
    (case k18 => k_is)
    (case a19 => k_is)
    (case l19 => k_is)
    (case c19 => k_is)
    (case k19 => k_is)
    (case a20 => k_is)
    (case l20 => k_is)
    (case c20 => k_is)
    (case k20 => k_is)
    (case a21 => k_is)
    (case l21 => k_is)
    (case c21 => k_is)
    (case k21 => k_is)
    (case a22 => k_is)
    (case l22 => k_is)
    (case c22 => k_is)
    (case k22 => k_is)
    (case a23 => k_is)
    (case l23 => k_is)
    (case c23 => k_is)
    (case k23 => k_is)
    (case a24 => k_is)
    (case l24 => k_is)
    (case c24 => k_is)
    (case k24 => k_is)
    (case a25 => k_is)
    (case l25 => k_is)
    (case c25 => k_is)
    (case k25 => k_is)
    (case a26 => k_is)
    (case l26 => k_is)
    (case c26 => k_is)
    (case k26 => k_is)
    (case a27 => k_is)
    (case l27 => k_is)
    (case c27 => k_is)
    (case k27 => k_is)
    (case a28 => k_is)
    (case l28 => k_is)
    (case c28 => k_is)
    (case k28 => k_is)
    (case a29 => k_is)
    (case l29 => k_is)
    (case c29 => k_is)
    (case k29 => k_is)
    (case a30 => k_is)
    (case l30 => k_is)
    (case c30 => k_is)
    (case k30 => k_is)
    (case a31 => k_is)
    (case l31 => k_is)
    (case c31 => k_is)
    (case k31 => k_is)
    (case a32 => k_is)
    (case l32 => k_is)
    (case c32 => k_is)
    (case k32 => k_is)
    (case a33 => k_is)
    (case l33 => k_is)
    (case c33 => k_is)
    (case k33 => k_is)
    (case a34 => k_is)
    (case l34 => k_is)
    (case c34 => k_is)
    (case k34 => k_is)
    (case a35 => k_is)
    (case l35 => k_is)
    (case c35 => k_is)
    (case k35 => k_is)
    (case a36 => k_is)
    (case l36 => k_is)
    (case c36 => k_is)
    (case k36 => k_is)
    (case a37 => k_is)
    (case l37 => k_is)
    (case c37 => k_is)
    (case k37 => k_is)
    (case a38 => k_is)
    (case l38 => k_is)
    (case c38 => k_is)
    (case k38 => k_is)
    (case z0 => k_is)
    (case z1 => k_is)
    (case z2 => k_is)
    (case z3 => k_is)
    (case z4 => k_is)
    (case z5 => k_is)
    (case z6 => k_is)
    (case z7 => k_is)
    (case z8 => k_is)
    (case z9 => k_is)
    (case z10 => k_is)
    (case z11 => k_is)
    (case v0 => k_is)
    (case q0_1 => k_is)
    (case v1 => k_is)
    (case q1_1 => k_is)
    (case v2 => k_is)
    (case v3 => k_is)
    (case xa0 => k_is)
    (case xq0 => k_exc)
    (case xk0 => k_is)
    (case xb0 => k_is)
    (case xt0 => k_is)
    (case xa1 => k_is)
    (case xq1 => k_exc)
    (case xk1 => k_is)
    (case xb1 => k_is)
    (case xt1 => k_is)
    (case xa2 => k_is)
    (case xq2 => k_exc)
    (case xk2 => k_is)
    (case xb2 => k_is)
    (case xt2 => k_is)
    (case xa3 => k_is)
    (case xq3 => k_exc)
    (case xk3 => k_is)
    (case xb3 => k_is)
    (case xt3 => k_is)
    (case xa4 => k_is)
    (case xf0 => k_is)
    (case xf1 => k_is)
    (case xf2 => k_is)
    (case xf3 => k_is)
    (case xf4 => k_is)
    (case xf5 => k_is)
    (case xf6 => k_is)
    (case xf7 => k_is)
    (case xf8 => k_is)
    (case xf9 => k_is)
    (case xf10 => k_is)
    (case xf11 => k_is)
    (case xf12 => k_is)
    (case xf13 => k_is)
    (case xf14 => k_is)
    (case xf15 => k_is)
    (case xf16 => k_is)
    (case xf17 => k_is)
    (case xf18 => k_is)
    (case xf19 => k_is)
    (case xf20 => k_is)
    (case xf21 => k_is)
    (case xf22 => k_is)
    (case xf23 => k_is)
    (case xf24 => k_is)
    (case xf25 => k_is)
    (case xf26 => k_is)
    (case xf27 => k_is)
    (case xf28 => k_is)
    (case xf29 => k_is)
    (case xf30 => k_is)
    (case xf31 => k_is)
    (case xf32 => k_is)
    (case xf33 => k_is)
    (case xf34 => k_is)
    (case xf35 => k_is)
    (case xf36 => k_is)
    (case xf37 => k_is)
    (case xf38 => k_is)
    (case xf39 => k_is)
    (case xf40 => k_is)
    (case xf41 => k_is)
    (case xf42 => k_is)
    (case xf43 => k_is)
    (case xf44 => k_is)
    (case xa5 => k_is)
    (case xf45 => k_is)
    (case xf46 => k_is)
    (case xf47 => k_is)
    (case xf48 => k_is)
    (case xf49 => k_is)
    (case xf50 => k_is)
    (case xf51 => k_is)
    (case xf52 => k_is)
    (case xf53 => k_is)
    (case xf54 => k_is)
    (case xf55 => k_is)
    (case xf56 => k_is)
    (case xf57 => k_is)
    (case xf58 => k_is)
    (case xf59 => k_is)
    (case xf60 => k_is)
    (case xf61 => k_is)
    (case xf62 => k_is)
    (case xf63 => k_is)
    (case xf64 => k_is)
    (case xf65 => k_is)
    (case xf66 => k_is)
    (case xf67 => k_is)
    (case xf68 => k_is)
    (case xf69 => k_is)
    (case xf70 => k_is)
    (case xf71 => k_is)
    (case xf72 => k_is)
    (case xf73 => k_is)
    (case xf74 => k_is)
    (case xf75 => k_is)
    (case xf76 => k_is)
    (case xf77 => k_is)
    (case xf78 => k_is)
    (case xf79 => k_is)
    (case xf80 => k_is)
    (case xa6 => k_is)
    (case xf81 => k_is)
    (case xf82 => k_is)
    (case xf83 => k_is)
    (case xf84 => k_is)
    (case xf85 => k_is)
    (case xf86 => k_is)
    (case xf87 => k_is)
    (case xL5 => k_is)
    (case rb5 => first | rfl | decide +kernel)
    (case xf88 => k_is)
    (case xf89 => k_is)
    (case lI5 => k_is)
    (case cI5 => k_is)
    (case xf90 => k_is)
    (case xf91 => k_is)
    (case xf92 => k_is)
    (case xf93 => k_is)
    (case xf94 => k_is)
    (case xf95 => k_is)
    (case xf96 => k_is)
    (case xf97 => k_is)
    (case xf98 => k_is)
