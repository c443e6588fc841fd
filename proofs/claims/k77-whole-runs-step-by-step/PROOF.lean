import PyProof.Rows.All
import Wide.All
import OpenK.AllK
import Wide.FinOn
import HandS.ForMost
import HandS.ForExc
import HandS.Wide
import HandS.IsInst
import HandS.Flow
import HandS.CallSlots
import HandS.ExcIs
import HandS.Strs
import HandS.TupAny
import HandS.Conv
import HandS.Deep
import HandS.ExcField
import KE.GoesEnum
import HandS.Style
import HandS.Ends
import HandS.SortRule
import HandS.SortInts
import HandS.Dict
import HandS.DictComp
import HandS.Defaults
import HandS.MakeKwOnly
import HandS.TryOnly
import HandS.SetFor
import PyProof.P3In
import HandS.More
import PyProof.ReprRoads
import HandS.TryMany
import HandS.ExcInit
import HandS.ClsMeth
import HandS.ExcValue
import HandS.TupMul
import HandS.LawCells
import HandS.JoinGen
import HandS.GenList
import PySem.Challenge.RW_hoursmeant_k77_whole_runs_step_by_step
import PyProof.ReprLen
import PyProof.FitsInt
set_option Elab.async false
set_option linter.all false
set_option maxRecDepth 100000
set_option maxHeartbeats 4000000
-- text DmCore
/-! Plain data in place of the heap: values D, a store of cells, programs as Lean functions of both. -/
namespace Dm
open PySem L2
open PySem.W (Frag)
inductive D where
  | non | bl (b : Bool) | int (i : Int) | str (x : Str)
  | tup (xs : List D) | lst (xs : List D)
  | cell (n : Nat) | glo (x : Str)
  | exn (c : Str) (fs : List (Str × Int))
inductive Cell where
  | lst (xs : List D)
  | obj (c : Str) (fs : List (Str × D))
  | exc (c : Str) (fs : List (Str × D))
  | dic (kvs : List (Key × D))
  | set (xs : List Int)
abbrev Sto := List Cell
inductive Res (α : Type) where
  | ok (a : α) (S : Sto)
  | exc (c : Str) (fs : List (Str × D)) (S : Sto)
  | bad
def Res.bind {α β : Type} (r : Res α) (f : α → Sto → Res β) : Res β := match r with
  | .ok a S => f a S
  | .exc c fs S => .exc c fs S
  | .bad => .bad
abbrev Rho := List (Option D)
abbrev ME := Rho → Sto → Res D
abbrev MA := Rho → Sto → Res (List D)
inductive Out where
  | nx (ρ : Rho) (S : Sto) | rt (d : D) (S : Sto) | bk (ρ : Rho) (S : Sto) | ct (ρ : Rho) (S : Sto)
  | exc (c : Str) (fs : List (Str × D)) (ρ : Rho) (S : Sto) | bad
abbrev MS := Rho → Sto → Out
/-! ### what stands for what -/
def KT (K : Frag) (a : Addr) (xs : List V) : Prop := ∃ (o : Obj) (its : Array Value) (n : Nat), K.lookup a = some o ∧ o.cls = .type "tuple" ∧ o.data = .seq its n ∧ its.size ≤ sizeLine ∧ Vals xs its.toList
def KL (K : Frag) (a : Addr) (xs : List V) : Prop := ∃ (o : Obj) (its : Array Value) (n : Nat), K.lookup a = some o ∧ o.cls = .type "list" ∧ o.dict = none ∧ o.data = .seq its n ∧ its.size ≤ sizeLine ∧ Vals xs its.toList
/-- what is fixed: the written part, the module's names, the addresses of lists that are being made -/
structure Fx where
  K : Frag
  mg : Str → Option Value
  ξ : List Addr
  w : World
abbrev fx (X : Cx) (ξ : List Addr) : Fx := ⟨X.K, X.mg, ξ, X.w⟩
def FzT (F : Fx) (μ : List Addr) (H : Hp) (a : Addr) (xs : List V) : Prop := (Rd H a (.tup xs) ∧ a ∉ μ ∧ a ∉ F.ξ) ∨ KT F.K a xs
def FzL (F : Fx) (μ : List Addr) (H : Hp) (a : Addr) (xs : List V) : Prop := (Rd H a (.lst xs) ∧ a ∉ μ ∧ a ∉ F.ξ) ∨ KL F.K a xs
theorem FzT.sq {F : Fx} {μ : List Addr} {H : Hp} {a : Addr} {xs : List V} (h : FzT F μ H a xs) : SqT F.K H a xs := h.imp (·.1) id
theorem FzL.sq {F : Fx} {μ : List Addr} {H : Hp} {a : Addr} {xs : List V} (h : FzL F μ H a xs) : SqL F.K H a xs := h.imp (·.1) id
/-- at a: an exception that was raised once, of the class cls, its dict -/
def ExV (cls : Value) (d : Option Addr) (a : Addr) : HO := .ext fun h => ∃ (oe : Obj) (vs : Array Value), h.get? a = some oe ∧ Zc cls d oe ∧ oe.data = .fields vs
def intFs (ns : List (Str × Int)) : List (Str × V) := ns.map fun p => (p.1, .int p.2)
/-- an own error class: isinstance asks its instances rightly, they are of no plain type -/
def PlX (K : Frag) (cls : Value) : Prop := ∃ D : Addr, cls = .ref D ∧ ExcC K D ∧ ∀ x : String, x ∈ ["tuple", "list", "int", "str", "bool", "dict"] → PySem.W.kitOne K (.ref D) (.type x) = some false
structure ClsK (K : Frag) (mg : Str → Option Value) (c : Str) (cls : Value) : Prop where
  mg : mg c = some cls
  pl : PlX K cls
/-- an exception as a value; without fields: its fields are not known -/
def FzX (F : Fx) (μ : List Addr) (H : Hp) (a : Addr) (c : Str) (ns : List (Str × Int)) : Prop := ∃ cls dd, ClsK F.K F.mg c cls ∧ (H a = some (ExV cls dd a) ∧ a ∉ μ ∧ a ∉ F.ξ) ∧ ((ns = [] ∧ dd = none) ∨ ∃ d fs, dd = some d ∧ H d = some (.xd fs) ∧ (ns = [] ∨ fs = intFs ns) ∧ d ∉ μ ∧ d ∉ F.ξ)
mutual
inductive RD (F : Fx) (μ : List Addr) (H : Hp) : V → D → Prop
  | non : RD F μ H .non .non
  | bl (b : Bool) : RD F μ H (.bl b) (.bl b)
  | int (i : Int) : RD F μ H (.int i) (.int i)
  | str (x : Str) : RD F μ H (.str x) (.str x)
  | tup {a : Addr} {xs : List V} {ds : List D} : FzT F μ H a xs → RDs F μ H xs ds → RD F μ H (.ref a) (.tup ds)
  | lst {a : Addr} {xs : List V} {ds : List D} : FzL F μ H a xs → RDs F μ H xs ds → RD F μ H (.ref a) (.lst ds)
  | cell {a : Addr} {n : Nat} : μ[n]? = some a → RD F μ H (.ref a) (.cell n)
  | glo {a : Addr} {x : Str} : F.mg x = some (.ref a) → RD F μ H (.ref a) (.glo x)
  | exn {a : Addr} {c : Str} {ns : List (Str × Int)} : FzX F μ H a c ns → RD F μ H (.ref a) (.exn c ns)
inductive RDs (F : Fx) (μ : List Addr) (H : Hp) : List V → List D → Prop
  | nil : RDs F μ H [] []
  | cons {v : V} {vs : List V} {d : D} {ds : List D} : RD F μ H v d → RDs F μ H vs ds → RDs F μ H (v :: vs) (d :: ds)
end
/-- what has gone on: new cells behind the old ones, all but the cells is as it was -/
structure Up (μ : List Addr) (H : Hp) (μ' : List Addr) (H' : Hp) : Prop where
  pre : ∃ ν, μ' = μ ++ ν
  new : ∀ a, a ∈ μ' → a ∉ μ → H a = none
  keep : ∀ a o, H a = some o → a ∉ μ → H' a = some o
section
variable {F : Fx} {μ μ' μ1 μ2 : List Addr} {H H' H1 H2 : Hp}
theorem Up.refl : Up μ H μ H := ⟨⟨[], (List.append_nil _).symm⟩, fun _ h n => absurd h n, fun _ _ h _ => h⟩
theorem Up.notin (u : Up μ H μ' H') {a : Addr} {o : HO} (h : H a = some o) (n : a ∉ μ) : a ∉ μ' := fun z => by
  have q := u.new a z n
  rw [h] at q; cases q
theorem Up.trans (u : Up μ H μ1 H1) (v : Up μ1 H1 μ2 H2) : Up μ H μ2 H2 := by
  obtain ⟨ν, e⟩ := u.pre
  obtain ⟨ν', e'⟩ := v.pre
  refine ⟨⟨ν ++ ν', by rw [e', e, List.append_assoc]⟩, fun a h n => ?_, fun a o h n => v.keep a o (u.keep a o h n) (u.notin h n)⟩
  by_cases h1 : a ∈ μ1
  · exact u.new a h1 n
  · have q := v.new a h h1
    cases z : H a with
    | none => rfl
    | some o =>
      rw [u.keep a o z n] at q; cases q
theorem Up.back (u : Up μ H μ' H') {p : Addr} (h : H' p = none) (n : p ∉ μ := by assumption) : H p = none := by
  cases z : H p with
  | none => rfl
  | some o =>
    rw [u.keep p o z n] at h; cases h
theorem Up.mem (u : Up μ H μ' H') {a : Addr} (h : a ∈ μ) : a ∈ μ' := by
  obtain ⟨ν, e⟩ := u.pre
  rw [e]
  exact List.mem_append_left _ h
theorem Up.get (u : Up μ H μ' H') {n : Nat} {a : Addr} (h : μ[n]? = some a) : μ'[n]? = some a := by
  obtain ⟨ν, e⟩ := u.pre
  rw [e, List.getElem?_append_left (List.getElem?_eq_some_iff.mp h).1]
  exact h
theorem FzT.up (u : Up μ H μ' H') {a : Addr} {xs : List V} (h : FzT F μ H a xs) : FzT F μ' H' a xs := by
  rcases h with ⟨h, n, nx⟩ | h
  · rcases h with h | ⟨o, h⟩
    · exact .inl ⟨.inl (u.keep _ _ h n), u.notin h n, nx⟩
    · exact .inl ⟨.inr ⟨o, u.keep _ _ h n⟩, u.notin h n, nx⟩
  · exact .inr h
theorem FzL.up (u : Up μ H μ' H') {a : Addr} {xs : List V} (h : FzL F μ H a xs) : FzL F μ' H' a xs := by
  rcases h with ⟨h, n, nx⟩ | h
  · rcases h with h | ⟨o, h⟩
    · exact .inl ⟨.inl (u.keep _ _ h n), u.notin h n, nx⟩
    · exact .inl ⟨.inr ⟨o, u.keep _ _ h n⟩, u.notin h n, nx⟩
  · exact .inr h
theorem FzX.up (u : Up μ H μ' H') {a : Addr} {c : Str} {ns : List (Str × Int)} (h : FzX F μ H a c ns) : FzX F μ' H' a c ns := by
  obtain ⟨cls, dd, e, ⟨h1, h2, h3⟩, h4⟩ := h
  refine ⟨cls, dd, e, ⟨u.keep _ _ h1 h2, u.notin h1 h2, h3⟩, h4.imp id ?_⟩
  rintro ⟨d, fs, e2, h5, hf, h6, h7⟩
  exact ⟨d, fs, e2, u.keep _ _ h5 h6, hf, u.notin h5 h6, h7⟩
mutual
theorem RD.up (u : Up μ H μ' H') : ∀ {v : V} (d : D), RD F μ H v d → RD F μ' H' v d
  | _, .non, h => by cases h; exact .non
  | _, .bl b, h => by cases h; exact .bl b
  | _, .int i, h => by cases h; exact .int i
  | _, .str x, h => by cases h; exact .str x
  | _, .tup ds, h => by
    cases h with
    | tup f r => exact .tup (f.up u) (RDs.up u ds r)
  | _, .lst ds, h => by
    cases h with
    | lst f r => exact .lst (f.up u) (RDs.up u ds r)
  | _, .cell n, h => by
    cases h with
    | cell e => exact .cell (u.get e)
  | _, .glo x, h => by
    cases h with
    | glo e => exact .glo e
  | _, .exn c ns, h => by
    cases h with
    | exn f => exact .exn (f.up u)
theorem RDs.up (u : Up μ H μ' H') : ∀ {vs : List V} (ds : List D), RDs F μ H vs ds → RDs F μ' H' vs ds
  | _, [], h => by cases h; exact .nil
  | _, d :: ds, h => by
    cases h with
    | cons a b => exact .cons (RD.up u d a) (RDs.up u ds b)
end
theorem RDs.length : ∀ {vs : List V} {ds : List D}, RDs F μ H vs ds → vs.length = ds.length
  | _, [], h => by cases h; rfl
  | _, d :: ds, h => by
    cases h with
    | cons a b => rw [List.length_cons, List.length_cons, RDs.length b]
theorem RDs.get : ∀ {vs : List V} {ds : List D}, RDs F μ H vs ds → ∀ {i : Nat} {d : D}, ds[i]? = some d → ∃ v, vs[i]? = some v ∧ RD F μ H v d
  | _, [], _, i, d, e => by simp at e
  | _, d0 :: ds, h, 0, d, e => by
    cases h with
    | cons a b =>
      simp at e; subst e
      exact ⟨_, rfl, a⟩
  | _, d0 :: ds, h, i + 1, d, e => by
    cases h with
    | cons a b =>
      obtain ⟨v, h1, h2⟩ := RDs.get b (i := i) (d := d) (by simpa using e)
      exact ⟨v, by simpa using h1, h2⟩
theorem RDs.getV : ∀ {vs : List V} {ds : List D}, RDs F μ H vs ds → ∀ {i : Nat} {v : V}, vs[i]? = some v → ∃ d, ds[i]? = some d ∧ RD F μ H v d
  | _, [], h, i, v, e => by cases h; simp at e
  | _, d0 :: ds, h, 0, v, e => by
    cases h with
    | cons a b =>
      simp at e; subst e
      exact ⟨_, rfl, a⟩
  | _, d0 :: ds, h, i + 1, v, e => by
    cases h with
    | cons a b =>
      obtain ⟨d, h1, h2⟩ := RDs.getV b (i := i) (v := v) (by simpa using e)
      exact ⟨d, by simpa using h1, h2⟩
theorem RDs.append : ∀ {vs ws : List V} {ds es : List D}, RDs F μ H vs ds → RDs F μ H ws es → RDs F μ H (vs ++ ws) (ds ++ es)
  | _, _, [], _, h, k => by cases h; exact k
  | _, _, d :: ds, _, h, k => by
    cases h with
    | cons a b => exact .cons a (RDs.append b k)
theorem RDs.take : ∀ {vs : List V} {ds : List D} (n : Nat), RDs F μ H vs ds → RDs F μ H (vs.take n) (ds.take n)
  | _, _, 0, _ => .nil
  | _, [], _ + 1, h => by cases h; exact .nil
  | _, d :: ds, n + 1, h => by
    cases h with
    | cons a b => exact .cons a (RDs.take n b)
theorem RDs.drop : ∀ {vs : List V} {ds : List D} (n : Nat), RDs F μ H vs ds → RDs F μ H (vs.drop n) (ds.drop n)
  | _, _, 0, h => h
  | _, [], _ + 1, h => by cases h; exact .nil
  | _, d :: ds, n + 1, h => by
    cases h with
    | cons a b => exact RDs.drop n b
theorem RDs.reverse : ∀ {vs : List V} {ds : List D}, RDs F μ H vs ds → RDs F μ H vs.reverse ds.reverse
  | _, [], h => by cases h; exact .nil
  | _, d :: ds, h => by
    cases h with
    | cons a b =>
      rw [List.reverse_cons, List.reverse_cons]
      exact RDs.append (RDs.reverse b) (.cons a .nil)
theorem RDs.set : ∀ {vs : List V} {ds : List D} (n : Nat) {v : V} {d : D}, RDs F μ H vs ds → RD F μ H v d → RDs F μ H (vs.set n v) (ds.set n d)
  | _, [], n, _, _, h, _ => by cases h; exact .nil
  | _, d0 :: ds, 0, _, _, h, k => by
    cases h with
    | cons a b => exact .cons k b
  | _, d0 :: ds, n + 1, _, _, h, k => by
    cases h with
    | cons a b => exact .cons a (RDs.set n b k)
end
/-- fields by name -/
def FsR (F : Fx) (μ : List Addr) (H : Hp) (vfs : List (Str × V)) (fs : List (Str × D)) : Prop := Paired (fun p q => p.1 = q.1 ∧ RD F μ H p.2 q.2) vfs fs
def KvR (F : Fx) (μ : List Addr) (H : Hp) (vk : List (Key × V)) (kvs : List (Key × D)) : Prop := Paired (fun p q => p.1 = q.1 ∧ RD F μ H p.2 q.2) vk kvs
theorem FsR.up {F : Fx} {μ μ' : List Addr} {H H' : Hp} (u : Up μ H μ' H') {vfs : List (Str × V)} {fs : List (Str × D)} (h : FsR F μ H vfs fs) : FsR F μ' H' vfs fs :=
  Paired.mapP h fun _ _ z => ⟨z.1, z.2.up u⟩
theorem KvR.up {F : Fx} {μ μ' : List Addr} {H H' : Hp} (u : Up μ H μ' H') {vfs : List (Key × V)} {fs : List (Key × D)} (h : KvR F μ H vfs fs) : KvR F μ' H' vfs fs :=
  Paired.mapP h fun _ _ z => ⟨z.1, z.2.up u⟩
/-- a cell at its address -/
def CellOk (F : Fx) (μ : List Addr) (H : Hp) (a : Addr) : Cell → Prop
  | .lst ds => ∃ xs, H a = some (.lst xs) ∧ RDs F μ H xs ds
  | .obj c fs => ∃ C dx vfs, H a = some (.ins C dx vfs) ∧ F.mg c = some (.ref C) ∧ FsR F μ H vfs fs
  | .dic kvs => ∃ vk, H a = some (.dK vk) ∧ KvR F μ H vk kvs
  | .exc _ _ => False
  | .set ns => ns.Nodup ∧ H a = some (SetO F.w a (fun j => decide (j ∈ ns)) ns.length)
structure RS (F : Fx) (μ : List Addr) (H : Hp) (S : Sto) : Prop where
  len : μ.length = S.length
  nd : μ.Nodup
  at_ : ∀ (n : Nat) (a : Addr) (c : Cell), μ[n]? = some a → S[n]? = some c → CellOk F μ H a c
  xi : ∀ a, a ∈ F.ξ → a ∉ μ ∧ ∃ o, H a = some o
/-- the slots -/
structure RG (F : Fx) (μ : List Addr) (H : Hp) (σ : St) (ρ : Rho) : Prop where
  len : σ.length = ρ.length
  at_ : ∀ (i : Nat) (d : D), ρ[i]? = some (some d) → ∃ v, σ[i]? = some (some v) ∧ RD F μ H v d
/-- an exception in the air -/
def XR (F : Fx) (μ : List Addr) (H : Hp) (cls : Value) (dd : Option Addr) (c : Str) (fs : List (Str × D)) : Prop :=
  F.mg c = some cls ∧ ((fs = [] ∧ dd = none) ∨ ∃ d vfs, dd = some d ∧ H d = some (.xd vfs) ∧ d ∉ μ ∧ d ∉ F.ξ ∧ FsR F μ H vfs fs)
section
variable {F : Fx} {μ μ' μ1 : List Addr} {H H' H1 : Hp} {S S' S1 : Sto} {σ : St} {ρ : Rho}
theorem RG.up (u : Up μ H μ' H') (g : RG F μ H σ ρ) : RG F μ' H' σ ρ := ⟨g.len, fun i d e => by
  obtain ⟨v, h, r⟩ := g.at_ i d e
  exact ⟨v, h, r.up u⟩⟩
theorem RG.set {v : V} {d : D} (i : Nat) (g : RG F μ H σ ρ) (r : RD F μ H v d) : RG F μ H (σ.set i (some v)) (ρ.set i (some d)) := ⟨by rw [List.length_set, List.length_set, g.len], fun j d' e => by
  by_cases hj : i = j
  · subst hj
    by_cases hl : i < ρ.length
    · rw [List.getElem?_set_self hl] at e; cases e
      exact ⟨v, List.getElem?_set_self (by rw [g.len]; exact hl), r⟩
    · rw [List.getElem?_eq_none (by simpa using hl)] at e; cases e
  · rw [List.getElem?_set_ne hj] at e
    obtain ⟨w, h, r'⟩ := g.at_ j d' e
    exact ⟨w, by rw [List.getElem?_set_ne hj]; exact h, r'⟩⟩
theorem RG.forget {σ' : St} (i : Nat) (g : RG F μ H σ ρ) : RG F μ H (σ.set i none) (ρ.set i none) := ⟨by rw [List.length_set, List.length_set, g.len], fun j d' e => by
  by_cases hj : i = j
  · subst hj
    by_cases hl : i < ρ.length
    · rw [List.getElem?_set_self hl] at e; cases e
    · rw [List.getElem?_eq_none (by simpa using hl)] at e; cases e
  · rw [List.getElem?_set_ne hj] at e
    obtain ⟨w, h, r'⟩ := g.at_ j d' e
    exact ⟨w, by rw [List.getElem?_set_ne hj]; exact h, r'⟩⟩
/-- a new object beside the cells -/
theorem Up.fresh {p : Addr} {o : HO} (h : H p = none) : Up μ H μ (upd H p o) := ⟨⟨[], (List.append_nil _).symm⟩, fun _ h n => absurd h n, fun a u e _ => by rw [upd_ne (ne_of_none e h)]; exact e⟩
theorem CellOk.up (u : Up μ H μ' H') {a : Addr} {c : Cell} (e : H' a = H a) (h : CellOk F μ H a c) : CellOk F μ' H' a c := by
  cases c with
  | lst ds =>
    obtain ⟨xs, h1, h2⟩ := h
    exact ⟨xs, e.trans h1, h2.up u⟩
  | obj c fs =>
    obtain ⟨C, dx, vfs, h1, h2, h3⟩ := h
    exact ⟨C, dx, vfs, e.trans h1, h2, h3.up u⟩
  | dic kvs =>
    obtain ⟨vk, h1, h2⟩ := h
    exact ⟨vk, e.trans h1, h2.up u⟩
  | exc _ _ => exact h.elim
  | set ns => exact ⟨h.1, e.trans h.2⟩
theorem CellOk.hasO {a : Addr} {c : Cell} (h : CellOk F μ H a c) : ∃ o, H a = some o := by
  cases c with
  | lst ds =>
    obtain ⟨xs, h1, h2⟩ := h
    exact ⟨_, h1⟩
  | obj c fs =>
    obtain ⟨C, dx, vfs, h1, _⟩ := h
    exact ⟨_, h1⟩
  | dic kvs =>
    obtain ⟨vk, h1, h2⟩ := h
    exact ⟨_, h1⟩
  | exc _ _ => exact h.elim
  | set ns => exact ⟨_, h.2⟩
theorem RS.there (r : RS F μ H S) {n : Nat} {a : Addr} (h : μ[n]? = some a) : ∃ c, S[n]? = some c := by
  have hn := (List.getElem?_eq_some_iff.mp h).1
  rw [r.len] at hn
  exact ⟨S[n], List.getElem?_eq_getElem hn⟩
theorem RS.hasO (r : RS F μ H S) {a : Addr} (h : a ∈ μ) : ∃ o, H a = some o := by
  obtain ⟨n, e⟩ := List.getElem?_of_mem h
  obtain ⟨c, hc⟩ := r.there e
  exact (r.at_ n a c e hc).hasO
theorem RS.out (r : RS F μ H S) {p : Addr} (h : H p = none) : p ∉ μ := fun z => by
  obtain ⟨o, e⟩ := r.hasO z
  rw [h] at e; cases e
theorem RS.outX (r : RS F μ H S) {p : Addr} (h : H p = none) : p ∉ F.ξ := fun z => by
  obtain ⟨_, o, e⟩ := r.xi p z
  rw [h] at e; cases e
theorem RS.fresh (r : RS F μ H S) {p : Addr} {o : HO} (h : H p = none) : RS F μ (upd H p o) S := ⟨r.len, r.nd, fun n a c e1 e2 => by
  have q := r.at_ n a c e1 e2
  refine q.up (.fresh h) (upd_ne ?_)
  intro z
  subst z
  obtain ⟨o', e⟩ := q.hasO
  rw [h] at e; exact (nomatch e), fun a ha => ⟨(r.xi a ha).1, by
    obtain ⟨o', e⟩ := (r.xi a ha).2
    exact ⟨o', by rw [upd_ne (ne_of_none e h)]; exact e⟩⟩⟩
/-- a new cell -/
theorem Up.alloc {p : Addr} {o : HO} (h : H p = none) : Up μ H (μ ++ [p]) (upd H p o) := ⟨⟨[p], rfl⟩, fun a ha n => by
  rcases List.mem_append.mp ha with z | z
  · exact absurd z n
  · rw [List.mem_singleton.mp z]; exact h, fun a u e _ => by rw [upd_ne (ne_of_none e h)]; exact e⟩
theorem RS.alloc (r : RS F μ H S) {p : Addr} {o : HO} {c : Cell} (h : H p = none) (hc : CellOk F (μ ++ [p]) (upd H p o) p c) : RS F (μ ++ [p]) (upd H p o) (S ++ [c]) := by
  refine ⟨by rw [List.length_append, List.length_append, r.len] <;> rfl, ?_, fun n a c' e1 e2 => ?_, fun a ha => ⟨fun z => ?_, ?_⟩⟩
  · refine List.nodup_append.mpr ⟨r.nd, by simp, fun a ha b hb => ?_⟩
    rw [List.mem_singleton.mp hb]
    rintro rfl
    exact r.out h ha
  · by_cases hn : n < μ.length
    · rw [List.getElem?_append_left hn] at e1
      rw [List.getElem?_append_left (by rw [← r.len]; exact hn)] at e2
      have q := r.at_ n a c' e1 e2
      refine q.up (.alloc h) (upd_ne ?_)
      intro z
      subst z
      obtain ⟨o', e⟩ := q.hasO
      rw [h] at e; cases e
    · have hn' : n = μ.length := by
        have q := (List.getElem?_eq_some_iff.mp e1).1
        rw [List.length_append, List.length_singleton] at q
        omega
      subst hn'
      rw [List.getElem?_append_right (Nat.le_refl _), Nat.sub_self] at e1
      rw [List.getElem?_append_right (by rw [r.len]; exact Nat.le_refl _), r.len, Nat.sub_self] at e2
      cases e1; cases e2
      exact hc
  · rcases List.mem_append.mp z with z | z
    · exact (r.xi a ha).1 z
    · rw [List.mem_singleton.mp z] at ha
      exact r.outX h ha
  · obtain ⟨o', e⟩ := (r.xi a ha).2
    exact ⟨o', by rw [upd_ne (ne_of_none e h)]; exact e⟩
theorem alloc_at {p : Addr} : (μ ++ [p])[μ.length]? = some p := by rw [List.getElem?_append_right (Nat.le_refl _), Nat.sub_self]; rfl
/-- a cell is written -/
theorem Up.write {n : Nat} {a : Addr} {o : HO} (h : μ[n]? = some a) : Up μ H μ (upd H a o) := ⟨⟨[], (List.append_nil _).symm⟩, fun _ h n => absurd h n, fun b u e nb => by
  rw [upd_ne]
  · exact e
  · rintro rfl
    exact nb (List.mem_of_getElem? h)⟩
theorem RS.write (r : RS F μ H S) {n : Nat} {a : Addr} {o : HO} {c : Cell} (h : μ[n]? = some a) (hc : CellOk F μ (upd H a o) a c) : RS F μ (upd H a o) (S.set n c) := by
  refine ⟨by rw [List.length_set, r.len], r.nd, fun m b c' e1 e2 => ?_, fun b hb => ⟨(r.xi b hb).1, by
    obtain ⟨o', e⟩ := (r.xi b hb).2
    refine ⟨o', ?_⟩
    rw [upd_ne]
    · exact e
    · rintro rfl
      exact (r.xi b hb).1 (List.mem_of_getElem? h)⟩⟩
  by_cases hm : n = m
  · subst hm
    rw [h] at e1; cases e1
    have hl : n < S.length := by rw [← r.len]; exact (List.getElem?_eq_some_iff.mp h).1
    rw [List.getElem?_set_self hl] at e2; cases e2
    exact hc
  · rw [List.getElem?_set_ne hm] at e2
    refine (r.at_ m b c' e1 e2).up (.write h) (upd_ne ?_)
    rintro rfl
    have h1 := (List.getElem?_eq_some_iff.mp h)
    have h2 := (List.getElem?_eq_some_iff.mp e1)
    exact hm ((List.getElem_inj r.nd).mp (h1.2.trans h2.2.symm))
/-- a list that is being made: reserved, then let go -/
def Fx.hold (F : Fx) (p : Addr) : Fx := ⟨F.K, F.mg, p :: F.ξ, F.w⟩
theorem FzT.free {p a : Addr} {xs : List V} (h : FzT (F.hold p) μ H a xs) : FzT F μ H a xs := h.imp (fun z => ⟨z.1, z.2.1, fun q => z.2.2 (List.mem_cons_of_mem _ q)⟩) id
theorem FzL.free {p a : Addr} {xs : List V} (h : FzL (F.hold p) μ H a xs) : FzL F μ H a xs := h.imp (fun z => ⟨z.1, z.2.1, fun q => z.2.2 (List.mem_cons_of_mem _ q)⟩) id
theorem FzX.free {p a : Addr} {c : Str} {ns : List (Str × Int)} (h : FzX (F.hold p) μ H a c ns) : FzX F μ H a c ns := by
  obtain ⟨cls, dd, e, ⟨h1, h2, h3⟩, h4⟩ := h
  refine ⟨cls, dd, e, ⟨h1, h2, fun q => h3 (List.mem_cons_of_mem _ q)⟩, h4.imp id ?_⟩
  rintro ⟨d, fs, e2, h5, hf, h6, h7⟩
  exact ⟨d, fs, e2, h5, hf, h6, fun q => h7 (List.mem_cons_of_mem _ q)⟩
mutual
theorem RD.free {p : Addr} : ∀ {v : V} (d : D), RD (F.hold p) μ H v d → RD F μ H v d
  | _, .non, h => by cases h; exact .non
  | _, .bl b, h => by cases h; exact .bl b
  | _, .int i, h => by cases h; exact .int i
  | _, .str x, h => by cases h; exact .str x
  | _, .tup ds, h => by
    cases h with
    | tup f r => exact .tup f.free (RDs.free ds r)
  | _, .lst ds, h => by
    cases h with
    | lst f r => exact .lst f.free (RDs.free ds r)
  | _, .cell n, h => by
    cases h with
    | cell e => exact .cell e
  | _, .glo x, h => by
    cases h with
    | glo e => exact .glo e
  | _, .exn c ns, h => by
    cases h with
    | exn f => exact .exn f.free
theorem RDs.free {p : Addr} : ∀ {vs : List V} (ds : List D), RDs (F.hold p) μ H vs ds → RDs F μ H vs ds
  | _, [], h => by cases h; exact .nil
  | _, d :: ds, h => by
    cases h with
    | cons a b => exact .cons (RD.free d a) (RDs.free ds b)
end
/-- .. reserved at its making, .. written while it is reserved -/
theorem FzT.holds {p a : Addr} {o : HO} {xs : List V} (hp : H p = none) (h : FzT F μ H a xs) : FzT (F.hold p) μ (upd H p o) a xs := by
  rcases h with ⟨h, n, nx⟩ | h
  · have hne : a ≠ p := by
      rcases h with h | ⟨o, h⟩ <;> exact ne_of_none h hp
    refine .inl ⟨?_, n, fun q => (List.mem_cons.mp q).elim hne nx⟩
    rcases h with h | ⟨o, h⟩
    · exact .inl (by rw [upd_ne hne]; exact h)
    · exact .inr ⟨o, by rw [upd_ne hne]; exact h⟩
  · exact .inr h
theorem FzL.holds {p a : Addr} {o : HO} {xs : List V} (hp : H p = none) (h : FzL F μ H a xs) : FzL (F.hold p) μ (upd H p o) a xs := by
  rcases h with ⟨h, n, nx⟩ | h
  · have hne : a ≠ p := by
      rcases h with h | ⟨o, h⟩ <;> exact ne_of_none h hp
    refine .inl ⟨?_, n, fun q => (List.mem_cons.mp q).elim hne nx⟩
    rcases h with h | ⟨o, h⟩
    · exact .inl (by rw [upd_ne hne]; exact h)
    · exact .inr ⟨o, by rw [upd_ne hne]; exact h⟩
  · exact .inr h
theorem FzT.wr {p a : Addr} {o : HO} {xs : List V} (h : FzT (F.hold p) μ H a xs) : FzT (F.hold p) μ (upd H p o) a xs := by
  rcases h with ⟨h, n, nx⟩ | h
  · have hne : a ≠ p := fun z => nx (z ▸ List.mem_cons_self)
    refine .inl ⟨?_, n, nx⟩
    rcases h with h | ⟨o, h⟩
    · exact .inl (by rw [upd_ne hne]; exact h)
    · exact .inr ⟨o, by rw [upd_ne hne]; exact h⟩
  · exact .inr h
theorem FzL.wr {p a : Addr} {o : HO} {xs : List V} (h : FzL (F.hold p) μ H a xs) : FzL (F.hold p) μ (upd H p o) a xs := by
  rcases h with ⟨h, n, nx⟩ | h
  · have hne : a ≠ p := fun z => nx (z ▸ List.mem_cons_self)
    refine .inl ⟨?_, n, nx⟩
    rcases h with h | ⟨o, h⟩
    · exact .inl (by rw [upd_ne hne]; exact h)
    · exact .inr ⟨o, by rw [upd_ne hne]; exact h⟩
  · exact .inr h
theorem FzX.upHold {p a : Addr} {c : Str} {ns : List (Str × Int)} (u : Up μ H μ' H') (hp : H p = none) (h : FzX F μ H a c ns) : FzX (F.hold p) μ' H' a c ns := by
  obtain ⟨cls, dd, e, ⟨h1, h2, h3⟩, h4⟩ := h
  refine ⟨cls, dd, e, ⟨u.keep _ _ h1 h2, u.notin h1 h2, fun q => (List.mem_cons.mp q).elim (ne_of_none h1 hp) h3⟩, h4.imp id ?_⟩
  rintro ⟨d, fs, e2, h5, hf, h6, h7⟩
  exact ⟨d, fs, e2, u.keep _ _ h5 h6, hf, u.notin h5 h6, fun q => (List.mem_cons.mp q).elim (ne_of_none h5 hp) h7⟩
theorem FzX.holds {p a : Addr} {o : HO} {c : Str} {ns : List (Str × Int)} (hp : H p = none) (h : FzX F μ H a c ns) : FzX (F.hold p) μ (upd H p o) a c ns := by
  obtain ⟨cls, dd, e, ⟨h1, h2, h3⟩, h4⟩ := h
  refine ⟨cls, dd, e, ⟨by rw [upd_ne (ne_of_none h1 hp)]; exact h1, h2, fun q => (List.mem_cons.mp q).elim (ne_of_none h1 hp) h3⟩, h4.imp id ?_⟩
  rintro ⟨d, fs, e2, h5, hf, h6, h7⟩
  exact ⟨d, fs, e2, by rw [upd_ne (ne_of_none h5 hp)]; exact h5, hf, h6, fun q => (List.mem_cons.mp q).elim (ne_of_none h5 hp) h7⟩
theorem FzX.wr {p a : Addr} {o : HO} {c : Str} {ns : List (Str × Int)} (h : FzX (F.hold p) μ H a c ns) : FzX (F.hold p) μ (upd H p o) a c ns := by
  obtain ⟨cls, dd, e, ⟨h1, h2, h3⟩, h4⟩ := h
  have ne : ∀ {b : Addr}, b ∉ (F.hold p).ξ → b ≠ p := fun n z => n (by rw [z]; exact List.mem_cons_self)
  refine ⟨cls, dd, e, ⟨by rw [upd_ne (ne h3)]; exact h1, h2, h3⟩, h4.imp id ?_⟩
  rintro ⟨d, fs, e2, h5, hf, h6, h7⟩
  exact ⟨d, fs, e2, by rw [upd_ne (ne h7)]; exact h5, hf, h6, h7⟩
theorem FzX.asCell {p a : Addr} {c : Str} {ns : List (Str × Int)} (h : FzX (F.hold p) μ H a c ns) : FzX F (μ ++ [p]) H a c ns := by
  have no : ∀ {b : Addr}, b ∉ μ → b ∉ (F.hold p).ξ → b ∉ μ ++ [p] := fun h1 h2 q => (List.mem_append.mp q).elim h1 fun q => h2 (by rw [List.mem_singleton.mp q]; exact List.mem_cons_self)
  obtain ⟨cls, dd, e, ⟨h1, h2, h3⟩, h4⟩ := h
  refine ⟨cls, dd, e, ⟨h1, no h2 h3, fun q => h3 (List.mem_cons_of_mem _ q)⟩, h4.imp id ?_⟩
  rintro ⟨d, fs, e2, h5, hf, h6, h7⟩
  exact ⟨d, fs, e2, h5, hf, no h6 h7, fun q => h7 (List.mem_cons_of_mem _ q)⟩
/-- .. as a cell -/
theorem FzT.asCell {p a : Addr} {xs : List V} (h : FzT (F.hold p) μ H a xs) : FzT F (μ ++ [p]) H a xs :=
  h.imp (fun z => ⟨z.1, fun q => (List.mem_append.mp q).elim z.2.1 fun q => z.2.2 (by rw [List.mem_singleton.mp q]; exact List.mem_cons_self), fun q => z.2.2 (List.mem_cons_of_mem _ q)⟩) id
theorem FzL.asCell {p a : Addr} {xs : List V} (h : FzL (F.hold p) μ H a xs) : FzL F (μ ++ [p]) H a xs :=
  h.imp (fun z => ⟨z.1, fun q => (List.mem_append.mp q).elim z.2.1 fun q => z.2.2 (by rw [List.mem_singleton.mp q]; exact List.mem_cons_self), fun q => z.2.2 (List.mem_cons_of_mem _ q)⟩) id
theorem getl {n : Nat} {a p : Addr} (h : μ[n]? = some a) : (μ ++ [p])[n]? = some a := by
  rw [List.getElem?_append_left (List.getElem?_eq_some_iff.mp h).1]
  exact h
/-- a map of what stands for what -/
structure Mv (F : Fx) (μ : List Addr) (H : Hp) (F' : Fx) (μ' : List Addr) (H' : Hp) : Prop where
  t : ∀ {a : Addr} {xs : List V}, FzT F μ H a xs → FzT F' μ' H' a xs
  l : ∀ {a : Addr} {xs : List V}, FzL F μ H a xs → FzL F' μ' H' a xs
  c : ∀ {n : Nat} {a : Addr}, μ[n]? = some a → μ'[n]? = some a
  gw : (F'.mg, F'.w) = (F.mg, F.w)
  x : ∀ {a : Addr} {c : Str} {ns : List (Str × Int)}, FzX F μ H a c ns → FzX F' μ' H' a c ns
theorem Mv.g {F F' : Fx} {μ μ' : List Addr} {H H' : Hp} (m : Mv F μ H F' μ' H') : F'.mg = F.mg := congrArg Prod.fst m.gw
theorem Mv.w {F F' : Fx} {μ μ' : List Addr} {H H' : Hp} (m : Mv F μ H F' μ' H') : F'.w = F.w := congrArg Prod.snd m.gw
mutual
theorem RD.mv {F' : Fx} (m : Mv F μ H F' μ' H') : ∀ {v : V} (d : D), RD F μ H v d → RD F' μ' H' v d
  | _, .non, h => by cases h; exact .non
  | _, .bl b, h => by cases h; exact .bl b
  | _, .int i, h => by cases h; exact .int i
  | _, .str x, h => by cases h; exact .str x
  | _, .tup ds, h => by
    cases h with
    | tup f r => exact .tup (m.t f) (RDs.mv m ds r)
  | _, .lst ds, h => by
    cases h with
    | lst f r => exact .lst (m.l f) (RDs.mv m ds r)
  | _, .cell n, h => by
    cases h with
    | cell e => exact .cell (m.c e)
  | _, .glo x, h => by
    cases h with
    | glo e => exact .glo (by rw [m.g]; exact e)
  | _, .exn c ns, h => by
    cases h with
    | exn f => exact .exn (m.x f)
theorem RDs.mv {F' : Fx} (m : Mv F μ H F' μ' H') : ∀ {vs : List V} (ds : List D), RDs F μ H vs ds → RDs F' μ' H' vs ds
  | _, [], h => by cases h; exact .nil
  | _, d :: ds, h => by
    cases h with
    | cons a b => exact .cons (RD.mv m d a) (RDs.mv m ds b)
end
theorem Mv.holds {p : Addr} {o : HO} (hp : H p = none) : Mv F μ H (F.hold p) μ (upd H p o) := ⟨fun h => h.holds hp, fun h => h.holds hp, fun h => h, rfl, fun h => h.holds hp⟩
theorem Mv.wr {p : Addr} {o : HO} : Mv (F.hold p) μ H (F.hold p) μ (upd H p o) := ⟨fun h => h.wr, fun h => h.wr, fun h => h, rfl, fun h => h.wr⟩
theorem Mv.asCell {p : Addr} : Mv (F.hold p) μ H F (μ ++ [p]) H := ⟨fun h => h.asCell, fun h => h.asCell, fun h => getl h, rfl, fun h => h.asCell⟩
theorem Mv.free {p : Addr} : Mv (F.hold p) μ H F μ H := ⟨fun h => h.free, fun h => h.free, fun h => h, rfl, fun h => h.free⟩
theorem CellOk.mv {F' : Fx} (m : Mv F μ H F' μ' H') {a : Addr} {c : Cell} (e : H' a = H a) (h : CellOk F μ H a c) : CellOk F' μ' H' a c := by
  cases c with
  | lst ds =>
    obtain ⟨xs, h1, h2⟩ := h
    exact ⟨xs, e.trans h1, h2.mv m⟩
  | obj c fs =>
    obtain ⟨C, dx, vfs, h1, h2, h3⟩ := h
    exact ⟨C, dx, vfs, e.trans h1, by rw [m.g]; exact h2, Paired.mapP h3 fun _ _ z => ⟨z.1, z.2.mv m⟩⟩
  | dic kvs =>
    obtain ⟨vk, h1, h2⟩ := h
    exact ⟨vk, e.trans h1, Paired.mapP h2 fun _ _ z => ⟨z.1, z.2.mv m⟩⟩
  | exc _ _ => exact h.elim
  | set ns => exact ⟨h.1, by rw [m.w]; exact e.trans h.2⟩
theorem RG.mv {F' : Fx} (m : Mv F μ H F' μ' H') (g : RG F μ H σ ρ) : RG F' μ' H' σ ρ := ⟨g.len, fun i d e => by
  obtain ⟨v, h, r⟩ := g.at_ i d e
  exact ⟨v, h, r.mv m⟩⟩
theorem RS.holds (r : RS F μ H S) {p : Addr} {o : HO} (hp : H p = none) : RS (F.hold p) μ (upd H p o) S := ⟨r.len, r.nd, fun n a c e1 e2 => by
  have q := r.at_ n a c e1 e2
  refine q.mv (.holds hp) (upd_ne ?_)
  rintro rfl
  obtain ⟨o', e⟩ := q.hasO
  rw [hp] at e; exact (nomatch e), fun a ha => by
  rcases List.mem_cons.mp ha with z | z
  · rw [z]; exact ⟨r.out hp, o, upd_same⟩
  · obtain ⟨h1, o', e⟩ := r.xi a z
    exact ⟨h1, o', by rw [upd_ne (ne_of_none e hp)]; exact e⟩⟩
theorem RS.wr {p : Addr} {o : HO} (r : RS (F.hold p) μ H S) : RS (F.hold p) μ (upd H p o) S := ⟨r.len, r.nd, fun n a c e1 e2 => by
  have q := r.at_ n a c e1 e2
  refine q.mv .wr (upd_ne fun z => ?_)
  rw [z] at e1
  exact (r.xi p List.mem_cons_self).1 (List.mem_of_getElem? e1), fun a ha => by
  obtain ⟨h1, o', e⟩ := r.xi a ha
  by_cases z : a = p
  · rw [z] at h1 ⊢; exact ⟨h1, o, upd_same⟩
  · exact ⟨h1, o', by rw [upd_ne z]; exact e⟩⟩
theorem RS.free {p : Addr} (r : RS (F.hold p) μ H S) : RS F μ H S := ⟨r.len, r.nd, fun n a c e1 e2 => (r.at_ n a c e1 e2).mv .free rfl, fun a ha => r.xi a (List.mem_cons_of_mem _ ha)⟩
theorem RS.asCell {p : Addr} {ds : List D} {xs : List V} (r : RS (F.hold p) μ H S) (hx : p ∉ F.ξ) (h : H p = some (.lst xs)) (q : RDs (F.hold p) μ H xs ds) : RS F (μ ++ [p]) H (S ++ [.lst ds]) := by
  have np := (r.xi p List.mem_cons_self).1
  refine ⟨by rw [List.length_append, List.length_append, r.len] <;> rfl, ?_, fun n a c' e1 e2 => ?_, fun a ha => ⟨fun z => ?_, (r.xi a (List.mem_cons_of_mem _ ha)).2⟩⟩
  · refine List.nodup_append.mpr ⟨r.nd, by simp, fun a ha b hb => ?_⟩
    rw [List.mem_singleton.mp hb]
    rintro rfl
    exact np ha
  · by_cases hn : n < μ.length
    · rw [List.getElem?_append_left hn] at e1
      rw [List.getElem?_append_left (by rw [← r.len]; exact hn)] at e2
      exact (r.at_ n a c' e1 e2).mv .asCell rfl
    · have hn' : n = μ.length := by
        have q := (List.getElem?_eq_some_iff.mp e1).1
        rw [List.length_append, List.length_singleton] at q
        omega
      subst hn'
      rw [List.getElem?_append_right (Nat.le_refl _), Nat.sub_self] at e1
      rw [List.getElem?_append_right (by rw [r.len]; exact Nat.le_refl _), r.len, Nat.sub_self] at e2
      cases e1; cases e2
      exact ⟨xs, h, q.mv .asCell⟩
  · rcases List.mem_append.mp z with z | z
    · exact (r.xi a (List.mem_cons_of_mem _ ha)).1 z
    · rw [List.mem_singleton.mp z] at ha
      exact hx ha
theorem XR.up (u : Up μ H μ' H') {cls : Value} {dd : Option Addr} {c : Str} {fs : List (Str × D)} (h : XR F μ H cls dd c fs) : XR F μ' H' cls dd c fs := by
  obtain ⟨h1, h2⟩ := h
  refine ⟨h1, h2.imp id ?_⟩
  rintro ⟨d, vfs, e, h3, h4, h6, h5⟩
  exact ⟨d, vfs, e, u.keep _ _ h3 h4, u.notin h3 h4, h6, h5.up u⟩
end
/-! ### what is wanted of a run -/
def WR {α β : Type} (F : Fx) (rel : List Addr → Hp → β → α → Prop) (r : Res α) (Q : β → Hp → Prop) (Wx : Value → Option Addr → Hp → Prop) (μ : List Addr) (H : Hp) : Prop := match r with
  | .ok d S' => ∀ v μ' H', Up μ H μ' H' → RS F μ' H' S' → rel μ' H' v d → Q v H'
  | .exc c fs S' => ∀ cls dd μ' H', Up μ H μ' H' → RS F μ' H' S' → XR F μ' H' cls dd c fs → Wx cls dd H'
  | .bad => False
abbrev WE' (F : Fx) := WR F (fun μ H v d => RD F μ H v d)
abbrev WA' (F : Fx) := WR F (fun μ H v d => RDs F μ H v d)
/-- a fresh list: reserved yet -/
def WL' (F : Fx) (r : Res (List D)) (Q : VK) (Wx : Value → Option Addr → Hp → Prop) (μ : List Addr) (H : Hp) : Prop := match r with
  | .ok ds S' => ∀ p xs μ' H', Up μ H μ' H' → H p = none → RS (F.hold p) μ' H' S' → RDs (F.hold p) μ' H' xs ds → H' p = some (.lst xs) → Q (.ref p) H'
  | .exc c fs S' => ∀ cls dd μ' H', Up μ H μ' H' → RS F μ' H' S' → XR F μ' H' cls dd c fs → Wx cls dd H'
  | .bad => False
/-- a truth value -/
def WT' (F : Fx) (r : Res D) (Q : Bool → Hp → Prop) (Wx : Value → Option Addr → Hp → Prop) (μ : List Addr) (H : Hp) : Prop := match r with
  | .ok (.bl b) S' => ∀ μ' H', Up μ H μ' H' → RS F μ' H' S' → Q b H'
  | .exc c fs S' => ∀ cls dd μ' H', Up μ H μ' H' → RS F μ' H' S' → XR F μ' H' cls dd c fs → Wx cls dd H'
  | _ => False
def WS' (F : Fx) (r : Out) (E : Ends) (W : WX) (μ : List Addr) (H : Hp) : Prop := match r with
  | .nx ρ S => ∀ σ μ' H', Up μ H μ' H' → RS F μ' H' S → RG F μ' H' σ ρ → E.nx σ H'
  | .rt d S => ∀ v μ' H', Up μ H μ' H' → RS F μ' H' S → RD F μ' H' v d → E.rt v H'
  | .bk ρ S => ∀ σ μ' H', Up μ H μ' H' → RS F μ' H' S → RG F μ' H' σ ρ → E.bk σ H'
  | .ct ρ S => ∀ σ μ' H', Up μ H μ' H' → RS F μ' H' S → RG F μ' H' σ ρ → E.ct σ H'
  | .exc c fs ρ S => ∀ cls dd σ μ' H', Up μ H μ' H' → RS F μ' H' S → RG F μ' H' σ ρ → XR F μ' H' cls dd c fs → W cls dd σ H'
  | .bad => False
section
variable {F : Fx} {α β γ δ : Type} {rel : List Addr → Hp → β → α → Prop} {rel' : List Addr → Hp → δ → γ → Prop} {μ μ1 : List Addr} {H H1 : Hp} {Q : β → Hp → Prop} {Wx : Value → Option Addr → Hp → Prop}
theorem WR.shift {r : Res α} (u : Up μ H μ1 H1) (h : WR F rel r Q Wx μ H) : WR F rel r Q Wx μ1 H1 := by
  cases r with
  | ok d S => exact fun v μ' H' u' => h v μ' H' (u.trans u')
  | exc c fs S => exact fun cls dd μ' H' u' => h cls dd μ' H' (u.trans u')
  | bad => exact h
theorem WS'.shift {r : Out} {E : Ends} {W : WX} (u : Up μ H μ1 H1) (h : WS' F r E W μ H) : WS' F r E W μ1 H1 := by
  cases r with
  | nx ρ S => exact fun σ μ' H' u' => h σ μ' H' (u.trans u')
  | rt d S => exact fun v μ' H' u' => h v μ' H' (u.trans u')
  | bk ρ S => exact fun σ μ' H' u' => h σ μ' H' (u.trans u')
  | ct ρ S => exact fun σ μ' H' u' => h σ μ' H' (u.trans u')
  | exc c fs ρ S => exact fun cls dd σ μ' H' u' => h cls dd σ μ' H' (u.trans u')
  | bad => exact h
/-- first r, then f -/
theorem WR.bind {r : Res γ} {f : γ → Sto → Res α} {Q1 : δ → Hp → Prop} (h : WR F rel (r.bind f) Q Wx μ H)
    (k : ∀ x S1 v μ1 H1, Up μ H μ1 H1 → RS F μ1 H1 S1 → rel' μ1 H1 v x → WR F rel (f x S1) Q Wx μ1 H1 → Q1 v H1) : WR F rel' r Q1 Wx μ H := by
  cases r with
  | ok x S1 => exact fun v μ1 H1 u1 s1 r1 => k x S1 v μ1 H1 u1 s1 r1 (WR.shift u1 h)
  | exc c fs S => exact h
  | bad => exact h
theorem WL'.shift {r : Res (List D)} {Q : VK} (u : Up μ H μ1 H1) (h : WL' F r Q Wx μ H) : WL' F r Q Wx μ1 H1 := by
  cases r with
  | ok d S =>
    intro p xs μ' H' u' hp s' r' e'
    have np : p ∉ μ := fun z => (s'.xi p List.mem_cons_self).1 (u'.mem (u.mem z))
    exact h p xs μ' H' (u.trans u') (u.back hp np) s' r' e'
  | exc c fs S => exact fun cls dd μ' H' u' => h cls dd μ' H' (u.trans u')
  | bad => exact h
theorem WL'.bind {r : Res γ} {f : γ → Sto → Res (List D)} {Q : VK} {Q1 : δ → Hp → Prop} (h : WL' F (r.bind f) Q Wx μ H)
    (k : ∀ x S1 v μ1 H1, Up μ H μ1 H1 → RS F μ1 H1 S1 → rel' μ1 H1 v x → WL' F (f x S1) Q Wx μ1 H1 → Q1 v H1) : WR F rel' r Q1 Wx μ H := by
  cases r with
  | ok x S1 => exact fun v μ1 H1 u1 s1 r1 => k x S1 v μ1 H1 u1 s1 r1 (WL'.shift u1 h)
  | exc c fs S => exact h
  | bad => exact h
theorem WT'.shift {r : Res D} {Q : Bool → Hp → Prop} (u : Up μ H μ1 H1) (h : WT' F r Q Wx μ H) : WT' F r Q Wx μ1 H1 := by
  cases r with
  | ok d S =>
    cases d with
    | bl b => exact fun μ' H' u' => h μ' H' (u.trans u')
    | _ => exact h
  | exc c fs S => exact fun cls dd μ' H' u' => h cls dd μ' H' (u.trans u')
  | bad => exact h
/-- first r, then f, whose answer is a truth value -/
theorem WT'.bind {r : Res γ} {f : γ → Sto → Res D} {Q : Bool → Hp → Prop} {Q1 : δ → Hp → Prop} (h : WT' F (r.bind f) Q Wx μ H)
    (k : ∀ x S1 v μ1 H1, Up μ H μ1 H1 → RS F μ1 H1 S1 → rel' μ1 H1 v x → WT' F (f x S1) Q Wx μ1 H1 → Q1 v H1) : WR F rel' r Q1 Wx μ H := by
  cases r with
  | ok x S1 => exact fun v μ1 H1 u1 s1 r1 => k x S1 v μ1 H1 u1 s1 r1 (WT'.shift u1 h)
  | exc c fs S => exact h
  | bad => exact h
/-- first a test, then f -/
theorem WR.bindT {r : Res D} {f : D → Sto → Res α} {Q1 : Bool → Hp → Prop} (h : WR F rel (r.bind f) Q Wx μ H) (hb : ∀ d S, (∀ b, d ≠ .bl b) → f d S = .bad)
    (k : ∀ b S1 μ1 H1, Up μ H μ1 H1 → RS F μ1 H1 S1 → WR F rel (f (.bl b) S1) Q Wx μ1 H1 → Q1 b H1) : WT' F r Q1 Wx μ H := by
  cases r with
  | ok d S =>
    have h : WR F rel (f d S) Q Wx μ H := h
    cases d with
    | bl b => exact fun μ1 H1 u1 s1 => k b S μ1 H1 u1 s1 (WR.shift u1 h)
    | _ =>
      rw [hb _ _ (by intro b e; cases e)] at h
      exact h
  | exc c fs S => exact h
  | bad => exact h
theorem WT'.bindT {r : Res D} {f : D → Sto → Res D} {Q Q1 : Bool → Hp → Prop} (h : WT' F (r.bind f) Q Wx μ H) (hb : ∀ d S, (∀ b, d ≠ .bl b) → f d S = .bad)
    (k : ∀ b S1 μ1 H1, Up μ H μ1 H1 → RS F μ1 H1 S1 → WT' F (f (.bl b) S1) Q Wx μ1 H1 → Q1 b H1) : WT' F r Q1 Wx μ H := by
  cases r with
  | ok d S =>
    have h : WT' F (f d S) Q Wx μ H := h
    cases d with
    | bl b => exact fun μ1 H1 u1 s1 => k b S μ1 H1 u1 s1 (WT'.shift u1 h)
    | _ =>
      rw [hb _ _ (by intro b e; cases e)] at h
      exact h
  | exc c fs S => exact h
  | bad => exact h
/-- as a value -/
theorem WT'.val {r : Res D} {Q : Bool → Hp → Prop} (h : WT' F r Q Wx μ H) : WE' F r (fun x H' => ∃ k, x = .bl k ∧ Q k H') Wx μ H := by
  cases r with
  | ok d S =>
    cases d with
    | bl b =>
      intro v μ' H' u' s' r'
      cases r'
      exact ⟨b, rfl, h μ' H' u' s'⟩
    | _ => exact h.elim
  | exc c fs S => exact h
  | bad => exact h
end
end Dm
-- text DmRules
namespace Dm
open PySem L2
open PySem.W (Frag)
structure DE (X : Cx) (W : WX) (e : Expr) (m : ME) : Prop where
  ex : ∃ te, PE X e te ∧ ∀ ξ μ σ H ρ S Q, RG (fx X ξ) μ H σ ρ → RS (fx X ξ) μ H S → WE' (fx X ξ) (m ρ S) Q (fun cls dd H' => W cls dd σ H') μ H → te σ H Q
structure DT (X : Cx) (W : WX) (e : Expr) (m : ME) : Prop where
  ex : ∃ te, PT X e te ∧ ∀ ξ μ σ H ρ S Q, RG (fx X ξ) μ H σ ρ → RS (fx X ξ) μ H S → WT' (fx X ξ) (m ρ S) Q (fun cls dd H' => W cls dd σ H') μ H → te σ H Q
structure DW (X : Cx) (W : WX) (e : Expr) (m : ME) : Prop where
  ex : ∃ te, PW X e te ∧ ∀ ξ μ σ H ρ S Q, RG (fx X ξ) μ H σ ρ → RS (fx X ξ) μ H S → WT' (fx X ξ) (m ρ S) Q (fun cls dd H' => W cls dd σ H') μ H → te σ H Q
structure DA (X : Cx) (W : WX) (es : List Expr) (m : MA) : Prop where
  ex : ∃ te, PA X es te ∧ ∀ ξ μ σ H ρ S Q, RG (fx X ξ) μ H σ ρ → RS (fx X ξ) μ H S → WA' (fx X ξ) (m ρ S) Q (fun cls dd H' => W cls dd σ H') μ H → te σ H Q
/-- keyword values -/
structure DK (X : Cx) (W : WX) (kws : List Keyword) (m : MA) : Prop where
  ex : ∃ te, PK X kws te ∧ ∀ ξ μ σ H ρ S Q, RG (fx X ξ) μ H σ ρ → RS (fx X ξ) μ H S → WA' (fx X ξ) (m ρ S) Q (fun cls dd H' => W cls dd σ H') μ H → te σ H Q
/-- a fresh list, its items -/
structure DL (X : Cx) (W : WX) (e : Expr) (m : MA) : Prop where
  ex : ∃ te, PE X e te ∧ ∀ ξ μ σ H ρ S Q, RG (fx X ξ) μ H σ ρ → RS (fx X ξ) μ H S →
    WL' (fx X ξ) (m ρ S) Q (fun cls dd H' => W cls dd σ H') μ H → te σ H Q
structure DS (X : Cx) (W : WX) (st : Stmt) (m : MS) : Prop where
  ex : ∃ ts, PS X st ts ∧ ∀ ξ μ σ H ρ S D, RG (fx X ξ) μ H σ ρ → RS (fx X ξ) μ H S → WS' (fx X ξ) (m ρ S) D W μ H → ts D σ H
structure DSs (X : Cx) (W : WX) (st : List Stmt) (m : MS) : Prop where
  ex : ∃ ts, PSs X st ts ∧ ∀ ξ μ σ H ρ S D, RG (fx X ξ) μ H σ ρ → RS (fx X ξ) μ H S → WS' (fx X ξ) (m ρ S) D W μ H → ts D σ H
/-! ### the words -/
def mVar (i : Nat) : ME := fun ρ S => match ρ[i]? with
  | some (some d) => .ok d S
  | _ => .bad
def mK (d : D) : ME := fun _ S => .ok d S
def mOp (g : Sto → D → D → Option D) (a b : ME) : ME := fun ρ S => (a ρ S).bind fun x S1 => (b ρ S1).bind fun y S2 => match g S2 x y with
  | some z => .ok z S2
  | none => .bad
def mUn (g : Sto → D → Option D) (a : ME) : ME := fun ρ S => (a ρ S).bind fun x S1 => match g S1 x with
  | some z => .ok z S1
  | none => .bad
def mAnd (a b : ME) : ME := fun ρ S => (a ρ S).bind fun x S1 => match x with
  | .bl true => b ρ S1
  | .bl false => .ok (.bl false) S1
  | _ => .bad
def mOr (a b : ME) : ME := fun ρ S => (a ρ S).bind fun x S1 => match x with
  | .bl true => .ok (.bl true) S1
  | .bl false => b ρ S1
  | _ => .bad
def mNot (a : ME) : ME := fun ρ S => (a ρ S).bind fun x S1 => match x with
  | .bl c => .ok (.bl (!c)) S1
  | _ => .bad
def mIf (c a b : ME) : ME := fun ρ S => (c ρ S).bind fun x S1 => match x with
  | .bl true => a ρ S1
  | .bl false => b ρ S1
  | _ => .bad
def mNil : MA := fun _ S => .ok [] S
def mCons (a : ME) (r : MA) : MA := fun ρ S => (a ρ S).bind fun x S1 => (r ρ S1).bind fun xs S2 => .ok (x :: xs) S2
def mTup (a : MA) : ME := fun ρ S => (a ρ S).bind fun xs S1 => if xs.length ≤ 16777216 then .ok (.tup xs) S1 else .bad
def mLst (a : MA) : MA := fun ρ S => (a ρ S).bind fun xs S1 => if xs.length ≤ 16777216 then .ok xs S1 else .bad
def mCall (f : List D → Sto → Res D) (a : MA) : ME := fun ρ S => (a ρ S).bind fun xs S1 => f xs S1
/-- a fresh list as plain data; as a cell -/
def mFz (a : MA) : ME := fun ρ S => (a ρ S).bind fun xs S1 => .ok (.lst xs) S1
def mNew (a : MA) : ME := fun ρ S => (a ρ S).bind fun xs S1 => .ok (.cell S1.length) (S1 ++ [.lst xs])
section
variable {X : Cx} {W : WX} {e a b c : Expr} {es : List Expr} {ma mb mc m : ME} {mr : MA} {pos : Pos}
/-- weakening by what a rule asks -/
theorem d_var (i : Nat) {x : Str} (hN : X.N[i]? = some x := by rfl) (hv : Vis X.env.scope x := by first | exact Or.inl rfl | exact Or.inr (Or.inl rfl) | exact Or.inr (Or.inr rfl)) (hd : (x == ("__debug__" : Str)) = false := by decide)
    (hcd : (x == ("__classdict__" : Str)) = false := by decide) : DE X W (.Name x pos) (mVar i) :=
  ⟨_, pe_var hN hv hd hcd, fun ξ μ σ H ρ S Q g s h => by
    unfold mVar at h
    cases e : ρ[i]? with
    | none => rw [e] at h; exact h.elim
    | some o =>
      cases o with
      | none => rw [e] at h; exact h.elim
      | some d =>
        rw [e] at h
        obtain ⟨v, hv, r⟩ := g.at_ i d e
        exact ⟨v, hv, h v μ H .refl s r⟩⟩
theorem d_k {te : TE} {v : V} {d : D} (hp : PE X e te) (ht : te = tC v) (hr : ∀ ξ μ H, RD (fx X ξ) μ H v d) : DE X W e (mK d) :=
  ⟨te, hp, fun ξ μ σ H ρ S Q g s h => by subst ht; exact h v μ H .refl s (hr ξ μ H)⟩
theorem d_int {i : Int} {j} : DE X W (.Constant (.int i) j pos) (mK (.int i)) := d_k pe_int rfl fun _ _ _ => .int i
theorem d_bl {i : Bool} {j} : DE X W (.Constant (.bool i) j pos) (mK (.bl i)) := d_k pe_bl rfl fun _ _ _ => .bl i
theorem d_non {j} : DE X W (.Constant .none j pos) (mK .non) := d_k pe_non rfl fun _ _ _ => .non
theorem d_str {i : Str} {j} : DE X W (.Constant (.str i) j pos) (mK (.str i)) := d_k pe_str rfl fun _ _ _ => .str i
/-- a constant of the module -/
def GlD (X : Cx) (x : Str) (d : D) : Prop := ∃ u v, X.mg x = some u ∧ RelV v u ∧ ∀ ξ μ H, RD (fx X ξ) μ H v d
theorem d_glob {x : Str} {d : D} (hg : Gl X x) (hm : GlD X x d) (hd : (x == ("__debug__" : Str)) = false := by decide) : DE X W (.Name x pos) (mK d) := by
  obtain ⟨u, v, h1, h2, h3⟩ := hm
  exact d_k (pe_glob hg h1 h2 hd) rfl h3
/-! operators -/
def OpD (X : Cx) (r : R2) (g : Sto → D → D → Option D) : Prop :=
  ∀ ξ μ H S x y v u z Q, RS (fx X ξ) μ H S → RD (fx X ξ) μ H v x → RD (fx X ξ) μ H u y → g S x y = some z → (∀ w μ' H', Up μ H μ' H' → RS (fx X ξ) μ' H' S → RD (fx X ξ) μ' H' w z → Q w H') → r v u H Q
theorem op2 {r : R2} {g : Sto → D → D → Option D} {ta tb : TE} {μ ξ : List Addr} {σ : St} {H : Hp} {ρ : Rho} {S : Sto} {Q : VK} (hd : OpD X r g)
    (ka : ∀ ξ μ σ H ρ S Q, RG (fx X ξ) μ H σ ρ → RS (fx X ξ) μ H S → WE' (fx X ξ) (ma ρ S) Q (fun cls dd H' => W cls dd σ H') μ H → ta σ H Q)
    (kb : ∀ ξ μ σ H ρ S Q, RG (fx X ξ) μ H σ ρ → RS (fx X ξ) μ H S → WE' (fx X ξ) (mb ρ S) Q (fun cls dd H' => W cls dd σ H') μ H → tb σ H Q)
    (g0 : RG (fx X ξ) μ H σ ρ) (s : RS (fx X ξ) μ H S) (h : WE' (fx X ξ) (mOp g ma mb ρ S) Q (fun cls dd H' => W cls dd σ H') μ H) : tOp r ta tb σ H Q := by
  refine ka ξ μ σ H ρ S _ g0 s (WR.bind h fun x S1 v μ1 H1 u1 s1 r1 h1 => ?_)
  refine kb ξ μ1 σ H1 ρ S1 _ (g0.up u1) s1 (WR.bind h1 fun y S2 v2 μ2 H2 u2 s2 r2 h2 => ?_)
  cases e : g S2 x y with
  | none => rw [e] at h2; exact h2.elim
  | some z =>
    rw [e] at h2
    exact hd ξ μ2 H2 S2 x y v v2 z Q s2 (r1.up u2) r2 e fun w μ' H' u' s' r' => h2 w μ' H' u' s' r'
theorem d_op {op : Operator} {r : R2} {g : Sto → D → D → Option D} (ho : OpR X (binaryOp op) r) (hd : OpD X r g) (ha : DE X W a ma) (hb : DE X W b mb) : DE X W (.BinOp a op b pos) (mOp g ma mb) := by
  obtain ⟨ta, pa, ka⟩ := ha
  obtain ⟨tb, pb, kb⟩ := hb
  exact ⟨_, pe_op ho pa pb, fun ξ μ σ H ρ S Q g0 s h => op2 (ξ := ξ) hd ka kb g0 s h⟩
theorem d_cmp {op : CmpOp} {r : R2} {g : Sto → D → D → Option D} (ho : OpR X (compareOp op) r) (hd : OpD X r g) (ha : DE X W a ma) (hb : DE X W b mb) (hm : behindInMarks op b = false := by first | exact nomark _ | rfl) : DE X W (.Compare a [op] [b] pos) (mOp g ma mb) := by
  obtain ⟨ta, pa, ka⟩ := ha
  obtain ⟨tb, pb, kb⟩ := hb
  exact ⟨_, pe_cmpR ho pa pb hm, fun ξ μ σ H ρ S Q g0 s h => op2 (ξ := ξ) hd ka kb g0 s h⟩
theorem dt_val (h : DE X W e m) (he : ∀ whole, isTrue e X.env whole = (do let v ← whole; standAt e.pos; holding [v] (truthy v)) := by intro _; rfl) : DT X W e m := by
  obtain ⟨te, p, k⟩ := h
  exact ⟨_, pt_val p he, fun ξ μ σ H ρ S Q g s h => k ξ μ σ H ρ S _ g s (WT'.val h)⟩
theorem dt_cmp {op : CmpOp} {r : R2} {g : Sto → D → D → Option D} (ho : OpR X (compareOp op) r) (hd : OpD X r g) (ha : DE X W a ma) (hb : DE X W b mb) (hm : behindInMarks op b = false := by first | exact nomark _ | rfl) : DT X W (.Compare a [op] [b] pos) (mOp g ma mb) := by
  obtain ⟨ta, pa, ka⟩ := ha
  obtain ⟨tb, pb, kb⟩ := hb
  exact ⟨_, pt_cmpR ho pa pb hm, fun ξ μ σ H ρ S Q g0 s h => op2 (ξ := ξ) hd ka kb g0 s (WT'.val h)⟩
theorem DT.w (h : DW X W e m) : DT X W e m := let ⟨t, p, k⟩ := h; ⟨t, p.pt, k⟩
theorem notb2 {α : Type} {k l : Sto → Res α} : ∀ (d : D) (S : Sto), (∀ b, d ≠ .bl b) → (match d with | .bl true => k S | .bl false => l S | _ => Res.bad) = Res.bad := fun d S h => by
  cases d with
  | bl b => exact absurd rfl (h b)
  | _ => rfl
theorem dw_and1 (ha : DT X W a ma) : DW X W (.BoolOp .And [a] pos) ma := let ⟨_, p, k⟩ := ha; ⟨_, pw_and1 p, k⟩
theorem dw_or1 (ha : DT X W a ma) : DW X W (.BoolOp .Or [a] pos) ma := let ⟨_, p, k⟩ := ha; ⟨_, pw_or1 p, k⟩
theorem dw_and {rest : List Expr} (ha : DT X W a ma) (hb : DW X W (.BoolOp .And (b :: rest) pos) mb) : DW X W (.BoolOp .And (a :: b :: rest) pos) (mAnd ma mb) := by
  obtain ⟨ta, pa, ka⟩ := ha
  obtain ⟨tb, pb, kb⟩ := hb
  refine ⟨_, pw_and pa pb, fun ξ μ σ H ρ S Q g s h => ?_⟩
  refine ka ξ μ σ H ρ S _ g s (WT'.bindT h (fun d S h => notb2 d S h) fun c S1 μ1 H1 u1 s1 h1 => ?_)
  cases c with
  | true => exact kb ξ μ1 σ H1 ρ S1 Q (g.up u1) s1 h1
  | false => exact h1 μ1 H1 .refl s1
theorem dw_or {rest : List Expr} (ha : DT X W a ma) (hb : DW X W (.BoolOp .Or (b :: rest) pos) mb) : DW X W (.BoolOp .Or (a :: b :: rest) pos) (mOr ma mb) := by
  obtain ⟨ta, pa, ka⟩ := ha
  obtain ⟨tb, pb, kb⟩ := hb
  refine ⟨_, pw_or pa pb, fun ξ μ σ H ρ S Q g s h => ?_⟩
  refine ka ξ μ σ H ρ S _ g s (WT'.bindT h (fun d S h => notb2 d S h) fun c S1 μ1 H1 u1 s1 h1 => ?_)
  cases c with
  | false => exact kb ξ μ1 σ H1 ρ S1 Q (g.up u1) s1 h1
  | true => exact h1 μ1 H1 .refl s1
theorem dt_not (ha : DT X W a ma) : DT X W (.UnaryOp .Not a pos) (mNot ma) := by
  obtain ⟨ta, pa, ka⟩ := ha
  refine ⟨_, pt_not pa, fun ξ μ σ H ρ S Q g s h => ?_⟩
  refine ka ξ μ σ H ρ S _ g s (WT'.bindT h (fun d S h => by cases d <;> first | rfl | exact absurd rfl (h _)) fun c S1 μ1 H1 u1 s1 h1 => ?_)
  exact h1 μ1 H1 .refl s1
/-- and, or, not as values -/
theorem d_one {op} (h : DE X W a m) : DE X W (.BoolOp op [a] pos) m := let ⟨_, p, k⟩ := h; ⟨_, pe_one p, k⟩
theorem WE'.boolv {r : Res D} {f : D → Sto → Res D} {Q Q1 : VK} {Wx : Value → Option Addr → Hp → Prop} {μ ξ : List Addr} {H : Hp} (h : WE' (fx X ξ) (r.bind f) Q Wx μ H) (hb : ∀ d S, (∀ b, d ≠ .bl b) → f d S = .bad)
    (k : ∀ b S1 μ1 H1, Up μ H μ1 H1 → RS (fx X ξ) μ1 H1 S1 → WE' (fx X ξ) (f (.bl b) S1) Q Wx μ1 H1 → Q1 (.bl b) H1) : WE' (fx X ξ) r Q1 Wx μ H := by
  refine WR.bind h fun x S1 v μ1 H1 u1 s1 r1 h1 => ?_
  cases r1 with
  | bl b => exact k b S1 μ1 H1 u1 s1 h1
  | _ =>
    rw [hb _ _ (by intro b e; cases e)] at h1
    exact h1.elim
theorem d_and {rest : List Expr} (ha : DE X W a ma) (hb : DE X W (.BoolOp .And (b :: rest) pos) mb) : DE X W (.BoolOp .And (a :: b :: rest) pos) (mAnd ma mb) := by
  obtain ⟨ta, pa, ka⟩ := ha
  obtain ⟨tb, pb, kb⟩ := hb
  refine ⟨_, pe_and pa pb, fun ξ μ σ H ρ S Q g s h => ?_⟩
  refine ka ξ μ σ H ρ S _ g s (WE'.boolv h (fun d S h => notb2 d S h) fun c S1 μ1 H1 u1 s1 h1 => ⟨c, rfl, ?_⟩)
  cases c with
  | true => exact kb ξ μ1 σ H1 ρ S1 Q (g.up u1) s1 h1
  | false => exact h1 _ μ1 H1 .refl s1 (.bl _)
theorem d_or {rest : List Expr} (ha : DE X W a ma) (hb : DE X W (.BoolOp .Or (b :: rest) pos) mb) : DE X W (.BoolOp .Or (a :: b :: rest) pos) (mOr ma mb) := by
  obtain ⟨ta, pa, ka⟩ := ha
  obtain ⟨tb, pb, kb⟩ := hb
  refine ⟨_, pe_or pa pb, fun ξ μ σ H ρ S Q g s h => ?_⟩
  refine ka ξ μ σ H ρ S _ g s (WE'.boolv h (fun d S h => notb2 d S h) fun c S1 μ1 H1 u1 s1 h1 => ⟨c, rfl, ?_⟩)
  cases c with
  | false => exact kb ξ μ1 σ H1 ρ S1 Q (g.up u1) s1 h1
  | true => exact h1 _ μ1 H1 .refl s1 (.bl _)
theorem d_not (ha : DE X W a ma) : DE X W (.UnaryOp .Not a pos) (mNot ma) := by
  obtain ⟨ta, pa, ka⟩ := ha
  refine ⟨_, pe_not pa, fun ξ μ σ H ρ S Q g s h => ?_⟩
  exact ka ξ μ σ H ρ S _ g s (WE'.boolv h (fun d S h => by cases d <;> first | rfl | exact absurd rfl (h _)) fun c S1 μ1 H1 u1 s1 h1 => ⟨c, rfl, h1 _ μ1 H1 .refl s1 (.bl _)⟩)
theorem d_ifExp (hc : DT X W c mc) (ha : DE X W a ma) (hb : DE X W b mb) : DE X W (.IfExp c a b pos) (mIf mc ma mb) := by
  obtain ⟨tc, pc, kc⟩ := hc
  obtain ⟨ta, pa, ka⟩ := ha
  obtain ⟨tb, pb, kb⟩ := hb
  refine ⟨_, pe_ifExp pc pa pb, fun ξ μ σ H ρ S Q g s h => ?_⟩
  refine kc ξ μ σ H ρ S _ g s (WR.bindT h (fun d S h => notb2 d S h) fun c S1 μ1 H1 u1 s1 h1 => ?_)
  cases c with
  | true => exact ka ξ μ1 σ H1 ρ S1 Q (g.up u1) s1 h1
  | false => exact kb ξ μ1 σ H1 ρ S1 Q (g.up u1) s1 h1
/-- one-place operators -/
def UnD (X : Cx) (r : V → Hp → VK → Prop) (g : Sto → D → Option D) : Prop :=
  ∀ ξ μ H S x v z Q, RS (fx X ξ) μ H S → RD (fx X ξ) μ H v x → g S x = some z → (∀ w μ' H', Up μ H μ' H' → RS (fx X ξ) μ' H' S → RD (fx X ξ) μ' H' w z → Q w H') → r v H Q
theorem d_un {op : UnaryOp} {r : V → Hp → VK → Prop} {g : Sto → D → Option D} (ho : UnR X (unaryOp op) r) (hd : UnD X r g) (ha : DE X W a ma) : DE X W (.UnaryOp op a pos) (mUn g ma) := by
  obtain ⟨ta, pa, ka⟩ := ha
  refine ⟨_, pe_un ho pa, fun ξ μ σ H ρ S Q g0 s h => ka ξ μ σ H ρ S _ g0 s (WR.bind h fun x S1 v μ1 H1 u1 s1 r1 h1 => ?_)⟩
  cases e : g S1 x with
  | none => rw [e] at h1; exact h1.elim
  | some z =>
    rw [e] at h1
    exact hd ξ μ1 H1 S1 x v z Q s1 r1 e h1
/-- arguments -/
theorem da_nil : DA X W [] mNil := ⟨_, pa_nil, fun ξ μ σ H ρ S Q g s h => h [] μ H .refl s .nil⟩
theorem da_cons (ha : DE X W e ma) (hr : DA X W es mr) (hs : starEach (e :: es) X.env = (false, eval e X.env) :: starEach es X.env := by rfl) : DA X W (e :: es) (mCons ma mr) := by
  obtain ⟨ta, pa, ka⟩ := ha
  obtain ⟨tr, pr, kr⟩ := hr
  refine ⟨_, pa_cons pa pr hs, fun ξ μ σ H ρ S Q g s h => ka ξ μ σ H ρ S _ g s (WR.bind h fun x S1 v μ1 H1 u1 s1 r1 h1 => ?_)⟩
  refine kr ξ μ1 σ H1 ρ S1 _ (g.up u1) s1 (WR.bind h1 fun xs S2 vs μ2 H2 u2 s2 r2 h2 => ?_)
  exact h2 _ μ2 H2 .refl s2 (.cons (r1.up u2) r2)
theorem d_tup {x1} (h : DA X W es mr) : DE X W (.Tuple es x1 pos) (mTup mr) := by
  obtain ⟨ta, pa, ka⟩ := h
  refine ⟨_, pe_tup pa, fun ξ μ σ H ρ S Q g s h => ka ξ μ σ H ρ S _ g s (WR.bind h fun xs S1 vs μ1 H1 u1 s1 r1 h1 => ?_)⟩
  by_cases hz : xs.length ≤ 16777216
  · rw [if_pos hz] at h1
    refine ⟨by rw [r1.length, sizeLine_eq]; exact hz, fun p hp => ?_⟩
    exact h1 _ μ1 _ (.fresh hp) (s1.fresh hp) (.tup (.inl ⟨.inl upd_same, s1.out hp, s1.outX hp⟩) (r1.up (.fresh hp)))
  · rw [if_neg hz] at h1; exact h1.elim
theorem dl_lst (h : DA X W es mr) : DL X W (.List es pos) (mLst mr) := by
  obtain ⟨ta, pa, ka⟩ := h
  refine ⟨_, pe_lst pa, fun ξ μ σ H ρ S Q g s h => ka ξ μ σ H ρ S _ g s (WL'.bind h fun xs S1 vs μ1 H1 u1 s1 r1 h1 => ?_)⟩
  by_cases hz : xs.length ≤ 16777216
  · rw [if_pos hz] at h1
    exact ⟨by rw [r1.length, sizeLine_eq]; exact hz, fun p hp => h1 p vs μ1 _ (.fresh hp) hp (s1.holds hp) (r1.mv (.holds hp)) upd_same⟩
  · rw [if_neg hz] at h1; exact h1.elim
/-- a fresh list as data, as a cell -/
theorem d_fz (h : DL X W e mr) : DE X W e (mFz mr) := by
  obtain ⟨te, p, k⟩ := h
  refine ⟨_, p, fun ξ μ σ H ρ S Q g s h => k ξ μ σ H ρ S Q g s ?_⟩
  unfold mFz at h
  cases e : mr ρ S with
  | bad => rw [e] at h; exact h.elim
  | exc c fs S' => rw [e] at h; exact h
  | ok ds S' =>
    rw [e] at h
    intro q xs μ' H' u' hq s' r' e'
    exact h _ μ' H' u' s'.free (.lst (.inl ⟨.inl e', (s'.xi q List.mem_cons_self).1, s.outX hq⟩) (r'.mv .free))
theorem d_new (h : DL X W e mr) : DE X W e (mNew mr) := by
  obtain ⟨te, p, k⟩ := h
  refine ⟨_, p, fun ξ μ σ H ρ S Q g s h => k ξ μ σ H ρ S Q g s ?_⟩
  unfold mNew at h
  cases e : mr ρ S with
  | bad => rw [e] at h; exact h.elim
  | exc c fs S' => rw [e] at h; exact h
  | ok ds S' =>
    rw [e] at h
    intro q xs μ' H' u' hq s' r' e'
    have l : S'.length = μ'.length := s'.len.symm
    refine h (.ref q) (μ' ++ [q]) H' ⟨?_, fun a ha n => ?_, u'.keep⟩ (s'.asCell (s.outX hq) e' r') (.cell (by rw [l]; exact alloc_at))
    · obtain ⟨ν, z⟩ := u'.pre
      exact ⟨ν ++ [q], by rw [z, List.append_assoc]⟩
    · rcases List.mem_append.mp ha with z | z
      · exact u'.new a z n
      · rw [List.mem_singleton.mp z]; exact hq
end
end Dm
-- text DmOps
namespace Dm
open PySem L2
open PySem.W (Frag)
/-! ### the items of a tuple, a list -/
def lstOf (S : Sto) : D → Option (List D)
  | .lst ds => some ds
  | .cell n => match S[n]? with
    | some (.lst ds) => some ds
    | _ => none
  | _ => none
def seqOf (S : Sto) : D → Option (List D)
  | .tup ds => some ds
  | d => lstOf S d
section
variable {F : Fx} {μ : List Addr} {H : Hp} {S : Sto} {v : V} {d : D} {ds : List D}
theorem RD.lstS (s : RS F μ H S) (r : RD F μ H v d) (h : lstOf S d = some ds) : ∃ a xs, v = .ref a ∧ SqL F.K H a xs ∧ RDs F μ H xs ds := by
  cases r with
  | lst f r =>
    cases h
    exact ⟨_, _, rfl, f.sq, r⟩
  | @cell a n e =>
    simp only [lstOf] at h
    cases q : S[n]? with
    | none => rw [q] at h; exact nomatch h
    | some c =>
      rw [q] at h
      cases c with
      | lst es =>
        cases h
        obtain ⟨xs, h1, h2⟩ := s.at_ n a _ e q
        exact ⟨a, xs, rfl, SqL.of h1, h2⟩
      | _ => exact nomatch h
  | _ => exact nomatch h
theorem RD.seqS (s : RS F μ H S) (r : RD F μ H v d) (h : seqOf S d = some ds) : ∃ a xs, v = .ref a ∧ (SqL F.K H a xs ∨ SqT F.K H a xs) ∧ RDs F μ H xs ds := by
  cases r with
  | tup f r =>
    cases h
    exact ⟨_, _, rfl, .inr f.sq, r⟩
  | lst f r =>
    obtain ⟨a, xs, e, q, z⟩ := RD.lstS s (.lst f r) h
    exact ⟨a, xs, e, .inl q, z⟩
  | cell e =>
    obtain ⟨a, xs, e, q, z⟩ := RD.lstS s (.cell e) h
    exact ⟨a, xs, e, .inl q, z⟩
  | _ => exact nomatch h
theorem RDs.atI {vs : List V} {i : Int} (r : RDs F μ H vs ds) (h : atI ds i = some d) : ∃ v, L2.atI vs i = some v ∧ RD F μ H v d := by
  unfold L2.atI at h ⊢
  rw [r.length]
  cases e : ixN ds.length i with
  | none => rw [e] at h; exact nomatch h
  | some j =>
    rw [e] at h
    exact r.get h
end
/-! ### whole numbers -/
def gI (f : Int → Int → D) : Sto → D → D → Option D := fun _ x y => match x, y with
  | .int i, .int j => some (f i j)
  | _, _ => none
def gIC (C : Int → Int → Prop) [∀ i j, Decidable (C i j)] (f : Int → Int → D) : Sto → D → D → Option D := fun _ x y => match x, y with
  | .int i, .int j => if C i j then some (f i j) else none
  | _, _ => none
section
variable {X : Cx}
theorem opd_I0 {fv : Int → Int → V} {fd : Int → Int → D} (h : ∀ i j ξ μ H, RD (fx X ξ) μ H (fv i j) (fd i j)) : OpD X (rI0 fv) (gI fd) := by
  intro ξ μ H S x y v u z Q s rx ry e k
  cases rx with
  | int i =>
    cases ry with
    | int j =>
      cases e
      exact ⟨i, j, rfl, rfl, k _ μ H .refl s (h i j ξ μ H)⟩
    | _ => exact nomatch e
  | _ => exact nomatch e
theorem opd_I {C : Int → Int → Prop} [∀ i j, Decidable (C i j)] {fv : Int → Int → V} {fd : Int → Int → D} (h : ∀ i j ξ μ H, RD (fx X ξ) μ H (fv i j) (fd i j)) : OpD X (rI C fv) (gIC C fd) := by
  intro ξ μ H S x y v u z Q s rx ry e k
  cases rx with
  | int i =>
    cases ry with
    | int j =>
      unfold gIC at e
      by_cases c : C i j
      · simp only [if_pos c] at e
        cases e
        exact ⟨i, j, rfl, rfl, c, k _ μ H .refl s (h i j ξ μ H)⟩
      · simp only [if_neg c] at e
        exact nomatch e
    | _ => exact nomatch e
  | _ => exact nomatch e
theorem OpD.or {r r' : R2} {g g' : Sto → D → D → Option D} (h : OpD X r g) (h' : OpD X r' g') : OpD X (fun x y H Q => r x y H Q ∨ r' x y H Q) (fun S x y => (g S x y).or (g' S x y)) := by
  intro ξ μ H S x y v u z Q s rx ry e k
  have e : (g S x y).or (g' S x y) = some z := e
  cases q : g S x y with
  | some w =>
    rw [q] at e
    cases e
    exact .inl (h ξ μ H S x y v u _ Q s rx ry q k)
  | none =>
    rw [q] at e
    exact .inr (h' ξ μ H S x y v u z Q s rx ry e k)
abbrev gSub := gI fun i j => .int (i - j)
abbrev gLt := gI fun i j => .bl (decide (i < j))
abbrev gLe := gI fun i j => .bl (decide (i ≤ j))
abbrev gGt := gI fun i j => .bl (decide (j < i))
abbrev gGe := gI fun i j => .bl (decide (j ≤ i))
instance : ∀ i j, Decidable (CMulW i j) := fun i j => inferInstanceAs (Decidable (_ < _))
instance : ∀ i j, Decidable (CDivW i j) := fun i j => inferInstanceAs (Decidable (_ ∧ _))
instance : ∀ i j, Decidable (CPow i j) := fun i j => inferInstanceAs (Decidable (_ ∧ _ ∧ _))
abbrev gMul := gIC CMulW fun i j => .int (i * j)
abbrev gFdiv := gIC CDivW fun i j => .int (i / j)
abbrev gMod := gIC (fun _ j => 0 < j) fun i j => .int (i % j)
abbrev gPow := gIC CPow fun i j => .int (i ^ j.toNat)
theorem o_sub : OpD X (rI0 fun i j => .int (i - j)) gSub := opd_I0 fun _ _ _ _ _ => .int _
theorem o_lt : OpD X (rI0 fun i j => .bl (decide (i < j))) gLt := opd_I0 fun _ _ _ _ _ => .bl _
theorem o_le : OpD X (rI0 fun i j => .bl (decide (i ≤ j))) gLe := opd_I0 fun _ _ _ _ _ => .bl _
theorem o_gt : OpD X (rI0 fun i j => .bl (decide (j < i))) gGt := opd_I0 fun _ _ _ _ _ => .bl _
theorem o_ge : OpD X (rI0 fun i j => .bl (decide (j ≤ i))) gGe := opd_I0 fun _ _ _ _ _ => .bl _
theorem o_mul : OpD X (rI CMulW fun i j => .int (i * j)) gMul := opd_I fun _ _ _ _ _ => .int _
theorem o_fdiv : OpD X (rI CDivW fun i j => .int (i / j)) gFdiv := opd_I fun _ _ _ _ _ => .int _
theorem o_mod : OpD X (rI (fun _ j => 0 < j) fun i j => .int (i % j)) gMod := opd_I fun _ _ _ _ _ => .int _
theorem o_pow : OpD X (rI CPow fun i j => .int (i ^ j.toNat)) gPow := opd_I fun _ _ _ _ _ => .int _
/-- + of ints, of tuples -/
def gCatT : Sto → D → D → Option D := fun _ x y => match x, y with
  | .tup a, .tup b => if a.length + b.length ≤ 16777216 then some (.tup (a ++ b)) else none
  | _, _ => none
def gAdd : Sto → D → D → Option D := fun S x y => (gI (fun i j => .int (i + j)) S x y).or (gCatT S x y)
theorem o_catT : OpD X (rCatA X.K) gCatT := by
  intro ξ μ H S x y v u z Q s rx ry e k
  cases rx with
  | @tup a xs ds f r =>
    cases ry with
    | @tup b ys es f' r' =>
      unfold gCatT at e
      by_cases c : ds.length + es.length ≤ 16777216
      · simp only [if_pos c] at e
        cases e
        refine ⟨a, b, xs, ys, rfl, rfl, f.sq, f'.sq, by rw [r.length, r'.length, sizeLine_eq]; exact c, fun e => ?_, fun _ e => ?_, fun _ _ p hp => ?_⟩
        · subst e
          have e' : ds = [] := List.eq_nil_of_length_eq_zero r.length.symm
          subst e'
          exact k _ μ H .refl s (.tup f' r')
        · subst e
          have e' : es = [] := List.eq_nil_of_length_eq_zero r'.length.symm
          subst e'
          rw [List.append_nil] at k
          exact k _ μ H .refl s (.tup f r)
        · exact k _ μ _ (.fresh hp) (s.fresh hp) (.tup (.inl ⟨.inl upd_same, s.out hp, s.outX hp⟩) ((r.append r').up (.fresh hp)))
      · simp only [if_neg c] at e
        exact nomatch e
    | _ => exact nomatch e
  | _ => exact nomatch e
theorem op_addD : OpR X (binaryOp .Add) (fun x y H Q => rI0 (fun i j => .int (i + j)) x y H Q ∨ rCatA X.K x y H Q) := op_add.or op_catA
theorem o_add : OpD X (fun x y H Q => rI0 (fun i j => .int (i + j)) x y H Q ∨ rCatA X.K x y H Q) gAdd := (opd_I0 fun _ _ _ _ _ => .int _).or o_catT
/-- -i -/
def gNeg : Sto → D → Option D := fun _ x => match x with
  | .int i => some (.int (-i))
  | _ => none
theorem o_neg : UnD X (rU fun i => .int (-i)) gNeg := by
  intro ξ μ H S x v z Q s rx e k
  cases rx with
  | int i =>
    cases e
    exact ⟨i, rfl, k _ μ H .refl s (.int _)⟩
  | _ => exact nomatch e
/-! ### == -/
mutual
def toPy : D → Option PyData
  | .non => some .none
  | .bl b => some (.bool b)
  | .int i => some (.int i)
  | .str x => some (.str x)
  | .tup ds => (toPys ds).map .tuple
  | .lst ds => (toPys ds).map .list
  | .cell _ => none
  | .glo _ => none
  | .exn _ _ => none
def toPys : List D → Option (List PyData)
  | [] => some []
  | d :: ds => (toPy d).bind fun p => (toPys ds).map fun ps => p :: ps
end
/-- a cell's list, its items plain -/
def toPyS (S : Sto) (d : D) : Option PyData := match d with
  | .cell n => match S[n]? with
    | some (.lst ds) => (toPys ds).map .list
    | _ => none
  | d => toPy d
section
variable {F : Fx} {μ : List Addr} {H : Hp} {S : Sto}
mutual
theorem dp_of : ∀ {v : V} (d : D) {p : PyData}, RD F μ H v d → toPy d = some p → Dp F.K H v p
  | _, .non, p, r, e => by cases r; cases e; exact .non
  | _, .bl b, p, r, e => by cases r; cases e; exact .bl b
  | _, .int i, p, r, e => by cases r; cases e; exact .int i
  | _, .str x, p, r, e => by cases r; cases e; exact .str x
  | _, .tup ds, p, r, e => by
    cases r with
    | tup f r =>
      unfold toPy at e
      cases q : toPys ds with
      | none => rw [q] at e; exact nomatch e
      | some ps =>
        rw [q] at e; cases e
        exact .tup f.sq (dps_of ds r q)
  | _, .lst ds, p, r, e => by
    cases r with
    | lst f r =>
      unfold toPy at e
      cases q : toPys ds with
      | none => rw [q] at e; exact nomatch e
      | some ps =>
        rw [q] at e; cases e
        exact .lst f.sq (dps_of ds r q)
  | _, .cell _, p, r, e => nomatch e
  | _, .glo _, p, r, e => nomatch e
  | _, .exn _ _, p, r, e => nomatch e
theorem dps_of : ∀ {vs : List V} (ds : List D) {ps : List PyData}, RDs F μ H vs ds → toPys ds = some ps → DpAll F.K H vs ps
  | _, [], ps, r, e => by cases r; cases e; exact .nil
  | _, d :: ds, ps, r, e => by
    cases r with
    | cons a b =>
      unfold toPys at e
      cases q : toPy d with
      | none => rw [q] at e; exact nomatch e
      | some p =>
        rw [q] at e
        cases q' : toPys ds with
        | none => rw [q'] at e; exact nomatch e
        | some ps' =>
          rw [q'] at e; cases e
          exact .cons (dp_of d a q) (dps_of ds b q')
end
theorem dpS_of {v : V} {d : D} {p : PyData} (s : RS F μ H S) (r : RD F μ H v d) (e : toPyS S d = some p) : Dp F.K H v p := by
  cases d with
  | cell n =>
    unfold toPyS at e
    cases r with
    | @cell a _ ea =>
      cases q : S[n]? with
      | none => simp only [q] at e; exact nomatch e
      | some c =>
        simp only [q] at e
        cases c with
        | lst ds =>
          cases q' : toPys ds with
          | none => simp only [q'] at e; exact nomatch e
          | some ps =>
            simp only [q'] at e; cases e
            obtain ⟨xs, h1, h2⟩ := s.at_ n a _ ea q
            exact .lst (SqL.of h1) (dps_of ds h2 q')
        | _ => exact nomatch e
  | _ => exact dp_of _ r e
end
/-- == of two values; none: no rule -/
def eqD (S : Sto) (x y : D) : Option Bool := match x, y with
  | .int i, .int j => some (i == j)
  | .str i, .str j => some (i == j)
  | x, y => match toPyS S x, toPyS S y with
    | some p, some q => if SeqAt.shaped p = true ∧ SeqAt.shaped q = true then some (PyData.eqv p q) else none
    | _, _ => none
theorem eqD_cases {S : Sto} {x y : D} {b : Bool} (h : eqD S x y = some b) : (∃ i j, x = .int i ∧ y = .int j ∧ b = (i == j)) ∨ (∃ i j, x = .str i ∧ y = .str j ∧ b = (i == j)) ∨
    ∃ p q, toPyS S x = some p ∧ toPyS S y = some q ∧ SeqAt.shaped p = true ∧ SeqAt.shaped q = true ∧ b = PyData.eqv p q := by
  unfold eqD at h
  split at h
  · cases h; exact .inl ⟨_, _, rfl, rfl, rfl⟩
  · cases h; exact .inr (.inl ⟨_, _, rfl, rfl, rfl⟩)
  · split at h
    · rename_i p q hp hq
      split at h
      · rename_i hs
        cases h
        exact .inr (.inr ⟨p, q, hp, hq, hs.1, hs.2, rfl⟩)
      · exact nomatch h
    · exact nomatch h
def gEq : Sto → D → D → Option D := fun S x y => (eqD S x y).map .bl
def gNe : Sto → D → D → Option D := fun S x y => (eqD S x y).map fun b => .bl (!b)
def rEqA (K : Frag) : R2 := fun x y H Q => rEq x y H Q ∨ rEqD K x y H Q
def rNeA (K : Frag) : R2 := fun x y H Q => rNe x y H Q ∨ rNeD K x y H Q
theorem op_eqA (hu : X.A.units + 64 < cLine) : OpR X (compareOp .Eq) (rEqA X.K) := op_eq.or (op_eqD hu)
theorem op_neA (hu : X.A.units + 64 < cLine) : OpR X (compareOp .NotEq) (rNeA X.K) := op_ne.or (op_neD hu)
theorem o_eq : OpD X (rEqA X.K) gEq := by
  intro ξ μ H S x y v u z Q s rx ry e k
  unfold gEq at e
  cases q : eqD S x y with
  | none => rw [q] at e; exact nomatch e
  | some b =>
    rw [q] at e; cases e
    rcases eqD_cases q with ⟨i, j, rfl, rfl, rfl⟩ | ⟨i, j, rfl, rfl, rfl⟩ | ⟨p, q', h1, h2, h3, h4, rfl⟩
    · cases rx; cases ry
      exact .inl ⟨rfl, by rw [dec_int]; exact k _ μ H .refl s (.bl _)⟩
    · cases rx; cases ry
      exact .inl ⟨rfl, by rw [dec_str]; exact k _ μ H .refl s (.bl _)⟩
    · exact .inr ⟨p, q', dpS_of s rx h1, dpS_of s ry h2, h3, h4, k _ μ H .refl s (.bl _)⟩
theorem o_ne : OpD X (rNeA X.K) gNe := by
  intro ξ μ H S x y v u z Q s rx ry e k
  unfold gNe at e
  cases q : eqD S x y with
  | none => rw [q] at e; exact nomatch e
  | some b =>
    rw [q] at e; cases e
    rcases eqD_cases q with ⟨i, j, rfl, rfl, rfl⟩ | ⟨i, j, rfl, rfl, rfl⟩ | ⟨p, q', h1, h2, h3, h4, rfl⟩
    · cases rx; cases ry
      exact .inl ⟨rfl, by rw [dec_int]; exact k _ μ H .refl s (.bl _)⟩
    · cases rx; cases ry
      exact .inl ⟨rfl, by rw [dec_str]; exact k _ μ H .refl s (.bl _)⟩
    · exact .inr ⟨p, q', dpS_of s rx h1, dpS_of s ry h2, h3, h4, k _ μ H .refl s (.bl _)⟩
/-! ### in -/
def flatD : D → Bool
  | .non => true
  | .bl _ => true
  | .int _ => true
  | .str _ => true
  | _ => false
def eqF : D → D → Bool
  | .non, .non => true
  | .bl a, .bl b => a == b
  | .bl a, .int b => (if a then 1 else 0) == b
  | .int a, .bl b => a == (if b then 1 else 0)
  | .int a, .int b => a == b
  | .str a, .str b => a == b
  | _, _ => false
theorem flat_of {F : Fx} {μ : List Addr} {H : Hp} {v : V} {d : D} (r : RD F μ H v d) : flatV v = flatD d := by cases r <;> rfl
theorem eqF_of {F : Fx} {μ : List Addr} {H : Hp} {v u : V} {d e : D} (r : RD F μ H v d) (r' : RD F μ H u e) : eqV v u = eqF d e := by cases r <;> cases r' <;> rfl
theorem flats_of {F : Fx} {μ : List Addr} {H : Hp} : ∀ {vs : List V} {ds : List D}, RDs F μ H vs ds → vs.all flatV = ds.all flatD
  | _, [], r => by cases r; rfl
  | _, d :: ds, r => by
    cases r with
    | cons a b => rw [List.all_cons, List.all_cons, flat_of a, flats_of b]
theorem anyF_of {F : Fx} {μ : List Addr} {H : Hp} {u : V} {e : D} (r' : RD F μ H u e) : ∀ {vs : List V} {ds : List D}, RDs F μ H vs ds → inV u vs = ds.any (eqF · e)
  | _, [], r => by cases r; rfl
  | _, d :: ds, r => by
    cases r with
    | cons a b =>
      have q := anyF_of r' b
      unfold inV at q ⊢
      rw [List.any_cons, List.any_cons, eqF_of a r', q]
def gIn (neg : Bool) : Sto → D → D → Option D := fun S x y => match seqOf S y with
  | some ds => if flatD x = true ∧ ds.all flatD = true then some (.bl (if neg then !ds.any (eqF · x) else ds.any (eqF · x))) else none
  | none => none
theorem o_in {neg : Bool} : OpD X (rIn X.K neg) (gIn neg) := by
  intro ξ μ H S x y v u z Q s rx ry e k
  unfold gIn at e
  cases q : seqOf S y with
  | none => rw [q] at e; exact nomatch e
  | some ds =>
    rw [q] at e
    by_cases c : flatD x = true ∧ ds.all flatD = true
    · simp only [if_pos c] at e
      cases e
      obtain ⟨a, xs, rfl, h1, h2⟩ := RD.seqS s ry q
      refine ⟨a, xs, rfl, h1, by rw [flat_of rx]; exact c.1, by rw [flats_of h2]; exact c.2, ?_⟩
      rw [anyF_of rx h2]
      exact k _ μ H .refl s (.bl _)
    · simp only [if_neg c] at e
      exact nomatch e
/-! ### is None -/
def isNon : D → Bool
  | .non => true
  | _ => false
def gIsN (neg : Bool) : Sto → D → D → Option D := fun _ x y => match y with
  | .non => some (.bl (if neg then !isNon x else isNon x))
  | _ => none
theorem isNon_of {F : Fx} {μ : List Addr} {H : Hp} {v : V} {d : D} (r : RD F μ H v d) : decide (v = .non) = isNon d := by cases r <;> rfl
theorem o_isN : OpD X (fun x y H Q => y = .non ∧ Q (.bl (decide (x = .non))) H) (gIsN false) := by
  intro ξ μ H S x y v u z Q s rx ry e k
  cases ry with
  | non =>
    cases e
    exact ⟨rfl, by rw [isNon_of rx]; exact k _ μ H .refl s (.bl _)⟩
  | _ => exact nomatch e
theorem o_notN : OpD X (fun x y H Q => y = .non ∧ Q (.bl (!decide (x = .non))) H) (gIsN true) := by
  intro ξ μ H S x y v u z Q s rx ry e k
  cases ry with
  | non =>
    cases e
    exact ⟨rfl, by rw [isNon_of rx]; exact k _ μ H .refl s (.bl _)⟩
  | _ => exact nomatch e
end
/-! ### chains -/
def mChain (g g' : Sto → D → D → Option D) (a b c : ME) : ME := fun ρ S => (a ρ S).bind fun x S1 => (b ρ S1).bind fun y S2 => match g S2 x y with
  | some (.bl true) => (c ρ S2).bind fun z S3 => match g' S3 y z with
    | some w => .ok w S3
    | none => .bad
  | some (.bl false) => .ok (.bl false) S2
  | _ => .bad
section
variable {X : Cx} {W : WX} {e a b c : Expr} {es : List Expr} {ma mb mc m : ME} {mr : MA} {pos : Pos}
theorem chain2 {r r' : R2} {g g' : Sto → D → D → Option D} {ta tb tc : TE} {ξ μ : List Addr} {σ : St} {H : Hp} {ρ : Rho} {S : Sto} {Q : VK} (hd : OpD X r g) (hd' : OpD X r' g')
    (ka : ∀ ξ μ σ H ρ S Q, RG (fx X ξ) μ H σ ρ → RS (fx X ξ) μ H S → WE' (fx X ξ) (ma ρ S) Q (fun cls dd H' => W cls dd σ H') μ H → ta σ H Q)
    (kb : ∀ ξ μ σ H ρ S Q, RG (fx X ξ) μ H σ ρ → RS (fx X ξ) μ H S → WE' (fx X ξ) (mb ρ S) Q (fun cls dd H' => W cls dd σ H') μ H → tb σ H Q)
    (kc : ∀ ξ μ σ H ρ S Q, RG (fx X ξ) μ H σ ρ → RS (fx X ξ) μ H S → WE' (fx X ξ) (mc ρ S) Q (fun cls dd H' => W cls dd σ H') μ H → tc σ H Q)
    (g0 : RG (fx X ξ) μ H σ ρ) (s : RS (fx X ξ) μ H S) (h : WE' (fx X ξ) (mChain g g' ma mb mc ρ S) Q (fun cls dd H' => W cls dd σ H') μ H) : tChain r r' ta tb tc σ H Q := by
  refine ka ξ μ σ H ρ S _ g0 s (WR.bind h fun x S1 v μ1 H1 u1 s1 r1 h1 => ?_)
  refine kb ξ μ1 σ H1 ρ S1 _ (g0.up u1) s1 (WR.bind h1 fun y S2 v2 μ2 H2 u2 s2 r2 h2 => ?_)
  cases e : g S2 x y with
  | none => rw [e] at h2; exact h2.elim
  | some z =>
    rw [e] at h2
    refine hd ξ μ2 H2 S2 x y v v2 z _ s2 (r1.up u2) r2 e fun w μ' H' u' s' r' => ?_
    cases r' with
    | bl k =>
      refine ⟨k, rfl, ?_⟩
      cases k with
      | false => exact h2 _ μ' H' u' s' (.bl false)
      | true =>
        refine kc ξ μ' σ H' ρ S2 _ (g0.up (u1.trans (u2.trans u'))) s' (WR.bind (WR.shift u' h2) fun z S3 v3 μ3 H3 u3 s3 r3 h3 => ?_)
        cases e3 : g' S3 y z with
        | none => rw [e3] at h3; exact h3.elim
        | some w =>
          rw [e3] at h3
          exact hd' ξ μ3 H3 S3 y z v2 v3 w Q s3 (r2.up (u'.trans u3)) r3 e3 h3
    | _ => exact h2.elim
theorem d_chain {op op' : CmpOp} {r r' : R2} {g g' : Sto → D → D → Option D} (ho : OpR X (compareOp op) r) (ho' : OpR X (compareOp op') r') (hd : OpD X r g) (hd' : OpD X r' g') (ha : DE X W a ma) (hb : DE X W b mb) (hc : DE X W c mc)
    (hm : lastMarks [op, op'] [b, c] = false := by with_unfolding_all rfl) : DE X W (.Compare a [op, op'] [b, c] pos) (mChain g g' ma mb mc) := by
  obtain ⟨ta, pa, ka⟩ := ha
  obtain ⟨tb, pb, kb⟩ := hb
  obtain ⟨tc, pc, kc⟩ := hc
  exact ⟨_, pe_chain ho ho' pa pb pc hm, fun ξ μ σ H ρ S Q g0 s h => chain2 hd hd' ka kb kc g0 s h⟩
theorem dt_chain {op op' : CmpOp} {r r' : R2} {g g' : Sto → D → D → Option D} (ho : OpR X (compareOp op) r) (ho' : OpR X (compareOp op') r') (hd : OpD X r g) (hd' : OpD X r' g') (ha : DE X W a ma) (hb : DE X W b mb) (hc : DE X W c mc)
    (hm : lastMarks [op, op'] [b, c] = false := by with_unfolding_all rfl) : DT X W (.Compare a [op, op'] [b, c] pos) (mChain g g' ma mb mc) := by
  obtain ⟨ta, pa, ka⟩ := ha
  obtain ⟨tb, pb, kb⟩ := hb
  obtain ⟨tc, pc, kc⟩ := hc
  exact ⟨_, pt_chain ho ho' pa pb pc hm, fun ξ μ σ H ρ S Q g0 s h => chain2 hd hd' ka kb kc g0 s (WT'.val h)⟩
/-! ### subscripts -/
def gIx : Sto → D → D → Option D := fun S x i => match i with
  | .int k => match x with
    | .str z => if z.length ≤ 16777216 then (atI z.cps.toList k).map fun c => .str ⟨#[c]⟩ else none
    | x => (seqOf S x).bind fun ds => atI ds k
  | _ => none
theorem o_ix : OpD X (rIx X.K) gIx := by
  intro ξ μ H S x y v u z Q s rx ry e k
  unfold gIx at e
  cases ry with
  | int i =>
    have main : ∀ ds, seqOf S x = some ds → atI ds i = some z → rIx X.K v (.int i) H Q := fun ds h1 h2 => by
      obtain ⟨a, xs, rfl, h3, h4⟩ := RD.seqS s rx h1
      obtain ⟨w, h5, h6⟩ := h4.atI h2
      rcases h3 with h3 | h3
      · exact .inl ⟨a, xs, i, w, rfl, rfl, h3, h5, k w μ H .refl s h6⟩
      · exact .inr (.inl ⟨a, xs, i, w, rfl, rfl, h3, h5, k w μ H .refl s h6⟩)
    cases rx with
    | str z =>
      simp only at e
      by_cases c : z.length ≤ 16777216
      · rw [if_pos c] at e
        cases q : atI z.cps.toList i with
        | none => rw [q] at e; exact nomatch e
        | some w =>
          rw [q] at e; cases e
          exact .inr (.inr ⟨z, i, w, rfl, rfl, by rw [sizeLine_eq]; exact c, q, k _ μ H .refl s (.str _)⟩)
      · rw [if_neg c] at e; exact nomatch e
    | tup f r =>
      exact main _ rfl e
    | @lst _ _ ds f r => exact main ds rfl e
    | @cell a n ea =>
      simp only at e
      cases q : seqOf S (.cell n) with
      | none => rw [q] at e; exact nomatch e
      | some ds => rw [q] at e; exact main ds q e
    | _ => exact nomatch e
  | _ => exact nomatch e
theorem d_ix {r : R2} {g : Sto → D → D → Option D} (hr : IxR X r) (hd : OpD X r g) (ha : DE X W a ma) (hb : DE X W b mb) (hs : PlainIx b := by exact fun _ _ => rfl) : DE X W (.Subscript a b pos) (mOp g ma mb) := by
  obtain ⟨ta, pa, ka⟩ := ha
  obtain ⟨tb, pb, kb⟩ := hb
  exact ⟨_, pe_ix hr pa pb hs, fun ξ μ σ H ρ S Q g0 s h => op2 (ξ := ξ) hd ka kb g0 s h⟩
/-- slices -/
abbrev MO := Rho → Sto → Res (Option Int)
structure DO (X : Cx) (W : WX) (e : Option Expr) (m : MO) : Prop where
  ex : ∃ te, PO X e te ∧ ∀ ξ μ σ H ρ S Q, RG (fx X ξ) μ H σ ρ → RS (fx X ξ) μ H S → WR (fx X ξ) (fun _ _ (o : Option Int) o' => o = o') (m ρ S) Q (fun cls dd H' => W cls dd σ H') μ H → te σ H Q
def mPart (m : ME) : MO := fun ρ S => (m ρ S).bind fun x S1 => match x with
  | .int i => .ok (some i) S1
  | _ => .bad
def mNoPart : MO := fun _ S => .ok none S
theorem do_none : DO X W none mNoPart := ⟨_, po_none, fun ξ μ σ H ρ S Q g s h => h none μ H .refl s rfl⟩
theorem do_some (h : DE X W e m) : DO X W (some e) (mPart m) := by
  obtain ⟨te, p, k⟩ := h
  refine ⟨_, po_some p, fun ξ μ σ H ρ S Q g s h => k ξ μ σ H ρ S _ g s (WR.bind h fun x S1 v μ1 H1 u1 s1 r1 h1 => ?_)⟩
  cases r1 with
  | int i => exact ⟨i, rfl, h1 _ μ1 H1 .refl s1 rfl⟩
  | _ => exact h1.elim
def cutD (ds : List D) (lo hi : Option Int) : List D := (ds.drop (HT.sIx ds.length 0 lo)).take (HT.sIx ds.length ds.length hi - HT.sIx ds.length 0 lo)
theorem cut_of {F : Fx} {μ : List Addr} {H : Hp} {vs : List V} {ds : List D} {lo hi : Option Int} (r : RDs F μ H vs ds) : RDs F μ H (cutV vs lo hi) (cutD ds lo hi) := by
  unfold cutV cutD
  rw [r.length]
  exact (r.drop _).take _
def mSlT (a : ME) (lo hi : MO) : ME := fun ρ S => (a ρ S).bind fun x S1 => (lo ρ S1).bind fun l S2 => (hi ρ S2).bind fun h S3 => match x with
  | .tup ds => .ok (.tup (cutD ds l h)) S3
  | _ => .bad
def mSlL (a : ME) (lo hi : MO) : MA := fun ρ S => (a ρ S).bind fun x S1 => (lo ρ S1).bind fun l S2 => (hi ρ S2).bind fun h S3 => match lstOf S3 x with
  | some ds => .ok (cutD ds l h) S3
  | none => .bad
variable {lo hi : Option Expr} {ml mh : MO} {p2 : Pos}
theorem cut_whole {ds : List D} {lo hi : Option Int} (h : HT.sIx ds.length 0 lo = 0 ∧ HT.sIx ds.length ds.length hi = ds.length) : cutD ds lo hi = ds := by
  unfold cutD
  rw [h.1, h.2, List.drop_zero, Nat.sub_zero, List.take_length]
theorem d_slT (ha : DE X W a ma) (hl : DO X W lo ml) (hh : DO X W hi mh) : DE X W (.Subscript a (.Slice lo hi none p2) pos) (mSlT ma ml mh) := by
  obtain ⟨ta, pa, ka⟩ := ha
  obtain ⟨tl, pl, kl⟩ := hl
  obtain ⟨th, ph, kh⟩ := hh
  refine ⟨_, pe_slice sl_tupA pa pl ph, fun ξ μ σ H ρ S Q g s h => ka ξ μ σ H ρ S _ g s (WR.bind h fun x S1 v μ1 H1 u1 s1 r1 h1 => ?_)⟩
  refine kl ξ μ1 σ H1 ρ S1 _ (g.up u1) s1 (WR.bind h1 fun l S2 l' μ2 H2 u2 s2 r2 h2 => ?_)
  subst r2
  refine kh ξ μ2 σ H2 ρ S2 _ (g.up (u1.trans u2)) s2 (WR.bind h2 fun u S3 u' μ3 H3 u3 s3 r3 h3 => ?_)
  subst r3
  have rx := r1.up (u2.trans u3)
  cases rx with
  | @tup a xs ds f r =>
    refine ⟨a, xs, rfl, f.sq, fun hw => ?_, fun _ p hp => ?_⟩
    · rw [r.length] at hw
      have e := cut_whole hw
      exact h3 _ μ3 H3 .refl s3 (by rw [e]; exact .tup f r)
    · exact h3 _ μ3 _ (.fresh hp) (s3.fresh hp) (.tup (.inl ⟨.inl upd_same, s3.out hp, s3.outX hp⟩) ((cut_of r).up (.fresh hp)))
  | _ => exact h3.elim
theorem dl_slL (ha : DE X W a ma) (hl : DO X W lo ml) (hh : DO X W hi mh) : DL X W (.Subscript a (.Slice lo hi none p2) pos) (mSlL ma ml mh) := by
  obtain ⟨ta, pa, ka⟩ := ha
  obtain ⟨tl, pl, kl⟩ := hl
  obtain ⟨th, ph, kh⟩ := hh
  refine ⟨_, pe_slice sl_list pa pl ph, fun ξ μ σ H ρ S Q g s h => ka ξ μ σ H ρ S _ g s (WL'.bind h fun x S1 v μ1 H1 u1 s1 r1 h1 => ?_)⟩
  refine kl ξ μ1 σ H1 ρ S1 _ (g.up u1) s1 (WL'.bind h1 fun l S2 l' μ2 H2 u2 s2 r2 h2 => ?_)
  subst r2
  refine kh ξ μ2 σ H2 ρ S2 _ (g.up (u1.trans u2)) s2 (WL'.bind h2 fun u S3 u' μ3 H3 u3 s3 r3 h3 => ?_)
  subst r3
  have rx := r1.up (u2.trans u3)
  cases e : lstOf S3 x with
  | none => rw [e] at h3; exact h3.elim
  | some ds =>
    rw [e] at h3
    obtain ⟨a, xs, rfl, h4, h5⟩ := RD.lstS s3 rx e
    exact ⟨a, xs, rfl, h4, fun p hp => h3 p _ μ3 _ (.fresh hp) hp (s3.holds hp) ((cut_of h5).mv (.holds hp)) upd_same⟩
end
end Dm
-- text DmIsV
/-! isinstance of an exception that was made or raised once -/
namespace Dm
open PySem L2 PySem.Spec PyProof.Rows
open PySem.W (Frag)
/-! ### isinstance(e, X) -/
section
variable {prog : Program} {w : World} {A : Around} {E : Value → Shared → Prop} {s : Shared} {K : Frag} {x D : Addr} {ox : Obj} {od : Option Obj}
open PySem.W in
theorem findObj_dataO {C : Addr} {name : Str} {a g : Value} (hc : (clsIn K C).isSome = true) (ha : findIn K (.ref C) name = some (some a)) (hg : specialIn K a "__get__" = some (some g)) (ht : takesIn K a = some true) : findObj K C od name = some (.bind g a) := by
  obtain ⟨cd, hc⟩ := Option.isSome_iff_exists.mp hc
  unfold findObj
  rw [hc, Option.bind_some, ha, Option.bind_some]
  simp [hg, ht]
open PySem.W PySem.Calls in
theorem kin_classO {Q : Option Value → Shared → Prop} (hga : findIn K (.ref D) "__getattribute__" = some (some (.builtin "BaseException.__getattribute__"))) (hgt : findIn K (.ref D) "__getattr__" = some none) (hsub : subIn K (.ref D) (.type "BaseException") = some true)
    (hdct : hasDictIn K D = true) (ha : findIn K (.ref D) "__class__" = some (some (.builtin "object.__class__")))
    (hn : specialIn K (.builtin "object.__class__") "__get__" = some (some (.builtin "getset_descriptor.__get__"))) (htk : takesIn K (.builtin "object.__class__") = some true) (hm : mroIn K D (.type "object") = some true)
    (X : K.In s.heap) (I : InstAt s.heap x ox D od) (h : Q (some (.ref D)) { s with toks := s.toks + 1 }) : wpAny (model prog w) A (getAttr? (.ref x) "__class__") Q E s := by
  have hf : findObj K D od "__class__" = some (.bind (.builtin "getset_descriptor.__get__") (.builtin "object.__class__")) := findObj_dataO (by obtain ⟨cd, hc, _⟩ := any_some hdct; rw [hc]; rfl) ha hn htk
  obtain ⟨hp, g, d, t, os⟩ := s
  have L0 := I.type (M := model prog w)
  have L1 := looks_findIn (M := model prog w) X hga
  have L2 := looks_findIn (M := model prog w) X hgt
  have L3 := looks_find (M := model prog w) X I hf
  have sub : Looks (model prog w) hp (isInstance (.ref x) (.type "BaseException")) true := L0.andThen (looks_subIn X hsub)
  have hx0 : (false && onTheHeap (Value.builtin "BaseException.__getattribute__")) = false := rfl
  have hx2 : (Value.builtin "BaseException.__getattribute__" == Value.builtin "object.__getattribute__") = false := by decide +kernel
  have hx1 : (onTheHeap (Value.ref D) && Value.builtin "BaseException.__getattribute__" == Value.builtin "object.__getattribute__") = false := by rw [hx2]; rfl
  unfold getAttr? getAttrBy? getAttrBy
  refine wpAny_bind (wpAny_mkText (wpAny_bind (wpAny_attempt (wpAny_holding (wpAny_bind (L0.at (wpAny_bind (L1.at ?_))))))))
  show wpAny _ _ (if (onTheHeap (Value.ref D) && Value.builtin "BaseException.__getattribute__" == Value.builtin "object.__getattribute__") = true then _ else _) _ _ _
  rw [hx1, if_neg Bool.false_ne_true]
  unfold getAttrByItsOwn hookBefore
  refine wpAny_bind ?_
  rw [if_pos (show onTheHeap (Value.ref D) = true from rfl)]
  refine L2.at ?_
  refine wpAny_bind (wpAny_attempt (wpAny_holding ?_))
  unfold callGetattribute
  rw [hx0, if_neg Bool.false_ne_true]
  unfold boundAndCalled
  rw [PySem.F.excAttr_ValueError.ga.bind (.ref x)]
  refine wpAny_bind (wpAny_pure ?_)
  show wpAny _ _ (call (.builtin "BaseException.__getattribute__") [.ref x, .str "__class__" t]) _ _ _
  refine wpAny_call (codeAny_call_builtin PySem.F.excAttr_ValueError.ga.plain PySem.F.entry_bexc_ga ?_)
  refine @check_slot (model prog w) _ _ ⟨hp, g, d, t + 1, os⟩ "BaseException.__getattribute__" "BaseException" "__getattribute__" (.ref x) [.str "__class__" t] [] _ (by decide +kernel) (by decide +kernel) sub (PySem.F.args_bexc_ga (.ref x) (.str "__class__" t)) ?_
  unfold Builtin.«object.__getattribute__»
  refine wpAny_bind (wpAny_of_eq (a := ((Value.ref x : Value), [Value.str "__class__" t])) (by first | rfl | (simp only [slotArgs]; rfl)) ?_)
  refine wpAny_bind (wpAny_pure (wpAny_bind (L0.at (wpAny_bind (L3.at ?_)))))
  show wpAny _ _ (holding [Value.builtin "object.__class__"] (call (.builtin "getset_descriptor.__get__") [.builtin "object.__class__", .ref x, .ref D]) >>= ret) _ _ _
  refine wpAny_bind (wpAny_holding (wpAny_call (class_get (s := ⟨hp, g, d, t + 1, os⟩) (ox := ox) (od := od) X I hm ?_)))
  refine wpAny_pure ?_
  show wpAny _ _ (handedOut (.ref D)) _ _ _
  rw [handedOut_of (v := .ref D) rfl]
  first
    | exact wpAny_pure (wpAny_pure h)
    | exact wpAny_pure h
    | exact wpAny_pure (wpAny_bind (wpAny_pure (wpAny_pure h)))
open PySem.W in
theorem kitx_excO (C : ExcC K D) : KitX K (.ref x) (.ref D) (fun h => InstAt h x ox D od) where
  ty := fun _ _ _ I => I.type
  it := fun _ _ X _ => by
    obtain ⟨cdD, hcD, _⟩ := any_some C.hd
    unfold clsIn at hcD
    split at hcD
    · rename_i c' d' cd' sl' ho
      intro A' Q' E' s' k q
      unfold isType loadHead
      exact wpAny_bind (wpAny_loadPart (k _ _ (X _ _ ho)) (wpAny_pure q))
    · cases hcD
  ne := (handS_kitx_exc (x := x) (ox := ox) C.hg C.hk C.hs C.hd C.ha C.hn C.ht C.hm).ne
  ca := fun X I k => kin_classO C.hg C.hk C.hs C.hd C.ha C.hn C.ht C.hm X I k
end
/-- isinstance(e, c), e an exception that was raised once -/
def rIsV (K : Frag) : List V → Hp → VK → Prop := fun xs H Q => ∃ (a D : Addr) (dd : Option Addr) (c : V) (cv : Value) (b : Bool), xs = [.ref a, c] ∧ H a = some (ExV (.ref D) dd a) ∧ ExcC K D ∧ (dd = none ∨ ∃ d fs, dd = some d ∧ H d = some (.xd fs)) ∧
  (∀ u, RelV c u → u = cv) ∧ PySem.W.kitOne K (.ref D) cv = some b ∧ Q (.bl b) H
theorem call_isV {X : Cx} : CallR X (.builtin "isinstance") (rIsV X.K) := by
  intro pins s σ H xs us Q I r h
  obtain ⟨a, D, dd, c, cv, b, rfl, ea, C, ed, hcv, e, q⟩ := h
  cases r with
  | cons rx rr =>
    cases rr with
    | cons rt rr =>
      cases rr
      cases rx
      have ec := hcv _ rt
      subst ec
      have xa : ObjOk X.prog X.w H s.heap a (.ext fun h => ∃ (oe : Obj) (vs : Array Value), h.get? a = some oe ∧ Zc (.ref D) dd oe ∧ oe.data = .fields vs) := I.hok a _ ea
      obtain ⟨oe, vs, hget, hz, hv⟩ := xa.1
      have J : ∃ od, PySem.W.InstAt s.heap a oe D od := by
        rcases ed with rfl | ⟨d, fs, rfl, ed⟩
        · exact ⟨none, hget, hz.1, by unfold PySem.W.notCls; rw [hv] <;> rfl, by rw [hz.2]; trivial⟩
        · have hx : ObjOk X.prog X.w H s.heap d (.xd fs) := I.hok d _ ed
          obtain ⟨mA, hns, hr⟩ := hx
          obtain ⟨od, ho, hl⟩ := lookIn_ns hns
          exact ⟨some od, hget, hz.1, by unfold PySem.W.notCls; rw [hv] <;> rfl, by rw [hz.2]; exact ho⟩
      obtain ⟨od, J⟩ := J
      exact PySem.W.kia_one (kitx_excO C) I.kIn J e (fun z => nomatch z) fun tk => ⟨.bl b, H, I.kept (t' := tk) fun _ _ z => z, rfl, q⟩
/-- isinstance(e, (c, ..)) -/
def rIsVT (K : Frag) : List V → Hp → VK → Prop := fun xs H Q => ∃ (a D tp : Addr) (dd : Option Addr) (cs : List V) (us : List Value) (b : Bool), xs = [.ref a, .ref tp] ∧ H a = some (ExV (.ref D) dd a) ∧ ExcC K D ∧ (dd = none ∨ ∃ d fs, dd = some d ∧ H d = some (.xd fs)) ∧
  H tp = some (.tup cs) ∧ Paired ClsV cs us ∧ PySem.W.kitAny K (.ref D) us = some b ∧ Q (.bl b) H
theorem call_isVT {X : Cx} : CallR X (.builtin "isinstance") (rIsVT X.K) := by
  intro pins s σ H xs us Q I r h
  obtain ⟨a, D, tp, dd, cs, ws, b, rfl, ea, C, ed, hT, k, e, q⟩ := h
  obtain ⟨u1, u2, rfl, rx, r2⟩ := vals2 r
  cases (show u2 = Value.ref tp from r2)
  cases (show u1 = Value.ref a from rx)
  have xa : ObjOk X.prog X.w H s.heap a (.ext fun h => ∃ (oe : Obj) (vs : Array Value), h.get? a = some oe ∧ Zc (.ref D) dd oe ∧ oe.data = .fields vs) := I.hok a _ ea
  obtain ⟨oe, vs, hget, hz, hv⟩ := xa.1
  have J : ∃ od, PySem.W.InstAt s.heap a oe D od := by
    rcases ed with rfl | ⟨d, fs, rfl, ed⟩
    · exact ⟨none, hget, hz.1, by unfold PySem.W.notCls; rw [hv] <;> rfl, by rw [hz.2]; trivial⟩
    · have hx : ObjOk X.prog X.w H s.heap d (.xd fs) := I.hok d _ ed
      obtain ⟨mA, hns, hr⟩ := hx
      obtain ⟨od, ho, hl⟩ := lookIn_ns hns
      exact ⟨some od, hget, hz.1, by unfold PySem.W.notCls; rw [hv] <;> rfl, by rw [hz.2]; exact ho⟩
  obtain ⟨od, J⟩ := J
  obtain ⟨_, its, rv, o, h1, h2, n, h3⟩ := (show ObjOk X.prog X.w H s.heap tp (.tup cs) from I.hok tp _ hT)
  have e3 := ClsV.all k rv
  subst e3
  obtain ⟨oc, od', dt, sl⟩ := o
  simp only at h2 h3
  subst h2 h3
  exact PySem.W.kia_tup (kitx_excO C) I.kIn J h1 e (fun z => nomatch z) fun tk => ⟨.bl b, H, I.kept (t' := tk) fun _ _ z => z, rfl, q⟩
theorem call_or {X : Cx} {f : Value} {r1 r2 : List V → Hp → VK → Prop} (h1 : CallR X f r1) (h2 : CallR X f r2) : CallR X f (fun xs H Q => r1 xs H Q ∨ r2 xs H Q) :=
  fun pins s σ H xs us Q I r h => h.elim (h1 pins s σ H xs us Q I r) (h2 pins s σ H xs us Q I r)
end Dm
-- text DmStm
namespace Dm
open PySem L2
open PySem.W (Frag)
/-! ### isinstance -/
inductive Tn where | non | bl | int | str | tup | lst | dic | exn
  deriving DecidableEq
def tnName : Tn → String
  | .non => "NoneType" | .bl => "bool" | .int => "int" | .str => "str" | .tup => "tuple" | .lst => "list" | .dic => "dict" | .exn => "BaseException"
def isTn : Tn → Tn → Bool
  | .bl, .int => true
  | a, b => decide (a = b)
theorem kit_tn (a b : Tn) (h : b ≠ .non) (h2 : b ≠ .exn) (h3 : a ≠ .exn) : kitB (tnName a) (tnName b) = some (isTn a b) := by
  cases b <;> first | exact absurd rfl h | exact absurd rfl h2 | (cases a <;> first | exact absurd rfl h3 | decide +kernel)
def tyOf (S : Sto) : D → Option Tn
  | .non => some .non
  | .bl _ => some .bl
  | .int _ => some .int
  | .str _ => some .str
  | .tup _ => some .tup
  | .lst _ => some .lst
  | .cell n => match S[n]? with
    | some (.lst _) => some .lst
    | some (.dic _) => some .dic
    | _ => none
  | .glo _ => none
  | .exn _ _ => some .exn
theorem tyX_of {F : Fx} {μ : List Addr} {H : Hp} {S : Sto} {v : V} {d : D} {t : Tn} (s : RS F μ H S) (r : RD F μ H v d) (e : tyOf S d = some t) (ht : t ≠ .exn) : TyX F.K H v (.type (tnName t)) := by
  cases r with
  | non => cases e; exact .base .non
  | bl b => cases e; exact .base (.bl b)
  | int i => cases e; exact .base (.int i)
  | str x => cases e; exact .base (.str x)
  | tup f r =>
    cases e
    rcases f with ⟨h | ⟨o, h⟩, _⟩ | ⟨o, its, n, h1, h2, _⟩
    · exact .base (.tup h)
    · exact .fTuple h
    · exact .kTuple h1 h2
  | lst f r =>
    cases e
    rcases f with ⟨h | ⟨o, h⟩, _⟩ | ⟨o, its, n, h1, h2, _⟩
    · exact .base (.lst h)
    · exact .base (.frz h)
    · exact .kList h1 h2
  | @cell a n ea =>
    simp only [tyOf] at e
    cases q : S[n]? with
    | none => rw [q] at e; exact nomatch e
    | some c =>
      rw [q] at e
      cases c with
      | lst ds =>
        cases e
        obtain ⟨xs, h1, _⟩ := s.at_ n a _ ea q
        exact .base (.lst h1)
      | dic kvs =>
        cases e
        obtain ⟨xs, h1, _⟩ := s.at_ n a _ ea q
        exact .base (.dK h1)
      | _ => exact nomatch e
  | glo _ => exact nomatch e
  | exn f => cases e; exact absurd rfl ht
theorem tyOf_exn {S : Sto} {d : D} (e : tyOf S d = some .exn) : ∃ c fs, d = .exn c fs := by
  cases d with
  | exn c fs => exact ⟨c, fs, rfl⟩
  | cell n =>
    simp only [tyOf] at e
    cases q : S[n]? with
    | none => rw [q] at e; exact nomatch e
    | some c => rw [q] at e; cases c <;> cases e
  | _ => cases e
theorem tn_plain {T : Tn} (h : T ≠ .non) (h2 : T ≠ .exn) : tnName T ∈ ["tuple", "list", "int", "str", "bool", "dict"] ∧ isTn .exn T = false := by
  cases T <;> first | exact absurd rfl h | exact absurd rfl h2 | exact ⟨by decide, rfl⟩
def mIsi (T : Tn) (m : ME) : ME := mUn (fun S d => (tyOf S d).map fun t => .bl (isTn t T)) m
def mIsiT (Ts : List Tn) (m : ME) : ME := mUn (fun S d => (tyOf S d).map fun t => .bl (Ts.any (isTn t ·))) m
section
variable {X : Cx} {W : WX} {e a b c : Expr} {es : List Expr} {ma mb mc m : ME} {mr : MA} {pos p p1 p2 p3 : Pos}
theorem d_isi (T : Tn) {x : Str} (h : DE X W e m) (hm : X.mg "isinstance" = none) (hx : X.mg x = none) (hv : bootBuiltins x = some (.type (tnName T)) := by decide +kernel) (hT : T ≠ .non := by decide) (hT2 : T ≠ .exn := by decide) (hg : Gl X "isinstance" := by rfl) (hgx : Gl X x := by rfl)
    (hn : x ≠ "__name__" := by decide) (hd : (x == ("__debug__" : Str)) = false := by decide)
    (he : starEach [e, .Name x p1] X.env = (false, eval e X.env) :: starEach [.Name x p1] X.env := by rfl) (hpl : (backTo pos (starEach [.Name x p1] X.env)).any (·.1) = false := by rfl)
    (hs2 : starEach [.Name x p1] X.env = (false, eval (.Name x p1) X.env) :: starEach [] X.env := by rfl) :
    DE X W (.Call (.Name "isinstance" p) [e, .Name x p1] [] pos) (mIsi T m) := by
  obtain ⟨te, pe, k⟩ := h
  refine ⟨_, pe_callB (call_or call_isi call_isV) hg hm (by decide +kernel) (pa_cons pe (pa_cons (pe_bltn (v := .ty (tnName T)) hgx hx hv rfl hn hd) pa_nil hs2) he) (he := he) (hpl := hpl), fun ξ μ σ H ρ S Q g s h => k ξ μ σ H ρ S _ g s (WR.bind h fun x S1 v μ1 H1 u1 s1 r1 h1 => ?_)⟩
  cases q : tyOf S1 x with
  | none => simp only [q] at h1; exact h1.elim
  | some t =>
    simp only [q] at h1
    by_cases hx : t = .exn
    · subst hx
      obtain ⟨c, ns, rfl⟩ := tyOf_exn q
      obtain ⟨p1, p2⟩ := tn_plain hT hT2
      cases r1 with
      | @exn a _ _ z =>
        obtain ⟨cls, dd, ⟨z1, D, rfl, z5, z6⟩, ⟨z2, z3, z4⟩, z7⟩ := z
        refine .inr ⟨a, D, dd, .ty (tnName T), .type (tnName T), _, rfl, z2, z5, ?_, fun u hu => hu, z6 _ p1, ?_⟩
        · rcases z7 with ⟨_, rfl⟩ | ⟨d, fs, q1, q2, _⟩
          · exact .inl rfl
          · exact .inr ⟨d, _, q1, q2⟩
        · have h1 := h1 _ μ1 H1 .refl s1 (.bl _)
          rw [p2] at h1
          exact h1
    · exact .inl ⟨v, .ty (tnName T), _, _, _, rfl, .ty _, tyX_of s1 r1 q hx, kit_ty (kit_tn t T hT hT2 hx), h1 _ μ1 H1 .refl s1 (.bl _)⟩
theorem kitAny_tn {K : Frag} (t : Tn) (ht : t ≠ .exn) : ∀ Ts : List Tn, (∀ T ∈ Ts, T ≠ .non ∧ T ≠ .exn) → PySem.W.kitAny K (.type (tnName t)) (Ts.map fun T => .type (tnName T)) = some (Ts.any (isTn t ·))
  | [], _ => kitAny_nil
  | T :: Ts, h => kitAny_cons (b := isTn t T) (kit_ty (kit_tn t T (h T List.mem_cons_self).1 (h T List.mem_cons_self).2 ht)) (fun e => by rw [List.any_cons, e, Bool.false_or]; exact kitAny_tn t ht Ts fun T' h' => h T' (List.mem_cons_of_mem _ h')) fun e => by rw [List.any_cons, e, Bool.true_or]
theorem kitAny_exn {K : Frag} {D : Addr} (hp : ∀ x : String, x ∈ ["tuple", "list", "int", "str", "bool", "dict"] → PySem.W.kitOne K (.ref D) (.type x) = some false) : ∀ Ts : List Tn, (∀ T ∈ Ts, T ≠ .non ∧ T ≠ .exn) → PySem.W.kitAny K (.ref D) (Ts.map fun T => .type (tnName T)) = some (Ts.any (isTn .exn ·))
  | [], _ => kitAny_nil
  | T :: Ts, h => by
    obtain ⟨p1, p2⟩ := tn_plain (h T List.mem_cons_self).1 (h T List.mem_cons_self).2
    refine kitAny_cons (b := false) (hp _ p1) (fun _ => ?_) fun e => nomatch e
    rw [List.any_cons, p2, Bool.false_or]
    exact kitAny_exn hp Ts fun T' h' => h T' (List.mem_cons_of_mem _ h')
theorem clsV_all : ∀ Ts : List Tn, Paired ClsV (Ts.map fun T => V.ty (tnName T)) (Ts.map fun T => Value.type (tnName T))
  | [] => .nil
  | T :: Ts => .cons (.ty _) (clsV_all Ts)
/-- isinstance(x, (T, ..)); ht: the classes' names as arguments -/
theorem d_isiT (Ts : List Tn) {ts : List Expr} {tt : TA} {k1} (h : DE X W e m) (ht : PA X ts tt) (htt : ∀ σ H Q, tt σ H Q = Q (Ts.map fun T => V.ty (tnName T)) H) (hm : X.mg "isinstance" = none) (hT : ∀ T ∈ Ts, T ≠ .non ∧ T ≠ .exn := by decide) (hl : Ts.length ≤ 100 := by decide) (hg : Gl X "isinstance" := by rfl)
    (he : starEach [e, .Tuple ts k1 p1] X.env = (false, eval e X.env) :: starEach [.Tuple ts k1 p1] X.env := by rfl) (hpl : (backTo pos (starEach [.Tuple ts k1 p1] X.env)).any (·.1) = false := by rfl)
    (hs2 : starEach [.Tuple ts k1 p1] X.env = (false, eval (.Tuple ts k1 p1) X.env) :: starEach [] X.env := by rfl) :
    DE X W (.Call (.Name "isinstance" p) [e, .Tuple ts k1 p1] [] pos) (mIsiT Ts m) := by
  obtain ⟨te, pe, k⟩ := h
  refine ⟨_, pe_callB (call_or call_isiT call_isVT) hg hm (by decide +kernel) (pa_cons pe (pa_cons (pe_tup ht) pa_nil hs2) he) (he := he) (hpl := hpl), fun ξ μ σ H ρ S Q g s h => k ξ μ σ H ρ S _ g s (WR.bind h fun x S1 v μ1 H1 u1 s1 r1 h1 => ?_)⟩
  cases q : tyOf S1 x with
  | none => simp only [q] at h1; exact h1.elim
  | some t =>
    simp only [q] at h1
    unfold tCons tTup
    rw [htt]
    refine ⟨by rw [List.length_map, sizeLine_eq]; omega, fun p hp => ?_⟩
    have s2 := s1.fresh (o := .tup (Ts.map fun T => V.ty (tnName T))) hp
    by_cases hx : t = .exn
    · subst hx
      obtain ⟨c, ns, rfl⟩ := tyOf_exn q
      cases r1.up (.fresh hp) with
      | @exn a _ _ z =>
        obtain ⟨cls, dd, ⟨z1, D, rfl, z5, z6⟩, ⟨z2, z3, z4⟩, z7⟩ := z
        refine .inr ⟨a, D, p, dd, _, _, _, rfl, z2, z5, ?_, upd_same, clsV_all Ts, kitAny_exn z6 Ts hT, h1 _ μ1 _ (.fresh hp) s2 (.bl _)⟩
        rcases z7 with ⟨_, rfl⟩ | ⟨d, fs, q1, q2, _⟩
        · exact .inl rfl
        · exact .inr ⟨d, _, q1, q2⟩
    · exact .inl ⟨v, p, _, _, _, _, rfl, upd_same, clsV_all Ts, tyX_of s2 (r1.up (.fresh hp)) q hx, kitAny_tn t hx Ts hT, h1 _ μ1 _ (.fresh hp) s2 (.bl _)⟩
/-! ### built-in functions and types called -/
def CallD (X : Cx) (r : List V → Hp → VK → Prop) (g : Sto → List D → Option D) : Prop :=
  ∀ ξ μ H S ds vs z Q, RS (fx X ξ) μ H S → RDs (fx X ξ) μ H vs ds → g S ds = some z → (∀ w μ' H', Up μ H μ' H' → RS (fx X ξ) μ' H' S → RD (fx X ξ) μ' H' w z → Q w H') → r vs H Q
/-- .. that give a fresh list -/
def CallDL (X : Cx) (r : List V → Hp → VK → Prop) (g : Sto → List D → Option (List D)) : Prop :=
  ∀ ξ μ H S ds vs zs Q, RS (fx X ξ) μ H S → RDs (fx X ξ) μ H vs ds → g S ds = some zs → (∀ p xs μ' H', Up μ H μ' H' → H p = none → RS ((fx X ξ).hold p) μ' H' S → RDs ((fx X ξ).hold p) μ' H' xs zs → H' p = some (.lst xs) → Q (.ref p) H') → r vs H Q
def mCallB (g : Sto → List D → Option D) (a : MA) : ME := fun ρ S => (a ρ S).bind fun xs S1 => match g S1 xs with
  | some z => .ok z S1
  | none => .bad
def mCallBL (g : Sto → List D → Option (List D)) (a : MA) : MA := fun ρ S => (a ρ S).bind fun xs S1 => match g S1 xs with
  | some z => .ok z S1
  | none => .bad
theorem d_callB {id : String} {x : Str} {r : List V → Hp → VK → Prop} {g : Sto → List D → Option D} (hc : CallR X (.builtin id) r) (hd : CallD X r g) (hm : X.mg x = none) (ha : DA X W (e :: es) mr) (hv : bootBuiltins x = some (.builtin id) := by decide +kernel) (hg : Gl X x := by rfl)
    (hn : x ≠ "__name__" := by decide) (hdb : (x == ("__debug__" : Str)) = false := by decide)
    (he : starEach (e :: es) X.env = (false, eval e X.env) :: starEach es X.env := by rfl) (hpl : (backTo pos (starEach es X.env)).any (·.1) = false := by rfl) : DE X W (.Call (.Name x p) (e :: es) [] pos) (mCallB g mr) := by
  obtain ⟨ta, pa, ka⟩ := ha
  refine ⟨_, pe_callB hc hg hm hv pa hn hdb he hpl, fun ξ μ σ H ρ S Q g0 s h => ka ξ μ σ H ρ S _ g0 s (WR.bind h fun xs S1 vs μ1 H1 u1 s1 r1 h1 => ?_)⟩
  cases q : g S1 xs with
  | none => rw [q] at h1; exact h1.elim
  | some z =>
    rw [q] at h1
    exact hd ξ μ1 H1 S1 xs vs z Q s1 r1 q h1
theorem d_callTy {T : String} {x : Str} {r : List V → Hp → VK → Prop} {g : Sto → List D → Option D} (hc : CallR X (.type T) r) (hd : CallD X r g) (hm : X.mg x = none) (ha : DA X W (e :: es) mr) (hv : bootBuiltins x = some (.type T) := by decide +kernel) (hg : Gl X x := by rfl)
    (hn : x ≠ "__name__" := by decide) (hdb : (x == ("__debug__" : Str)) = false := by decide)
    (he : starEach (e :: es) X.env = (false, eval e X.env) :: starEach es X.env := by rfl) (hpl : (backTo pos (starEach es X.env)).any (·.1) = false := by rfl) : DE X W (.Call (.Name x p) (e :: es) [] pos) (mCallB g mr) := by
  obtain ⟨ta, pa, ka⟩ := ha
  refine ⟨_, pe_callTy hc hg hm hv pa hn hdb he hpl, fun ξ μ σ H ρ S Q g0 s h => ka ξ μ σ H ρ S _ g0 s (WR.bind h fun xs S1 vs μ1 H1 u1 s1 r1 h1 => ?_)⟩
  cases q : g S1 xs with
  | none => rw [q] at h1; exact h1.elim
  | some z =>
    rw [q] at h1
    exact hd ξ μ1 H1 S1 xs vs z Q s1 r1 q h1
theorem dl_callTy {T : String} {x : Str} {r : List V → Hp → VK → Prop} {g : Sto → List D → Option (List D)} (hc : CallR X (.type T) r) (hd : CallDL X r g) (hm : X.mg x = none) (ha : DA X W (e :: es) mr) (hv : bootBuiltins x = some (.type T) := by decide +kernel) (hg : Gl X x := by rfl)
    (hn : x ≠ "__name__" := by decide) (hdb : (x == ("__debug__" : Str)) = false := by decide)
    (he : starEach (e :: es) X.env = (false, eval e X.env) :: starEach es X.env := by rfl) (hpl : (backTo pos (starEach es X.env)).any (·.1) = false := by rfl) : DL X W (.Call (.Name x p) (e :: es) [] pos) (mCallBL g mr) := by
  obtain ⟨ta, pa, ka⟩ := ha
  refine ⟨_, pe_callTy hc hg hm hv pa hn hdb he hpl, fun ξ μ σ H ρ S Q g0 s h => ka ξ μ σ H ρ S _ g0 s (WL'.bind h fun xs S1 vs μ1 H1 u1 s1 r1 h1 => ?_)⟩
  cases q : g S1 xs with
  | none => rw [q] at h1; exact h1.elim
  | some z =>
    rw [q] at h1
    exact hd ξ μ1 H1 S1 xs vs z Q s1 r1 q h1
def gLen : Sto → List D → Option D := fun S ds => match ds with
  | [.str z] => if z.length ≤ 16777216 then some (.int z.length) else none
  | [d] => (seqOf S d).map fun ds => .int ds.length
  | _ => none
theorem c_len : CallD X (fun xs H Q => ∃ x n, xs = [x] ∧ LenV X.K x H n ∧ Q (.int n) H) gLen := by
  intro ξ μ H S ds vs z Q s r e k
  unfold gLen at e
  cases r with
  | nil => exact nomatch e
  | @cons v vs d ds r rr =>
    cases rr with
    | cons _ _ => cases d <;> exact nomatch e
    | nil =>
      have main : ∀ es, seqOf S d = some es → D.int es.length = z → ∃ x n, [v] = [x] ∧ LenV X.K x H n ∧ Q (.int n) H := fun es h1 h2 => by
        obtain ⟨a, xs, rfl, h3, h4⟩ := RD.seqS s r h1
        refine ⟨.ref a, xs.length, rfl, h3.imp (fun z => ⟨xs, z, rfl⟩) fun z => ⟨xs, z, rfl⟩, ?_⟩
        rw [h4.length]
        subst h2
        exact k _ μ H .refl s (.int _)
      cases r with
      | str x =>
        simp only at e
        by_cases c : x.length ≤ 16777216
        · rw [if_pos c] at e; cases e
          exact ⟨_, _, rfl, ⟨by rw [sizeLine_eq]; exact c, rfl⟩, k _ μ H .refl s (.int _)⟩
        · rw [if_neg c] at e; exact nomatch e
      | tup f r => exact main _ rfl (Option.some.inj e)
      | lst f r => exact main _ rfl (Option.some.inj e)
      | @cell a n ea =>
        simp only at e
        cases q : seqOf S (.cell n) with
        | none => rw [q] at e; exact nomatch e
        | some es => rw [q] at e; exact main es q (Option.some.inj e)
      | _ => exact nomatch e
def gInt1 : Sto → List D → Option D := fun _ ds => match ds with
  | [.int i] => some (.int i)
  | [.bl b] => some (.int (if b then 1 else 0))
  | _ => none
theorem c_int1 : CallD X (fun xs H Q => (∃ i, xs = [.int i] ∧ Q (.int i) H) ∨ ∃ k, xs = [.bl k] ∧ Q (.int (if k then 1 else 0)) H) gInt1 := by
  intro ξ μ H S ds vs z Q s r e k
  unfold gInt1 at e
  cases r with
  | nil => exact nomatch e
  | @cons v vs d ds r rr =>
    cases rr with
    | cons _ _ => cases d <;> exact nomatch e
    | nil =>
      cases r with
      | int i => cases e; exact .inl ⟨i, rfl, k _ μ H .refl s (.int _)⟩
      | bl b => cases e; exact .inr ⟨b, rfl, k _ μ H .refl s (.int _)⟩
      | _ => exact nomatch e
def gII (f : Int → Int → Int) : Sto → List D → Option D := fun _ ds => match ds with
  | [.int i, .int j] => some (.int (f i j))
  | _ => none
theorem c_II {f : Int → Int → Int} : CallD X (fun xs H Q => ∃ i j, xs = [.int i, .int j] ∧ Q (.int (f i j)) H) (gII f) := by
  intro ξ μ H S ds vs z Q s r e k
  unfold gII at e
  cases r with
  | nil => exact nomatch e
  | @cons v vs d ds r rr =>
    cases rr with
    | nil => cases d <;> exact nomatch e
    | @cons v2 vs2 d2 ds2 r2 rr2 =>
      cases rr2 with
      | cons _ _ => cases d <;> cases d2 <;> exact nomatch e
      | nil =>
        cases r with
        | int i =>
          cases r2 with
          | int j => cases e; exact ⟨i, j, rfl, k _ μ H .refl s (.int _)⟩
          | _ => exact nomatch e
        | _ => exact nomatch e
abbrev gMax2 := gII fun i j => if j > i then j else i
abbrev gMin2 := gII fun i j => if j < i then j else i
def gTuple : Sto → List D → Option D := fun S ds => match ds with
  | [d] => (seqOf S d).map .tup
  | _ => none
theorem c_tuple : CallD X (fun xs H Q => ∃ p ys, xs = [.ref p] ∧ ((SqL X.K H p ys ∧ ∀ l, H l = none → Q (.ref l) (upd H l (.tup ys))) ∨ (SqT X.K H p ys ∧ Q (.ref p) H))) gTuple := by
  intro ξ μ H S ds vs z Q s r e k
  unfold gTuple at e
  cases r with
  | nil => exact nomatch e
  | @cons v vs d ds r rr =>
    cases rr with
    | cons _ _ => exact nomatch e
    | nil =>
      simp only at e
      have lst : ∀ es, lstOf S d = some es → D.tup es = z → ∃ p ys, [v] = [.ref p] ∧ ((SqL X.K H p ys ∧ ∀ l, H l = none → Q (.ref l) (upd H l (.tup ys))) ∨ (SqT X.K H p ys ∧ Q (.ref p) H)) := fun es h1 h2 => by
        obtain ⟨a, xs, rfl, h3, h4⟩ := RD.lstS s r h1
        subst h2
        exact ⟨a, xs, rfl, .inl ⟨h3, fun l hl => k _ μ _ (.fresh hl) (s.fresh hl) (.tup (.inl ⟨.inl upd_same, s.out hl, s.outX hl⟩) (h4.up (.fresh hl)))⟩⟩
      cases r with
      | tup f r =>
        cases Option.some.inj e
        exact ⟨_, _, rfl, .inr ⟨f.sq, k _ μ H .refl s (.tup f r)⟩⟩
      | lst f r => exact lst _ rfl (Option.some.inj e)
      | @cell a n ea =>
        cases q : lstOf S (.cell n) with
        | none =>
          have e : (lstOf S (.cell n)).map D.tup = some z := e
          rw [q] at e; exact nomatch e
        | some es =>
          have e : (lstOf S (.cell n)).map D.tup = some z := e
          rw [q] at e; exact lst es q (Option.some.inj e)
      | _ => exact nomatch e
def gList : Sto → List D → Option (List D) := fun S ds => match ds with
  | [d] => seqOf S d
  | _ => none
theorem c_list : CallDL X (fun xs H Q => ∃ p ys, xs = [.ref p] ∧ (SqL X.K H p ys ∨ SqT X.K H p ys) ∧ ∀ l, H l = none → Q (.ref l) (upd H l (.lst ys))) gList := by
  intro ξ μ H S ds vs z Q s r e k
  unfold gList at e
  cases r with
  | nil => exact nomatch e
  | @cons v vs d ds r rr =>
    cases rr with
    | cons _ _ => exact nomatch e
    | nil =>
      obtain ⟨a, xs, rfl, h1, h2⟩ := RD.seqS s r e
      exact ⟨a, xs, rfl, h1, fun l hl => k l xs μ _ (.fresh hl) hl (s.holds hl) (h2.mv (.holds hl)) upd_same⟩
def blsOf : List D → Option (List Bool)
  | [] => some []
  | .bl b :: ds => (blsOf ds).map (b :: ·)
  | _ :: _ => none
theorem bls_of {F : Fx} {μ : List Addr} {H : Hp} : ∀ {vs : List V} {ds : List D} {bs : List Bool}, RDs F μ H vs ds → blsOf ds = some bs → vs = bs.map V.bl
  | _, [], bs, r, e => by cases r; cases e; rfl
  | _, d :: ds, bs, r, e => by
    cases r with
    | cons a b =>
      cases a with
      | bl x =>
        have e : (blsOf ds).map (x :: ·) = some bs := e
        cases q : blsOf ds with
        | none => rw [q] at e; exact nomatch e
        | some cs =>
          rw [q] at e; cases e
          rw [bls_of b q] <;> rfl
      | _ => exact nomatch e
def gAll : Sto → List D → Option D := fun S ds => match ds with
  | [d] => (lstOf S d).bind fun es => (blsOf es).map fun bs => .bl (bs.all id)
  | _ => none
theorem c_all : CallD X (rAll X.K) gAll := by
  intro ξ μ H S ds vs z Q s r e k
  unfold gAll at e
  cases r with
  | nil => exact nomatch e
  | @cons v vs d ds r rr =>
    cases rr with
    | cons _ _ => exact nomatch e
    | nil =>
      simp only at e
      cases q : lstOf S d with
      | none => rw [q] at e; exact nomatch e
      | some es =>
        rw [q] at e
        have e : (blsOf es).map (fun bs => D.bl (bs.all id)) = some z := e
        cases q' : blsOf es with
        | none => rw [q'] at e; exact nomatch e
        | some bs =>
          rw [q'] at e; cases e
          obtain ⟨a, xs, rfl, h1, h2⟩ := RD.lstS s r q
          have e := bls_of h2 q'
          subst e
          exact ⟨a, bs, rfl, h1, k _ μ H .refl s (.bl _)⟩
/-! ### lists put together -/
def mCatL (a b : MA) : MA := fun ρ S => (a ρ S).bind fun xs S1 => (b ρ S1).bind fun ys S2 => if xs.length + ys.length ≤ 16777216 then .ok (xs ++ ys) S2 else .bad
theorem WL'.bindL {F : Fx} {Q : VK} {Q1 : VK} {Wx : Value → Option Addr → Hp → Prop} {μ : List Addr} {H : Hp} {r : Res (List D)} {f : List D → Sto → Res (List D)} (h : WL' F (r.bind f) Q Wx μ H)
    (k : ∀ ds S1 p xs μ1 H1, Up μ H μ1 H1 → H p = none → RS (F.hold p) μ1 H1 S1 → RDs (F.hold p) μ1 H1 xs ds → H1 p = some (.lst xs) → WL' F (f ds S1) Q Wx μ1 H1 → Q1 (.ref p) H1) : WL' F r Q1 Wx μ H := by
  cases r with
  | ok x S1 => exact fun p xs μ1 H1 u1 hp s1 r1 e1 => k x S1 p xs μ1 H1 u1 hp s1 r1 e1 (WL'.shift u1 h)
  | exc c fs S => exact h
  | bad => exact h
theorem XR.hold {F : Fx} {μ : List Addr} {H : Hp} {cls : Value} {dd : Option Addr} {c : Str} {fs : List (Str × D)} {p : Addr} (h : XR (F.hold p) μ H cls dd c fs) : XR F μ H cls dd c fs := by
  obtain ⟨h1, h2⟩ := h
  refine ⟨h1, h2.imp id ?_⟩
  rintro ⟨d, vfs, e, h3, h4, h6, h5⟩
  exact ⟨d, vfs, e, h3, h4, fun q => h6 (List.mem_cons_of_mem _ q), Paired.mapP h5 fun _ _ z => ⟨z.1, z.2.mv .free⟩⟩
theorem dl_cat {na nb : MA} (ha : DL X W a na) (hb : DL X W b nb) : DL X W (.BinOp a .Add b pos) (mCatL na nb) := by
  obtain ⟨ta, pa, ka⟩ := ha
  obtain ⟨tb, pb, kb⟩ := hb
  refine ⟨_, pe_op op_cat pa pb, fun ξ μ σ H ρ S Q g s h => ka ξ μ σ H ρ S _ g s (WL'.bindL h fun ds S1 p xs μ1 H1 u1 hp s1 r1 e1 h1 => ?_)⟩
  refine kb (p :: ξ) μ1 σ H1 ρ S1 _ ?_ s1 ?_
  · exact ⟨g.len, fun i d e => by
      obtain ⟨v, h, r⟩ := (g.up u1).at_ i d e
      obtain ⟨v', h', r'⟩ := g.at_ i d e
      rw [h] at h'; cases h'
      have m : Mv (fx X ξ) μ H ((fx X ξ).hold p) μ1 H1 := ⟨fun {a xs} q => by
        rcases q.up u1 with ⟨z, n, nx⟩ | z
        · rcases q with ⟨z0, _⟩ | z0
          · refine .inl ⟨z, n, fun m => (List.mem_cons.mp m).elim (fun e => ?_) nx⟩
            subst e
            rcases z0 with z0 | ⟨o, z0⟩ <;> (rw [hp] at z0; cases z0)
          · exact .inr z0
        · exact .inr z, fun {a xs} q => by
        rcases q.up u1 with ⟨z, n, nx⟩ | z
        · rcases q with ⟨z0, _⟩ | z0
          · refine .inl ⟨z, n, fun m => (List.mem_cons.mp m).elim (fun e => ?_) nx⟩
            subst e
            rcases z0 with z0 | ⟨o, z0⟩ <;> (rw [hp] at z0; cases z0)
          · exact .inr z0
        · exact .inr z, fun q => u1.get q, rfl, fun q => q.upHold u1 hp⟩
      exact ⟨v, h, r'.mv m⟩⟩
  cases e : nb ρ S1 with
  | bad => rw [e] at h1; exact h1.elim
  | exc c fs S2 =>
    rw [e] at h1
    exact fun cls dd μ' H' u' s' x' => h1 cls dd μ' H' u' (RS.free (F := fx X ξ) (p := p) s') (XR.hold (F := fx X ξ) (p := p) x')
  | ok es S2 =>
    rw [e] at h1
    intro q ys μ2 H2 u2 hq s2 r2 e2
    have hpq : p ∉ μ1 := (s1.xi p List.mem_cons_self).1
    have ep := u2.keep _ _ e1 hpq
    by_cases c : ds.length + es.length ≤ 16777216
    · have h1 : WL' (fx X ξ) (if ds.length + es.length ≤ 16777216 then Res.ok (ds ++ es) S2 else .bad) Q (fun cls dd H' => W cls dd σ H') μ1 H1 := h1
      rw [if_pos c] at h1
      refine ⟨p, q, xs, ys, rfl, rfl, ep, e2, by rw [r1.length, r2.length, sizeLine_eq]; exact c, fun r hr => ?_⟩
      have rr : RDs (fx X ξ) μ2 H2 (xs ++ ys) (ds ++ es) := RDs.append ((r1.mv .free).up u2) ((RDs.free (F := fx X ξ) (p := p) es (RDs.free (F := fx X (p :: ξ)) (p := q) es r2)))
      have ss : RS (fx X ξ) μ2 H2 S2 := RS.free (F := fx X ξ) (p := p) (RS.free (F := fx X (p :: ξ)) (p := q) s2)
      have nr : r ∉ μ1 := fun z => ss.out hr (u2.mem z)
      exact h1 r _ μ2 _ (u2.trans (.fresh hr)) (u2.back hr nr) (ss.holds hr) (rr.mv (.holds hr)) upd_same
    · have h1 : WL' (fx X ξ) (if ds.length + es.length ≤ 16777216 then Res.ok (ds ++ es) S2 else .bad) Q (fun cls dd H' => W cls dd σ H') μ1 H1 := h1
      rw [if_neg c] at h1
      exact h1.elim
end
/-! ### statements -/
def mNop : MS := fun ρ S => .nx ρ S
def mSeq (a b : MS) : MS := fun ρ S => match a ρ S with
  | .nx ρ1 S1 => b ρ1 S1
  | o => o
def ofRes {α : Type} (r : Res α) (ρ : Rho) (k : α → Sto → Out) : Out := match r with
  | .ok a S => k a S
  | .exc c fs S => .exc c fs ρ S
  | .bad => .bad
def mAsg (i : Nat) (m : ME) : MS := fun ρ S => ofRes (m ρ S) ρ fun d S1 => .nx (ρ.set i (some d)) S1
def mRet (m : ME) : MS := fun ρ S => ofRes (m ρ S) ρ fun d S1 => .rt d S1
def mRetN : MS := fun _ S => .rt .non S
def mDrop (m : ME) : MS := fun ρ S => ofRes (m ρ S) ρ fun _ S1 => .nx ρ S1
def mIfS (c : ME) (a b : MS) : MS := fun ρ S => ofRes (c ρ S) ρ fun d S1 => match d with
  | .bl true => a ρ S1
  | .bl false => b ρ S1
  | _ => .bad
def mBrk : MS := fun ρ S => .bk ρ S
def mCont : MS := fun ρ S => .ct ρ S
section
variable {F : Fx} {α β : Type} {rel : List Addr → Hp → β → α → Prop} {μ : List Addr} {H : Hp} {E : Ends} {W : WX} {σ : St} {ρ : Rho}
/-- first r, then the statement's rest -/
theorem WS'.bind {r : Res α} {f : α → Sto → Out} {Q1 : β → Hp → Prop} (g : RG F μ H σ ρ) (h : WS' F (ofRes r ρ f) E W μ H)
    (k : ∀ x S1 v μ1 H1, Up μ H μ1 H1 → RS F μ1 H1 S1 → rel μ1 H1 v x → WS' F (f x S1) E W μ1 H1 → Q1 v H1) : WR F rel r Q1 (fun cls dd H' => W cls dd σ H') μ H := by
  cases r with
  | ok x S1 => exact fun v μ1 H1 u1 s1 r1 => k x S1 v μ1 H1 u1 s1 r1 (WS'.shift u1 h)
  | exc c fs S => exact fun cls dd μ' H' u' s' x' => h cls dd σ μ' H' u' s' (g.up u') x'
  | bad => exact h
theorem WS'.bindT {r : Res D} {f : D → Sto → Out} {Q1 : Bool → Hp → Prop} (g : RG F μ H σ ρ) (h : WS' F (ofRes r ρ f) E W μ H) (hb : ∀ d S, (∀ b, d ≠ .bl b) → f d S = .bad)
    (k : ∀ b S1 μ1 H1, Up μ H μ1 H1 → RS F μ1 H1 S1 → WS' F (f (.bl b) S1) E W μ1 H1 → Q1 b H1) : WT' F r Q1 (fun cls dd H' => W cls dd σ H') μ H := by
  cases r with
  | ok d S1 =>
    have h : WS' F (f d S1) E W μ H := h
    cases d with
    | bl b => exact fun μ1 H1 u1 s1 => k b S1 μ1 H1 u1 s1 (WS'.shift u1 h)
    | _ =>
      rw [hb _ _ (by intro b e; cases e)] at h
      exact h
  | exc c fs S => exact fun cls dd μ' H' u' s' x' => h cls dd σ μ' H' u' s' (g.up u') x'
  | bad => exact h
end
section
variable {X : Cx} {W : WX} {e a b c : Expr} {es : List Expr} {st : Stmt} {sts ts : List Stmt} {ma mb mc m : ME} {mr : MA} {m1 m2 : MS} {pos p p1 p2 p3 : Pos}
theorem dss_nil : DSs X W [] mNop := ⟨_, pss_nil, fun ξ μ σ H ρ S D g s h => h σ μ H .refl s g⟩
theorem WS'.seq {F : Fx} {μ : List Addr} {H : Hp} {D : Ends} {W : WX} {o : Out} {k : Rho → Sto → Out} {u : TS} (h : WS' F (match o with | .nx ρ1 S1 => k ρ1 S1 | o => o) D W μ H)
    (hu : ∀ σ ρ1 S1 μ1 H1, Up μ H μ1 H1 → RS F μ1 H1 S1 → RG F μ1 H1 σ ρ1 → WS' F (k ρ1 S1) D W μ1 H1 → u D σ H1) : WS' F o { D with nx := u D } W μ H := by
  cases o with
  | nx ρ1 S1 => exact fun σ μ1 H1 u1 s1 g1 => hu σ ρ1 S1 μ1 H1 u1 s1 g1 (WS'.shift u1 h)
  | _ => exact h
theorem dss_cons (h1 : DS X W st m1) (h2 : DSs X W sts m2) : DSs X W (st :: sts) (mSeq m1 m2) := by
  obtain ⟨ta, pa, ka⟩ := h1
  obtain ⟨tb, pb, kb⟩ := h2
  exact ⟨_, pss_cons pa pb, fun ξ μ σ H ρ S D g s h => ka ξ μ σ H ρ S _ g s (WS'.seq h fun σ' ρ1 S1 μ1 H1 u1 s1 g1 h1 => kb ξ μ1 σ' H1 ρ1 S1 D g1 s1 h1)⟩
theorem dss_one (h1 : DS X W st m1) : DSs X W [st] m1 := let ⟨_, p, k⟩ := h1; ⟨_, pss_one p, k⟩
theorem ds_break : DS X W (.Break pos) mBrk := ⟨_, ps_break, fun ξ μ σ H ρ S D g s h => h σ μ H .refl s g⟩
theorem ds_set (i : Nat) {x : Str} {pos' : Pos} (hN : X.N.Nodup) (he : DE X W e m) (hi : X.N[i]? = some x := by rfl) (hx : Loc X.env.scope x := by first | exact Or.inl rfl | exact Or.inr rfl) (hs : swapsWith e (some (.Name x pos')) pos.line X.env = pure false := by rfl)
    (hf : X.fn x = true ∨ X.env.scope.names.lookup x = some .local := by first | exact .inl rfl | exact .inr rfl) : DS X W (.Assign [.Name x pos'] e pos) (mAsg i m) := by
  obtain ⟨te, p, k⟩ := he
  refine ⟨_, ps_set hN hi hx p hs hf, fun ξ μ σ H ρ S D g s h => k ξ μ σ H ρ S _ g s (WS'.bind g h fun x S1 v μ1 H1 u1 s1 r1 h1 => ?_)⟩
  exact h1 _ μ1 H1 .refl s1 ((g.up u1).set i r1)
theorem ds_ret (he : DE X W e m) : DS X W (.Return (some e) pos) (mRet m) := by
  obtain ⟨te, p, k⟩ := he
  exact ⟨_, ps_ret p, fun ξ μ σ H ρ S D g s h => k ξ μ σ H ρ S _ g s (WS'.bind g h fun x S1 v μ1 H1 u1 s1 r1 h1 => h1 _ μ1 H1 .refl s1 r1)⟩
theorem ds_expr (he : DE X W e m) (hs : swapsWith e none pos.line X.env = pure false := by rfl) : DS X W (.Expr e pos) (mDrop m) := by
  obtain ⟨te, p, k⟩ := he
  exact ⟨_, ps_expr p hs, fun ξ μ σ H ρ S D g s h => k ξ μ σ H ρ S _ g s (WS'.bind g h fun x S1 v μ1 H1 u1 s1 r1 h1 => h1 _ μ1 H1 .refl s1 (g.up u1))⟩
theorem ds_if (hc : DT X W c mc) (ha : DSs X W sts m1) (hb : DSs X W ts m2) : DS X W (.If c sts ts pos) (mIfS mc m1 m2) := by
  obtain ⟨tc, pc, kc⟩ := hc
  obtain ⟨ta, pa, ka⟩ := ha
  obtain ⟨tb, pb, kb⟩ := hb
  refine ⟨_, ps_if pc pa pb, fun ξ μ σ H ρ S D g s h => kc ξ μ σ H ρ S _ g s (WS'.bindT g h (fun d S h => by cases d <;> first | rfl | exact absurd rfl (h _)) fun c S1 μ1 H1 u1 s1 h1 => ?_)⟩
  cases c with
  | true => exact ka ξ μ1 σ H1 ρ S1 D (g.up u1) s1 h1
  | false => exact kb ξ μ1 σ H1 ρ S1 D (g.up u1) s1 h1
/-! ### targets -/
structure DG (X : Cx) (tg : Expr) (f : D → Rho → Option Rho) (is : List Nat) : Prop where
  ex : ∃ t, PG X tg t ∧ ∀ ξ μ σ H ρ v d ρ' (Q : St → Hp → Prop), RG (fx X ξ) μ H σ ρ → RD (fx X ξ) μ H v d → f d ρ = some ρ' →
    (∀ σ', RG (fx X ξ) μ H σ' ρ' → (∀ js : List Nat, (∀ i ∈ is, i ∈ js) → wipe σ' js = wipe σ js) → Q σ' H) → t v σ H Q
structure DGs (X : Cx) (tg : List Expr) (f : List D → Rho → Option Rho) (is : List Nat) : Prop where
  ex : ∃ t, PGs X tg t ∧ ∀ ξ μ σ H ρ vs ds ρ' (Q : St → Hp → Prop), RG (fx X ξ) μ H σ ρ → RDs (fx X ξ) μ H vs ds → f ds ρ = some ρ' →
    (∀ σ', RG (fx X ξ) μ H σ' ρ' → (∀ js : List Nat, (∀ i ∈ is, i ∈ js) → wipe σ' js = wipe σ js) → Q σ' H) → t vs σ H Q
theorem wipe_get (σ : St) (i : Nat) : ∀ js : List Nat, (wipe σ js)[i]? = if i ∈ js ∧ i < σ.length then some none else σ[i]?
  | [] => by simp [wipe]
  | j :: js => by
    unfold wipe
    have ih := wipe_get σ i js
    by_cases hj : j = i
    · subst hj
      by_cases hl : j < σ.length
      · rw [List.getElem?_set_self (by rw [wipe_length]; exact hl), if_pos ⟨List.mem_cons_self, hl⟩]
      · rw [List.getElem?_eq_none (by rw [List.length_set, wipe_length]; omega), if_neg (fun z => hl z.2), List.getElem?_eq_none (by omega)]
    · rw [List.getElem?_set_ne hj, ih]
      have e : (i ∈ j :: js ∧ i < σ.length) ↔ (i ∈ js ∧ i < σ.length) := by
        constructor
        · rintro ⟨z, l⟩
          exact ⟨(List.mem_cons.mp z).resolve_left fun q => hj q.symm, l⟩
        · rintro ⟨z, l⟩
          exact ⟨List.mem_cons_of_mem _ z, l⟩
      by_cases q : i ∈ js ∧ i < σ.length
      · rw [if_pos q, if_pos (e.mpr q)]
      · rw [if_neg q, if_neg fun z => q (e.mp z)]
theorem wipe_set {σ : St} {i : Nat} {o : Option V} {js : List Nat} (h : i ∈ js) : wipe (σ.set i o) js = wipe σ js := by
  refine List.ext_getElem? fun k => ?_
  rw [wipe_get, wipe_get, List.length_set]
  by_cases q : k ∈ js ∧ k < σ.length
  · rw [if_pos q, if_pos q]
  · rw [if_neg q, if_neg q]
    by_cases e : i = k
    · subst e
      have l : ¬ i < σ.length := fun l => q ⟨h, l⟩
      rw [List.getElem?_eq_none (by rw [List.length_set]; omega), List.getElem?_eq_none (by omega)]
    · rw [List.getElem?_set_ne e]
def tgN (i : Nat) : D → Rho → Option Rho := fun d ρ => some (ρ.set i (some d))
theorem dg_name (i : Nat) {x : Str} (hN : X.N.Nodup) (hi : X.N[i]? = some x := by rfl) (hx : Loc X.env.scope x := by first | exact Or.inl rfl | exact Or.inr rfl) (hf : X.fn x = true ∨ X.env.scope.names.lookup x = some .local := by first | exact .inl rfl | exact .inr rfl) : DG X (.Name x pos) (tgN i) [i] :=
  ⟨_, pg_name hN hi hx hf, fun ξ μ σ H ρ v d ρ' Q g r e k => by
    cases e
    exact k _ (g.set i r) fun js h => wipe_set (h i List.mem_cons_self)⟩
def tgNil : List D → Rho → Option Rho := fun ds ρ => match ds with
  | [] => some ρ
  | _ => none
def tgCons (f : D → Rho → Option Rho) (g : List D → Rho → Option Rho) : List D → Rho → Option Rho := fun ds ρ => match ds with
  | d :: ds => (f d ρ).bind fun ρ1 => g ds ρ1
  | [] => none
theorem dgs_nil : DGs X [] tgNil [] := ⟨_, pgs_nil, fun ξ μ σ H ρ vs ds ρ' Q g r e k => by
  cases r with
  | nil => cases e; exact ⟨rfl, k σ g fun _ _ => rfl⟩
  | cons _ _ => exact nomatch e⟩
theorem dgs_cons {f : D → Rho → Option Rho} {fs : List D → Rho → Option Rho} {is js : List Nat} (h1 : DG X e f is) (h2 : DGs X es fs js) (hs : (assignEach (e :: es) X.env).map (·.2) = assign e X.env :: (assignEach es X.env).map (·.2) := by rfl) : DGs X (e :: es) (tgCons f fs) (is ++ js) := by
  obtain ⟨t1, p1, k1⟩ := h1
  obtain ⟨t2, p2, k2⟩ := h2
  refine ⟨_, pgs_cons p1 p2 hs, fun ξ μ σ H ρ vs ds ρ' Q g r e k => ?_⟩
  cases r with
  | nil => exact nomatch e
  | @cons v vs d ds r rr =>
    have e : (f d ρ).bind (fun ρ1 => fs ds ρ1) = some ρ' := e
    cases q : f d ρ with
    | none => rw [q] at e; exact nomatch e
    | some ρ1 =>
      rw [q] at e
      refine ⟨v, vs, rfl, k1 ξ μ σ H ρ v d ρ1 _ g r q fun σ1 g1 w1 => ?_⟩
      refine k2 ξ μ σ1 H ρ1 vs ds ρ' Q g1 rr e fun σ2 g2 w2 => k σ2 g2 fun ks hk => ?_
      rw [w2 ks fun i hi => hk i (List.mem_append_right _ hi), w1 ks fun i hi => hk i (List.mem_append_left _ hi)]
def tgT (n : Nat) (f : List D → Rho → Option Rho) : D → Rho → Option Rho := fun d ρ => match d with
  | .tup ds => if ds.length = n then f ds ρ else none
  | _ => none
theorem dg_tup {k n : Nat} {f : List D → Rho → Option Rho} {is : List Nat} {tp : Pos} (hc : X.calm = true) (h : DGs X es f is) (hn : (assignEach es X.env).length = n := by rfl) (hst : (assignEach es X.env).findIdx? (·.1) = none := by rfl) : DG X (.Tuple es k tp) (tgT n f) is := by
  obtain ⟨t, p, k⟩ := h
  refine ⟨_, pg_tup hc p hn hst, fun ξ μ σ H ρ v d ρ' Q g r e kk => ?_⟩
  cases r with
  | @tup a xs ds fz r =>
    unfold tgT at e
    by_cases c : ds.length = n
    · simp only [if_pos c] at e
      exact ⟨a, xs, rfl, fz.sq, by rw [r.length]; exact c, k ξ μ σ H ρ xs ds ρ' Q g r e kk⟩
    · simp only [if_neg c] at e
      exact nomatch e
  | _ => exact nomatch e
/-- target = e -/
def mAsgG (f : D → Rho → Option Rho) (m : ME) : MS := fun ρ S => ofRes (m ρ S) ρ fun d S1 => match f d ρ with
  | some ρ1 => .nx ρ1 S1
  | none => .bad
theorem ds_asg {tg : Expr} {f : D → Rho → Option Rho} {is : List Nat} (he : DE X W e m) (hg : DG X tg f is) (hs : swapsWithSole [tg] e pos.line X.env = pure false := by rfl) (hw : swappedStores [tg] e X.env = pure none := by rfl) (h1 : (assignEach [tg] X.env).map (·.2) = [assign tg X.env] := by rfl) : DS X W (.Assign [tg] e pos) (mAsgG f m) := by
  obtain ⟨te, p, k⟩ := he
  obtain ⟨tg, pg, kg⟩ := hg
  refine ⟨_, ps_asg p pg hs hw h1, fun ξ μ σ H ρ S D g s h => k ξ μ σ H ρ S _ g s (WS'.bind g h fun x S1 v μ1 H1 u1 s1 r1 h1 => ?_)⟩
  cases q : f x ρ with
  | none => rw [q] at h1; exact h1.elim
  | some ρ1 =>
    rw [q] at h1
    exact kg ξ μ1 σ H1 ρ v x ρ1 _ (g.up u1) r1 q fun σ' g' _ => h1 σ' μ1 H1 .refl s1 g'
/-- o[i] = e, o a list's cell -/
def mSetIx (m o i : ME) : MS := fun ρ S => ofRes (m ρ S) ρ fun d S1 => ofRes (o ρ S1) ρ fun x S2 => ofRes (i ρ S2) ρ fun y S3 => match x, y with
  | .cell n, .int j => match S3[n]? with
    | some (.lst ds) => match ixN ds.length j with
      | some k => .nx ρ (S3.set n (.lst (ds.set k d)))
      | none => .bad
    | _ => .bad
  | _, _ => .bad
theorem ds_setIx {o i : Expr} {mo mi : ME} (he : DE X W e m) (ho : DE X W o mo) (hi : DE X W i mi)
    (ha : ∀ v, assign (.Subscript o i p) X.env v = (do
      let ov ← holding [v] (eval o X.env)
      let iv ← holding [v, ov] (eval i X.env)
      standAt p
      holding [v, ov, iv] (setItem ov iv v)
      release [v, ov, iv] []) := by intro _; rfl) (hs : swapsWithSole [.Subscript o i p] e pos.line X.env = pure false := by rfl) (hw : swappedStores [.Subscript o i p] e X.env = pure none := by rfl) : DS X W (.Assign [.Subscript o i p] e pos) (mSetIx m mo mi) := by
  obtain ⟨te, pe, ke⟩ := he
  obtain ⟨to, po, ko⟩ := ho
  obtain ⟨ti, pi, ki⟩ := hi
  refine ⟨_, ps_asg pe (pg_sub po pi set_list ha) hs hw, fun ξ μ σ H ρ S D g s h => ke ξ μ σ H ρ S _ g s (WS'.bind g h fun d S1 v μ1 H1 u1 s1 r1 h1 => ?_)⟩
  refine ko ξ μ1 σ H1 ρ S1 _ (g.up u1) s1 (WS'.bind (g.up u1) h1 fun x S2 v2 μ2 H2 u2 s2 r2 h2 => ?_)
  refine ki ξ μ2 σ H2 ρ S2 _ (g.up (u1.trans u2)) s2 (WS'.bind (g.up (u1.trans u2)) h2 fun y S3 v3 μ3 H3 u3 s3 r3 h3 => ?_)
  have rd := r1.up (u2.trans u3)
  have rx := r2.up u3
  cases rx with
  | @cell a n ea =>
    cases r3 with
    | int j =>
      simp only at h3
      cases q : S3[n]? with
      | none => rw [q] at h3; exact h3.elim
      | some c =>
        rw [q] at h3
        cases c with
        | lst ds =>
          simp only at h3
          cases q2 : ixN ds.length j with
          | none => rw [q2] at h3; exact h3.elim
          | some k =>
            rw [q2] at h3
            obtain ⟨xs, e1, e2⟩ := s3.at_ n a _ ea q
            refine ⟨a, xs, j, k, rfl, rfl, e1, by rw [e2.length]; exact q2, ?_⟩
            exact h3 σ μ3 _ (.write ea) (s3.write ea ⟨_, upd_same, ((e2.set k rd).up (.write ea))⟩) (g.up (u1.trans (u2.trans (u3.trans (.write ea)))))
        | _ => exact h3.elim
    | _ => exact h3.elim
  | _ => exact h3.elim
/-- o.append(e), o a list's cell -/
def mApp (o m : ME) : MS := fun ρ S => ofRes (o ρ S) ρ fun x S1 => match x with
  | .cell n => match S1[n]? with
    | some (.lst _) => ofRes (m ρ S1) ρ fun d S2 => match S2[n]? with
      | some (.lst ds) => if ds.length < 16777216 then .nx ρ (S2.set n (.lst (ds ++ [d]))) else .bad
      | _ => .bad
    | _ => .bad
  | _ => .bad
theorem ds_app {o : Expr} {mo : ME} (ho : DE X W o mo) (he : DE X W e m) (hp : ∀ {to te : TE}, PE X o to → PE X e te → PS X st (tDrop (tBM X.K "list" rAppend to (tCons te tNil)))) : DS X W st (mApp mo m) := by
  obtain ⟨to, po, ko⟩ := ho
  obtain ⟨te, pe, ke⟩ := he
  refine ⟨_, hp po pe, fun ξ μ σ H ρ S D g s h => ?_⟩
  refine ko ξ μ σ H ρ S _ g s (WS'.bind g h fun x S1 v μ1 H1 u1 s1 r1 h1 => ?_)
  cases r1 with
  | @cell a n ea =>
    simp only at h1
    cases q : S1[n]? with
    | none => rw [q] at h1; exact h1.elim
    | some c =>
      rw [q] at h1
      cases c with
      | lst ds0 =>
        simp only at h1
        obtain ⟨xs0, e1, _⟩ := s1.at_ n a _ ea q
        refine ⟨.inl ⟨rfl, _, SqL.of e1⟩, ?_⟩
        refine ke ξ μ1 σ H1 ρ S1 _ (g.up u1) s1 (WS'.bind (g.up u1) h1 fun d S2 v2 μ2 H2 u2 s2 r2 h2 => ?_)
        cases q2 : S2[n]? with
        | none => simp only [q2] at h2; exact h2.elim
        | some c2 =>
          simp only [q2] at h2
          cases c2 with
          | lst ds =>
            simp only at h2
            by_cases l : ds.length < 16777216
            · rw [if_pos l] at h2
              have ea2 := u2.get ea
              obtain ⟨xs, e2, e3⟩ := s2.at_ n a _ ea2 q2
              refine ⟨a, xs, v2, rfl, rfl, e2, by rw [e3.length, sizeLine_eq]; exact l, ?_⟩
              exact h2 σ μ2 _ (.write ea2) (s2.write ea2 ⟨_, upd_same, (e3.append (.cons r2 .nil)).up (.write ea2)⟩) (g.up (u1.trans (u2.trans (.write ea2))))
            · rw [if_neg l] at h2; exact h2.elim
          | _ => exact h2.elim
      | _ => exact h1.elim
  | _ => exact h1.elim
end
end Dm
-- text DmLoop
namespace Dm
open PySem L2
open PySem.W (Frag)
/-- more may be reserved later -/
structure Ext (F F' : Fx) (H : Hp) : Prop where
  k : F'.K = F.K
  gw : (F'.mg, F'.w) = (F.mg, F.w)
  x : ∀ a, a ∈ F'.ξ → a ∈ F.ξ ∨ H a = none
theorem Ext.g {F F' : Fx} {H : Hp} (e : Ext F F' H) : F'.mg = F.mg := congrArg Prod.fst e.gw
theorem Ext.refl {F : Fx} {H : Hp} : Ext F F H := ⟨rfl, rfl, fun _ h => .inl h⟩
theorem Mv.ext {F F' : Fx} {μ μ' : List Addr} {H H' : Hp} (e : Ext F F' H) (u : Up μ H μ' H') : Mv F μ H F' μ' H' := ⟨fun {a xs} q => by
    rcases q.up u with ⟨z, n, nx⟩ | z
    · rcases q with ⟨z0, _⟩ | z0
      · refine .inl ⟨z, n, fun m => ?_⟩
        rcases e.x _ m with q | q
        · exact nx q
        · rcases z0 with z0 | ⟨o, z0⟩ <;> (rw [q] at z0; cases z0)
      · exact .inr (by rw [e.k]; exact z0)
    · exact .inr (by rw [e.k]; exact z), fun {a xs} q => by
    rcases q.up u with ⟨z, n, nx⟩ | z
    · rcases q with ⟨z0, _⟩ | z0
      · refine .inl ⟨z, n, fun m => ?_⟩
        rcases e.x _ m with q | q
        · exact nx q
        · rcases z0 with z0 | ⟨o, z0⟩ <;> (rw [q] at z0; cases z0)
      · exact .inr (by rw [e.k]; exact z0)
    · exact .inr (by rw [e.k]; exact z), fun q => u.get q, e.gw, fun {a c ns} h => by
    obtain ⟨cls, dd, e0, ⟨h1, h2, h3⟩, h4⟩ := h
    have no : ∀ {b : Addr} {o : HO}, H b = some o → b ∉ F.ξ → b ∉ F'.ξ := fun {b o} hb n m => (e.x b m).elim n fun q => by
      rw [q] at hb; cases hb
    refine ⟨cls, dd, by rw [e.g, e.k]; exact e0, ⟨u.keep _ _ h1 h2, u.notin h1 h2, no h1 h3⟩, h4.imp id ?_⟩
    rintro ⟨d, fs, e2, h5, hf, h6, h7⟩
    exact ⟨d, fs, e2, u.keep _ _ h5 h6, hf, u.notin h5 h6, no h5 h7⟩⟩
/-- an iterator gives these items -/
def ItOk (F : Fx) (μ : List Addr) (H : Hp) (J : It) (ds : List D) : Prop := ds.length ≤ 16777216 ∧
  ∀ (F' : Fx) (μ' : List Addr) (H' : Hp) (S' : Sto) (i : Nat), Ext F F' H → Up μ H μ' H' → RS F' μ' H' S' → i ≤ ds.length →
    (∀ d, ds[i]? = some d → J.go i H' ∧ ∀ x H'', J.yld i H' x H'' → Up μ' H' μ' H'' ∧ RS F' μ' H'' S' ∧ RD F' μ' H'' x d) ∧ (i = ds.length → J.stop i H')
structure DI (X : Cx) (W : WX) (tg iter : Expr) (m : MA) : Prop where
  ex : ∃ wi, PI X tg iter wi ∧ ∀ ξ μ σ H ρ S R, RG (fx X ξ) μ H σ ρ → RS (fx X ξ) μ H S → WR (fx X ξ) (fun μ H (J : It) (ds : List D) => ItOk (fx X ξ) μ H J ds) (m ρ S) R (fun cls dd H' => W cls dd σ H') μ H → wi σ H R
section
variable {X : Cx} {W : WX} {tg e a b c : Expr} {es : List Expr} {st : Stmt} {sts ts : List Stmt} {ma mb mc m : ME} {mr : MA} {m1 m2 : MS} {pos p p1 p2 p3 : Pos}
def Sized (K : Frag) (H : Hp) : Prop := ∀ a xs, SqL K H a xs ∨ SqT K H a xs → xs.length ≤ 16777216
theorem sized_of {pins : List (Addr × Obj)} {σ : St} {H : Hp} {s : Shared} (I : Inv X pins σ H s) : Sized X.K H := fun a xs h => by
  rcases h with h | h
  · obtain ⟨_, _, _, z⟩ := I.list h
    rw [sizeLine_eq] at z; exact z
  · obtain ⟨_, _, _, z⟩ := I.tuple h
    rw [sizeLine_eq] at z; exact z
theorem piSized {wi : TI} (h : PI X tg e wi) : PI X tg e (fun σ H R => wi σ H fun J H1 => Sized X.K H1 → R J H1) := ⟨fun pins s σ H R I hw =>
  thn (h.run pins s σ H _ I hw) fun v s1 h1 => thn h1 fun itv s2 ⟨it, fp, tn, J, H', a1, a2, a3, a4, a5, a6⟩ => ⟨it, fp, tn, J, H', a1, a2, a3, a4, a5, a6 (sized_of a2)⟩⟩
theorem piOr {wi wj : TI} (h : PI X tg e wi) (h' : PI X tg e wj) : PI X tg e (fun σ H R => wi σ H R ∨ wj σ H R) := ⟨fun pins s σ H R I hw =>
  hw.elim (h.run pins s σ H R I) (h'.run pins s σ H R I)⟩
theorem itt_ok {F : Fx} {μ : List Addr} {H : Hp} {a : Addr} {xs : List V} {ds : List D} (f : FzT F μ H a xs) (r : RDs F μ H xs ds) (z : Sized F.K H) : ItOk F μ H (Itt F.K a) ds := by
  refine ⟨by rw [← r.length]; exact z a xs (.inr f.sq), fun F' μ' H' S' i e u s hi => ⟨fun d hd => ?_, fun hi => ?_⟩⟩
  · obtain ⟨v, h1, h2⟩ := r.get hd
    refine ⟨⟨xs, v, (f.up u).sq, h1⟩, fun x H'' y => ?_⟩
    obtain ⟨e1, y⟩ := y
    subst e1
    have q := y xs (f.up u).sq
    rw [h1] at q; cases q
    exact ⟨.refl, s, h2.mv (.ext e u)⟩
  · exact ⟨xs, (f.up u).sq, by rw [r.length, hi]; exact Nat.le_refl _⟩
theorem itl_ok {F : Fx} {μ : List Addr} {H : Hp} {a : Addr} {xs : List V} {ds : List D} (f : FzL F μ H a xs) (r : RDs F μ H xs ds) (z : Sized F.K H) : ItOk F μ H (Itl F.K a) ds := by
  refine ⟨by rw [← r.length]; exact z a xs (.inl f.sq), fun F' μ' H' S' i e u s hi => ⟨fun d hd => ?_, fun hi => ?_⟩⟩
  · obtain ⟨v, h1, h2⟩ := r.get hd
    refine ⟨⟨xs, v, (f.up u).sq, h1⟩, fun x H'' y => ?_⟩
    obtain ⟨e1, y⟩ := y
    subst e1
    have q := y xs (f.up u).sq
    rw [h1] at q; cases q
    exact ⟨.refl, s, h2.mv (.ext e u)⟩
  · exact ⟨xs, (f.up u).sq, by rw [r.length, hi]; exact Nat.le_refl _⟩
/-- over a tuple, a list that stands still -/
def iSeq (m : ME) : MA := fun ρ S => (m ρ S).bind fun d S1 => match d with
  | .tup ds => .ok ds S1
  | .lst ds => .ok ds S1
  | _ => .bad
theorem di_seq (h : DE X W e m) : DI X W tg e (iSeq m) := by
  obtain ⟨te, pe, k⟩ := h
  refine ⟨_, piOr (piSized (pi_tup pe)) (piSized (pi_list pe)), fun ξ μ σ H ρ S R g s h => ?_⟩
  cases e1 : m ρ S with
  | bad => unfold iSeq at h; rw [e1] at h; exact h.elim
  | exc c fs S1 =>
    unfold iSeq at h; rw [e1] at h
    refine .inl (k ξ μ σ H ρ S _ g s ?_)
    rw [e1]; exact h
  | ok d S1 =>
    cases d with
    | tup ds =>
      refine .inl (k ξ μ σ H ρ S _ g s ?_)
      unfold iSeq at h
      rw [e1] at h ⊢
      intro v μ1 H1 u1 s1 r1
      cases r1 with
      | @tup a xs _ f r => exact ⟨a, rfl, ⟨xs, f.sq⟩, fun z => h _ μ1 H1 u1 s1 (itt_ok f r z)⟩
    | lst ds =>
      refine .inr (k ξ μ σ H ρ S _ g s ?_)
      unfold iSeq at h
      rw [e1] at h ⊢
      intro v μ1 H1 u1 s1 r1
      cases r1 with
      | @lst a xs _ f r => exact ⟨a, rfl, ⟨xs, f.sq⟩, fun z => h _ μ1 H1 u1 s1 (itl_ok f r z)⟩
    | _ => unfold iSeq at h; rw [e1] at h; exact h.elim
/-- over range(n), range(a, n) -/
def rngD (lo : Int) (n : Nat) : List D := (List.range n).map fun (i : Nat) => D.int (lo + i)
theorem rngD_length {lo : Int} {n : Nat} : (rngD lo n).length = n := by unfold rngD; rw [List.length_map, List.length_range]
theorem itr_ok {F : Fx} {μ : List Addr} {H : Hp} {lo : Int} {n : Nat} (hn : n ≤ 16777216) : ItOk F μ H (Itr lo n) (rngD lo n) := by
  refine ⟨by rw [rngD_length]; exact hn, fun F' μ' H' S' i e u s hi => ⟨fun d hd => ?_, fun hi => ?_⟩⟩
  · have hl : i < n := by
      have q := (List.getElem?_eq_some_iff.mp hd).1
      rw [rngD_length] at q; exact q
    refine ⟨hl, fun x H'' y => ?_⟩
    obtain ⟨e1, y⟩ := y
    subst e1
    subst y
    have e2 : d = .int (lo + i) := by
      unfold rngD at hd
      rw [List.getElem?_map, List.getElem?_range hl] at hd
      exact (Option.some.inj hd).symm
    subst e2
    exact ⟨.refl, s, .int _⟩
  · rw [rngD_length] at hi
    exact Nat.le_of_eq hi.symm
noncomputable def iRange1 (a : MA) : MA := fun ρ S => (a ρ S).bind fun ds S1 => match ds with
  | [.int j] => @ite _ (j ≤ 16777216 ∧ -4611686018427387904 ≤ j) (Classical.propDecidable _) (.ok (rngD 0 j.toNat) S1) .bad
  | _ => .bad
theorem di_range1 (ha : DA X W [a] mr) (hm : X.mg "range" = none) (hg : Gl X "range" := by rfl) (hs : starEach [a] X.env = [(false, eval a X.env)] := by rfl) : DI X W tg (.Call (.Name "range" p) [a] [] pos) (iRange1 mr) := by
  obtain ⟨ta, pa, ka⟩ := ha
  refine ⟨_, pi_range1 hg hm pa hs, fun ξ μ σ H ρ S R g s h => ka ξ μ σ H ρ S _ g s (WR.bind h fun ds S1 vs μ1 H1 u1 s1 r1 h1 => ?_)⟩
  cases r1 with
  | nil => exact h1.elim
  | @cons v vs d ds r rr =>
    cases rr with
    | cons _ _ => cases d <;> exact h1.elim
    | nil =>
      cases r with
      | int j =>
        simp only at h1
        by_cases c : j ≤ 16777216 ∧ -4611686018427387904 ≤ j
        · rw [if_pos c] at h1
          exact ⟨j, rfl, by omega, by omega, h1 _ μ1 H1 .refl s1 (itr_ok (by omega))⟩
        · rw [if_neg c] at h1; exact h1.elim
      | _ => exact h1.elim
noncomputable def iRange2 (a : MA) : MA := fun ρ S => (a ρ S).bind fun ds S1 => match ds with
  | [.int i, .int j] => @ite _ (-1000000000000 ≤ i ∧ i ≤ 1000000000000 ∧ -1000000000000 ≤ j ∧ j ≤ 1000000000000 ∧ j - i ≤ 16777216) (Classical.propDecidable _) (.ok (rngD i (j - i).toNat) S1) .bad
  | _ => .bad
theorem di_range2 (ha : DA X W [a, b] mr) (hm : X.mg "range" = none) (hg : Gl X "range" := by rfl) (hs : starEach [a, b] X.env = [(false, eval a X.env), (false, eval b X.env)] := by rfl) (hs2 : starEach [b] X.env = [(false, eval b X.env)] := by rfl) :
    DI X W tg (.Call (.Name "range" p) [a, b] [] pos) (iRange2 mr) := by
  obtain ⟨ta, pa, ka⟩ := ha
  refine ⟨_, pi_range2 hg hm pa hs hs2, fun ξ μ σ H ρ S R g s h => ka ξ μ σ H ρ S _ g s (WR.bind h fun ds S1 vs μ1 H1 u1 s1 r1 h1 => ?_)⟩
  cases r1 with
  | nil => exact h1.elim
  | @cons v vs d ds r rr =>
    cases rr with
    | nil => cases d <;> exact h1.elim
    | @cons v2 vs2 d2 ds2 r2 rr2 =>
      cases rr2 with
      | cons _ _ => cases d <;> cases d2 <;> exact h1.elim
      | nil =>
        cases r with
        | int i =>
          cases r2 with
          | int j =>
            simp only at h1
            by_cases c : -1000000000000 ≤ i ∧ i ≤ 1000000000000 ∧ -1000000000000 ≤ j ∧ j ≤ 1000000000000 ∧ j - i ≤ 16777216
            · rw [if_pos c] at h1
              exact ⟨i, j, rfl, ⟨by omega, by omega, by omega, by omega⟩, h1 _ μ1 H1 .refl s1 (itr_ok (by omega))⟩
            · rw [if_neg c] at h1; exact h1.elim
          | _ => exact h1.elim
        | _ => exact h1.elim
/-! ### for -/
def forL (f : D → Rho → Option Rho) (mb : MS) : List D → Rho → Sto → Out
  | [], ρ, S => .nx ρ S
  | d :: r, ρ, S => match f d ρ with
    | none => .bad
    | some ρ1 => match mb ρ1 S with
      | .nx ρ2 S2 => forL f mb r ρ2 S2
      | .ct ρ2 S2 => forL f mb r ρ2 S2
      | .bk ρ2 S2 => .nx ρ2 S2
      | .rt d S2 => .rt d S2
      | .exc c fs ρ2 S2 => .exc c fs ρ2 S2
      | .bad => .bad
def mFor (mi : MA) (f : D → Rho → Option Rho) (mb : MS) : MS := fun ρ S => ofRes (mi ρ S) ρ fun ds S1 => forL f mb ds ρ S1
theorem ds_for {f : D → Rho → Option Rho} {is : List Nat} {mb : MS} (hp : PassesOwn (model X.prog X.w) X.A X.env X.xe) (hc : X.calm = true) (hi : DI X W tg e mr) (hg : DG X tg f is) (hb : DSs X W sts mb)
    (hs : ∀ x, foldedSetIterable e X.env x = pure x := by intro _; rfl) : DS X W (.For tg e sts [] pos) (mFor mr f mb) := by
  obtain ⟨wi, pi, ki⟩ := hi
  obtain ⟨tg', pg, kg⟩ := hg
  obtain ⟨tb, pb, kb⟩ := hb
  refine ⟨_, ps_for hp hc pi pg pb hs, fun ξ μ σ H ρ S D g s h => ki ξ μ σ H ρ S _ g s (WS'.bind g h fun ds S1 J μ1 H1 u1 s1 r1 h1 => ?_)⟩
  refine ⟨fun i m σ' H' => ∃ μ' ρ' S', Up μ1 H1 μ' H' ∧ RS (fx X ξ) μ' H' S' ∧ RG (fx X ξ) μ' H' σ' ρ' ∧ i ≤ ds.length ∧ m = ds.length - i ∧ WS' (fx X ξ) (forL f mb (ds.drop i) ρ' S') D W μ' H',
    ⟨_, μ1, ρ, S1, .refl, s1, g.up u1, Nat.zero_le _, rfl, by rw [List.drop_zero]; exact h1⟩, ?_⟩
  rintro i m σ' H' ⟨μ', ρ', S', u', s', g', hi, rfl, w⟩
  obtain ⟨t1, t2⟩ := r1.2 (fx X ξ) μ' H' S' i .refl u' s' hi
  by_cases hl : i < ds.length
  · have hd : ds[i]? = some ds[i] := List.getElem?_eq_getElem hl
    obtain ⟨go, yl⟩ := t1 _ hd
    rw [List.drop_eq_getElem_cons hl] at w
    unfold forL at w
    cases ef : f ds[i] ρ' with
    | none => rw [ef] at w; exact w.elim
    | some ρ1 =>
      rw [ef] at w
      simp only at w
      refine .inr ⟨go, fun σ2 H2 => ∃ μ' ρ' S', Up μ1 H1 μ' H2 ∧ RS (fx X ξ) μ' H2 S' ∧ RG (fx X ξ) μ' H2 σ2 ρ' ∧ WS' (fx X ξ) (forL f mb (ds.drop (i + 1)) ρ' S') D W μ' H2,
        fun σ2 H2 ⟨μ2, ρ2, S2, a1, a2, a3, a4⟩ => ⟨_, by omega, μ2, ρ2, S2, a1, a2, a3, hl, rfl, a4⟩, fun x H2 y => ?_⟩
      obtain ⟨u2, s2, r2⟩ := yl x H2 y
      refine kg ξ μ' σ' H2 ρ' x _ ρ1 _ (g'.up u2) r2 ef fun σ2 g2 _ => ?_
      refine kb ξ μ' σ2 H2 ρ1 S' _ g2 s2 ?_
      have w := WS'.shift u2 w
      cases eb : mb ρ1 S' with
      | nx ρ2 S2 =>
        rw [eb] at w
        exact fun σ3 μ3 H3 u3 s3 g3 => ⟨μ3, ρ2, S2, u'.trans (u2.trans u3), s3, g3, w.shift u3⟩
      | ct ρ2 S2 =>
        rw [eb] at w
        exact fun σ3 μ3 H3 u3 s3 g3 => ⟨μ3, ρ2, S2, u'.trans (u2.trans u3), s3, g3, w.shift u3⟩
      | bk ρ2 S2 => rw [eb] at w; exact w
      | rt d S2 => rw [eb] at w; exact w
      | exc c fs ρ2 S2 => rw [eb] at w; exact w
      | bad => rw [eb] at w; exact w
  · have e : i = ds.length := by omega
    rw [e, List.drop_length] at w
    exact .inl ⟨t2 e, w σ' μ' H' .refl s' g'⟩
/-! ### for over a list's cell, as it stands at each turn -/
def forC (n : Nat) (f : D → Rho → Option Rho) (mb : MS) : Nat → Nat → Rho → Sto → Out
  | 0, _, _, _ => .bad
  | k + 1, i, ρ, S => match S[n]? with
    | some (.lst ds) => match ds[i]? with
      | none => if i = ds.length then .nx ρ S else .bad
      | some d => match f d ρ with
        | none => .bad
        | some ρ1 => match mb ρ1 S with
          | .nx ρ2 S2 => forC n f mb k (i + 1) ρ2 S2
          | .ct ρ2 S2 => forC n f mb k (i + 1) ρ2 S2
          | .bk ρ2 S2 => .nx ρ2 S2
          | .rt d S2 => .rt d S2
          | .exc c fs ρ2 S2 => .exc c fs ρ2 S2
          | .bad => .bad
    | _ => .bad
def mForC (m : ME) (f : D → Rho → Option Rho) (mb : MS) : MS := fun ρ S => ofRes (m ρ S) ρ fun d S1 => match d with
  | .cell n => match S1[n]? with
    | some (.lst ds) => forC n f mb (ds.length + 1) 0 ρ S1
    | _ => .bad
  | _ => .bad
/-! ### while -/
end
/-! ### comprehensions -/
def wipeD (ρ : Rho) : List Nat → Rho
  | [] => ρ
  | v :: vs => (wipeD ρ vs).set v none
theorem RG.wipe {F : Fx} {μ : List Addr} {H : Hp} {σ : St} {ρ : Rho} (g : RG F μ H σ ρ) : ∀ vs : List Nat, RG F μ H (L2.wipe σ vs) (wipeD ρ vs)
  | [] => g
  | v :: vs => (RG.wipe g vs).forget (σ' := σ) v
def lcL (f : D → Rho → Option Rho) (mt me : ME) (ρ : Rho) : List D → Sto → Option (List D × Sto)
  | [], S => some ([], S)
  | d :: r, S => match f d ρ with
    | none => none
    | some ρ1 => match mt ρ1 S with
      | .ok (.bl true) S1 => match me ρ1 S1 with
        | .ok y S2 => match lcL f mt me ρ r S2 with
          | some (ys, S3) => some (y :: ys, S3)
          | none => none
        | _ => none
      | .ok (.bl false) S1 => lcL f mt me ρ r S1
      | _ => none
def mLc (mi : MA) (f : D → Rho → Option Rho) (mt me : ME) (vs : List Nat) : MA := fun ρ S => (mi ρ S).bind fun ds S1 => match lcL f mt me (wipeD ρ vs) ds S1 with
  | some (ys, S2) => .ok ys S2
  | none => .bad
def mYes : ME := fun _ S => .ok (.bl true) S
abbrev W0 : WX := fun _ _ _ _ => False
structure DTs (X : Cx) (W : WX) (es : List Expr) (m : ME) : Prop where
  ex : ∃ te, PTs X es te ∧ ∀ ξ μ σ H ρ S Q, RG (fx X ξ) μ H σ ρ → RS (fx X ξ) μ H S → WT' (fx X ξ) (m ρ S) Q (fun cls dd H' => W cls dd σ H') μ H → te σ H Q
section
variable {X : Cx} {W : WX} {tg e a b c : Expr} {es : List Expr} {st : Stmt} {sts ts : List Stmt} {ma mb mc m : ME} {mr : MA} {m1 m2 : MS} {pos p p1 p2 p3 : Pos}
theorem dts_nil : DTs X W [] mYes := ⟨_, pts_nil, fun ξ μ σ H ρ S Q g s h => h μ H .refl s⟩
theorem dts_one (h : DT X W c mc) : DTs X W [c] mc := let ⟨_, p, k⟩ := h; ⟨_, pts_one p, k⟩
theorem fx_fam {ι : Type} {Xf : ι → Cx} {K : Frag} {mg : Str → Option Value} {w : World} {ξ : List Addr} {i : ι} (hK : ∀ i, (Xf i).K = K) (hg : ∀ i, ((Xf i).mg, (Xf i).w) = (mg, w)) : fx (Xf i) ξ = ⟨K, mg, ξ, w⟩ := by
  have e1 : (Xf i).mg = mg := congrArg Prod.fst (hg i)
  have e2 : (Xf i).w = w := congrArg Prod.snd (hg i)
  unfold fx
  rw [hK, e1, e2]
/-- one word for all contexts of a family -/
theorem de_all {ι : Type} {Xf : ι → Cx} {e : Expr} {m : ME} {K : Frag} {mg : Str → Option Value} {w : World} (hK : ∀ i, (Xf i).K = K) (hg : ∀ i, ((Xf i).mg, (Xf i).w) = (mg, w)) (h : ∀ i, DE (Xf i) W e m) :
    ∃ te, (∀ i, PE (Xf i) e te) ∧ ∀ ξ μ σ H ρ S Q, RG ⟨K, mg, ξ, w⟩ μ H σ ρ → RS ⟨K, mg, ξ, w⟩ μ H S → WE' ⟨K, mg, ξ, w⟩ (m ρ S) Q (fun cls dd H' => W cls dd σ H') μ H → te σ H Q := by
  refine ⟨fun σ H Q => ∀ i, ∃ te, PE (Xf i) e te ∧ te σ H Q, fun i => ⟨fun pins s σ H Q I hw => ?_⟩, fun ξ μ σ H ρ S Q g s hw i => ?_⟩
  · obtain ⟨te, p, q⟩ := hw i
    exact p.run pins s σ H Q I q
  · obtain ⟨te, p, k⟩ := h i
    refine ⟨te, p, k ξ μ σ H ρ S Q ?_ ?_ ?_⟩
    all_goals (rw [fx_fam hK hg]; assumption)
theorem dts_all {ι : Type} {Xf : ι → Cx} {es : List Expr} {m : ME} {K : Frag} {mg : Str → Option Value} {w : World} (hK : ∀ i, (Xf i).K = K) (hg : ∀ i, ((Xf i).mg, (Xf i).w) = (mg, w)) (h : ∀ i, DTs (Xf i) W es m) :
    ∃ te, (∀ i, PTs (Xf i) es te) ∧ ∀ ξ μ σ H ρ S Q, RG ⟨K, mg, ξ, w⟩ μ H σ ρ → RS ⟨K, mg, ξ, w⟩ μ H S → WT' ⟨K, mg, ξ, w⟩ (m ρ S) Q (fun cls dd H' => W cls dd σ H') μ H → te σ H Q := by
  refine ⟨fun σ H Q => ∀ i, ∃ te, PTs (Xf i) es te ∧ te σ H Q, fun i => ⟨fun pins s σ H Q I hw => ?_⟩, fun ξ μ σ H ρ S Q g s hw i => ?_⟩
  · obtain ⟨te, p, q⟩ := hw i
    exact p.run pins s σ H Q I q
  · obtain ⟨te, p, k⟩ := h i
    refine ⟨te, p, k ξ μ σ H ρ S Q ?_ ?_ ?_⟩
    all_goals (rw [fx_fam hK hg]; assumption)
theorem dg_all {ι : Type} {Xf : ι → Cx} {tg : Expr} {f : D → Rho → Option Rho} {is : List Nat} {K : Frag} {mg : Str → Option Value} {w : World} (hK : ∀ i, (Xf i).K = K) (hg : ∀ i, ((Xf i).mg, (Xf i).w) = (mg, w)) (h : ∀ i, DG (Xf i) tg f is) :
    ∃ t, (∀ i, PG (Xf i) tg t) ∧ ∀ ξ μ σ H ρ v d ρ' (Q : St → Hp → Prop), RG ⟨K, mg, ξ, w⟩ μ H σ ρ → RD ⟨K, mg, ξ, w⟩ μ H v d → f d ρ = some ρ' →
    (∀ σ', RG ⟨K, mg, ξ, w⟩ μ H σ' ρ' → (∀ js : List Nat, (∀ i ∈ is, i ∈ js) → wipe σ' js = wipe σ js) → Q σ' H) → t v σ H Q := by
  refine ⟨fun v σ H Q => ∀ i, ∃ t, PG (Xf i) tg t ∧ t v σ H Q, fun i => ⟨fun pins s σ H v u Q I r hw => ?_⟩, fun ξ μ σ H ρ v d ρ' Q g r e k i => ?_⟩
  · obtain ⟨t, p, q⟩ := hw i
    exact p.run pins s σ H v u Q I r q
  · obtain ⟨t, p, kk⟩ := h i
    refine ⟨t, p, kk ξ μ σ H ρ v d ρ' Q ?_ ?_ e fun σ' g' w => k σ' ?_ w⟩
    · rw [fx_fam hK hg]; exact g
    · rw [fx_fam hK hg]; exact r
    · have g'' := g'
      rw [fx_fam hK hg] at g''
      exact g''
abbrev Blk := Shared × Hp × Addr × List (Str × Addr) × List Addr
abbrev blkOf (X : Cx) (scope : Scope) (i : Blk) : Cx := X.blk i.1 i.2.1 scope (compEnvC scope i.2.2.2.1 i.2.2.1 X.env) i.2.2.2.2
/-- the reading of a comprehension -/
theorem lc_read {wi : TI} {tg' : TG} {tt : TT} {te : TE} {f : D → Rho → Option Rho} {is vs : List Nat} {ξ μ : List Addr} {σ : St} {H : Hp} {ρ : Rho} {S : Sto} {Q : VK} {Wx : Value → Option Addr → Hp → Prop} {mi : MA} {mt me : ME}
    (ki : ∀ R, WR (fx X ξ) (fun μ H (J : It) (ds : List D) => ItOk (fx X ξ) μ H J ds) (mi ρ S) R Wx μ H → wi σ H R)
    (kg : ∀ ξ μ σ H ρ v d ρ' (Q : St → Hp → Prop), RG (fx X ξ) μ H σ ρ → RD (fx X ξ) μ H v d → f d ρ = some ρ' → (∀ σ', RG (fx X ξ) μ H σ' ρ' → (∀ js : List Nat, (∀ i ∈ is, i ∈ js) → wipe σ' js = wipe σ js) → Q σ' H) → tg' v σ H Q)
    (kt : ∀ ξ μ σ H ρ S Q, RG (fx X ξ) μ H σ ρ → RS (fx X ξ) μ H S → WT' (fx X ξ) (mt ρ S) Q (fun cls dd H' => W0 cls dd σ H') μ H → tt σ H Q)
    (ke : ∀ ξ μ σ H ρ S Q, RG (fx X ξ) μ H σ ρ → RS (fx X ξ) μ H S → WE' (fx X ξ) (me ρ S) Q (fun cls dd H' => W0 cls dd σ H') μ H → te σ H Q)
    (hv : ∀ i ∈ is, i ∈ vs) (g : RG (fx X ξ) μ H σ ρ) (s : RS (fx X ξ) μ H S) (h : WL' (fx X ξ) (mLc mi f mt me vs ρ S) Q Wx μ H) : tLc wi tg' tt te vs σ H Q := by
  refine ki _ (WL'.bind h fun ds S1 J μ1 H1 u1 s1 r1 h1 => ?_)
  intro D hD
  obtain ⟨hz, r1⟩ := r1
  have n1 : D ∉ μ1 := s1.out hD
  have x1 : D ∉ ξ := s1.outX hD
  have ext : Ext (fx X ξ) ((fx X ξ).hold D) H1 := ⟨rfl, rfl, fun a ha => (List.mem_cons.mp ha).elim (fun z => .inr (by rw [z]; exact hD)) .inl⟩
  have main : WL' (fx X ξ) (match lcL f mt me (wipeD ρ vs) ds S1 with
    | some (ys, S2) => Res.ok ys S2
    | none => .bad) Q Wx μ1 H1 := h1
  refine ⟨fun i m H' => ∃ μ' S' acc dacc, Up μ1 H1 μ' H' ∧ RS ((fx X ξ).hold D) μ' H' S' ∧ H' D = some (.lst acc) ∧ RDs ((fx X ξ).hold D) μ' H' acc dacc ∧ acc.length ≤ i ∧ i ≤ ds.length ∧ m = ds.length - i ∧
      ∃ ys S2, lcL f mt me (wipeD ρ vs) (ds.drop i) S' = some (ys, S2) ∧ ∀ μ2 H2 xs, Up μ1 H1 μ2 H2 → RS ((fx X ξ).hold D) μ2 H2 S2 → RDs ((fx X ξ).hold D) μ2 H2 xs (dacc ++ ys) → H2 D = some (.lst xs) → Q (.ref D) H2,
    ⟨_, μ1, S1, [], [], .fresh hD, s1.holds hD, upd_same, .nil, Nat.le_refl _, Nat.zero_le _, rfl, ?_⟩, ?_⟩
  · rw [List.drop_zero]
    cases q : lcL f mt me (wipeD ρ vs) ds S1 with
    | none => rw [q] at main; exact main.elim
    | some r =>
      obtain ⟨ys, S2⟩ := r
      rw [q] at main
      exact ⟨ys, S2, rfl, fun μ2 H2 xs u2 s2 r2 e2 => main D xs μ2 H2 u2 hD s2 r2 e2⟩
  rintro i m H' ⟨μ', S', acc, dacc, u', s', hacc, racc, hla, hi, rfl, ys, S2, eL, fin⟩
  obtain ⟨t1, t2⟩ := r1 ((fx X ξ).hold D) μ' H' S' i ext u' s' hi
  by_cases hl : i < ds.length
  · obtain ⟨go, yl⟩ := t1 _ (List.getElem?_eq_getElem hl)
    rw [List.drop_eq_getElem_cons hl] at eL
    unfold lcL at eL
    cases ef : f ds[i] (wipeD ρ vs) with
    | none => rw [ef] at eL; exact nomatch eL
    | some ρ1 =>
      rw [ef] at eL
      simp only at eL
      refine .inr ⟨go, fun H2 => ∃ μ' S' acc dacc, Up μ1 H1 μ' H2 ∧ RS ((fx X ξ).hold D) μ' H2 S' ∧ H2 D = some (.lst acc) ∧ RDs ((fx X ξ).hold D) μ' H2 acc dacc ∧ acc.length ≤ i + 1 ∧
          ∃ ys S2, lcL f mt me (wipeD ρ vs) (ds.drop (i + 1)) S' = some (ys, S2) ∧ ∀ μ2 H2 xs, Up μ1 H1 μ2 H2 → RS ((fx X ξ).hold D) μ2 H2 S2 → RDs ((fx X ξ).hold D) μ2 H2 xs (dacc ++ ys) → H2 D = some (.lst xs) → Q (.ref D) H2,
        fun H2 ⟨μ2, S3, acc2, dacc2, a1, a2, a3, a4, a5, a6⟩ => ⟨_, by omega, μ2, S3, acc2, dacc2, a1, a2, a3, a4, a5, hl, rfl, a6⟩, fun x H2 y => ?_⟩
      obtain ⟨u2, s2, r2⟩ := yl x H2 y
      have g2 : RG (fx X (D :: ξ)) μ' H2 (wipe σ vs) (wipeD ρ vs) := (((g.up u1).mv (.ext ext (u'.trans u2)))).wipe vs
      refine kg (D :: ξ) μ' (wipe σ vs) H2 (wipeD ρ vs) x _ ρ1 _ g2 r2 ef fun σ3 g3 w3 => ?_
      have nD : D ∉ μ' := (s'.xi D List.mem_cons_self).1
      have eD : H2 D = some (.lst acc) := u2.keep _ _ hacc nD
      have ww : wipe (wipe σ vs) vs = wipe σ vs := by
        refine List.ext_getElem? fun k => ?_
        rw [wipe_get, wipe_get, wipe_length]
        by_cases q : k ∈ vs ∧ k < σ.length
        · rw [if_pos q, if_pos q]
        · rw [if_neg q, if_neg q]
      refine ⟨by rw [w3 vs hv, ww], ?_⟩
      refine kt (D :: ξ) μ' σ3 H2 ρ1 S' _ g3 s2 ?_
      have racc2 := racc.up u2
      cases et : mt ρ1 S' with
      | bad => rw [et] at eL; exact nomatch eL
      | exc c fs S3 => rw [et] at eL; exact nomatch eL
      | ok d S3 =>
        rw [et] at eL
        cases d with
        | bl b =>
          intro μ3 H3 u3 s3
          have eD3 : H3 D = some (.lst acc) := u3.keep _ _ eD nD
          cases b with
          | false =>
            exact ⟨μ3, S3, acc, dacc, u'.trans (u2.trans u3), s3, eD3, racc2.up u3, Nat.le_succ_of_le hla, ys, S2, eL, fin⟩
          | true =>
            simp only at eL
            refine ke (D :: ξ) μ3 σ3 H3 ρ1 S3 _ (g3.up u3) s3 ?_
            cases ee : me ρ1 S3 with
            | bad => rw [ee] at eL; exact nomatch eL
            | exc c fs S4 => rw [ee] at eL; exact nomatch eL
            | ok y S4 =>
              rw [ee] at eL
              intro v μ4 H4 u4 s4 r4
              simp only at eL
              cases er : lcL f mt me (wipeD ρ vs) (ds.drop (i + 1)) S4 with
              | none => rw [er] at eL; exact nomatch eL
              | some q =>
                obtain ⟨zs, S5⟩ := q
                rw [er] at eL
                cases eL
                have nD3 : D ∉ μ3 := (s3.xi D List.mem_cons_self).1
                have eD4 : H4 D = some (.lst acc) := u4.keep _ _ eD3 nD3
                refine ⟨acc, eD4, by rw [sizeLine_eq]; omega, μ4, S4, acc ++ [v], dacc ++ [y], ?_, RS.wr (F := fx X ξ) (p := D) s4, upd_same, RDs.mv (Mv.wr (F := fx X ξ) (p := D)) _ (RDs.append (F := (fx X ξ).hold D) ((racc2.up u3).up u4) (.cons r4 .nil)), by rw [List.length_append, List.length_singleton]; omega, zs, S2, er, fun μ5 H5 xs u5 s5 r5 e5 => fin μ5 H5 xs u5 s5 (by rw [List.append_assoc] at r5; exact r5) e5⟩
                have U := u'.trans (u2.trans (u3.trans u4))
                exact ⟨U.pre, U.new, fun a o ha na => by
                  rw [upd_ne (ne_of_none ha hD)]
                  exact U.keep a o ha na⟩
        | _ => exact nomatch eL
  · have e : i = ds.length := by omega
    rw [e, List.drop_length] at eL
    cases eL
    exact .inl ⟨t2 e, fin μ' H' acc u' s' (by rw [List.append_nil]; exact racc) hacc⟩
theorem dl_lc {elt : Expr} {ifs : List Expr} {scope : Scope} {own : List (Str × Nat)} {f : D → Rho → Option Rho} {is : List Nat} {mt me : ME} (hc : X.calm = true) (hN : X.N.Nodup) (hi : DI X W tg e mr) (ok : BlkOk X.N X.env.scope scope own)
    (hg : ∀ (s : Shared) (H : Hp) (C : Addr) (cl : List (Str × Addr)) (fp : List Addr), DG (X.blk s H scope (compEnvC scope cl C X.env) fp) tg f is)
    (ht : ∀ (s : Shared) (H : Hp) (C : Addr) (cl : List (Str × Addr)) (fp : List Addr), DTs (X.blk s H scope (compEnvC scope cl C X.env) fp) W0 ifs mt)
    (he : ∀ (s : Shared) (H : Hp) (C : Addr) (cl : List (Str × Addr)) (fp : List Addr), DE (X.blk s H scope (compEnvC scope cl C X.env) fp) W0 elt me)
    (hv : ∀ i ∈ is, i ∈ own.map (·.2) := by decide) (hs : ∀ x, foldedSetIterable e X.env x = pure x := by intro _; rfl) : DL X W (.ListComp elt [⟨tg, e, ifs, 0⟩] scope pos) (mLc mr f mt me (own.map (·.2))) := by
  obtain ⟨wi, pi, ki⟩ := hi
  obtain ⟨tg', pg, kg⟩ := dg_all (Xf := blkOf X scope) (K := X.K) (mg := X.mg) (fun _ => rfl) (fun _ => rfl) fun i => hg i.1 i.2.1 i.2.2.1 i.2.2.2.1 i.2.2.2.2
  obtain ⟨tt, pt, kt⟩ := dts_all (Xf := blkOf X scope) (K := X.K) (mg := X.mg) (fun _ => rfl) (fun _ => rfl) fun i => ht i.1 i.2.1 i.2.2.1 i.2.2.2.1 i.2.2.2.2
  obtain ⟨te, pe, ke⟩ := de_all (Xf := blkOf X scope) (K := X.K) (mg := X.mg) (fun _ => rfl) (fun _ => rfl) fun i => he i.1 i.2.1 i.2.2.1 i.2.2.2.1 i.2.2.2.2
  refine ⟨_, pe_lc hc hN pi ok (fun s H C cl fp => pg (s, H, C, cl, fp)) (fun s H C cl fp => pt (s, H, C, cl, fp)) (fun s H C cl fp => pe (s, H, C, cl, fp)) hs, fun ξ μ σ H ρ S Q g s h => ?_⟩
  exact lc_read (fun R => ki ξ μ σ H ρ S R g s) kg kt ke hv g s h
end
end Dm
-- text DmDef
namespace Dm
open PySem L2 PySem.Spec PyProof.Rows
open PySem.W (Frag)
/-! ### defs -/
def mDef (np nN : Nat) (b : MS) (ds : List D) (S : Sto) : Res D := if ds.length = np then
    match b (ds.map some ++ List.replicate (nN - np) none) S with
    | .nx _ S' => .ok .non S'
    | .rt d S' => .ok d S'
    | .exc c fs _ S' => .exc c fs S'
    | _ => .bad
  else .bad
/-- a def's promise: what its word says -/
def spD (w : World) (K : Frag) (mg : Str → Option Value) (m : List D → Sto → Res D) : Sp := fun vs H Q E => ∃ ξ μ ds S, RS ⟨K, mg, ξ, w⟩ μ H S ∧ RDs ⟨K, mg, ξ, w⟩ μ H vs ds ∧ WE' ⟨K, mg, ξ, w⟩ (m ds S) Q (fun cls dd H' => E cls dd H') μ H
structure FnD (P : Program) (w : World) (K : Frag) (mg : Str → Option Value) (base : Heap) (k : Nat) (x : Str) (st : Stmt) (ps : List Str) (m : List D → Sto → Res D) : Prop where
  ex : ∃ f fd, mg x = some (.ref f) ∧ Fun K x x st f fd ∧ Binds K fd ps [] ∧ FnOk P w K mg base (L2.CX P w) k f fd ps (spD w K mg m)
section
variable {P : Program} {w : World} {K : Frag} {mg : Str → Option Value} {base : Heap}
theorem FnD.mono {j k : Nat} {x : Str} {st : Stmt} {ps : List Str} {m : List D → Sto → Res D} (F : FnD P w K mg base j x st ps m) (h : j ≤ k) : FnD P w K mg base k x st ps m :=
  let ⟨f, fd, a, b, c, d⟩ := F; ⟨f, fd, a, b, c, d.mono h⟩
theorem rg_start {F : Fx} {μ : List Addr} {H : Hp} {N : List Str} {vs : List V} {ds : List D} (r : RDs F μ H vs ds) : RG F μ H (L2.start N vs) (ds.map some ++ List.replicate (N.length - ds.length) none) := by
  refine ⟨by unfold L2.start; rw [List.length_append, List.length_append, List.length_map, List.length_map, List.length_replicate, List.length_replicate, r.length], fun i d e => ?_⟩
  by_cases h : i < ds.length
  · rw [List.getElem?_append_left (by rw [List.length_map]; exact h), List.getElem?_map] at e
    cases q : ds[i]? with
    | none => rw [q] at e; exact nomatch e
    | some d' =>
      rw [q] at e
      cases e
      obtain ⟨v, h1, h2⟩ := r.get q
      refine ⟨v, ?_, h2⟩
      unfold L2.start
      rw [List.getElem?_append_left (by rw [List.length_map, r.length]; exact h), List.getElem?_map, h1] <;> rfl
  · rw [List.getElem?_append_right (by rw [List.length_map]; omega), List.getElem?_replicate] at e
    split at e <;> cases e
theorem fnd_mk {x : Str} {st : Stmt} {f : Addr} {fd : FuncData} {N ps : List Str} {k np nN : Nat} {mb : MS} (hm : mg x = some (.ref f)) (F : Fun K x x st f fd) (B : Binds K fd ps []) (S : FnScope N ps (defScope st)) (hnp : ps.length = np) (hnN : N.length = nN)
    (hb : ∀ (cdv : Value) (A : Around) (outer : List Env) (s : Shared) (H : Hp) (E : XK), Room k (A.deeper (envOfC x (defScope st) s.heap.objs.size f cdv)) →
      DSs (cxOf (L2.CX P w) P w K mg base N x (defScope st) f cdv A outer s H E) (fun cls d _ H => E cls d H) (defBody st) mb) : FnD P w K mg base (k + 1) x st ps (mDef np nN mb) := by
  subst hnp hnN
  refine ⟨f, fd, hm, F, B, F.okX S (fun vs H Q E h => ?_) (fun cdv A outer s H vs Q E hr h => ?_)⟩
  · obtain ⟨ξ, μ, ds, S0, s0, r0, w0⟩ := h
    unfold mDef at w0
    by_cases c : ds.length = ps.length
    · rw [r0.length]; exact c
    · rw [if_neg c] at w0; exact w0.elim
  · obtain ⟨ξ, μ, ds, S0, s0, r0, w0⟩ := h
    obtain ⟨ts, pt, kt⟩ := hb cdv A outer s H E hr
    refine ⟨ts, pt, ?_⟩
    unfold mDef at w0
    by_cases c : ds.length = ps.length
    · rw [if_pos c] at w0
      refine kt ξ μ _ H _ S0 _ (rg_start r0) s0 ?_
      show WS' ⟨K, mg, ξ, w⟩ _ _ _ μ H
      rw [c]
      cases e : mb (ds.map some ++ List.replicate (N.length - ps.length) none) S0 with
      | nx ρ S' => rw [e] at w0; exact fun σ μ' H' u s g => w0 _ μ' H' u s .non
      | rt d S' => rw [e] at w0; exact w0
      | exc c fs ρ S' => rw [e] at w0; exact fun cls dd σ μ' H' u s g x => w0 cls dd μ' H' u s x
      | bk ρ S' => rw [e] at w0; exact w0.elim
      | ct ρ S' => rw [e] at w0; exact w0.elim
      | bad => rw [e] at w0; exact w0.elim
    · rw [if_neg c] at w0; exact w0.elim
/-- nothing is promised -/
theorem fnd_bad {x : Str} {st : Stmt} {f : Addr} {fd : FuncData} {ps : List Str} {k : Nat} (hm : mg x = some (.ref f)) (F : Fun K x x st f fd) (B : Binds K fd ps []) : FnD P w K mg base k x st ps (fun _ _ => .bad) :=
  ⟨f, fd, hm, F, B, ⟨fun vs H Q E h => (let ⟨_, _, _, _, _, _, w0⟩ := h; False.elim w0), fun A outer s H args us vs Q E hr he hb hv h => (let ⟨_, _, _, _, _, _, w0⟩ := h; False.elim w0)⟩⟩
end
/-! ### calls of defs -/
theorem vals_perm : ∀ (p : List Nat) {vs : List V} {us : List Value}, Vals vs us → Vals (p.filterMap (vs[·]?)) (p.filterMap (us[·]?))
  | [], _, _, _ => .nil
  | i :: p, vs, us, r => by
    rw [List.filterMap_cons, List.filterMap_cons]
    cases e : vs[i]? with
    | none =>
      rw [r.none_of e]
      exact vals_perm p r
    | some v =>
      obtain ⟨u, h1, h2⟩ := r.get e
      rw [h1]
      exact .cons h2 (vals_perm p r)
theorem rds_perm {F : Fx} {μ : List Addr} {H : Hp} : ∀ (p : List Nat) {vs : List V} {ds : List D}, RDs F μ H vs ds → RDs F μ H (p.filterMap (vs[·]?)) (p.filterMap (ds[·]?))
  | [], _, _, _ => .nil
  | i :: p, vs, ds, r => by
    rw [List.filterMap_cons, List.filterMap_cons]
    cases e : vs[i]? with
    | none =>
      have e' : ds[i]? = none := by
        rw [List.getElem?_eq_none_iff] at e ⊢
        rw [← r.length]; exact e
      rw [e']
      exact rds_perm p r
    | some v =>
      obtain ⟨d, h1, h2⟩ := r.getV e
      rw [h1]
      exact .cons h2 (rds_perm p r)
section
variable {X : Cx} {W : WX} {tg e a b c : Expr} {es : List Expr} {kws : List Keyword} {st : Stmt} {sts ts : List Stmt} {ma mb mc m : ME} {mr mk : MA} {m1 m2 : MS} {pos p p1 p2 p3 kpos : Pos} {nm : Option Str}
/-- f(e, ..) -/
theorem d_call {j k : Nat} {x : Str} {ps : List Str} {f : List D → Sto → Res D} (F : FnD X.prog X.w X.K X.mg X.base j x st ps f) (hr : Room k X.A) (tk : Takes X W) (ha : DA X W (e :: es) mr) (hj : j ≤ k := by decide) (hg : Gl X x := by rfl)
    (hdb : (x == ("__debug__" : Str)) = false := by decide) (he : starEach (e :: es) X.env = (false, eval e X.env) :: starEach es X.env := by rfl) (hpl : (backTo pos (starEach es X.env)).any (·.1) = false := by rfl) :
    DE X W (.Call (.Name x p) (e :: es) [] pos) (mCall f mr) := by
  obtain ⟨fa, fd, hm, Fu, B, G⟩ := F
  obtain ⟨ta, pa, ka⟩ := ha
  refine ⟨_, pe_callSD G (hr.mono hj) hg hm Fu.kp B .nil (fun σ => passAt tk σ) pa hdb he hpl, fun ξ μ σ H ρ S Q g s h => ka ξ μ σ H ρ S _ g s (WR.bind h fun xs S1 vs μ1 H1 u1 s1 r1 h1 => ?_)⟩
  rw [List.append_nil]
  exact ⟨ξ, μ1, xs, S1, s1, r1, h1⟩
theorem dk_nil : DK X W [] mNil := ⟨_, pk_nil, fun ξ μ σ H ρ S Q g s h => h [] μ H .refl s .nil⟩
theorem dk_cons (ha : DE X W e ma) (hr : DK X W kws mr) : DK X W (⟨nm, e, kpos⟩ :: kws) (mCons ma mr) := by
  obtain ⟨ta, pa, ka⟩ := ha
  obtain ⟨tr, pr, kr⟩ := hr
  refine ⟨_, pk_cons pa pr, fun ξ μ σ H ρ S Q g s h => ka ξ μ σ H ρ S _ g s (WR.bind h fun x S1 v μ1 H1 u1 s1 r1 h1 => ?_)⟩
  refine kr ξ μ1 σ H1 ρ S1 _ (g.up u1) s1 (WR.bind h1 fun xs S2 vs μ2 H2 u2 s2 r2 h2 => ?_)
  exact h2 _ μ2 H2 .refl s2 (.cons (r1.up u2) r2)
/-- f(e, .., k = v, ..): perm puts the written values, then the keywords', in the parameters' order; n, q: how many of each -/
def mCallK (f : List D → Sto → Res D) (n q : Nat) (perm : List Nat) (a k : MA) : ME := fun ρ S => (a ρ S).bind fun xs S1 => (k ρ S1).bind fun zs S2 => if xs.length = n ∧ zs.length = q then f (perm.filterMap ((xs ++ zs)[·]?)) S2 else .bad
/-! ### raise X('..') -/
structure XcOk (K : Frag) (mg : Str → Option Value) (x : Str) : Prop where
  ex : ∃ C : Addr, mg x = some (.ref C) ∧ PySem.W.excIn K C [.type "ValueError", .type "Exception", .type "BaseException", .type "object"] "ValueError.__new__" = true ∧ PySem.W.keepIn K (.ref C) = true ∧ PySem.W.subIn K (.ref C) (.type "BaseException") = some true ∧ PySem.W.typeIn K (.ref C) = some (.type "type")
def mRaise (c : Str) : MS := fun ρ S => .exc c [] ρ S
theorem ds_raise {x msg : Str} {jj : Nat} {pos2 : Pos} (C : XcOk X.K X.mg x) (hc : X.calm = true) (tk : Takes X W) (hg : Gl X x := by rfl) (hdb : (x == ("__debug__" : Str)) = false := by decide) :
    DS X W (.Raise (some (.Call (.Name x p) [.Constant (.str msg) jj p2] [] pos)) none pos2) (mRaise x) := by
  obtain ⟨C, h1, h2, h3, h4, h5⟩ := C
  exact ⟨_, ps_raise hc tk (pmk_own PySem.F.excBase_ValueError h2 h1 h3 (raises_own h4 h5) hg hdb), fun ξ μ σ H ρ S D g s h => h _ none σ μ H .refl s g ⟨h1, .inl ⟨rfl, rfl⟩⟩⟩
/-- x += e -/
def mAug (i : Nat) (f : Int → Int → Int) (m : ME) : MS := fun ρ S => match ρ[i]? with
  | some (some (.int a)) => ofRes (m ρ S) ρ fun d S1 => match d with
    | .int b => .nx (ρ.set i (some (.int (f a b)))) S1
    | _ => .bad
  | _ => .bad
end
end Dm
-- text DmIter
namespace Dm
open PySem L2 PySem.Spec PyProof.Rows
open PySem.W (Frag)
/-! ### enumerate of a tuple -/
theorem enumNew1 {v : Value} {o : Obj} {Hh : Heap → Prop} (B : Begins v o Hh) :
    Meets (Builtin.«enumerate.__new__» ⟨[.type "enumerate", v], []⟩) (fun _ R s => Hh s.heap ∧
      R (.ok (.ret (.ref (s.heap.push o).objs.size))) { s with heap := (s.heap.push o).push { cls := .type "enumerate", data := .fields #[.none, .bool false, .ref s.heap.objs.size, rawInt 0, .none, .none] } }) :=
  .of_wp fun prog w A R s hh => by
    obtain ⟨hp, g, d, tk, os⟩ := s
    obtain ⟨ha, hb⟩ := hh
    have hsub := sub_enumerate
    have q1 : ∀ {A' : Around} {E : Value → Shared → Prop} {Q : Value → Shared → Prop}, Q (.ref hp.objs.size) ⟨hp.push o, g, d, tk, os⟩ → wpAny (model prog w) A' (pyIter v) Q E ⟨hp, g, d, tk, os⟩ :=
      fun q => B.iter prog w _ _ ⟨hp, g, d, tk, os⟩ _ ha q
    wp_walk using q1
    refine wpAny_stack_any fun st => wpAny_pure ?_
    split
    · rename_i c _ _ _ _ _
      cases (c == Value.type "enumerate") <;> (wp_walk using q1; exact ⟨_, rfl, hb⟩)
    · (wp_walk using q1); exact ⟨_, rfl, hb⟩
theorem enumBegin1 {prog : Program} {w : World} {A : Around} {E : Value → Shared → Prop} {s : Shared} {v : Value} {o : Obj} {Hh : Heap → Prop} {Q : Value → Shared → Prop} (B : Begins v o Hh) (ha : Hh s.heap)
    (k : ∀ h', IsEnum h' (s.heap.objs.size + 1) s.heap.objs.size 0 .none → h'.get? s.heap.objs.size = some o → (∀ b u, s.heap.get? b = some u → h'.get? b = some u) → Q (.ref (s.heap.objs.size + 1)) { s with heap := h' }) :
    wpAny (model prog w) A (call (.type "enumerate") [v]) Q E s := by
  refine callType_new F.called_enumerate (by decide) (F.typeCall_enumerate_1 _) (F.newCall_enumerate_1 _) (fun obj => F.args_object_init_2 obj _) F.entry_enumerate_new (enumNew1 B) ⟨ha, ?_⟩
  have z : (s.heap.push o).objs.size = s.heap.objs.size + 1 := Heap.size_push ..
  have en := Heap.get?_push_size (s.heap.push o) (o := { cls := .type "enumerate", data := .fields #[.none, .bool false, .ref s.heap.objs.size, rawInt 0, .none, .none] }) rfl
  rw [z] at en
  show _ ∧ _
  rw [z]
  exact ⟨⟨_, en, rfl⟩, k _ en (Heap.get?_push_of_some _ (Heap.get?_push_size _ B.free)) fun b u q => Heap.get?_push_of_some _ (Heap.get?_push_of_some _ q)⟩
def IteT (K : Frag) (a : Addr) : It :=
  ⟨fun i H => ∃ (xs : List V) (x : V), SqT K H a xs ∧ xs[i]? = some x, fun i H v H' => ∃ T x, v = .ref T ∧ H T = none ∧ H' = upd H T (.tup [.int (i : Nat), x]) ∧ ∀ xs, SqT K H a xs → xs[i]? = some x, fun i H => ∃ xs : List V, SqT K H a xs ∧ xs.length ≤ i⟩
theorem turn_enumT {P : Program} {w : World} {K : Frag} {elts : List Expr} {kk : Nat} {tpos : Pos} (a e it : Addr) (hne : e ≠ it) :
    Turn P w K (.Tuple elts kk tpos) (IteT K a) [e, it] e (fun i h => (∃ old, IsEnum h e it ((i : Nat) : Int) old) ∧ h.IsTupleIter it a i) where
  mem := List.mem_cons_self
  obj := fun i h st b hb => by
    obtain ⟨⟨old, he⟩, ⟨o, ho, hc, hd⟩⟩ := st
    rcases List.mem_cons.mp hb with z | z
    · rw [z]; exact ⟨_, he, fun v q => nomatch q⟩
    · rw [List.mem_singleton.mp z]; exact ⟨o, ho, fun v q => by rw [hd] at q; cases q⟩
  keep := fun i h h' st k => by
    obtain ⟨⟨old, he⟩, ⟨o, ho, r⟩⟩ := st
    exact ⟨⟨old, k e List.mem_cons_self _ he⟩, ⟨o, k it (List.mem_cons_of_mem _ List.mem_cons_self) o ho, r⟩⟩
  item := by
    intro X hP hw hK hc i pins s σ H E I hf st hg
    subst hP hw hK
    obtain ⟨⟨old, he⟩, hit⟩ := st
    obtain ⟨xs, x, hq, hx⟩ := hg
    obtain ⟨its, rv, ht, hz⟩ := I.tuple hq
    obtain ⟨u, hu, ru⟩ := rv.get hx
    have hel : e < s.heap.objs.size := Heap.lt_size he
    have hil : it < s.heap.objs.size := by obtain ⟨_, q, _⟩ := hit; exact Heap.lt_size q
    have nai : a ≠ it := by
      rintro rfl
      obtain ⟨o1, q1, c1, _⟩ := ht
      obtain ⟨o2, q2, c2, _⟩ := hit
      rw [q1] at q2; cases q2
      rw [c1] at c2
      exact absurd (Value.type.inj c2) (by decide)
    have nae : e ∉ [it, a] := fun z => by
      rcases List.mem_cons.mp z with z | z
      · exact hne z
      · rw [List.mem_singleton.mp z] at he
        obtain ⟨o1, q1, c1, _⟩ := ht
        have he' : s.heap.get? a = some _ := he
        rw [q1] at he'; cases he'
        exact absurd (Value.type.inj c1) (by decide)
    have D := Draws.tuple (prog := X.prog) (w := X.w) (A := X.A.in1) (by exact I.ok.hd hc) it a nai its.toArray
    have hlt : i < its.toArray.size := by
      have q := (List.getElem?_eq_some_iff.mp hu).1
      rw [List.size_toArray]; exact q
    refine wpAny_pyNext_enum_itemD D he ⟨hit, ht⟩ hlt hne nae fun x' h' tk hx' ho hit' hT hsz hk => ?_
    have ex : x' = u := by
      have hx'' : its.toArray[i]? = some x' := hx'
      rw [List.getElem?_toArray, hu] at hx''
      exact (Option.some.inj hx'').symm
    subst ex
    refine ⟨_, rfl, wpAny_letOwnedTupleGo_enum (s := { s with heap := h', toks := tk + 1 }) ho fun h'' he' sb => ?_⟩
    have hT2 : h''.get? s.heap.objs.size = some { cls := .type "tuple", data := .seq #[.int i tk, x'] } := (sb.2 _ (Nat.ne_of_gt hel)).trans hT
    have new : ObjOk X.prog X.w (upd H s.heap.objs.size (.tup [.int (i : Nat), x])) h'' s.heap.objs.size (.tup [.int (i : Nat), x]) :=
      ⟨by rw [sizeLine_eq]; show 2 ≤ 16777216; decide, [.int i tk, x'], .cons ⟨_, rfl⟩ (.cons ru .nil), ⟨_, hT2, rfl, _, rfl⟩⟩
    have I1 : Inv X pins σ (upd H s.heap.objs.size (.tup [.int (i : Nat), x])) { s with heap := h'', toks := tk + 1 } :=
      I.turnedNew (ch := [e, it]) (fun b ob hb q => (sb.2 b fun z => hb (by rw [z]; exact List.mem_cons_self)).trans (hk b ob (fun z => hb (by rw [z]; exact List.mem_cons_self)) (fun z => hb (by rw [z]; exact List.mem_cons_of_mem _ List.mem_cons_self)) q)) hf (Nat.le_refl _) new
    refine ⟨.ref s.heap.objs.size, _, I1, rfl, ⟨_, x, rfl, I.hok.fresh (Nat.le_refl _), rfl, fun ys hy => by rw [I.tuple_inj hy hq]; exact hx⟩, ⟨⟨x', ?_⟩, ?_⟩, fun b hb => ?_⟩
    · have e1 : ((i + 1 : Nat) : Int) = (i : Int) + 1 := by omega
      rw [e1]; exact he'
    · obtain ⟨⟨o1, q1, r1⟩, _⟩ := hit'
      exact ⟨o1, (sb.2 it hne.symm).trans q1, r1⟩
    · have hb' : b < s.heap.objs.size := by
        rcases List.mem_cons.mp hb with z | z
        · rw [z]; exact hel
        · rw [List.mem_singleton.mp z]; exact hil
      rw [upd_ne (Nat.ne_of_lt hb')]
      exact (hf b hb).1
  done := by
    intro X hP hw hK hc i pins s σ H E I hf st hg
    subst hP hw hK
    obtain ⟨⟨old, he⟩, hit⟩ := st
    obtain ⟨xs, hq, hx⟩ := hg
    obtain ⟨its, rv, ht, hz⟩ := I.tuple hq
    obtain ⟨f0, f1, f2, f3, f4, f5⟩ := hf it (List.mem_cons_of_mem _ List.mem_cons_self)
    have hl := rv.length
    have nx : its.toArray[i]? = none := by
      rw [List.getElem?_toArray]
      exact List.getElem?_eq_none_iff.mpr (by omega)
    have D : Draws X.prog X.w X.A.in1 it [it, a] i (fun _ _ => False) (fun j hh => j = i ∧ hh.IsTupleIter it a i ∧ hh.IsTuple a its.toArray) :=
      { live := fun j hh z => let ⟨o, ho, _⟩ := z.2.1; ⟨o, ho⟩
        frame := fun j hh h' z k => by
          obtain ⟨z1, ⟨o1, e1, r1⟩, ⟨o2, e2, r2⟩⟩ := z
          exact ⟨z1, ⟨o1, k it List.mem_cons_self o1 e1, r1⟩, ⟨o2, k a (List.mem_cons_of_mem _ List.mem_cons_self) o2 e2, r2⟩⟩
        item := fun j s Q E hj z => absurd z.1 (Nat.ne_of_lt hj)
        done := fun s Q E z kE => wpAny_nextOf_tuple_end (I.ok.hd hc) z.2.1 z.2.2 nx kE }
    exact wpAny_pyNext_enum_endD D he ⟨rfl, hit, ht⟩ fun h' eb => ⟨rfl, I.turned (t' := s.toks) (fun b o hb q => eb b o hb q) f0 f1 f3 f4 f5⟩
  self := fun A i s Q E st k => let ⟨⟨_, he⟩, _⟩ := st; wpAny_pyIter_enum he k
def iEnumT (K : Frag) (ta : TA) : TI := fun σ H R => ta σ H fun vs H1 => ∃ a xs, vs = [.ref a] ∧ SqT K H1 a xs ∧ R (IteT K a) H1
theorem pi_enumT {X : Cx} {e : Expr} {ta : TA} {p pos tpos : Pos} {elts : List Expr} {kk : Nat} (hg : Gl X "enumerate") (hm : X.mg "enumerate" = none) (ha : PA X [e] ta) (hs : starEach [e] X.env = [(false, eval e X.env)] := by rfl) :
    PI X (.Tuple elts kk tpos) (.Call (.Name "enumerate" p) [e] [] pos) (iEnumT X.K ta) := by
  refine ⟨fun pins s σ H R I hw => ?_⟩
  refine Call_ (ld_blt I hg hm boot_enumerate (PyProof.Rows.callWith_type1 (thn (ha.run pos pins s σ H _ I hw) fun us s1 hh => ?_) hs rfl))
  obtain ⟨vs, H1, I1, r1, a, xs, ex, hq, q⟩ := hh
  subst ex
  cases r1 with
  | cons r rr =>
    cases rr
    cases r
    obtain ⟨its, rv, ht, hz⟩ := I1.tuple hq
    refine enumBegin1 (begins_tuple a its.toArray) ht fun h' he ho hk => wpAny_pyIter_enum he ?_
    have I2 : Inv X pins σ H1 { s1 with heap := h' } := I1.kept (t' := s1.toks) hk
    refine ⟨s1.heap.objs.size + 1, [s1.heap.objs.size + 1, s1.heap.objs.size], _, _, H1, rfl, I2, turn_enumT a (s1.heap.objs.size + 1) s1.heap.objs.size (Nat.succ_ne_self _), ⟨⟨.none, he⟩, ⟨_, ho, rfl, rfl⟩⟩, fun b hb => ?_, q⟩
    have hle : s1.heap.objs.size ≤ b := by
      rcases List.mem_cons.mp hb with z | z
      · rw [z]; exact Nat.le_succ _
      · rw [List.mem_singleton.mp z]; exact Nat.le_refl _
    exact I1.fpOk hle (I1.hok.fresh hle)
/-- enumerate(v): a tuple, a list that stands still -/
def enumD (ds : List D) : List D := ds.zipIdx.map fun p => .tup [.int (p.2 : Nat), p.1]
theorem enumD_length {ds : List D} : (enumD ds).length = ds.length := by unfold enumD; rw [List.length_map, List.length_zipIdx]
theorem enumD_get {ds : List D} {i : Nat} {d : D} (h : (enumD ds)[i]? = some d) : ∃ x, ds[i]? = some x ∧ d = .tup [.int (i : Nat), x] := by
  unfold enumD at h
  rw [List.getElem?_map, List.getElem?_zipIdx] at h
  cases q : ds[i]? with
  | none => rw [q] at h; exact nomatch h
  | some x =>
    rw [q] at h
    refine ⟨x, rfl, ?_⟩
    have h' := Option.some.inj h
    rw [← h', Nat.zero_add]
def iEnumS (m : ME) : MA := fun ρ S => (m ρ S).bind fun d S1 => match d with
  | .tup ds => .ok (enumD ds) S1
  | .lst ds => .ok (enumD ds) S1
  | _ => .bad
section
variable {X : Cx} {W : WX} {tg e a b c : Expr} {m : ME} {pos p tpos : Pos}
theorem di_enum {elts : List Expr} {kk : Nat} (h : DE X W e m) (hm : X.mg "enumerate" = none) (hg : Gl X "enumerate" := by rfl) (hs : starEach [e] X.env = [(false, eval e X.env)] := by rfl)
    (hs1 : starEach [e] X.env = (false, eval e X.env) :: starEach [] X.env := by rfl) : DI X W (.Tuple elts kk tpos) (.Call (.Name "enumerate" p) [e] [] pos) (iEnumS m) := by
  obtain ⟨te, pe, k⟩ := h
  refine ⟨_, piOr (piSized (pi_enumT hg hm (pa_cons pe pa_nil hs1) hs)) (piSized (pi_enum hg hm (pa_cons pe pa_nil hs1) hs)), fun ξ μ σ H ρ S R g s h => ?_⟩
  cases e1 : m ρ S with
  | bad => unfold iEnumS at h; rw [e1] at h; exact h.elim
  | exc c fs S1 =>
    unfold iEnumS at h; rw [e1] at h
    refine .inl (k ξ μ σ H ρ S _ g s ?_)
    rw [e1]; exact h
  | ok d S1 =>
    cases d with
    | tup ds =>
      refine .inl (k ξ μ σ H ρ S _ g s ?_)
      unfold iEnumS at h
      rw [e1] at h ⊢
      intro v μ1 H1 u1 s1 r1
      cases r1 with
      | @tup a xs _ f r =>
        refine ⟨a, xs, rfl, f.sq, fun z => h _ μ1 H1 u1 s1 ⟨by rw [enumD_length, ← r.length]; exact z a xs (.inr f.sq), fun F' μ' H' S' i ex u s hi => ⟨fun d hd => ?_, fun hi => ?_⟩⟩⟩
        · obtain ⟨x, hx, rfl⟩ := enumD_get hd
          obtain ⟨v, h1, h2⟩ := r.get hx
          refine ⟨⟨xs, v, (f.up u).sq, h1⟩, fun y H'' yy => ?_⟩
          obtain ⟨T, x', e2, e3, e4, e5⟩ := yy
          subst e2 e4
          have q := e5 xs (f.up u).sq
          rw [h1] at q; cases q
          exact ⟨.fresh e3, s.fresh e3, .tup (.inl ⟨.inl upd_same, s.out e3, s.outX e3⟩) (.cons (.int _) (.cons ((h2.mv (.ext ex u)).up (.fresh e3)) .nil))⟩
        · rw [enumD_length] at hi
          exact ⟨xs, (f.up u).sq, by rw [r.length, hi]; exact Nat.le_refl _⟩
    | lst ds =>
      refine .inr (k ξ μ σ H ρ S _ g s ?_)
      unfold iEnumS at h
      rw [e1] at h ⊢
      intro v μ1 H1 u1 s1 r1
      cases r1 with
      | @lst a xs _ f r =>
        refine ⟨a, xs, rfl, f.sq, fun z => h _ μ1 H1 u1 s1 ⟨by rw [enumD_length, ← r.length]; exact z a xs (.inl f.sq), fun F' μ' H' S' i ex u s hi => ⟨fun d hd => ?_, fun hi => ?_⟩⟩⟩
        · obtain ⟨x, hx, rfl⟩ := enumD_get hd
          obtain ⟨v, h1, h2⟩ := r.get hx
          refine ⟨⟨xs, v, (f.up u).sq, h1⟩, fun y H'' yy => ?_⟩
          obtain ⟨T, x', e2, e3, e4, e5⟩ := yy
          subst e2 e4
          have q := e5 xs (f.up u).sq
          rw [h1] at q; cases q
          exact ⟨.fresh e3, s.fresh e3, .tup (.inl ⟨.inl upd_same, s.out e3, s.outX e3⟩) (.cons (.int _) (.cons ((h2.mv (.ext ex u)).up (.fresh e3)) .nil))⟩
        · rw [enumD_length] at hi
          exact ⟨xs, (f.up u).sq, by rw [r.length, hi]; exact Nat.le_refl _⟩
    | _ => unfold iEnumS at h; rw [e1] at h; exact h.elim
end
end Dm
-- text DmRev
namespace Dm
open PySem L2 PySem.Spec PyProof.Rows
open PySem.W (Frag)
/-! ### t[::-1] of a tuple -/
section
variable {prog : Program} {w : World} {A : Around} {E : Value → Shared → Prop} {s : Shared}
theorem backPlaces (n : Nat) : Builtin.Slice.sliceAdjust none none (-1) (n : Int) = ((n : Int) - 1, -1) ∧ Builtin.Slice.slicePlaces ((n : Int) - 1) (-1) (-1) = n := by
  refine ⟨rfl, ?_⟩
  unfold Builtin.Slice.slicePlaces
  rw [if_neg (by decide)]
  by_cases hn : n = 0
  · subst hn; decide
  · rw [if_pos (by omega)]
    have e : ((n : Int) - 1 - -1 - 1) / (- -1) = (n : Int) - 1 := by
      rw [show (- -1 : Int) = 1 from rfl, Int.ediv_one]; omega
    rw [e]; omega
theorem fm_congr {α β : Type} {f g : α → Option β} : ∀ l : List α, (∀ x ∈ l, f x = g x) → l.filterMap f = l.filterMap g
  | [], _ => rfl
  | x :: l, h => by rw [List.filterMap_cons, List.filterMap_cons, h x List.mem_cons_self, fm_congr l fun y hy => h y (List.mem_cons_of_mem _ hy)]
theorem backPick (xs : Array Value) : ((List.range xs.size).filterMap fun (m : Nat) => xs[(((xs.size : Nat) : Int) - 1 + (m : Int) * -1).toNat]?) = xs.toList.reverse := by
  refine List.ext_getElem? fun k => ?_
  have e : ((List.range xs.size).filterMap fun (m : Nat) => xs[(((xs.size : Nat) : Int) - 1 + (m : Int) * -1).toNat]?) = (List.range xs.size).map fun m => xs.toList.reverse.getD m .none := by
    rw [← List.filterMap_eq_map]
    refine fm_congr _ fun m hm => ?_
    have hl : m < xs.size := List.mem_range.mp hm
    have e1 : (((xs.size : Nat) : Int) - 1 + (m : Int) * -1).toNat = xs.size - 1 - m := by omega
    rw [e1]
    have hr : m < xs.toList.reverse.length := by rw [List.length_reverse, Array.length_toList]; exact hl
    have h2 : xs.size - 1 - m < xs.size := by omega
    rw [Array.getElem?_eq_getElem h2]
    show some _ = some (xs.toList.reverse.getD m .none)
    rw [List.getD_eq_getElem?_getD, List.getElem?_eq_getElem hr, List.getElem_reverse]
    simp
  rw [e, List.getElem?_map]
  by_cases hk : k < xs.size
  · rw [List.getElem?_range hk]
    have hr : k < xs.toList.reverse.length := by rw [List.length_reverse, Array.length_toList]; exact hk
    rw [List.getElem?_eq_getElem hr]
    show some (xs.toList.reverse.getD k .none) = _
    rw [List.getD_eq_getElem?_getD, List.getElem?_eq_getElem hr] <;> rfl
  · rw [List.getElem?_eq_none (by rw [List.length_range]; omega), List.getElem?_eq_none (by rw [List.length_reverse, Array.length_toList]; omega)] <;> rfl
theorem backSlice {t sl : Addr} {items : Array Value} {vl vu vs : Value} {Q : Value → Shared → Prop} (ht : IsTup s.heap t items) (hs : s.heap.IsSliceOf sl vl vu vs) (pl : IsPart vl none) (pu : IsPart vu none) (ps : IsPart vs (some (-1)))
    (h : Q (.ref s.heap.objs.size) { s with heap := s.heap.push { cls := .type "tuple", data := .seq items.toList.reverse.toArray } }) (hsz : items.size ≤ sizeLine) : wpAny (model prog w) A (getItem (.ref t) (.ref sl)) Q E s := by
  have fits : sizeOk (.seq items.toList.reverse.toArray) := by
    show items.toList.reverse.toArray.size ≤ sizeLine
    rw [List.size_toArray, List.length_reverse, Array.length_toList]; exact hsz
  obtain ⟨os, hos, hcs, hds⟩ := id hs
  have tS : s.TypeIs (.ref sl) "slice" := ⟨os, hos, hcs⟩
  unfold getItem
  try with_reducible refine wpAny_holding ?_
  first | refine wpAny_bind (wpAny_pure ?_) | skip
  refine wpAny_bind (wpAny_sequenceKey ht.typeIs (by decide) ?_)
  refine wpAny_bind (wpAny_callSpecial?_slot (name := Str.ofString "__getitem__") ht.typeIs PyProof.Rows.slot_tuple_getitem (wpAny_call_entry PyProof.Rows.slot_tuple_getitem ht.typeIs entry_tuple_getitem ?_ (args_tuple_getitem _ _)))
  show wpAny _ _ (Builtin.Tuple.tupleItemsOf (.ref t) >>= _) _ _ s
  refine wpAny_bind (tupleItemsOf_ ht (wpAny_bind (wpAny_typeOf tS ?_)))
  rw [if_pos (by decide)]
  have app : ∀ {Q' : Int × Int × Nat → Shared → Prop} {E' : Value → Shared → Prop} {A' : Around}, Q' ((items.size : Int) - 1, -1, items.size) s → wpAny (model prog w) A' (Builtin.Slice.sliceApplied (.ref sl) (pure (items.size : Int))) Q' E' s := fun {Q' E' A'} hq => by
    unfold Builtin.Slice.sliceApplied Builtin.Slice.sliceFields
    refine wpAny_bind (wpAny_bind (wpAny_field hos hds (x := vl) rfl (wpAny_bind (wpAny_field hos hds (x := vu) rfl (wpAny_bind (wpAny_field hos hds (x := vs) rfl (wpAny_pure ?_)))))))
    refine wpAny_bind (HT.slicePart_ ps ?_)
    show wpAny _ _ (if ((-1 : Int) == 0) = true then _ else _) _ _ s
    rw [if_neg (by decide)]
    refine wpAny_bind (HT.slicePart_ pl (wpAny_bind (HT.slicePart_ pu (wpAny_bind (wpAny_pure ?_)))))
    show wpAny _ _ (match Builtin.Slice.sliceAdjust none none (-1) (items.size : Int) with | (lo, hi) => pure (lo, (-1 : Int), Builtin.Slice.slicePlaces lo hi (-1))) _ _ s
    rw [(backPlaces items.size).1]
    show wpAny _ _ (pure ((items.size : Int) - 1, (-1 : Int), Builtin.Slice.slicePlaces ((items.size : Int) - 1) (-1) (-1))) _ _ s
    rw [(backPlaces items.size).2]
    exact wpAny_pure hq
  refine wpAny_bind (app ?_)
  have no : ¬ ((((items.size : Int) - 1) == 0 && (-1 : Int) == 1 && items.size == items.size) = true) := by
    intro q
    rw [Bool.and_eq_true, Bool.and_eq_true] at q
    exact absurd q.1.2 (by decide)
  show wpAny _ _ (if (((items.size : Int) - 1) == 0 && (-1 : Int) == 1 && items.size == items.size) = true then _ else _) _ _ s
  rw [if_neg no]
  rw [backPick]
  first
    | exact wpAny_bind (m := Builtin.Tuple.tupleExact _) (wpAny_newObj_type (wpAny_pure ⟨_, rfl, wpAny_pure h⟩) fits)
    | exact wpAny_bind (m := Builtin.Tuple.tupleExact _) (wpAny_newObj_type (wpAny_bind (wpAny_pure (wpAny_pure ⟨_, rfl, wpAny_pure h⟩))) fits)
    | exact wpAny_bind (wpAny_bind (m := Builtin.Tuple.tupleExact _) (wpAny_newObj_type (wpAny_pure (wpAny_pure ⟨_, rfl, wpAny_pure h⟩)) fits))
    | exact wpAny_bind (wpAny_bind (m := Builtin.Tuple.tupleExact _) (wpAny_newObj_type (wpAny_pure ⟨_, rfl, wpAny_pure h⟩) fits))
end
def tBackT (K : Frag) (te : TE) : TE := fun σ H Q => te σ H fun x H1 => ∃ a xs, x = .ref a ∧ SqT K H1 a xs ∧ ∀ p, H1 p = none → Q (.ref p) (upd H1 p (.tup xs.reverse))
section
variable {X : Cx} {W : WX} {e : Expr} {m : ME} {te : TE} {k : Nat} {p1 p2 p3 pos : Pos}
theorem pe_backT (he : PE X e te) : PE X (.Subscript e (.Slice none none (some (.UnaryOp .USub (.Constant (.int 1) k p1) p2)) p3) pos) (tBackT X.K te) := by
  refine ⟨fun pins s σ H Q I hw => ?_⟩
  refine Subscript_ (thn (he.run pins s σ H _ I hw) fun v s1 hh => ?_)
  obtain ⟨x, H1, I1, r1, a, xs, ex, hx, q⟩ := hh
  subst ex
  cases r1
  have stp : PO X (some (.UnaryOp .USub (.Constant (.int 1) k p1) p2)) (tPart (tUn (rU fun i => .int (-i)) (tC (.int 1)))) := po_some (pe_un un_neg pe_int)
  refine wpAny_Slice (thn (po_none.run pins s1 σ H1 (fun o H2 => o = none ∧ H2 = H1) I1 ⟨rfl, rfl⟩) fun vl s2 hh => ?_)
  obtain ⟨l, H2, I2, pl, el, e2⟩ := hh
  subst el e2
  refine thn (po_none.run pins s2 σ H2 (fun o H3 => o = none ∧ H3 = H2) I2 ⟨rfl, rfl⟩) fun vu s3 hh => ?_
  obtain ⟨u, H3, I3, pu, eu, e3⟩ := hh
  subst eu e3
  refine thn (stp.run pins s3 σ H3 (fun o H4 => o = some (-1) ∧ H4 = H3) I3 ⟨1, rfl, -1, rfl, rfl, rfl⟩) fun vs s4 hh => ?_
  obtain ⟨o, H4, I4, ps, eo, e4⟩ := hh
  subst eo e4
  have I5 : Inv X pins σ H4 { s4 with heap := s4.heap.push { cls := .type "slice", data := .fields #[vl, vu, vs] } } := I4.kept (t' := s4.toks) fun b ob q => Heap.get?_push_of_some _ q
  obtain ⟨its, r, ht, hz⟩ := I5.tuple hx
  have hlen := r.length
  show wpAny (model X.prog X.w) X.A (subscriptTail e (.Slice none none (some (.UnaryOp .USub (.Constant (.int 1) k p1) p2)) p3) (.ref a) (.ref s4.heap.objs.size)) (EP X pins σ Q) X.xe { s4 with heap := s4.heap.push { cls := .type "slice", data := .fields #[vl, vu, vs] } }
  refine tail_any (ops := [.ref a, .ref s4.heap.objs.size]) ht.typeIs (PyProof.Rows.slot_tuple_getitem.lookup) ?_ (by with_unfolding_all rfl)
  refine backSlice ht (Heap.IsSliceOf.new _ vl vu vs) pl pu ps ?_ (by rw [List.size_toArray]; omega)
  refine ⟨.ref _, _, I5.laid (t' := s4.toks) (o := .tup xs.reverse) (fun b ob q => Heap.get?_push_of_some _ q) (Nat.le_refl _) ?_, rfl, q _ (I5.hok.fresh (Nat.le_refl _))⟩
  exact ⟨by rw [List.length_reverse]; exact hz, its.reverse, r.reverse, ⟨_, Heap.get?_push_size _ rfl, rfl, _, rfl⟩⟩
def mBack (m : ME) : ME := fun ρ S => (m ρ S).bind fun x S1 => match x with
  | .tup ds => .ok (.tup ds.reverse) S1
  | _ => .bad
theorem d_back (h : DE X W e m) : DE X W (.Subscript e (.Slice none none (some (.UnaryOp .USub (.Constant (.int 1) k p1) p2)) p3) pos) (mBack m) := by
  obtain ⟨te, pe, ke⟩ := h
  refine ⟨_, pe_backT pe, fun ξ μ σ H ρ S Q g s h => ke ξ μ σ H ρ S _ g s (WR.bind h fun x S1 v μ1 H1 u1 s1 r1 h1 => ?_)⟩
  cases r1 with
  | @tup a xs ds f r =>
    exact ⟨a, xs, rfl, f.sq, fun p hp => h1 _ μ1 _ (.fresh hp) (s1.fresh hp) (.tup (.inl ⟨.inl upd_same, s1.out hp, s1.outX hp⟩) (r.reverse.up (.fresh hp)))⟩
  | _ => exact h1.elim
end
end Dm
-- text DmEnd
namespace Dm
open PySem L2 PySem.Spec PyProof.Rows
open PySem.W (Frag)
theorem d_fold {X : Cx} {W : WX} {e : Expr} {m : ME} {d : D} (h : DE X W e m) (hm : ∀ ρ S, m ρ S = .ok d S) : DE X W e (mK d) := by
  have q : m = mK d := funext fun ρ => funext fun S => hm ρ S
  rw [← q]; exact h
def LawTrue (m : List D → Sto → Res D) : Prop := ∀ ns : List Int, ns.length ≤ 63 → ∃ S', m [.lst (ns.map .int)] [] = .ok (.bl true) S'
def spLaw (K : Frag) : Sp := fun vs H Q _ => ∃ (a : Addr) (ns : List Int), vs = [.ref a] ∧ SqL K H a (ns.map V.int) ∧ ns.length ≤ 63 ∧ ∀ H', Q (.bl true) H'
section
variable {P : Program} {w : World} {K : Frag} {mg : Str → Option Value} {base : Heap}
theorem rds_ints {F : Fx} {μ : List Addr} {H : Hp} : ∀ ns : List Int, RDs F μ H (ns.map V.int) (ns.map D.int)
  | [] => .nil
  | n :: ns => .cons (.int n) (rds_ints ns)
theorem law_ok {x sp : Str} {st : Stmt} {f : Addr} {fd : FuncData} {k : Nat} {m : List D → Sto → Res D} (hm : mg x = some (.ref f)) (F : Fun K x x st f fd) (G : FnD P w K mg base k x st [sp] m) (h : LawTrue m) :
    FnOk P w K mg base (L2.CX P w) k f fd [sp] (spLaw K) := by
  obtain ⟨f', fd', hm', F', B', G'⟩ := G
  rw [hm] at hm'
  cases hm'
  have e : fd = fd' := by
    obtain ⟨oc, od, kV, doc, pm, an, cdv, ct, osl, e1, lk, hcd⟩ := F.ex
    obtain ⟨oc', od', kV', doc', pm', an', cdv', ct', osl', e1', lk', hcd'⟩ := F'.ex
    rw [lk] at lk'
    have q := Option.some.inj lk'
    injection q with q1 q2 q3 q4
    injection q3
  subst e
  refine G'.imp fun vs H Q E hh => ?_
  obtain ⟨a, ns, rfl, hS, hl, q⟩ := hh
  obtain ⟨S', e⟩ := h ns hl
  refine ⟨[], [], [.lst (ns.map .int)], [], ⟨rfl, .nil, (fun n a c e _ => nomatch e), (fun a h => nomatch h)⟩, .cons (.lst ?_ (rds_ints ns)) .nil, ?_⟩
  · exact hS.imp (fun z => ⟨z, List.not_mem_nil, List.not_mem_nil⟩) id
  · rw [e]
    intro v μ' H' u s r
    cases r
    exact q H'
theorem cx_no {P : Program} {w : World} {H : Hp} {s s' : Shared} {e : Value} (z : L2.CX P w [] H s (fun _ _ _ => False) e s') : False := by
  obtain ⟨_, _, _, _, _, _, _, _, _, _, _, _, z⟩ := z
  exact z
end
end Dm
-- text DmMore
namespace Dm
open PySem L2
open PySem.W (Frag)
section
variable {X : Cx} {W : WX} {tg e a b c : Expr} {es : List Expr} {ma mb mc m : ME} {pos p p1 p2 p3 : Pos}
/-! ### a list some times -/
def mRepL (a : MA) (b : ME) : MA := fun ρ S => (a ρ S).bind fun xs S1 => (b ρ S1).bind fun y S2 => match y with
  | .int k => if k < 1000000 ∧ xs.length * k.toNat ≤ 16777216 ∧ -1000000 < k then .ok (List.replicate k.toNat xs).flatten S2 else .bad
  | _ => .bad
/-! ### a comprehension that is kept by a name -/
abbrev RdL (X : Cx) (W : WX) (te : TE) (mr : MA) : Prop := ∀ ξ μ σ H ρ S Q, RG (fx X ξ) μ H σ ρ → RS (fx X ξ) μ H S → WL' (fx X ξ) (mr ρ S) Q (fun cls dd H' => W cls dd σ H') μ H → te σ H Q
abbrev RdE (X : Cx) (W : WX) (te : TE) (m : ME) : Prop := ∀ ξ μ σ H ρ S Q, RG (fx X ξ) μ H σ ρ → RS (fx X ξ) μ H S → WE' (fx X ξ) (m ρ S) Q (fun cls dd H' => W cls dd σ H') μ H → te σ H Q
theorem rd_fz {te : TE} {mr : MA} (k : RdL X W te mr) : RdE X W te (mFz mr) := by
  intro ξ μ σ H ρ S Q g s h
  refine k ξ μ σ H ρ S Q g s ?_
  unfold mFz at h
  cases e : mr ρ S with
  | bad => rw [e] at h; exact h.elim
  | exc c fs S' => rw [e] at h; exact h
  | ok ds S' =>
    rw [e] at h
    exact fun q xs μ' H' u' hq s' r' e' => h _ μ' H' u' s'.free (.lst (.inl ⟨.inl e', (s'.xi q List.mem_cons_self).1, s.outX hq⟩) (r'.mv .free))
theorem rd_new {te : TE} {mr : MA} (k : RdL X W te mr) : RdE X W te (mNew mr) := by
  intro ξ μ σ H ρ S Q g s h
  refine k ξ μ σ H ρ S Q g s ?_
  unfold mNew at h
  cases e : mr ρ S with
  | bad => rw [e] at h; exact h.elim
  | exc c fs S' => rw [e] at h; exact h
  | ok ds S' =>
    rw [e] at h
    intro q xs μ' H' u' hq s' r' e'
    have l : S'.length = μ'.length := s'.len.symm
    refine h (.ref q) (μ' ++ [q]) H' ⟨?_, fun a ha n => (List.mem_append.mp ha).elim (fun z => u'.new a z n) (fun z => by rw [List.mem_singleton.mp z]; exact hq), u'.keep⟩ (s'.asCell (s.outX hq) e' r') (.cell (by rw [l]; exact alloc_at))
    obtain ⟨ν, z⟩ := u'.pre
    exact ⟨ν ++ [q], by rw [z, List.append_assoc]⟩
/-- .. the ways to keep it: as it is, or as a cell -/
theorem ds_setLc {mr : MA} (i : Nat) {y : Str} {py spos : Pos} {elt : Expr} {ifs : List Expr} {scope : Scope} {own : List (Str × Nat)} {f : D → Rho → Option Rho} {is : List Nat} {mt me : ME} {mw : MA → ME} (hw : ∀ {te : TE} {mr : MA}, RdL X W te mr → RdE X W te (mw mr)) (hc : X.calm = true) (hN : X.N.Nodup) (hi : DI X W tg e mr) (ok : BlkOk X.N X.env.scope scope own)
    (hg : ∀ (s : Shared) (H : Hp) (C : Addr) (cl : List (Str × Addr)) (fp : List Addr), DG (X.blk s H scope (compEnvC scope cl C X.env) fp) tg f is)
    (ht : ∀ (s : Shared) (H : Hp) (C : Addr) (cl : List (Str × Addr)) (fp : List Addr), DTs (X.blk s H scope (compEnvC scope cl C X.env) fp) W0 ifs mt)
    (he : ∀ (s : Shared) (H : Hp) (C : Addr) (cl : List (Str × Addr)) (fp : List Addr), DE (X.blk s H scope (compEnvC scope cl C X.env) fp) W0 elt me)
    (hv : ∀ i ∈ is, i ∈ own.map (·.2) := by decide) (hy : X.N[i]? = some y := by rfl) (hyl : X.env.scope.names.lookup y = some .local := by rfl)
    (hsw : swapsWith (.ListComp elt [⟨tg, e, ifs, 0⟩] scope pos) (some (.Name y py)) spos.line X.env = pure true := by rfl) (hs : ∀ x, foldedSetIterable e X.env x = pure x := by intro _; rfl) :
    DS X W (.Assign [.Name y py] (.ListComp elt [⟨tg, e, ifs, 0⟩] scope pos) spos) (mAsg i (mw (mLc mr f mt me (own.map (·.2))))) := by
  obtain ⟨wi, pi, ki⟩ := hi
  obtain ⟨tg', pg, kg⟩ := dg_all (Xf := blkOf X scope) (K := X.K) (mg := X.mg) (fun _ => rfl) (fun _ => rfl) fun i => hg i.1 i.2.1 i.2.2.1 i.2.2.2.1 i.2.2.2.2
  obtain ⟨tt, pt, kt⟩ := dts_all (Xf := blkOf X scope) (K := X.K) (mg := X.mg) (fun _ => rfl) (fun _ => rfl) fun i => ht i.1 i.2.1 i.2.2.1 i.2.2.2.1 i.2.2.2.2
  obtain ⟨te, pe, ke⟩ := de_all (Xf := blkOf X scope) (K := X.K) (mg := X.mg) (fun _ => rfl) (fun _ => rfl) fun i => he i.1 i.2.1 i.2.2.1 i.2.2.2.1 i.2.2.2.2
  have rd : RdL X W (tLc wi tg' tt te (own.map (·.2))) (mLc mr f mt me (own.map (·.2))) := fun ξ μ σ H ρ S Q g s h => lc_read (fun R => ki ξ μ σ H ρ S R g s) kg kt ke hv g s h
  refine ⟨_, ps_setLc (i := i) hc hN hy hyl hsw pi ok (fun s H C cl fp => pg (s, H, C, cl, fp)) (fun s H C cl fp => pt (s, H, C, cl, fp)) (fun s H C cl fp => pe (s, H, C, cl, fp)) hs, fun ξ μ σ H ρ S D g s h => ?_⟩
  exact hw rd ξ μ σ H ρ S _ g s (WS'.bind g h fun x S1 v μ1 H1 u1 s1 r1 h1 => h1 _ μ1 H1 .refl s1 ((g.up u1).set i r1))
/-! ### a kept list and a new one behind it -/
def mCatC (a : ME) (b : MA) : MA := fun ρ S => (a ρ S).bind fun x S1 => (b ρ S1).bind fun ys S2 => match x with
  | .cell n => match S2[n]? with
    | some (.lst xs) => if xs.length + ys.length ≤ 16777216 then .ok (xs ++ ys) S2 else .bad
    | _ => .bad
  | _ => .bad
end
end Dm
-- text DmCat
namespace Dm
open PySem L2 PySem.Spec PyProof.Rows
open PySem.W (Frag)
section
variable {X : Cx} {W : WX} {tg e a b c : Expr} {es : List Expr} {ma mb mc m : ME} {pos p p1 p2 p3 : Pos}
def rCatB (K : Frag) : R2 := fun x y H Q => ∃ l b xs zs, x = .ref l ∧ y = .ref b ∧ SqL K H l xs ∧ SqL K H b zs ∧ xs.length + zs.length ≤ sizeLine ∧ ∀ p, H p = none → Q (.ref p) (upd H p (.lst (xs ++ zs)))
theorem op_catB : OpR X (binaryOp .Add) (rCatB X.K) := by
  intro pins s σ H x y v u Q I rx ry h
  obtain ⟨l, b, xs, zs, rfl, rfl, hl, hb, hz, q⟩ := h
  cases rx
  cases ry
  obtain ⟨its, r, ⟨o, n, ho, hc, hd, hs⟩, z⟩ := I.list hl
  obtain ⟨its2, r2, ⟨o2, n2, ho2, hc2, hd2, hs2⟩, z2⟩ := I.list hb
  obtain ⟨cls, dd, data, sl⟩ := o
  obtain ⟨cls2, dd2, data2, sl2⟩ := o2
  simp only at hc hd hs hc2 hd2 hs2
  subst hc hd hs hc2 hd2 hs2
  have ea : its.toArray ++ its2.toArray = (its ++ its2).toArray := by simp
  refine concat_meets ⟨_, ho, rfl⟩ ⟨_, ho2, rfl⟩ noFill_list_add seq_list_add PySem.F.slot_list_add PySem.F.entry_list_add (PySem.F.args_list_add_2 _ _) (list_addW l b its.toArray its2.toArray n n2 none none sl sl2 (by rw [List.size_toArray, List.size_toArray, ← r.length, ← r2.length]; exact hz)) ⟨ho, ho2, ?_⟩
  rw [ea]
  exact ⟨.ref _, _, I.lnew (t' := s.toks) (r.append r2) (by rw [List.length_append]; exact hz), rfl, q _ I.fresh⟩
/-- a list that stands somewhere and a new one behind it -/
def mCatV (a : ME) (b : MA) : MA := fun ρ S => (a ρ S).bind fun x S1 => (b ρ S1).bind fun ys S2 => match lstOf S2 x with
  | some xs => if xs.length + ys.length ≤ 16777216 then .ok (xs ++ ys) S2 else .bad
  | none => .bad
theorem dl_catV {nb : MA} (ha : DE X W a ma) (hb : DL X W b nb) : DL X W (.BinOp a .Add b pos) (mCatV ma nb) := by
  obtain ⟨ta, pa, ka⟩ := ha
  obtain ⟨tb, pb, kb⟩ := hb
  refine ⟨_, pe_op op_catB pa pb, fun ξ μ σ H ρ S Q g s h => ka ξ μ σ H ρ S _ g s (WL'.bind h fun x S1 v μ1 H1 u1 s1 r1 h1 => ?_)⟩
  refine kb ξ μ1 σ H1 ρ S1 _ (g.up u1) s1 (WL'.bindL h1 fun es S2 q ys μ2 H2 u2 hq s2 r2 e2 h2 => ?_)
  cases c : lstOf S2 x with
  | none => simp only [c] at h2; exact h2.elim
  | some ds =>
    simp only [c] at h2
    have ss : RS (fx X ξ) μ2 H2 S2 := RS.free (F := fx X ξ) (p := q) s2
    obtain ⟨l, xs, rfl, h4, r3⟩ := RD.lstS ss (r1.up u2) c
    by_cases l : ds.length + es.length ≤ 16777216
    · rw [if_pos l] at h2
      refine ⟨_, q, xs, ys, rfl, rfl, h4, SqL.of e2, by rw [r3.length, r2.length, sizeLine_eq]; exact l, fun r hr => ?_⟩
      have rr : RDs (fx X ξ) μ2 H2 (xs ++ ys) (ds ++ es) := RDs.append r3 (RDs.free (F := fx X ξ) (p := q) _ r2)
      exact h2 r _ μ2 _ (.fresh hr) hr (ss.holds hr) (rr.mv (.holds hr)) upd_same
    · rw [if_neg l] at h2
      exact h2.elim
end
end Dm
-- text DmAll

-- text Hw
namespace Dm
open PySem L2
noncomputable section
def m_is_integer : List D → Sto → Res D := mDef 1 1 (mRet (mAnd (mIsi .int (mVar 0)) (mNot (mIsi .bl (mVar 0)))))
def m_is_zone : List D → Sto → Res D := mDef 1 5 (mSeq (mIfS (mOr (mNot (mIsi .tup (mVar 0))) (mOp gNe (mCallB gLen (mCons (mVar 0) mNil)) (mK (.int 2)))) (mRet (mK (.bl false))) mNop) (mSeq (mAsgG (tgT 2 (tgCons (tgN 1) (tgCons (tgN 2) tgNil))) (mVar 0)) (mSeq (mIfS (mOr (mNot (mIsi .tup (mVar 1))) (mNot (mChain gLe gLe (mK (.int 1)) (mCallB gLen (mCons (mVar 1) mNil)) (mK (.int 3))))) (mRet (mK (.bl false))) mNop) (mSeq (mFor (iSeq (mVar 1)) (tgN 3) (mIfS (mOr (mNot (mCall m_is_integer (mCons (mVar 3) mNil))) (mNot (mChain gLe gLe (mUn gNeg (mK (.int 900))) (mVar 3) (mK (.int 900))))) (mRet (mK (.bl false))) mNop)) (mSeq (mFor (iRange2 (mCons (mK (.int 1)) (mCons (mCallB gLen (mCons (mVar 1) mNil)) mNil))) (tgN 4) (mIfS (mOp gLe (mOp gIx (mVar 1) (mVar 4)) (mOp gIx (mVar 1) (mOp gSub (mVar 4) (mK (.int 1))))) (mRet (mK (.bl false))) mNop)) (mRet (mAnd (mCall m_is_integer (mCons (mVar 2) mNil)) (mChain gLt gLe (mOp gSub (mOp gIx (mVar 1) (mK (.int (-1)))) (mOp gIx (mVar 1) (mK (.int 0)))) (mVar 2) (mK (.int 1000000))))))))))
def m_need_zone : List D → Sto → Res D := mDef 1 1 (mIfS (mNot (mCall m_is_zone (mCons (mVar 0) mNil))) (mRaise "InvalidZone") mNop)
def m_need_number : List D → Sto → Res D := mDef 1 1 (mIfS (mNot (mCall m_is_integer (mCons (mVar 0) mNil))) (mRaise "InvalidNumber") mNop)
def m_is_offset : List D → Sto → Res D := mDef 2 2 (mRet (mAnd (mCall m_is_integer (mCons (mVar 1) mNil)) (mOp (gIn false) (mVar 1) (mOp gIx (mVar 0) (mK (.int 0))))))
def m_is_mark : List D → Sto → Res D := mDef 2 2 (mRet (mAnd (mIsi .tup (mVar 1)) (mAnd (mOp gEq (mCallB gLen (mCons (mVar 1) mNil)) (mK (.int 2))) (mAnd (mCall m_is_integer (mCons (mOp gIx (mVar 1) (mK (.int 0))) mNil)) (mCall m_is_offset (mCons (mVar 0) (mCons (mOp gIx (mVar 1) (mK (.int 1))) mNil)))))))
def m_is_table : List D → Sto → Res D := mDef 2 6 (mSeq (mDrop (mCall m_need_zone (mCons (mVar 0) mNil))) (mSeq (mIfS (mOr (mNot (mIsi .tup (mVar 1))) (mOr (mOp gNe (mCallB gLen (mCons (mVar 1) mNil)) (mK (.int 2))) (mNot (mCall m_is_offset (mCons (mVar 0) (mCons (mOp gIx (mVar 1) (mK (.int 0))) mNil)))))) (mRet (mK (.bl false))) mNop) (mSeq (mAsgG (tgT 2 (tgCons (tgN 2) (tgCons (tgN 3) tgNil))) (mVar 1)) (mSeq (mIfS (mNot (mIsi .tup (mVar 3))) (mRet (mK (.bl false))) mNop) (mSeq (mFor (iEnumS (mVar 3)) (tgT 2 (tgCons (tgN 4) (tgCons (tgN 5) tgNil))) (mSeq (mIfS (mOr (mNot (mCall m_is_mark (mCons (mVar 0) (mCons (mVar 5) mNil)))) (mOp gEq (mOp gIx (mVar 5) (mK (.int 1))) (mVar 2))) (mRet (mK (.bl false))) mNop) (mSeq (mIfS (mAnd (mOp gGt (mVar 4) (mK (.int 0))) (mOp gLt (mOp gSub (mOp gIx (mVar 5) (mK (.int 0))) (mOp gIx (mOp gIx (mVar 3) (mOp gSub (mVar 4) (mK (.int 1)))) (mK (.int 0)))) (mOp gIx (mVar 0) (mK (.int 1))))) (mRet (mK (.bl false))) mNop) (mAsg 2 (mOp gIx (mVar 5) (mK (.int 1))))))) (mRet (mK (.bl true))))))))
def m_need_table : List D → Sto → Res D := mDef 2 2 (mIfS (mNot (mCall m_is_table (mCons (mVar 0) (mCons (mVar 1) mNil)))) (mRaise "InvalidTable") mNop)
def m_offset_in : List D → Sto → Res D := mDef 2 5 (mSeq (mAsg 2 (mOp gIx (mVar 0) (mK (.int 0)))) (mSeq (mFor (iSeq (mOp gIx (mVar 0) (mK (.int 1)))) (tgT 2 (tgCons (tgN 3) (tgCons (tgN 4) tgNil))) (mSeq (mIfS (mOp gGt (mVar 3) (mVar 1)) mBrk mNop) (mAsg 2 (mVar 4)))) (mRet (mVar 2))))
def m_offset_at : List D → Sto → Res D := mDef 3 3 (mSeq (mDrop (mCall m_need_zone (mCons (mVar 0) mNil))) (mSeq (mDrop (mCall m_need_table (mCons (mVar 0) (mCons (mVar 1) mNil)))) (mSeq (mDrop (mCall m_need_number (mCons (mVar 2) mNil))) (mRet (mCall m_offset_in (mCons (mVar 1) (mCons (mVar 2) mNil)))))))
def m_reading_at : List D → Sto → Res D := mDef 3 3 (mRet (mOp gAdd (mVar 2) (mCall m_offset_at (mCons (mVar 0) (mCons (mVar 1) (mCons (mVar 2) mNil))))))
def m_law_digits : List D → Sto → Res D := mDef 1 4 (mSeq (mIfS (mOp gGe (mVar 0) (mK (.int 1000000000000000000))) (mRet (mNew (mLst (mCons (mOp gSub (mVar 0) (mK (.int 1000000000000000000))) mNil)))) mNop) (mSeq (mAsg 1 (mOp gAdd (mOp gMod (mCallB gInt1 (mCons (mVar 0) mNil)) (mK (.int 100000000000000000000000000000000000133))) (mK (.int 7)))) (mSeq (mAsg 2 (mK (.int 1))) (mSeq (mFor (iRange1 (mCons (mK (.int 19)) mNil)) (tgN 3) (mSeq (mAsg 1 (mOp gMod (mOp gAdd (mOp gAdd (mOp gAdd (mOp gMul (mVar 1) (mVar 1)) (mOp gMul (mK (.int 31415926535)) (mVar 1))) (mOp gMul (mK (.int 271829)) (mVar 3))) (mK (.int 17))) (mK (.int 100000000000000000000000000000000000000009)))) (mIfS (mOp gGt (mVar 3) (mK (.int 2))) (mAsg 2 (mOp gAdd (mOp gMul (mVar 2) (mK (.int 100000000000000000000000000000000000000000))) (mVar 1))) mNop))) (mRet (mNew (mLst (mCons (mVar 2) mNil))))))))
def m_law_draw : List D → Sto → Res D := mDef 2 3 (mSeq (mAsg 2 (mOp gMod (mCallB gInt1 (mCons (mOp gIx (mVar 0) (mK (.int 0))) mNil)) (mVar 1))) (mSeq (mSetIx (mOp gFdiv (mOp gIx (mVar 0) (mK (.int 0))) (mVar 1)) (mVar 0) (mK (.int 0))) (mRet (mVar 2))))
def m_law_any_hour : List D → Sto → Res D := mDef 1 2 (mSeq (mAsg 1 (mCall m_law_draw (mCons (mVar 0) (mCons (mK (.int 4)) mNil)))) (mSeq (mIfS (mOp gLt (mVar 1) (mK (.int 2))) (mRet (mOp gSub (mCall m_law_draw (mCons (mVar 0) (mCons (mK (.int 241)) mNil))) (mK (.int 120)))) mNop) (mSeq (mIfS (mOp gEq (mVar 1) (mK (.int 2))) (mRet (mOp gSub (mCall m_law_draw (mCons (mVar 0) (mCons (mK (.int 1800000000001)) mNil))) (mK (.int 900000000000)))) mNop) (mRet (mOp gIx (mFz (mLst (mCons (mK (.int 0)) (mCons (mK (.int 1)) (mCons (mK (.int (-1))) (mCons (mK (.int 1440)) (mCons (mK (.int (-525600))) (mCons (mK (.int 999799999999)) (mCons (mK (.int (-999999999999))) mNil))))))))) (mCall m_law_draw (mCons (mVar 0) (mCons (mK (.int 7)) mNil))))))))
def m_law_make_region : List D → Sto → Res D := mDef 1 11 (mSeq (mAsg 1 (mCall m_law_draw (mCons (mVar 0) (mCons (mK (.int 6)) mNil)))) (mSeq (mAsg 2 (mK (.int (-900)))) (mSeq (mIfS (mOp gLt (mVar 1) (mK (.int 2))) (mAsg 2 (mOp gSub (mCall m_law_draw (mCons (mVar 0) (mCons (mK (.int 7)) mNil))) (mK (.int 3)))) (mIfS (mOp gEq (mVar 1) (mK (.int 2))) (mAsg 2 (mOp gMul (mK (.int 30)) (mOp gSub (mCall m_law_draw (mCons (mVar 0) (mCons (mK (.int 45)) mNil))) (mK (.int 22))))) (mIfS (mOp gEq (mVar 1) (mK (.int 4))) (mAsg 2 (mOp gSub (mCall m_law_draw (mCons (mVar 0) (mCons (mK (.int 1201)) mNil))) (mK (.int 900)))) mNop))) (mSeq (mAsgG (tgT 2 (tgCons (tgN 3) (tgCons (tgN 4) tgNil))) (mOp gIx (mFz (mLst (mCons (mTup (mCons (mK (.int 1)) (mCons (mK (.int 4)) mNil))) (mCons (mTup (mCons (mK (.int 1)) (mCons (mK (.int 4)) mNil))) (mCons (mTup (mCons (mK (.int 30)) (mCons (mK (.int 4)) mNil))) (mCons (mTup (mCons (mK (.int 1)) (mCons (mK (.int 900)) mNil))) (mCons (mTup (mCons (mK (.int 1)) (mCons (mK (.int 300)) mNil))) (mCons (mTup (mCons (mK (.int 900)) (mCons (mK (.int 1)) mNil))) mNil)))))))) (mVar 1))) (mSeq (mAsg 5 (mOp gAdd (mVar 2) (mOp gMul (mVar 3) (mOp gAdd (mK (.int 1)) (mCall m_law_draw (mCons (mVar 0) (mCons (mVar 4) mNil))))))) (mSeq (mAsg 6 (mOp gAdd (mVar 5) (mOp gMul (mVar 3) (mOp gAdd (mK (.int 1)) (mCall m_law_draw (mCons (mVar 0) (mCons (mVar 4) mNil))))))) (mSeq (mAsg 7 (mFz (mLst (mCons (mTup (mCons (mVar 2) (mCons (mVar 5) mNil))) (mCons (mTup (mCons (mVar 2) (mCons (mVar 5) (mCons (mVar 6) mNil)))) (mCons (mTup (mCons (mVar 2) (mCons (mVar 6) mNil))) (mCons (mTup (mCons (mVar 2) (mCons (mVar 5) (mCons (mVar 6) mNil)))) (mCons (mTup (mCons (mVar 6) mNil)) mNil)))))))) (mSeq (mAsg 7 (mOp gIx (mVar 7) (mOp gFdiv (mCall m_law_draw (mCons (mVar 0) (mCons (mK (.int 9)) mNil))) (mK (.int 2))))) (mSeq (mIfS (mOp gEq (mCall m_law_draw (mCons (mVar 0) (mCons (mK (.int 2)) mNil))) (mK (.int 1))) (mAsg 7 (mCallB gTuple (mCons (mFz (mLc (iSeq (mBack (mVar 7))) (tgN 10) mYes (mUn gNeg (mVar 10)) [10])) mNil))) mNop) (mSeq (mAsg 8 (mOp gSub (mOp gIx (mVar 7) (mK (.int (-1)))) (mOp gIx (mVar 7) (mK (.int 0))))) (mSeq (mAsg 9 (mFz (mLst (mCons (mK (.int 0)) (mCons (mK (.int 0)) (mCons (mK (.int 1)) (mCons (mCall m_law_draw (mCons (mVar 0) (mCons (mK (.int 1000)) mNil))) (mCons (mCall m_law_draw (mCons (mVar 0) (mCons (mOp gSub (mK (.int 1000000)) (mVar 8)) mNil))) (mCons (mOp gSub (mK (.int 999999)) (mVar 8)) mNil))))))))) (mRet (mTup (mCons (mVar 7) (mCons (mOp gAdd (mOp gAdd (mVar 8) (mK (.int 1))) (mOp gIx (mVar 9) (mCall m_law_draw (mCons (mVar 0) (mCons (mK (.int 6)) mNil))))) mNil)))))))))))))))
def m_law_make_chart : List D → Sto → Res D := mDef 3 11 (mSeq (mAsgG (tgT 2 (tgCons (tgN 3) (tgCons (tgN 4) tgNil))) (mVar 1)) (mSeq (mAsg 5 (mCall m_law_draw (mCons (mVar 0) (mCons (mCallB gLen (mCons (mVar 3) mNil)) mNil)))) (mSeq (mAsg 6 (mOp gIx (mVar 3) (mVar 5))) (mSeq (mAsg 7 (mCall m_law_any_hour (mCons (mVar 0) mNil))) (mSeq (mAsg 8 (mNew (mLst mNil))) (mSeq (mFor (iRange1 (mCons (mOp gMul (mCall m_law_draw (mCons (mVar 0) (mCons (mOp gAdd (mVar 2) (mK (.int 1))) mNil))) (mCallB gInt1 (mCons (mOp gGt (mCallB gLen (mCons (mVar 3) mNil)) (mK (.int 1))) mNil))) mNil)) (tgN 9) (mSeq (mAsg 5 (mOp gMod (mCallB gInt1 (mCons (mOp gAdd (mOp gAdd (mVar 5) (mK (.int 1))) (mCall m_law_draw (mCons (mVar 0) (mCons (mOp gSub (mCallB gLen (mCons (mVar 3) mNil)) (mK (.int 1))) mNil)))) mNil)) (mCallB gLen (mCons (mVar 3) mNil)))) (mSeq (mApp (mVar 8) (mTup (mCons (mVar 7) (mCons (mOp gIx (mVar 3) (mVar 5)) mNil)))) (mSeq (mAsg 7 (mOp gAdd (mVar 7) (mVar 4))) (mSeq (mAsg 10 (mCall m_law_draw (mCons (mVar 0) (mCons (mK (.int 5)) mNil)))) (mIfS (mOp gGt (mVar 10) (mK (.int 2))) (mAsg 7 (mOp gAdd (mVar 7) (mCall m_law_draw (mCons (mVar 0) (mCons (mOp gIx (mFz (mLst (mCons (mK (.int 0)) (mCons (mK (.int 0)) (mCons (mK (.int 0)) (mCons (mK (.int 5)) (mCons (mOp gMul (mK (.int 2)) (mVar 4)) mNil))))))) (mVar 10)) mNil))))) mNop)))))) (mRet (mTup (mCons (mVar 6) (mCons (mCallB gTuple (mCons (mVar 8) mNil)) mNil))))))))))
def m_law_whole : List D → Sto → Res D := mDef 1 1 (mRet (mAnd (mIsi .int (mVar 0)) (mNot (mIsi .bl (mVar 0)))))
def m_law_same : Nat → List D → Sto → Res D
  | 0 => fun _ _ => .bad
  | n + 1 => mDef 2 3 (mSeq (mIfS (mIsiT [.tup, .lst] (mVar 1)) (mSeq (mIfS (mOr (mNot (mIsiT [.tup, .lst] (mVar 0))) (mOp gNe (mIsi .lst (mVar 0)) (mIsi .lst (mVar 1)))) (mRet (mK (.bl false))) mNop) (mRet (mAnd (mOp gEq (mCallB gLen (mCons (mVar 0) mNil)) (mCallB gLen (mCons (mVar 1) mNil))) (mCallB gAll (mCons (mFz (mLc (iRange1 (mCons (mCallB gLen (mCons (mVar 1) mNil)) mNil)) (tgN 2) mYes (mCall (m_law_same n) (mCons (mOp gIx (mVar 0) (mVar 2)) (mCons (mOp gIx (mVar 1) (mVar 2)) mNil))) [2])) mNil))))) mNop) (mSeq (mIfS (mOp (gIsN false) (mVar 1) (mK .non)) (mRet (mOp (gIsN false) (mVar 0) (mK .non))) mNop) (mSeq (mIfS (mIsi .bl (mVar 1)) (mRet (mAnd (mIsi .bl (mVar 0)) (mOp gEq (mVar 0) (mVar 1)))) mNop) (mSeq (mIfS (mIsi .int (mVar 1)) (mRet (mAnd (mCall m_law_whole (mCons (mVar 0) mNil)) (mOp gEq (mVar 0) (mVar 1)))) mNop) (mSeq (mIfS (mIsi .str (mVar 1)) (mRet (mAnd (mIsi .str (mVar 0)) (mOp gEq (mVar 0) (mVar 1)))) mNop) (mRet (mAnd (mNot (mIsiT [.tup, .lst, .int, .str] (mVar 0))) (mOp (gIsN true) (mVar 0) (mK .non)))))))))
end
end Dm
-- text DmSort
namespace Dm
open PySem L2 PySem.Spec PyProof.Rows
open PySem.W (Frag)
/-! ### sorted of ints, of pairs of ints -/
def insP (x : Int × Int) : List (Int × Int) → List (Int × Int)
  | [] => [x]
  | y :: r => if SrtO.lexB y x then y :: insP x r else x :: y :: r
def srtP : List (Int × Int) → List (Int × Int)
  | [] => []
  | x :: r => insP x (srtP r)
def insN (x : Int) : List Int → List Int
  | [] => [x]
  | y :: r => if y < x then y :: insN x r else x :: y :: r
def srtN : List Int → List Int
  | [] => []
  | x :: r => insN x (srtN r)
def LeP (p q : Int × Int) : Prop := SrtO.lexB q p = false
theorem leP_iff {p q : Int × Int} : LeP p q ↔ p.1 < q.1 ∨ (p.1 = q.1 ∧ p.2 ≤ q.2) := by
  unfold LeP
  rw [SrtO.lexB_no]; omega
theorem insP_perm (x : Int × Int) : ∀ l, (insP x l).Perm (x :: l)
  | [] => .refl _
  | y :: r => by
    unfold insP; split
    · exact ((insP_perm x r).cons y).trans (.swap _ _ _)
    · exact .refl _
theorem srtP_perm : ∀ l, (srtP l).Perm l
  | [] => .refl _
  | x :: r => (insP_perm x _).trans ((srtP_perm r).cons x)
theorem insP_asc (x : Int × Int) : ∀ l : List (Int × Int), l.Pairwise LeP → (insP x l).Pairwise LeP
  | [], _ => by simp [insP]
  | y :: r, h => by
    obtain ⟨h1, h2⟩ := List.pairwise_cons.mp h
    unfold insP; split
    · next c =>
      refine List.pairwise_cons.mpr ⟨fun z hz => ?_, insP_asc x r h2⟩
      rcases List.mem_cons.mp ((insP_perm x r).mem_iff.mp hz) with rfl | hz
      · have := SrtO.lexB_iff.mp c
        rw [leP_iff]; omega
      · exact h1 z hz
    · next c =>
      have c : LeP x y := by simpa [LeP] using c
      refine List.pairwise_cons.mpr ⟨fun z hz => ?_, h⟩
      rcases List.mem_cons.mp hz with rfl | hz
      · exact c
      · have := h1 z hz
        rw [leP_iff] at c this ⊢; omega
theorem srtP_asc : ∀ l, (srtP l).Pairwise LeP
  | [] => .nil
  | x :: r => insP_asc x _ (srtP_asc r)
theorem IsPair.inj {h : Heap} {v : Value} {x y x' y' : Int} (a : Srt.IsPair h v x y) (b : Srt.IsPair h v x' y') : x = x' ∧ y = y' := by
  obtain ⟨a1, o, t, u, n, rfl, e1, e2, e3⟩ := a
  obtain ⟨a2, o', t', u', n', e0, f1, f2, f3⟩ := b
  cases e0
  rw [e1] at f1; cases f1
  rw [e3] at f3
  cases f3
  exact ⟨rfl, rfl⟩
section
variable {X : Cx}
def intsOf : List D → Option (List Int)
  | [] => some []
  | .int i :: ds => (intsOf ds).map (i :: ·)
  | _ :: _ => none
def pairsOf : List D → Option (List (Int × Int))
  | [] => some []
  | .tup [.int i, .int j] :: ds => (pairsOf ds).map ((i, j) :: ·)
  | _ :: _ => none
def prD (p : Int × Int) : D := .tup [.int p.1, .int p.2]
theorem intsOf_eq : ∀ {ds : List D} {ns : List Int}, intsOf ds = some ns → ds = ns.map .int
  | [], ns, e => by cases e; rfl
  | d :: ds, ns, e => by
    cases d with
    | int i =>
      have e : (intsOf ds).map (i :: ·) = some ns := e
      cases q : intsOf ds with
      | none => rw [q] at e; exact nomatch e
      | some m =>
        rw [q] at e; cases e
        rw [intsOf_eq q] <;> rfl
    | _ => exact nomatch e
@[simp] theorem intsOf_map {ns : List Int} : intsOf (ns.map .int) = some ns := by
  induction ns with
  | nil => rfl
  | cons n ns ih => rw [List.map_cons]; show (intsOf _).map _ = _; rw [ih] <;> rfl
@[simp] theorem pairsOf_map {ps : List (Int × Int)} : pairsOf (ps.map prD) = some ps := by
  induction ps with
  | nil => rfl
  | cons n ns ih => rw [List.map_cons]; show (pairsOf _).map _ = _; rw [ih] <;> rfl
def sortD (ds : List D) : Option (List D) := match intsOf ds with
  | some ns => some ((srtN ns).map .int)
  | none => (pairsOf ds).map fun ps => (srtP ps).map prD
def gSort : Sto → List D → Option (List D) := fun S ds => match ds with
  | [d] => (lstOf S d).bind sortD
  | _ => none
theorem rdsInts {F : Fx} {μ : List Addr} {H : Hp} {ns : List Int} : ∀ {vs : List V}, RDs F μ H vs (ns.map .int) → vs = ns.map V.int := by
  induction ns with
  | nil => intro vs r; cases r; rfl
  | cons p ps ih =>
    intro vs r
    cases r with
    | cons a b =>
      cases a
      rw [ih b] <;> rfl
theorem CallR.or {f : Value} {r r' : List V → Hp → VK → Prop} (h : CallR X f r) (h' : CallR X f r') : CallR X f (fun vs H Q => r vs H Q ∨ r' vs H Q) := by
  intro pins s σ H vs us Q I rv z
  rcases z with z | z
  · exact h pins s σ H vs us Q I rv z
  · exact h' pins s σ H vs us Q I rv z
end
@[simp] theorem gSort_ints {S : Sto} {d : D} {ns : List Int} (h : lstOf S d = some (ns.map .int)) : gSort S [d] = some ((srtN ns).map .int) := by
  show (lstOf S d).bind sortD = _
  rw [h]
  show sortD _ = _
  unfold sortD
  rw [intsOf_map]
end Dm
-- text DmWp
namespace Dm
open PySem L2
/-! ### what a word does -/
abbrev EX := Str → List (Str × D) → Sto → Prop
abbrev EXO := Str → List (Str × D) → Rho → Sto → Prop
def NoE : EX := fun _ _ _ => False
def NoEO : EXO := fun _ _ _ _ => False
/-- what is wished of an exception: of an expression's at these slots; of a def's body -/
def eAt (E : EXO) (ρ : Rho) : EX := fun c fs S => E c fs ρ S
def eOut (E : EX) : EXO := fun c fs _ S => E c fs S
@[simp] theorem eAt_out {E : EX} {ρ : Rho} : eAt (eOut E) ρ = E := rfl
@[simp] theorem eAt_no {ρ : Rho} : eAt NoEO ρ = NoE := rfl
@[simp] theorem eOut_no : eOut NoE = NoEO := rfl
@[simp] theorem noE_app {c : Str} {fs : List (Str × D)} {S : Sto} : NoE c fs S = False := rfl
@[simp] theorem noEO_app {c : Str} {fs : List (Str × D)} {ρ : Rho} {S : Sto} : NoEO c fs ρ S = False := rfl
def Res.DoesE {α : Type} (r : Res α) (E : EX) (Q : α → Sto → Prop) : Prop := match r with
  | .ok a S => Q a S
  | .exc c fs S => E c fs S
  | .bad => False
def Out.DoesE (o : Out) (E : EXO) (N : Rho → Sto → Prop) (R : D → Sto → Prop) (B : Rho → Sto → Prop := fun _ _ => False) (C : Rho → Sto → Prop := fun _ _ => False) : Prop := match o with
  | .nx ρ S => N ρ S
  | .rt d S => R d S
  | .bk ρ S => B ρ S
  | .ct ρ S => C ρ S
  | .exc c fs ρ S => E c fs ρ S
  | .bad => False
abbrev Res.Does {α : Type} (r : Res α) (Q : α → Sto → Prop) : Prop := r.DoesE NoE Q
abbrev Out.Does (o : Out) (N : Rho → Sto → Prop) (R : D → Sto → Prop) (B : Rho → Sto → Prop := fun _ _ => False) (C : Rho → Sto → Prop := fun _ _ => False) : Prop := o.DoesE NoEO N R B C
section
variable {α β : Type} {a : α} {S : Sto} {ρ : Rho} {Q : α → Sto → Prop} {N B C : Rho → Sto → Prop} {R : D → Sto → Prop} {E : EX} {EO : EXO}
@[simp] theorem does_ok : (Res.ok a S).DoesE E Q = Q a S := rfl
@[simp] theorem does_bind {r : Res β} {f : β → Sto → Res α} : (r.bind f).DoesE E Q = r.DoesE E fun b S => (f b S).DoesE E Q := by cases r <;> rfl
@[simp] theorem bind_ok {f : α → Sto → Res β} : (Res.ok a S).bind f = f a S := rfl
@[simp] theorem ofRes_ok {k : α → Sto → Out} : ofRes (.ok a S) ρ k = k a S := rfl
@[simp] theorem does_ofRes {r : Res α} {k : α → Sto → Out} : (ofRes r ρ k).DoesE EO N R B C = r.DoesE (eAt EO ρ) fun a S => (k a S).DoesE EO N R B C := by cases r <;> rfl
@[simp] theorem does_nx : (Out.nx ρ S).DoesE EO N R B C = N ρ S := rfl
@[simp] theorem does_rt {d : D} : (Out.rt d S).DoesE EO N R B C = R d S := rfl
@[simp] theorem does_bk : (Out.bk ρ S).DoesE EO N R B C = B ρ S := rfl
@[simp] theorem does_ct : (Out.ct ρ S).DoesE EO N R B C = C ρ S := rfl
theorem Res.DoesE.mono {r : Res α} {Q Q' : α → Sto → Prop} (h : r.DoesE E Q) (k : ∀ a S, Q a S → Q' a S) : r.DoesE E Q' := by
  cases r with
  | ok a S => exact k a S h
  | _ => exact h
theorem Res.DoesE.monoE {r : Res α} {E' : EX} {Q Q' : α → Sto → Prop} (h : r.DoesE E Q) (e : ∀ c fs S, E c fs S → E' c fs S) (k : ∀ a S, Q a S → Q' a S) : r.DoesE E' Q' := by
  cases r with
  | ok a S => exact k a S h
  | exc c fs S => exact e _ _ _ h
  | bad => exact h
theorem Res.DoesE.toE {r : Res α} {Q : α → Sto → Prop} (h : r.DoesE NoE Q) : r.DoesE E Q := h.monoE (fun _ _ _ z => z.elim) fun _ _ z => z
theorem Res.Does.toE {r : Res α} {Q : α → Sto → Prop} (h : r.Does Q) : r.DoesE E Q := Res.DoesE.toE h
theorem Res.Does.mono {r : Res α} {Q Q' : α → Sto → Prop} (h : r.Does Q) (k : ∀ a S, Q a S → Q' a S) : r.Does Q' := Res.DoesE.mono h k
theorem Res.DoesE.eq {r : Res α} {Q : α → Sto → Prop} (h : r.DoesE NoE Q) : ∃ a S, r = .ok a S ∧ Q a S := by
  cases r with
  | ok a S => exact ⟨a, S, rfl, h⟩
  | _ => exact h.elim
theorem Res.Does.eq {r : Res α} {Q : α → Sto → Prop} (h : r.Does Q) : ∃ a S, r = .ok a S ∧ Q a S := Res.DoesE.eq h
theorem Out.DoesE.mono {o : Out} {N' B' C' : Rho → Sto → Prop} {R' : D → Sto → Prop} (h : o.DoesE EO N R B C) (hN : ∀ ρ S, N ρ S → N' ρ S) (hR : ∀ d S, R d S → R' d S) (hB : ∀ ρ S, B ρ S → B' ρ S) (hC : ∀ ρ S, C ρ S → C' ρ S) : o.DoesE EO N' R' B' C' := by
  cases o with
  | nx ρ S => exact hN _ _ h
  | rt d S => exact hR _ _ h
  | bk ρ S => exact hB _ _ h
  | ct ρ S => exact hC _ _ h
  | _ => exact h
theorem Out.Does.mono {o : Out} {N' B' C' : Rho → Sto → Prop} {R' : D → Sto → Prop} (h : o.Does N R B C) (hN : ∀ ρ S, N ρ S → N' ρ S) (hR : ∀ d S, R d S → R' d S) (hB : ∀ ρ S, B ρ S → B' ρ S) (hC : ∀ ρ S, C ρ S → C' ρ S) : o.Does N' R' B' C' := Out.DoesE.mono h hN hR hB hC
end
section
variable {S : Sto} {ρ : Rho} {Q : D → Sto → Prop} {N B C : Rho → Sto → Prop} {R : D → Sto → Prop} {E : EX} {EO : EXO}
@[simp] theorem does_seq {a b : MS} : (mSeq a b ρ S).DoesE EO N R B C = (a ρ S).DoesE EO (fun ρ S => (b ρ S).DoesE EO N R B C) R B C := by
  unfold mSeq
  cases a ρ S <;> rfl
@[simp] theorem does_asg {i : Nat} {m : ME} : (mAsg i m ρ S).DoesE EO N R B C = (m ρ S).DoesE (eAt EO ρ) fun d S => N (ρ.set i (some d)) S := by
  unfold mAsg
  rw [does_ofRes] <;> rfl
@[simp] theorem does_ret {m : ME} : (mRet m ρ S).DoesE EO N R B C = (m ρ S).DoesE (eAt EO ρ) R := by
  unfold mRet
  rw [does_ofRes] <;> rfl
@[simp] theorem does_retN : (mRetN ρ S).DoesE EO N R B C = R .non S := rfl
@[simp] theorem does_drop {m : ME} : (mDrop m ρ S).DoesE EO N R B C = (m ρ S).DoesE (eAt EO ρ) fun _ S => N ρ S := by
  unfold mDrop
  rw [does_ofRes] <;> rfl
@[simp] theorem does_nop : (mNop ρ S).DoesE EO N R B C = N ρ S := rfl
@[simp] theorem does_brk : (mBrk ρ S).DoesE EO N R B C = B ρ S := rfl
@[simp] theorem does_cont : (mCont ρ S).DoesE EO N R B C = C ρ S := rfl
/-- an if by what its test says -/
def BlQ (k : Bool → Sto → Prop) : D → Sto → Prop := fun d S => match d with
  | .bl b => k b S
  | _ => False
@[simp] theorem blQ_bl {k : Bool → Sto → Prop} {b : Bool} : BlQ k (.bl b) S = k b S := rfl
@[simp] theorem does_ifS {c : ME} {a b : MS} : (mIfS c a b ρ S).DoesE EO N R B C = (c ρ S).DoesE (eAt EO ρ) (BlQ fun k S => if k = true then (a ρ S).DoesE EO N R B C else (b ρ S).DoesE EO N R B C) := by
  unfold mIfS
  rw [does_ofRes]
  congr 1
  funext d S
  cases d with
  | bl k => cases k <;> rfl
  | _ => rfl
@[simp] theorem does_var {i : Nat} : (mVar i ρ S).DoesE E Q = match ρ[i]? with
    | some (some d) => Q d S
    | _ => False := by
  unfold mVar
  cases ρ[i]? with
  | none => rfl
  | some o => cases o <;> rfl
@[simp] theorem does_k {d : D} : (mK d ρ S).DoesE E Q = Q d S := rfl
@[simp] theorem var_eq {i : Nat} : mVar i ρ S = match ρ[i]? with
    | some (some d) => .ok d S
    | _ => .bad := rfl
@[simp] theorem k_eq {d : D} : mK d ρ S = .ok d S := rfl
def OptQ (o : Option D) (k : D → Prop) : Prop := match o with
  | some d => k d
  | none => False
@[simp] theorem optQ_some {d : D} {k : D → Prop} : OptQ (some d) k = k d := rfl
@[simp] theorem does_op {g : Sto → D → D → Option D} {a b : ME} : (mOp g a b ρ S).DoesE E Q = (a ρ S).DoesE E fun x S1 => (b ρ S1).DoesE E fun y S2 => OptQ (g S2 x y) fun z => Q z S2 := by
  unfold mOp
  rw [does_bind]
  congr 1
  funext x S1
  rw [does_bind]
  congr 1
  funext y S2
  cases g S2 x y <;> rfl
@[simp] theorem does_un {g : Sto → D → Option D} {a : ME} : (mUn g a ρ S).DoesE E Q = (a ρ S).DoesE E fun x S1 => OptQ (g S1 x) fun z => Q z S1 := by
  unfold mUn
  rw [does_bind]
  congr 1
  funext x S1
  cases g S1 x <;> rfl
@[simp] theorem does_and {a b : ME} : (mAnd a b ρ S).DoesE E Q = (a ρ S).DoesE E (BlQ fun k S1 => if k = true then (b ρ S1).DoesE E Q else Q (.bl false) S1) := by
  unfold mAnd
  rw [does_bind]
  congr 1
  funext d S
  cases d with
  | bl k => cases k <;> rfl
  | _ => rfl
@[simp] theorem does_or {a b : ME} : (mOr a b ρ S).DoesE E Q = (a ρ S).DoesE E (BlQ fun k S1 => if k = true then Q (.bl true) S1 else (b ρ S1).DoesE E Q) := by
  unfold mOr
  rw [does_bind]
  congr 1
  funext d S
  cases d with
  | bl k => cases k <;> rfl
  | _ => rfl
@[simp] theorem does_not {a : ME} : (mNot a ρ S).DoesE E Q = (a ρ S).DoesE E (BlQ fun k S1 => Q (.bl (!k)) S1) := by
  unfold mNot
  rw [does_bind]
  congr 1
  funext d S
  cases d <;> rfl
@[simp] theorem does_if {c a b : ME} : (mIf c a b ρ S).DoesE E Q = (c ρ S).DoesE E (BlQ fun k S1 => if k = true then (a ρ S1).DoesE E Q else (b ρ S1).DoesE E Q) := by
  unfold mIf
  rw [does_bind]
  congr 1
  funext d S
  cases d with
  | bl k => cases k <;> rfl
  | _ => rfl
@[simp] theorem does_nil {Q : List D → Sto → Prop} : (mNil ρ S).DoesE E Q = Q [] S := rfl
@[simp] theorem does_cons {a : ME} {r : MA} {Q : List D → Sto → Prop} : (mCons a r ρ S).DoesE E Q = (a ρ S).DoesE E fun x S1 => (r ρ S1).DoesE E fun xs S2 => Q (x :: xs) S2 := by
  unfold mCons
  rw [does_bind]
  congr 1
  funext x S1
  rw [does_bind] <;> rfl
@[simp] theorem does_tup {a : MA} : (mTup a ρ S).DoesE E Q = (a ρ S).DoesE E fun xs S1 => xs.length ≤ 16777216 ∧ Q (.tup xs) S1 := by
  unfold mTup
  rw [does_bind]
  congr 1
  funext xs S1
  by_cases h : xs.length ≤ 16777216
  · rw [if_pos h]; simp [h]
  · rw [if_neg h]; simp [h, Res.DoesE]
@[simp] theorem does_lst {a : MA} {Q : List D → Sto → Prop} : (mLst a ρ S).DoesE E Q = (a ρ S).DoesE E fun xs S1 => xs.length ≤ 16777216 ∧ Q xs S1 := by
  unfold mLst
  rw [does_bind]
  congr 1
  funext xs S1
  by_cases h : xs.length ≤ 16777216
  · rw [if_pos h]; simp [h]
  · rw [if_neg h]; simp [h, Res.DoesE]
@[simp] theorem does_fz {a : MA} : (mFz a ρ S).DoesE E Q = (a ρ S).DoesE E fun xs S1 => Q (.lst xs) S1 := by
  unfold mFz
  rw [does_bind] <;> rfl
@[simp] theorem does_new {a : MA} : (mNew a ρ S).DoesE E Q = (a ρ S).DoesE E fun xs S1 => Q (.cell S1.length) (S1 ++ [.lst xs]) := by
  unfold mNew
  rw [does_bind] <;> rfl
@[simp] theorem does_call {f : List D → Sto → Res D} {a : MA} : (mCall f a ρ S).DoesE E Q = (a ρ S).DoesE E fun xs S1 => (f xs S1).DoesE E Q := by
  unfold mCall
  rw [does_bind] <;> rfl
@[simp] theorem does_callB {g : Sto → List D → Option D} {a : MA} : (mCallB g a ρ S).DoesE E Q = (a ρ S).DoesE E fun xs S1 => OptQ (g S1 xs) fun z => Q z S1 := by
  unfold mCallB
  rw [does_bind]
  congr 1
  funext x S1
  cases g S1 x <;> rfl
@[simp] theorem does_callK {f : List D → Sto → Res D} {n q : Nat} {p : List Nat} {a k : MA} : (mCallK f n q p a k ρ S).DoesE E Q = (a ρ S).DoesE E fun xs S1 => (k ρ S1).DoesE E fun zs S2 => (xs.length = n ∧ zs.length = q) ∧ (f (p.filterMap ((xs ++ zs)[·]?)) S2).DoesE E Q := by
  unfold mCallK
  rw [does_bind]
  congr 1
  funext xs S1
  rw [does_bind]
  congr 1
  funext zs S2
  by_cases h : xs.length = n ∧ zs.length = q
  · rw [if_pos h]; simp [h]
  · rw [if_neg h]; simp [h, Res.DoesE]
@[simp] theorem does_chain {g g' : Sto → D → D → Option D} {a b c : ME} : (mChain g g' a b c ρ S).DoesE E Q = (a ρ S).DoesE E fun x S1 => (b ρ S1).DoesE E fun y S2 => OptQ (g S2 x y) fun z => BlQ (fun k S2 => if k = true then (c ρ S2).DoesE E fun w S3 => OptQ (g' S3 y w) fun z => Q z S3 else Q (.bl false) S2) z S2 := by
  unfold mChain
  rw [does_bind]
  congr 1
  funext x S1
  rw [does_bind]
  congr 1
  funext y S2
  cases g S2 x y with
  | none => rfl
  | some z =>
    cases z with
    | bl k =>
      cases k with
      | false => rfl
      | true =>
        show ((c ρ S2).bind _).DoesE E Q = _
        rw [does_bind]
        show _ = (c ρ S2).DoesE E _
        congr 1
        funext w S3
        cases g' S3 y w <;> rfl
    | _ => rfl
@[simp] theorem does_isi {T : Tn} {m : ME} : (mIsi T m ρ S).DoesE E Q = (m ρ S).DoesE E fun d S1 => OptQ ((tyOf S1 d).map fun t => .bl (isTn t T)) fun z => Q z S1 := by
  unfold mIsi
  rw [does_un]
@[simp] theorem does_isiT {T : List Tn} {m : ME} : (mIsiT T m ρ S).DoesE E Q = (m ρ S).DoesE E fun d S1 => OptQ ((tyOf S1 d).map fun t => .bl (T.any (isTn t ·))) fun z => Q z S1 := by
  unfold mIsiT
  rw [does_un]
@[simp] theorem does_asgG {f : D → Rho → Option Rho} {m : ME} : (mAsgG f m ρ S).DoesE EO N R B C = (m ρ S).DoesE (eAt EO ρ) fun d S1 => match f d ρ with
    | some ρ1 => N ρ1 S1
    | none => False := by
  unfold mAsgG
  rw [does_ofRes]
  congr 1
  funext d S1
  cases f d ρ <;> rfl
/-- a def -/
theorem does_def {np nN : Nat} {b : MS} {ds : List D} (h : ds.length = np) (hb : (b (ds.map some ++ List.replicate (nN - np) none) S).DoesE (eOut E) (fun _ S' => Q .non S') Q) : (mDef np nN b ds S).DoesE E Q := by
  unfold mDef
  rw [if_pos h]
  cases e : b (ds.map some ++ List.replicate (nN - np) none) S <;> rw [e] at hb <;> exact hb
@[simp] theorem does_for {mi : MA} {f : D → Rho → Option Rho} {mb : MS} : (mFor mi f mb ρ S).DoesE EO N R B C = (mi ρ S).DoesE (eAt EO ρ) fun ds S1 => (forL f mb ds ρ S1).DoesE EO N R B C := by
  unfold mFor
  rw [does_ofRes]
@[simp] theorem does_forL_nil {f : D → Rho → Option Rho} {mb : MS} : (forL f mb [] ρ S).DoesE EO N R B C = N ρ S := rfl
@[simp] theorem does_forL_cons {f : D → Rho → Option Rho} {mb : MS} {d : D} {r : List D} : (forL f mb (d :: r) ρ S).DoesE EO N R B C = match f d ρ with
    | none => False
    | some ρ1 => (mb ρ1 S).DoesE EO (fun ρ S => (forL f mb r ρ S).DoesE EO N R B C) R N (fun ρ S => (forL f mb r ρ S).DoesE EO N R B C) := by
  rw [forL]
  cases f d ρ with
  | none => rfl
  | some ρ1 =>
    simp only
    cases mb ρ1 S <;> rfl
/-- a loop by what holds ahead of each turn -/
theorem forL_does {f : D → Rho → Option Rho} {mb : MS} (I : List D → Rho → Sto → Prop) (step : ∀ d r ρ S, I (d :: r) ρ S → ∃ ρ1, f d ρ = some ρ1 ∧ (mb ρ1 S).DoesE EO (I r) R N (I r)) (stop : ∀ ρ S, I [] ρ S → N ρ S) :
    ∀ (ds : List D) (ρ : Rho) (S : Sto), I ds ρ S → (forL f mb ds ρ S).DoesE EO N R B C
  | [], ρ, S, h => stop ρ S h
  | d :: r, ρ, S, h => by
    obtain ⟨ρ1, e, k⟩ := step d r ρ S h
    unfold forL
    rw [e]
    simp only
    cases q : mb ρ1 S with
    | nx ρ2 S2 => rw [q] at k; exact forL_does I step stop r ρ2 S2 k
    | ct ρ2 S2 => rw [q] at k; exact forL_does I step stop r ρ2 S2 k
    | bk ρ2 S2 => rw [q] at k; exact k
    | rt d S2 => rw [q] at k; exact k
    | exc c fs ρ2 S2 => rw [q] at k; exact k
    | bad => rw [q] at k; exact k
theorem forL_cut {f : D → Rho → Option Rho} {mb : MS} (I : List D → Rho → Sto → Prop) (ds : List D) (start : I ds ρ S) (step : ∀ d r ρ S, I (d :: r) ρ S → ∃ ρ1, f d ρ = some ρ1 ∧ ∀ M : Rho → Sto → Prop, (∀ ρ S, I r ρ S → M ρ S) → (mb ρ1 S).DoesE EO M R N M) (stop : ∀ ρ S, I [] ρ S → N ρ S) :
    (forL f mb ds ρ S).DoesE EO N R B C :=
  forL_does I (fun d r ρ S h => let ⟨ρ1, e, k⟩ := step d r ρ S h; ⟨ρ1, e, k _ fun _ _ h => h⟩) stop ds ρ S start
/-- .. over a cell that stays as it is -/
theorem forC_does {n : Nat} {ds : List D} {f : D → Rho → Option Rho} {mb : MS} (I : List D → Rho → Sto → Prop) (cell : ∀ r ρ S, I r ρ S → S[n]? = some (.lst ds))
    (step : ∀ d r ρ S, I (d :: r) ρ S → ∃ ρ1, f d ρ = some ρ1 ∧ (mb ρ1 S).DoesE EO (I r) R N (I r)) (stop : ∀ ρ S, I [] ρ S → N ρ S) :
    ∀ (r pre : List D) (ρ : Rho) (S : Sto), ds = pre ++ r → I r ρ S → (forC n f mb (r.length + 1) pre.length ρ S).DoesE EO N R B C
  | [], pre, ρ, S, e, h => by
    unfold forC
    rw [cell _ _ _ h]
    have e1 : ds[pre.length]? = none := by rw [e, List.append_nil]; exact List.getElem?_eq_none (Nat.le_refl _)
    simp only [e1]
    rw [if_pos (by rw [e, List.append_nil])]
    exact stop ρ S h
  | d :: r, pre, ρ, S, e, h => by
    unfold forC
    rw [cell _ _ _ h]
    have e1 : ds[pre.length]? = some d := by rw [e, List.getElem?_append_right (Nat.le_refl _), Nat.sub_self] <;> rfl
    simp only [e1]
    obtain ⟨ρ1, e2, k⟩ := step d r ρ S h
    rw [e2]
    simp only
    have go : ∀ ρ2 S2, I r ρ2 S2 → (forC n f mb (d :: r).length (pre.length + 1) ρ2 S2).DoesE EO N R B C := fun ρ2 S2 h2 => by
      have q := forC_does I cell step stop r (pre ++ [d]) ρ2 S2 (by rw [e, List.append_assoc] <;> rfl) h2
      rw [List.length_append, List.length_singleton] at q
      exact q
    cases q : mb ρ1 S with
    | nx ρ2 S2 => rw [q] at k; exact go ρ2 S2 k
    | ct ρ2 S2 => rw [q] at k; exact go ρ2 S2 k
    | bk ρ2 S2 => rw [q] at k; exact k
    | rt d S2 => rw [q] at k; exact k
    | exc c fs ρ2 S2 => rw [q] at k; exact k
    | bad => rw [q] at k; exact k
theorem does_forC {m : ME} {f : D → Rho → Option Rho} {mb : MS} {n : Nat} {ds : List D} {S1 : Sto} (e : m ρ S = .ok (.cell n) S1) (e1 : S1[n]? = some (.lst ds)) (I : List D → Rho → Sto → Prop) (cell : ∀ r ρ S, I r ρ S → S[n]? = some (.lst ds))
    (step : ∀ d r ρ S, I (d :: r) ρ S → ∃ ρ1, f d ρ = some ρ1 ∧ (mb ρ1 S).DoesE EO (I r) R N (I r)) (stop : ∀ ρ S, I [] ρ S → N ρ S) (h : I ds ρ S1) : (mForC m f mb ρ S).DoesE EO N R B C := by
  unfold mForC
  rw [does_ofRes, e, does_ok]
  simp only [e1]
  exact forC_does I cell step stop ds [] ρ S1 rfl h
theorem forC_cut {m : ME} {f : D → Rho → Option Rho} {mb : MS} {n : Nat} {ds : List D} {S1 : Sto} (e : m ρ S = .ok (.cell n) S1) (e1 : S1[n]? = some (.lst ds)) (I : List D → Rho → Sto → Prop) (h : I ds ρ S1) (cell : ∀ r ρ S, I r ρ S → S[n]? = some (.lst ds))
    (step : ∀ d r ρ S, I (d :: r) ρ S → ∃ ρ1, f d ρ = some ρ1 ∧ ∀ M : Rho → Sto → Prop, (∀ ρ S, I r ρ S → M ρ S) → (mb ρ1 S).DoesE EO M R N M) (stop : ∀ ρ S, I [] ρ S → N ρ S) : (mForC m f mb ρ S).DoesE EO N R B C :=
  does_forC e e1 I cell (fun d r ρ S h => let ⟨ρ1, e, k⟩ := step d r ρ S h; ⟨ρ1, e, k _ fun _ _ h => h⟩) stop h
@[simp] theorem does_iSeq {m : ME} {Q : List D → Sto → Prop} : (iSeq m ρ S).DoesE E Q = (m ρ S).DoesE E fun d S1 => match d with
    | .tup ds => Q ds S1
    | .lst ds => Q ds S1
    | _ => False := by
  unfold iSeq
  rw [does_bind]
  congr 1
  funext d S1
  cases d <;> rfl
@[simp] theorem does_iEnumS {m : ME} {Q : List D → Sto → Prop} : (iEnumS m ρ S).DoesE E Q = (m ρ S).DoesE E fun d S1 => match d with
    | .tup ds => Q (enumD ds) S1
    | .lst ds => Q (enumD ds) S1
    | _ => False := by
  unfold iEnumS
  rw [does_bind]
  congr 1
  funext d S1
  cases d <;> rfl
@[simp] theorem does_iRange1 {a : MA} {Q : List D → Sto → Prop} : (iRange1 a ρ S).DoesE E Q = (a ρ S).DoesE E fun ds S1 => match ds with
    | [.int j] => (j ≤ 16777216 ∧ -4611686018427387904 ≤ j) ∧ Q (rngD 0 j.toNat) S1
    | _ => False := by
  unfold iRange1
  rw [does_bind]
  congr 1
  funext ds S1
  split
  · rename_i j
    by_cases h : j ≤ 16777216 ∧ -4611686018427387904 ≤ j
    · rw [if_pos h]; simp [h]
    · rw [if_neg h]; simp [h, Res.DoesE]
  · rename_i h
    first
    | rfl
    | (split <;> first
      | rfl
      | (rename_i j; exact absurd rfl (h j)))
@[simp] theorem does_iRange2 {a : MA} {Q : List D → Sto → Prop} : (iRange2 a ρ S).DoesE E Q = (a ρ S).DoesE E fun ds S1 => match ds with
    | [.int i, .int j] => (-1000000000000 ≤ i ∧ i ≤ 1000000000000 ∧ -1000000000000 ≤ j ∧ j ≤ 1000000000000 ∧ j - i ≤ 16777216) ∧ Q (rngD i (j - i).toNat) S1
    | _ => False := by
  unfold iRange2
  rw [does_bind]
  congr 1
  funext ds S1
  split
  · rename_i i j
    by_cases h : -1000000000000 ≤ i ∧ i ≤ 1000000000000 ∧ -1000000000000 ≤ j ∧ j ≤ 1000000000000 ∧ j - i ≤ 16777216
    · rw [if_pos h]; simp [h]
    · rw [if_neg h]; simp [h, Res.DoesE]
  · rename_i h
    first
    | rfl
    | (split <;> first
      | rfl
      | (rename_i i j; exact absurd rfl (h i j)))
/-- what a comprehension gives -/
def LcQ (f : D → Rho → Option Rho) (mt me : ME) (ρ : Rho) (ds : List D) (S : Sto) (Q : List D → Sto → Prop) : Prop := ∃ ys S2, lcL f mt me ρ ds S = some (ys, S2) ∧ Q ys S2
@[simp] theorem lcQ_nil {f : D → Rho → Option Rho} {mt me : ME} {Q : List D → Sto → Prop} : LcQ f mt me ρ [] S Q = Q [] S := by
  refine propext ⟨?_, fun q => ⟨[], S, rfl, q⟩⟩
  rintro ⟨ys, S2, e, q⟩
  cases e
  exact q
@[simp] theorem lcQ_cons {f : D → Rho → Option Rho} {mt me : ME} {d : D} {r : List D} {Q : List D → Sto → Prop} : LcQ f mt me ρ (d :: r) S Q = match f d ρ with
    | none => False
    | some ρ1 => (mt ρ1 S).Does (BlQ fun k S1 => if k = true then (me ρ1 S1).Does fun y S2 => LcQ f mt me ρ r S2 fun ys S3 => Q (y :: ys) S3 else LcQ f mt me ρ r S1 Q) := by
  unfold LcQ
  rw [lcL]
  cases f d ρ with
  | none => simp
  | some ρ1 =>
    simp only
    cases mt ρ1 S with
    | ok v S1 =>
      cases v with
      | bl b =>
        cases b with
        | true =>
          simp only [does_ok, blQ_bl, if_true]
          cases me ρ1 S1 with
          | ok y S2 =>
            simp only [does_ok]
            cases lcL f mt me ρ r S2 with
            | none => simp
            | some z =>
              obtain ⟨ys, S3⟩ := z
              refine propext ⟨?_, ?_⟩
              · rintro ⟨ys', S', e, q⟩
                cases e
                exact ⟨_, _, rfl, q⟩
              · rintro ⟨ys', S', e, q⟩
                cases e
                exact ⟨_, _, rfl, q⟩
          | _ => simp [Res.DoesE]
        | false => simp [does_ok, blQ_bl]
      | _ => simp [does_ok, BlQ]
    | _ => simp [Res.DoesE]
@[simp] theorem does_yes {Q : D → Sto → Prop} : (mYes ρ S).DoesE E Q = Q (.bl true) S := rfl
@[simp] theorem does_lc {mi : MA} {f : D → Rho → Option Rho} {mt me : ME} {vs : List Nat} {Q : List D → Sto → Prop} : (mLc mi f mt me vs ρ S).DoesE E Q = (mi ρ S).DoesE E fun ds S1 => LcQ f mt me (wipeD ρ vs) ds S1 Q := by
  unfold mLc
  rw [does_bind]
  congr 1
  funext ds S1
  unfold LcQ
  cases e : lcL f mt me (wipeD ρ vs) ds S1 with
  | none => simp [Res.DoesE]
  | some r =>
    obtain ⟨ys, S2⟩ := r
    refine propext ⟨fun q => ⟨ys, S2, rfl, q⟩, ?_⟩
    rintro ⟨ys', S2', e', q⟩
    cases e'
    exact q
/-- a comprehension without a test whose element changes no cell -/
theorem lcQ_map {f : D → Rho → Option Rho} {me : ME} {ds : List D} {Q : List D → Sto → Prop} (g : D → D) (h : ∀ d, d ∈ ds → ∃ ρ1, f d ρ = some ρ1 ∧ ∀ Q : D → Sto → Prop, Q (g d) S → (me ρ1 S).Does Q) (q : Q (ds.map g) S) : LcQ f mYes me ρ ds S Q := by
  induction ds generalizing Q with
  | nil => rw [lcQ_nil]; exact q
  | cons d r ih =>
    obtain ⟨ρ1, e, k⟩ := h d List.mem_cons_self
    rw [lcQ_cons, e]
    simp only [does_yes, blQ_bl, if_true]
    exact k _ (ih (fun d hd => h d (List.mem_cons_of_mem _ hd)) q)
@[simp] theorem does_slT {a : ME} {lo hi : MO} : (mSlT a lo hi ρ S).DoesE E Q = (a ρ S).DoesE E fun x S1 => (lo ρ S1).DoesE E fun l S2 => (hi ρ S2).DoesE E fun h S3 => match x with
    | .tup ds => Q (.tup (cutD ds l h)) S3
    | _ => False := by
  unfold mSlT
  rw [does_bind]; congr 1; funext x S1
  rw [does_bind]; congr 1; funext l S2
  rw [does_bind]; congr 1; funext h S3
  cases x <;> rfl
@[simp] theorem does_slL {a : ME} {lo hi : MO} {Q : List D → Sto → Prop} : (mSlL a lo hi ρ S).DoesE E Q = (a ρ S).DoesE E fun x S1 => (lo ρ S1).DoesE E fun l S2 => (hi ρ S2).DoesE E fun h S3 => match lstOf S3 x with
    | some ds => Q (cutD ds l h) S3
    | none => False := by
  unfold mSlL
  rw [does_bind]; congr 1; funext x S1
  rw [does_bind]; congr 1; funext l S2
  rw [does_bind]; congr 1; funext h S3
  cases lstOf S3 x <;> rfl
@[simp] theorem does_part {m : ME} {Q : Option Int → Sto → Prop} : (mPart m ρ S).DoesE E Q = (m ρ S).DoesE E fun x S1 => match x with
    | .int i => Q (some i) S1
    | _ => False := by
  unfold mPart
  rw [does_bind]; congr 1; funext x S1
  cases x <;> rfl
@[simp] theorem does_noPart {Q : Option Int → Sto → Prop} : (mNoPart ρ S).DoesE E Q = Q none S := rfl
@[simp] theorem does_back {m : ME} : (mBack m ρ S).DoesE E Q = (m ρ S).DoesE E fun x S1 => match x with
    | .tup ds => Q (.tup ds.reverse) S1
    | _ => False := by
  unfold mBack
  rw [does_bind]; congr 1; funext x S1
  cases x <;> rfl
@[simp] theorem does_catL {a b : MA} {Q : List D → Sto → Prop} : (mCatL a b ρ S).DoesE E Q = (a ρ S).DoesE E fun xs S1 => (b ρ S1).DoesE E fun ys S2 => xs.length + ys.length ≤ 16777216 ∧ Q (xs ++ ys) S2 := by
  unfold mCatL
  rw [does_bind]; congr 1; funext xs S1
  rw [does_bind]; congr 1; funext ys S2
  by_cases h : xs.length + ys.length ≤ 16777216
  · rw [if_pos h]; simp [h]
  · rw [if_neg h]; simp [h, Res.DoesE]
@[simp] theorem does_app {o m : ME} : (mApp o m ρ S).DoesE EO N R B C = (o ρ S).DoesE (eAt EO ρ) fun x S1 => match x with
    | .cell n => ∃ ds0, S1[n]? = some (.lst ds0) ∧ (m ρ S1).DoesE (eAt EO ρ) fun d S2 => ∃ ds, S2[n]? = some (.lst ds) ∧ ds.length < 16777216 ∧ N ρ (S2.set n (.lst (ds ++ [d])))
    | _ => False := by
  unfold mApp
  rw [does_ofRes]; congr 1; funext x S1
  cases x with
  | cell n =>
    simp only
    cases e : S1[n]? with
    | none => simp [Out.DoesE]
    | some c =>
      cases c with
      | lst ds0 =>
        simp only [does_ofRes]
        refine propext ⟨fun q => ⟨ds0, rfl, q.mono fun d S2 z => ?_⟩, ?_⟩
        · revert z
          cases e2 : S2[n]? with
          | none => exact fun z => z.elim
          | some c2 =>
            cases c2 with
            | lst ds =>
              intro z
              by_cases l : ds.length < 16777216
              · simp only [if_pos l] at z
                exact ⟨ds, rfl, l, z⟩
              · simp only [if_neg l] at z
                exact z.elim
            | _ => exact fun z => z.elim
        · rintro ⟨ds', e', q⟩
          refine q.mono fun d S2 z => ?_
          obtain ⟨ds, e2, l, z⟩ := z
          simp only [e2, if_pos l]
          exact z
      | _ => simp [Out.DoesE]
  | _ => rfl
@[simp] theorem does_setIx {m o i : ME} : (mSetIx m o i ρ S).DoesE EO N R B C = (m ρ S).DoesE (eAt EO ρ) fun d S1 => (o ρ S1).DoesE (eAt EO ρ) fun x S2 => (i ρ S2).DoesE (eAt EO ρ) fun y S3 => match x, y with
    | .cell n, .int j => ∃ ds k, S3[n]? = some (.lst ds) ∧ ixN ds.length j = some k ∧ N ρ (S3.set n (.lst (ds.set k d)))
    | _, _ => False := by
  unfold mSetIx
  rw [does_ofRes]; congr 1; funext d S1
  rw [does_ofRes]; congr 1; funext x S2
  rw [does_ofRes]; congr 1; funext y S3
  cases x with
  | cell n =>
    cases y with
    | int j =>
      simp only
      cases e : S3[n]? with
      | none => simp [Out.DoesE]
      | some c =>
        cases c with
        | lst ds =>
          simp only
          cases e2 : ixN ds.length j with
          | none => simp [Out.DoesE, e2]
          | some k => simp [e2]
        | _ => simp [Out.DoesE]
    | _ => rfl
  | _ => rfl
@[simp] theorem does_aug {i : Nat} {f : Int → Int → Int} {m : ME} : (mAug i f m ρ S).DoesE EO N R B C = match ρ[i]? with
    | some (some (.int a)) => (m ρ S).DoesE (eAt EO ρ) fun d S1 => match d with
      | .int b => N (ρ.set i (some (.int (f a b)))) S1
      | _ => False
    | _ => False := by
  unfold mAug
  cases ρ[i]? with
  | none => rfl
  | some o =>
    cases o with
    | none => rfl
    | some d =>
      cases d with
      | int a =>
        simp only
        rw [does_ofRes]; congr 1; funext d S1
        cases d <;> rfl
      | _ => rfl
@[simp] theorem does_repL {a : MA} {b : ME} {Q : List D → Sto → Prop} : (mRepL a b ρ S).DoesE E Q = (a ρ S).DoesE E fun xs S1 => (b ρ S1).DoesE E fun y S2 => match y with
    | .int k => (k < 1000000 ∧ xs.length * k.toNat ≤ 16777216 ∧ -1000000 < k) ∧ Q (List.replicate k.toNat xs).flatten S2
    | _ => False := by
  unfold mRepL
  rw [does_bind]; congr 1; funext xs S1
  rw [does_bind]; congr 1; funext y S2
  cases y with
  | int k =>
    simp only
    by_cases h : k < 1000000 ∧ xs.length * k.toNat ≤ 16777216 ∧ -1000000 < k
    · rw [if_pos h]; simp [h]
    · rw [if_neg h]; simp [h, Res.DoesE]
  | _ => rfl
@[simp] theorem does_catC {a : ME} {b : MA} {Q : List D → Sto → Prop} : (mCatC a b ρ S).DoesE E Q = (a ρ S).DoesE E fun x S1 => (b ρ S1).DoesE E fun ys S2 => match x with
    | .cell n => ∃ xs, S2[n]? = some (.lst xs) ∧ xs.length + ys.length ≤ 16777216 ∧ Q (xs ++ ys) S2
    | _ => False := by
  unfold mCatC
  rw [does_bind]; congr 1; funext x S1
  rw [does_bind]; congr 1; funext ys S2
  cases x with
  | cell n =>
    simp only
    cases e : S2[n]? with
    | none => simp [Res.DoesE]
    | some c =>
      cases c with
      | lst xs =>
        simp only
        by_cases h : xs.length + ys.length ≤ 16777216
        · rw [if_pos h]; simp [h]
        · rw [if_neg h]; simp [h, Res.DoesE]
      | _ => simp [Res.DoesE]
  | _ => rfl
@[simp] theorem does_catV {a : ME} {b : MA} {Q : List D → Sto → Prop} : (mCatV a b ρ S).DoesE E Q = (a ρ S).DoesE E fun x S1 => (b ρ S1).DoesE E fun ys S2 => match lstOf S2 x with
    | some xs => xs.length + ys.length ≤ 16777216 ∧ Q (xs ++ ys) S2
    | none => False := by
  unfold mCatV
  rw [does_bind]; congr 1; funext x S1
  rw [does_bind]; congr 1; funext ys S2
  cases e : lstOf S2 x with
  | none => simp [Res.DoesE]
  | some xs =>
    simp only
    by_cases h : xs.length + ys.length ≤ 16777216
    · rw [if_pos h]; simp [h]
    · rw [if_neg h]; simp [h, Res.DoesE]
end
end Dm
-- text DmAny
namespace Dm
open PySem L2 PySem.Spec PyProof.Rows
open PySem.W (Frag)
/-! ### over what stands in a tuple, a list, a cell, as it stands at each turn -/
def ItA (F : Fx) (μ : List Addr) (H : Hp) (J : It) (p : D × Nat) : Prop := p.2 ≤ 16777216 ∧
  ∀ (F' : Fx) (μ' : List Addr) (H' : Hp) (S' : Sto) (i : Nat), Ext F F' H → Up μ H μ' H' → RS F' μ' H' S' → ∀ ds, seqOf S' p.1 = some ds →
    (∀ x, ds[i]? = some x → J.go i H' ∧ ∀ v H'', J.yld i H' v H'' → H'' = H' ∧ RD F' μ' H' v x) ∧ (i = ds.length → J.stop i H')
/-- the word: the thing and its length at the beginning -/
abbrev MP := Rho → Sto → Res (D × Nat)
def iAny (m : ME) : MP := fun ρ S => (m ρ S).bind fun d S1 => match seqOf S1 d with
  | some ds => .ok (d, ds.length) S1
  | none => .bad
structure DIA (X : Cx) (W : WX) (tg iter : Expr) (m : MP) : Prop where
  ex : ∃ wi, PI X tg iter wi ∧ ∀ ξ μ σ H ρ S R, RG (fx X ξ) μ H σ ρ → RS (fx X ξ) μ H S → WR (fx X ξ) (fun μ H (J : It) (p : D × Nat) => ItA (fx X ξ) μ H J p) (m ρ S) R (fun cls dd H' => W cls dd σ H') μ H → wi σ H R
section
variable {X : Cx} {W : WX} {tg e a b c : Expr} {es : List Expr} {st : Stmt} {sts ts : List Stmt} {ma mb mc m : ME} {mr : MA} {m1 m2 : MS} {pos p p1 p2 p3 : Pos}
theorem itA_tup {F : Fx} {μ : List Addr} {H : Hp} {a : Addr} {xs : List V} {ds : List D} (f : FzT F μ H a xs) (r : RDs F μ H xs ds) (z : Sized F.K H) : ItA F μ H (Itt F.K a) (.tup ds, ds.length) := by
  obtain ⟨h1, h2⟩ := itt_ok f r z
  refine ⟨h1, fun F' μ' H' S' i e u s es h => ?_⟩
  cases h
  refine ⟨fun x hx => ?_, fun hi => (h2 F' μ' H' S' i e u s (by omega)).2 hi⟩
  have hl := (List.getElem?_eq_some_iff.mp hx).1
  obtain ⟨k1, k2⟩ := (h2 F' μ' H' S' i e u s (by omega)).1 x hx
  refine ⟨k1, fun v H'' y => ?_⟩
  obtain ⟨e1, _⟩ := id y
  obtain ⟨_, _, k3⟩ := k2 v H'' y
  subst e1
  exact ⟨rfl, k3⟩
theorem itA_lst {F : Fx} {μ : List Addr} {H : Hp} {v : V} {d : D} {ds : List D} {S : Sto} {a : Addr} (ev : v = .ref a) (s : RS F μ H S) (r : RD F μ H v d) (e : lstOf S d = some ds) (z : Sized F.K H) : ItA F μ H (Itl F.K a) (d, ds.length) := by
  obtain ⟨a', xs, e1, h1, h2⟩ := RD.lstS s r e
  rw [ev] at e1; cases e1
  refine ⟨by rw [← h2.length]; exact z _ _ (.inl h1), fun F' μ' H' S' i ex u s' es h => ?_⟩
  have r' : RD F' μ' H' v d := r.mv (.ext ex u)
  have eL : lstOf S' d = some es := by
    cases d with
    | tup _ => exact nomatch e
    | lst _ => exact h
    | cell n => exact h
    | _ => exact nomatch e
  obtain ⟨a2, ys, e2, h3, h4⟩ := RD.lstS s' r' eL
  rw [ev] at e2; cases e2
  rw [ex.k] at h3
  refine ⟨fun x hx => ?_, fun hi => ⟨ys, h3, by rw [h4.length, hi]; exact Nat.le_refl _⟩⟩
  obtain ⟨w, h5, h6⟩ := h4.get hx
  refine ⟨⟨ys, w, h3, h5⟩, fun v' H'' y => ?_⟩
  obtain ⟨e3, y⟩ := y
  have q := y ys h3
  rw [h5] at q; cases q
  exact ⟨e3, h6⟩
theorem dia_any (h : DE X W e m) : DIA X W tg e (iAny m) := by
  obtain ⟨te, pe, k⟩ := h
  refine ⟨_, piOr (piSized (pi_tup pe)) (piSized (pi_list pe)), fun ξ μ σ H ρ S R g s h => ?_⟩
  cases e1 : m ρ S with
  | bad => unfold iAny at h; rw [e1] at h; exact h.elim
  | exc c fs S1 =>
    unfold iAny at h; rw [e1] at h
    refine .inl (k ξ μ σ H ρ S _ g s ?_)
    rw [e1]; exact h
  | ok d S1 =>
    unfold iAny at h
    rw [e1] at h
    have h : WR (fx X ξ) (fun μ H (J : It) (p : D × Nat) => ItA (fx X ξ) μ H J p) (match seqOf S1 d with | some ds => .ok (d, ds.length) S1 | none => .bad) R (fun cls dd H' => W cls dd σ H') μ H := h
    by_cases c : ∃ ds, d = .tup ds
    · obtain ⟨ds, rfl⟩ := c
      refine .inl (k ξ μ σ H ρ S _ g s ?_)
      rw [e1]
      intro v μ1 H1 u1 s1 r1
      cases r1 with
      | @tup a xs _ f r => exact ⟨a, rfl, ⟨xs, f.sq⟩, fun z => h _ μ1 H1 u1 s1 (itA_tup f r z)⟩
    · cases q : seqOf S1 d with
      | none => rw [q] at h; exact h.elim
      | some ds =>
        rw [q] at h
        refine .inr (k ξ μ σ H ρ S _ g s ?_)
        rw [e1]
        have eL : lstOf S1 d = some ds := by
          cases d with
          | tup es => exact absurd ⟨es, rfl⟩ c
          | lst _ => exact q
          | cell n => exact q
          | _ => exact nomatch q
        intro v μ1 H1 u1 s1 r1
        obtain ⟨a, xs, rfl, h3, h4⟩ := RD.lstS s1 r1 eL
        exact ⟨a, rfl, ⟨xs, h3⟩, fun z => h _ μ1 H1 u1 s1 (itA_lst rfl s1 r1 eL z)⟩
def forA (d : D) (f : D → Rho → Option Rho) (mb : MS) : Nat → Nat → Rho → Sto → Out
  | 0, _, _, _ => .bad
  | k + 1, i, ρ, S => match seqOf S d with
    | some ds => match ds[i]? with
      | none => if i = ds.length then .nx ρ S else .bad
      | some x => match f x ρ with
        | none => .bad
        | some ρ1 => match mb ρ1 S with
          | .nx ρ2 S2 => forA d f mb k (i + 1) ρ2 S2
          | .ct ρ2 S2 => forA d f mb k (i + 1) ρ2 S2
          | .bk ρ2 S2 => .nx ρ2 S2
          | .rt d S2 => .rt d S2
          | .exc c fs ρ2 S2 => .exc c fs ρ2 S2
          | .bad => .bad
    | none => .bad
def mForA (m : ME) (f : D → Rho → Option Rho) (mb : MS) : MS := fun ρ S => ofRes (iAny m ρ S) ρ fun p S1 => forA p.1 f mb (p.2 + 1) 0 ρ S1
theorem ds_forA {f : D → Rho → Option Rho} {is : List Nat} {mb : MS} (hp : PassesOwn (model X.prog X.w) X.A X.env X.xe) (hc : X.calm = true) (hi : DE X W e m) (hg : DG X tg f is) (hb : DSs X W sts mb)
    (hs : ∀ x, foldedSetIterable e X.env x = pure x := by intro _; rfl) : DS X W (.For tg e sts [] pos) (mForA m f mb) := by
  obtain ⟨wi, pi, ki⟩ := dia_any (tg := tg) hi
  obtain ⟨tg', pg, kg⟩ := hg
  obtain ⟨tb, pb, kb⟩ := hb
  refine ⟨_, ps_for hp hc pi pg pb hs, fun ξ μ σ H ρ S D g s h => ki ξ μ σ H ρ S _ g s (WS'.bind g h fun p S1 J μ1 H1 u1 s1 r1 h1 => ?_)⟩
  obtain ⟨d, n0⟩ := p
  refine ⟨fun i k σ' H' => ∃ μ' ρ' S', Up μ1 H1 μ' H' ∧ RS (fx X ξ) μ' H' S' ∧ RG (fx X ξ) μ' H' σ' ρ' ∧ WS' (fx X ξ) (forA d f mb k i ρ' S') D W μ' H',
    ⟨_, μ1, ρ, S1, .refl, s1, g.up u1, h1⟩, ?_⟩
  rintro i k σ' H' ⟨μ', ρ', S', u', s', g', w⟩
  cases k with
  | zero => exact w.elim
  | succ k =>
    unfold forA at w
    cases q' : seqOf S' d with
    | none => rw [q'] at w; exact w.elim
    | some es =>
      rw [q'] at w
      simp only at w
      obtain ⟨t1, t2⟩ := r1.2 (fx X ξ) μ' H' S' i .refl u' s' es q'
      cases q2 : es[i]? with
      | none =>
        rw [q2] at w
        simp only at w
        by_cases hi : i = es.length
        · rw [if_pos hi] at w
          exact .inl ⟨t2 hi, w σ' μ' H' .refl s' g'⟩
        · rw [if_neg hi] at w; exact w.elim
      | some x =>
        rw [q2] at w
        simp only at w
        obtain ⟨go, yl⟩ := t1 x q2
        cases ef : f x ρ' with
        | none => rw [ef] at w; exact w.elim
        | some ρ1 =>
          rw [ef] at w
          simp only at w
          refine .inr ⟨go, fun σ2 H2 => ∃ μ' ρ' S', Up μ1 H1 μ' H2 ∧ RS (fx X ξ) μ' H2 S' ∧ RG (fx X ξ) μ' H2 σ2 ρ' ∧ WS' (fx X ξ) (forA d f mb k (i + 1) ρ' S') D W μ' H2,
            fun σ2 H2 z => ⟨k, Nat.lt_succ_self k, z⟩, fun v H2 y => ?_⟩
          obtain ⟨y1, y2⟩ := yl v H2 y
          subst y1
          refine kg ξ μ' σ' _ ρ' v x ρ1 _ g' y2 ef fun σ2 g2 _ => ?_
          refine kb ξ μ' σ2 _ ρ1 S' _ g2 s' ?_
          cases eb : mb ρ1 S' with
          | nx ρ2 S2 =>
            rw [eb] at w
            exact fun σ3 μ3 H3 u3 s3 g3 => ⟨μ3, ρ2, S2, u'.trans u3, s3, g3, w.shift u3⟩
          | ct ρ2 S2 =>
            rw [eb] at w
            exact fun σ3 μ3 H3 u3 s3 g3 => ⟨μ3, ρ2, S2, u'.trans u3, s3, g3, w.shift u3⟩
          | bk ρ2 S2 => rw [eb] at w; exact w
          | rt d S2 => rw [eb] at w; exact w
          | exc c fs ρ2 S2 => rw [eb] at w; exact w
          | bad => rw [eb] at w; exact w
/-! ### comprehensions -/
def lcA (d : D) (f : D → Rho → Option Rho) (mt me : ME) (ρ : Rho) : Nat → Nat → Sto → Option (List D × Sto)
  | 0, _, _ => none
  | k + 1, i, S => match seqOf S d with
    | none => none
    | some ds => match ds[i]? with
      | none => if i = ds.length then some ([], S) else none
      | some x => match f x ρ with
        | none => none
        | some ρ1 => match mt ρ1 S with
          | .ok (.bl true) S1 => match me ρ1 S1 with
            | .ok y S2 => match lcA d f mt me ρ k (i + 1) S2 with
              | some (ys, S3) => some (y :: ys, S3)
              | none => none
            | _ => none
          | .ok (.bl false) S1 => lcA d f mt me ρ k (i + 1) S1
          | _ => none
def mLcA (m : ME) (f : D → Rho → Option Rho) (mt me : ME) (vs : List Nat) : MA := fun ρ S => (iAny m ρ S).bind fun p S1 => match lcA p.1 f mt me (wipeD ρ vs) (p.2 + 1) 0 S1 with
  | some (ys, S2) => .ok ys S2
  | none => .bad
theorem lcA_pos {d : D} {f : D → Rho → Option Rho} {mt me : ME} {ρ : Rho} {k i : Nat} {S : Sto} {r : List D × Sto} (h : lcA d f mt me ρ k i S = some r) : 0 < k := by
  cases k with
  | zero => exact nomatch h
  | succ k => exact Nat.succ_pos k
/-- the reading of a comprehension -/
theorem lcA_read {wi : TI} {tg' : TG} {tt : TT} {te : TE} {f : D → Rho → Option Rho} {is vs : List Nat} {ξ μ : List Addr} {σ : L2.St} {H : Hp} {ρ : Rho} {S : Sto} {Q : VK} {Wx : Value → Option Addr → Hp → Prop} {m mt me : ME}
    (ki : ∀ R, WR (fx X ξ) (fun μ H (J : It) (p : D × Nat) => ItA (fx X ξ) μ H J p) (iAny m ρ S) R Wx μ H → wi σ H R)
    (kg : ∀ ξ μ σ H ρ v d ρ' (Q : L2.St → Hp → Prop), RG (fx X ξ) μ H σ ρ → RD (fx X ξ) μ H v d → f d ρ = some ρ' → (∀ σ', RG (fx X ξ) μ H σ' ρ' → (∀ js : List Nat, (∀ i ∈ is, i ∈ js) → wipe σ' js = wipe σ js) → Q σ' H) → tg' v σ H Q)
    (kt : ∀ ξ μ σ H ρ S Q, RG (fx X ξ) μ H σ ρ → RS (fx X ξ) μ H S → WT' (fx X ξ) (mt ρ S) Q (fun cls dd H' => W0 cls dd σ H') μ H → tt σ H Q)
    (ke : ∀ ξ μ σ H ρ S Q, RG (fx X ξ) μ H σ ρ → RS (fx X ξ) μ H S → WE' (fx X ξ) (me ρ S) Q (fun cls dd H' => W0 cls dd σ H') μ H → te σ H Q)
    (hv : ∀ i ∈ is, i ∈ vs) (g : RG (fx X ξ) μ H σ ρ) (s : RS (fx X ξ) μ H S) (h : WL' (fx X ξ) (mLcA m f mt me vs ρ S) Q Wx μ H) : tLc wi tg' tt te vs σ H Q := by
  refine ki _ (WL'.bind h fun p S1 J μ1 H1 u1 s1 r1 h1 => ?_)
  obtain ⟨d, n0⟩ := p
  intro D hD
  obtain ⟨hz, r1⟩ := r1
  have hz : n0 ≤ 16777216 := hz
  have n1 : D ∉ μ1 := s1.out hD
  have x1 : D ∉ ξ := s1.outX hD
  have ext : Ext (fx X ξ) ((fx X ξ).hold D) H1 := ⟨rfl, rfl, fun a ha => (List.mem_cons.mp ha).elim (fun z => .inr (by rw [z]; exact hD)) .inl⟩
  have main : WL' (fx X ξ) (match lcA d f mt me (wipeD ρ vs) (n0 + 1) 0 S1 with
    | some (ys, S2) => Res.ok ys S2
    | none => .bad) Q Wx μ1 H1 := h1
  refine ⟨fun i k H' => ∃ μ' S' acc dacc, Up μ1 H1 μ' H' ∧ RS ((fx X ξ).hold D) μ' H' S' ∧ H' D = some (.lst acc) ∧ RDs ((fx X ξ).hold D) μ' H' acc dacc ∧ acc.length ≤ i ∧ i + k = n0 + 1 ∧
      ∃ ys S2, lcA d f mt me (wipeD ρ vs) k i S' = some (ys, S2) ∧ ∀ μ2 H2 xs, Up μ1 H1 μ2 H2 → RS ((fx X ξ).hold D) μ2 H2 S2 → RDs ((fx X ξ).hold D) μ2 H2 xs (dacc ++ ys) → H2 D = some (.lst xs) → Q (.ref D) H2,
    ⟨_, μ1, S1, [], [], .fresh hD, s1.holds hD, upd_same, .nil, Nat.le_refl _, Nat.zero_add _, ?_⟩, ?_⟩
  · cases q : lcA d f mt me (wipeD ρ vs) (n0 + 1) 0 S1 with
    | none => rw [q] at main; exact main.elim
    | some r =>
      obtain ⟨ys, S2⟩ := r
      rw [q] at main
      exact ⟨ys, S2, rfl, fun μ2 H2 xs u2 s2 r2 e2 => main D xs μ2 H2 u2 hD s2 r2 e2⟩
  rintro i k H' ⟨μ', S', acc, dacc, u', s', hacc, racc, hla, hi, ys, S2, eL, fin⟩
  cases k with
  | zero => exact nomatch eL
  | succ k =>
    unfold lcA at eL
    cases q' : seqOf S' d with
    | none => rw [q'] at eL; exact nomatch eL
    | some es =>
      rw [q'] at eL
      simp only at eL
      obtain ⟨t1, t2⟩ := r1 ((fx X ξ).hold D) μ' H' S' i ext u' s' es q'
      cases q2 : es[i]? with
      | none =>
        rw [q2] at eL
        simp only at eL
        by_cases e : i = es.length
        · rw [if_pos e] at eL
          cases eL
          exact .inl ⟨t2 e, fin μ' H' acc u' s' (by rw [List.append_nil]; exact racc) hacc⟩
        · rw [if_neg e] at eL; exact nomatch eL
      | some x0 =>
        rw [q2] at eL
        simp only at eL
        obtain ⟨go, yl⟩ := t1 x0 q2
        cases ef : f x0 (wipeD ρ vs) with
        | none => rw [ef] at eL; exact nomatch eL
        | some ρ1 =>
          rw [ef] at eL
          simp only at eL
          refine .inr ⟨go, fun H2 => ∃ μ' S' acc dacc, Up μ1 H1 μ' H2 ∧ RS ((fx X ξ).hold D) μ' H2 S' ∧ H2 D = some (.lst acc) ∧ RDs ((fx X ξ).hold D) μ' H2 acc dacc ∧ acc.length ≤ i + 1 ∧ (i + 1) + k = n0 + 1 ∧
              ∃ ys S2, lcA d f mt me (wipeD ρ vs) k (i + 1) S' = some (ys, S2) ∧ ∀ μ2 H2 xs, Up μ1 H1 μ2 H2 → RS ((fx X ξ).hold D) μ2 H2 S2 → RDs ((fx X ξ).hold D) μ2 H2 xs (dacc ++ ys) → H2 D = some (.lst xs) → Q (.ref D) H2,
            fun H2 z => ⟨k, Nat.lt_succ_self k, z⟩, fun x H2 y => ?_⟩
          obtain ⟨eH, r2⟩ := yl x H2 y
          subst eH
          have g2 : RG (fx X (D :: ξ)) μ' H2 (wipe σ vs) (wipeD ρ vs) := (((g.up u1).mv (.ext ext u'))).wipe vs
          refine kg (D :: ξ) μ' (wipe σ vs) H2 (wipeD ρ vs) x _ ρ1 _ g2 r2 ef fun σ3 g3 w3 => ?_
          have nD : D ∉ μ' := (s'.xi D List.mem_cons_self).1
          have ww : wipe (wipe σ vs) vs = wipe σ vs := by
            refine List.ext_getElem? fun k => ?_
            rw [wipe_get, wipe_get, wipe_length]
            by_cases q : k ∈ vs ∧ k < σ.length
            · rw [if_pos q, if_pos q]
            · rw [if_neg q, if_neg q]
          refine ⟨by rw [w3 vs hv, ww], ?_⟩
          refine kt (D :: ξ) μ' σ3 H2 ρ1 S' _ g3 s' ?_
          cases et : mt ρ1 S' with
          | bad => rw [et] at eL; exact nomatch eL
          | exc c fs S3 => rw [et] at eL; exact nomatch eL
          | ok dd S3 =>
            rw [et] at eL
            cases dd with
            | bl b =>
              intro μ3 H3 u3 s3
              have eD3 : H3 D = some (.lst acc) := u3.keep _ _ hacc nD
              cases b with
              | false =>
                exact ⟨μ3, S3, acc, dacc, u'.trans u3, s3, eD3, racc.up u3, Nat.le_succ_of_le hla, by omega, ys, S2, eL, fin⟩
              | true =>
                simp only at eL
                refine ke (D :: ξ) μ3 σ3 H3 ρ1 S3 _ (g3.up u3) s3 ?_
                cases ee : me ρ1 S3 with
                | bad => rw [ee] at eL; exact nomatch eL
                | exc c fs S4 => rw [ee] at eL; exact nomatch eL
                | ok y S4 =>
                  rw [ee] at eL
                  intro v μ4 H4 u4 s4 r4
                  simp only at eL
                  cases er : lcA d f mt me (wipeD ρ vs) k (i + 1) S4 with
                  | none => rw [er] at eL; exact nomatch eL
                  | some q =>
                    obtain ⟨zs, S5⟩ := q
                    have kp := lcA_pos er
                    rw [er] at eL
                    cases eL
                    have nD3 : D ∉ μ3 := (s3.xi D List.mem_cons_self).1
                    have eD4 : H4 D = some (.lst acc) := u4.keep _ _ eD3 nD3
                    refine ⟨acc, eD4, by rw [sizeLine_eq]; omega, μ4, S4, acc ++ [v], dacc ++ [y], ?_, RS.wr (F := fx X ξ) (p := D) s4, upd_same, RDs.mv (Mv.wr (F := fx X ξ) (p := D)) _ (RDs.append (F := (fx X ξ).hold D) ((racc.up u3).up u4) (.cons r4 .nil)), by rw [List.length_append, List.length_singleton]; omega, by omega, zs, S2, er, fun μ5 H5 xs u5 s5 r5 e5 => fin μ5 H5 xs u5 s5 (by rw [List.append_assoc] at r5; exact r5) e5⟩
                    have U := u'.trans (u3.trans u4)
                    exact ⟨U.pre, U.new, fun a o ha na => by
                      rw [upd_ne (ne_of_none ha hD)]
                      exact U.keep a o ha na⟩
            | _ => exact nomatch eL
theorem dl_lcA {elt : Expr} {ifs : List Expr} {scope : Scope} {own : List (Str × Nat)} {f : D → Rho → Option Rho} {is : List Nat} {mt me : ME} (hc : X.calm = true) (hN : X.N.Nodup) (hi : DE X W e m) (ok : BlkOk X.N X.env.scope scope own)
    (hg : ∀ (s : Shared) (H : Hp) (C : Addr) (cl : List (Str × Addr)) (fp : List Addr), DG (X.blk s H scope (compEnvC scope cl C X.env) fp) tg f is)
    (ht : ∀ (s : Shared) (H : Hp) (C : Addr) (cl : List (Str × Addr)) (fp : List Addr), DTs (X.blk s H scope (compEnvC scope cl C X.env) fp) W0 ifs mt)
    (he : ∀ (s : Shared) (H : Hp) (C : Addr) (cl : List (Str × Addr)) (fp : List Addr), DE (X.blk s H scope (compEnvC scope cl C X.env) fp) W0 elt me)
    (hv : ∀ i ∈ is, i ∈ own.map (·.2) := by decide) (hs : ∀ x, foldedSetIterable e X.env x = pure x := by intro _; rfl) : DL X W (.ListComp elt [⟨tg, e, ifs, 0⟩] scope pos) (mLcA m f mt me (own.map (·.2))) := by
  obtain ⟨wi, pi, ki⟩ := dia_any (tg := tg) hi
  obtain ⟨tg', pg, kg⟩ := dg_all (Xf := blkOf X scope) (K := X.K) (mg := X.mg) (fun _ => rfl) (fun _ => rfl) fun i => hg i.1 i.2.1 i.2.2.1 i.2.2.2.1 i.2.2.2.2
  obtain ⟨tt, pt, kt⟩ := dts_all (Xf := blkOf X scope) (K := X.K) (mg := X.mg) (fun _ => rfl) (fun _ => rfl) fun i => ht i.1 i.2.1 i.2.2.1 i.2.2.2.1 i.2.2.2.2
  obtain ⟨te, pe, ke⟩ := de_all (Xf := blkOf X scope) (K := X.K) (mg := X.mg) (fun _ => rfl) (fun _ => rfl) fun i => he i.1 i.2.1 i.2.2.1 i.2.2.2.1 i.2.2.2.2
  refine ⟨_, pe_lc hc hN pi ok (fun s H C cl fp => pg (s, H, C, cl, fp)) (fun s H C cl fp => pt (s, H, C, cl, fp)) (fun s H C cl fp => pe (s, H, C, cl, fp)) hs, fun ξ μ σ H ρ S Q g s h => ?_⟩
  exact lcA_read (fun R => ki ξ μ σ H ρ S R g s) kg kt ke hv g s h
theorem ds_setLcA (i : Nat) {y : Str} {py spos : Pos} {elt : Expr} {ifs : List Expr} {scope : Scope} {own : List (Str × Nat)} {f : D → Rho → Option Rho} {is : List Nat} {mt me : ME} {mw : MA → ME} (hw : ∀ {te : TE} {mr : MA}, RdL X W te mr → RdE X W te (mw mr)) (hc : X.calm = true) (hN : X.N.Nodup) (hi : DE X W e m) (ok : BlkOk X.N X.env.scope scope own)
    (hg : ∀ (s : Shared) (H : Hp) (C : Addr) (cl : List (Str × Addr)) (fp : List Addr), DG (X.blk s H scope (compEnvC scope cl C X.env) fp) tg f is)
    (ht : ∀ (s : Shared) (H : Hp) (C : Addr) (cl : List (Str × Addr)) (fp : List Addr), DTs (X.blk s H scope (compEnvC scope cl C X.env) fp) W0 ifs mt)
    (he : ∀ (s : Shared) (H : Hp) (C : Addr) (cl : List (Str × Addr)) (fp : List Addr), DE (X.blk s H scope (compEnvC scope cl C X.env) fp) W0 elt me)
    (hv : ∀ i ∈ is, i ∈ own.map (·.2) := by decide) (hy : X.N[i]? = some y := by rfl) (hyl : X.env.scope.names.lookup y = some .local := by rfl)
    (hsw : swapsWith (.ListComp elt [⟨tg, e, ifs, 0⟩] scope pos) (some (.Name y py)) spos.line X.env = pure true := by rfl) (hs : ∀ x, foldedSetIterable e X.env x = pure x := by intro _; rfl) :
    DS X W (.Assign [.Name y py] (.ListComp elt [⟨tg, e, ifs, 0⟩] scope pos) spos) (mAsg i (mw (mLcA m f mt me (own.map (·.2))))) := by
  obtain ⟨wi, pi, ki⟩ := dia_any (tg := tg) hi
  obtain ⟨tg', pg, kg⟩ := dg_all (Xf := blkOf X scope) (K := X.K) (mg := X.mg) (fun _ => rfl) (fun _ => rfl) fun i => hg i.1 i.2.1 i.2.2.1 i.2.2.2.1 i.2.2.2.2
  obtain ⟨tt, pt, kt⟩ := dts_all (Xf := blkOf X scope) (K := X.K) (mg := X.mg) (fun _ => rfl) (fun _ => rfl) fun i => ht i.1 i.2.1 i.2.2.1 i.2.2.2.1 i.2.2.2.2
  obtain ⟨te, pe, ke⟩ := de_all (Xf := blkOf X scope) (K := X.K) (mg := X.mg) (fun _ => rfl) (fun _ => rfl) fun i => he i.1 i.2.1 i.2.2.1 i.2.2.2.1 i.2.2.2.2
  have rd : RdL X W (tLc wi tg' tt te (own.map (·.2))) (mLcA m f mt me (own.map (·.2))) := fun ξ μ σ H ρ S Q g s h => lcA_read (fun R => ki ξ μ σ H ρ S R g s) kg kt ke hv g s h
  refine ⟨_, ps_setLc (i := i) hc hN hy hyl hsw pi ok (fun s H C cl fp => pg (s, H, C, cl, fp)) (fun s H C cl fp => pt (s, H, C, cl, fp)) (fun s H C cl fp => pe (s, H, C, cl, fp)) hs, fun ξ μ σ H ρ S D g s h => ?_⟩
  exact hw rd ξ μ σ H ρ S _ g s (WS'.bind g h fun x S1 v μ1 H1 u1 s1 r1 h1 => h1 _ μ1 H1 .refl s1 ((g.up u1).set i r1))
end
/-! ### what they do -/
section
variable {S : Sto} {ρ : Rho} {N B C : Rho → Sto → Prop} {R : D → Sto → Prop} {f : D → Rho → Option Rho} {mt me : ME} {mb : MS} {E : EX} {EO : EXO}
theorem seqOf_fix {d : D} {ds : List D} (h : d = .tup ds ∨ d = .lst ds) (S : Sto) : seqOf S d = some ds := by
  rcases h with rfl | rfl <;> rfl
theorem forA_fix {d : D} {ds : List D} (h : d = .tup ds ∨ d = .lst ds) : ∀ (r pre : List D) (ρ : Rho) (S : Sto), ds = pre ++ r → forA d f mb (r.length + 1) pre.length ρ S = forL f mb r ρ S
  | [], pre, ρ, S, e => by
    unfold forA
    rw [seqOf_fix h]
    have e1 : ds[pre.length]? = none := by rw [e, List.append_nil]; exact List.getElem?_eq_none (Nat.le_refl _)
    simp only [e1]
    rw [if_pos (by rw [e, List.append_nil])] <;> rfl
  | x :: r, pre, ρ, S, e => by
    unfold forA
    rw [seqOf_fix h]
    have e1 : ds[pre.length]? = some x := by rw [e, List.getElem?_append_right (Nat.le_refl _), Nat.sub_self] <;> rfl
    simp only [e1]
    rw [forL]
    cases f x ρ with
    | none => rfl
    | some ρ1 =>
      simp only
      have q : ∀ ρ2 S2, forA d f mb (x :: r).length (pre.length + 1) ρ2 S2 = forL f mb r ρ2 S2 := fun ρ2 S2 => by
        have q := forA_fix h r (pre ++ [x]) ρ2 S2 (by rw [e, List.append_assoc] <;> rfl)
        rw [List.length_append, List.length_singleton] at q
        exact q
      cases mb ρ1 S <;> first | rfl | exact q _ _
theorem forA_cut {m : ME} {n : Nat} {ds : List D} {S1 : Sto} (e : m ρ S = .ok (.cell n) S1) (e1 : S1[n]? = some (.lst ds)) (I : List D → Rho → Sto → Prop) (h : I ds ρ S1) (cell : ∀ r ρ S, I r ρ S → S[n]? = some (.lst ds))
    (step : ∀ d r ρ S, I (d :: r) ρ S → ∃ ρ1, f d ρ = some ρ1 ∧ ∀ M : Rho → Sto → Prop, (∀ ρ S, I r ρ S → M ρ S) → (mb ρ1 S).DoesE EO M R N M) (stop : ∀ ρ S, I [] ρ S → N ρ S) : (mForA m f mb ρ S).DoesE EO N R B C := by
  have q : ∀ k i ρ S, forA (.cell n) f mb k i ρ S = forC n f mb k i ρ S := by
    intro k
    induction k with
    | zero => intros; rfl
    | succ k ih =>
      intro i ρ S
      unfold forA forC
      have e9 : seqOf S (.cell n) = match S[n]? with
        | some (.lst ds) => some ds
        | _ => none := rfl
      rw [e9]
      cases S[n]? with
      | none => rfl
      | some c =>
        cases c with
        | lst es =>
          simp only
          cases es[i]? with
          | none => rfl
          | some x =>
            simp only
            cases f x ρ with
            | none => rfl
            | some ρ1 =>
              simp only
              cases mb ρ1 S <;> first | rfl | exact ih _ _ _
        | _ => rfl
  have e2 : mForA m f mb ρ S = mForC m f mb ρ S := by
    unfold mForA mForC iAny
    rw [e]
    have : seqOf S1 (.cell n) = some ds := by
      show (match S1[n]? with | some (Cell.lst ds) => some ds | _ => none) = _
      rw [e1]
    show ofRes (match seqOf S1 (D.cell n) with | some ds => Res.ok (D.cell n, ds.length) S1 | none => .bad) ρ (fun p S1 => forA p.1 f mb (p.2 + 1) 0 ρ S1) = (match S1[n]? with | some (Cell.lst ds) => forC n f mb (ds.length + 1) 0 ρ S1 | _ => .bad)
    rw [this, e1]
    exact q _ _ _ _
  rw [e2]
  exact forC_cut e e1 I h cell step stop
def forAS (d : D) (f : D → Rho → Option Rho) (mb : MS) (ρ : Rho) (S : Sto) : Out := match seqOf S d with
  | some ds => forA d f mb (ds.length + 1) 0 ρ S
  | none => .bad
@[simp] theorem does_forA {m : ME} : (mForA m f mb ρ S).DoesE EO N R B C = (m ρ S).DoesE (eAt EO ρ) fun d S1 => (forAS d f mb ρ S1).DoesE EO N R B C := by
  unfold mForA
  rw [does_ofRes]
  unfold iAny
  rw [does_bind]
  congr 1
  funext d S1
  unfold forAS
  cases seqOf S1 d <;> rfl
@[simp] theorem forAS_tup {ds : List D} : forAS (.tup ds) f mb ρ S = forL f mb ds ρ S := forA_fix (.inl rfl) ds [] ρ S rfl
@[simp] theorem forAS_lst {ds : List D} : forAS (.lst ds) f mb ρ S = forL f mb ds ρ S := forA_fix (.inr rfl) ds [] ρ S rfl
theorem forAS_cut {n : Nat} {ds : List D} (e1 : S[n]? = some (.lst ds)) (I : List D → Rho → Sto → Prop) (h : I ds ρ S) (cell : ∀ r ρ S, I r ρ S → S[n]? = some (.lst ds))
    (step : ∀ d r ρ S, I (d :: r) ρ S → ∃ ρ1, f d ρ = some ρ1 ∧ ∀ M : Rho → Sto → Prop, (∀ ρ S, I r ρ S → M ρ S) → (mb ρ1 S).DoesE EO M R N M) (stop : ∀ ρ S, I [] ρ S → N ρ S) : (forAS (.cell n) f mb ρ S).DoesE EO N R B C := by
  have q := forA_cut (R := R) (N := N) (B := B) (C := C) (m := mK (.cell n)) (f := f) (mb := mb) rfl e1 I h cell step stop
  rw [does_forA] at q
  exact q
/-- a comprehension over a cell that stays: an invariant of the stores; the items kept -/
def LcAQ (d : D) (f : D → Rho → Option Rho) (mt me : ME) (ρ : Rho) (n : Nat) (S : Sto) (Q : List D → Sto → Prop) : Prop := ∃ ys S', lcA d f mt me ρ (n + 1) 0 S = some (ys, S') ∧ Q ys S'
@[simp] theorem does_lcA {m : ME} {vs : List Nat} {Q : List D → Sto → Prop} : (mLcA m f mt me vs ρ S).DoesE E Q = (m ρ S).DoesE E fun d S1 => match seqOf S1 d with
    | some ds => LcAQ d f mt me (wipeD ρ vs) ds.length S1 Q
    | none => False := by
  unfold mLcA iAny
  rw [does_bind, does_bind]
  congr 1
  funext d S1
  cases seqOf S1 d with
  | none => rfl
  | some ds =>
    simp only [does_ok]
    unfold LcAQ
    cases e : lcA d f mt me (wipeD ρ vs) (ds.length + 1) 0 S1 with
    | none => simp [Res.DoesE]
    | some r =>
      obtain ⟨ys, S2⟩ := r
      refine propext ⟨fun q => ⟨ys, S2, rfl, q⟩, ?_⟩
      rintro ⟨ys', S2', e', q⟩
      cases e'
      exact q
theorem lcAQ_inv {d : D} {Q : List D → Sto → Prop} (I : Sto → Prop) {α : Type} {i : α → D} (t : α → Bool) (g : α → D) {as0 : List α} (hI : ∀ S, I S → seqOf S d = some (as0.map i))
    (h : ∀ a, a ∈ as0 → ∀ S1, I S1 → ∃ ρ1, f (i a) ρ = some ρ1 ∧ (mt ρ1 S1).Does (fun d S2 => d = .bl (t a) ∧ I S2) ∧ ∀ S2, I S2 → t a = true → (me ρ1 S2).Does (fun d S3 => d = g a ∧ I S3)) :
    ∀ {as pre : List α} {S : Sto}, as0 = pre ++ as → I S → (∀ S', I S' → Q ((as.filter t).map g) S') → ∃ ys S', lcA d f mt me ρ (as.length + 1) pre.length S = some (ys, S') ∧ Q ys S'
  | [], pre, S, e, hS, q => by
    refine ⟨[], S, ?_, q S hS⟩
    unfold lcA
    rw [hI S hS]
    have e1 : (as0.map i)[pre.length]? = none := by rw [e, List.append_nil]; exact List.getElem?_eq_none (by rw [List.length_map]; exact Nat.le_refl _)
    simp only [e1]
    rw [if_pos (by rw [e, List.append_nil, List.length_map])]
  | a :: as, pre, S, e, hS, q => by
    have ha : a ∈ as0 := by rw [e]; exact List.mem_append.mpr (.inr List.mem_cons_self)
    obtain ⟨ρ1, ef, k1, k2⟩ := h a ha S hS
    have e1 : (as0.map i)[pre.length]? = some (i a) := by rw [List.getElem?_map, e, List.getElem?_append_right (Nat.le_refl _), Nat.sub_self] <;> rfl
    have en : as0 = (pre ++ [a]) ++ as := by rw [e, List.append_assoc] <;> rfl
    have lp : (pre ++ [a]).length = pre.length + 1 := by rw [List.length_append, List.length_singleton]
    unfold lcA
    rw [hI S hS]
    simp only [e1, ef]
    obtain ⟨d1, S1, e2, rfl, hS1⟩ := k1.eq
    rw [e2]
    cases c : t a with
    | false =>
      simp only
      obtain ⟨ys, S', z1, z2⟩ := lcAQ_inv (as := as) (pre := pre ++ [a]) I t g hI h en hS1 (fun S' h' => by
        have := q S' h'
        rw [List.filter_cons, if_neg (by rw [c]; decide)] at this
        exact this)
      rw [lp] at z1
      exact ⟨ys, S', z1, z2⟩
    | true =>
      simp only
      obtain ⟨d2, S2, e3, rfl, hS2⟩ := (k2 S1 hS1 c).eq
      rw [e3]
      simp only
      obtain ⟨ys, S', z1, z2⟩ := lcAQ_inv (as := as) (pre := pre ++ [a]) (Q := fun ys S' => Q (g a :: ys) S') I t g hI h en hS2 (fun S' h' => by
        have := q S' h'
        rw [List.filter_cons, if_pos c] at this
        exact this)
      rw [lp] at z1
      have z1 : lcA d f mt me ρ (a :: as).length (pre.length + 1) S2 = some (ys, S') := z1
      rw [z1]
      exact ⟨_, _, rfl, z2⟩
theorem lcAQ_ext {d : D} {Q : List D → Sto → Prop} (I : Sto → Prop) {α : Type} {i : α → D} (t : α → Bool) (g : α → D) {as : List α} {n : Nat} (hn : n = as.length) (hI : ∀ S, I S → seqOf S d = some (as.map i)) (hS : I S)
    (h : ∀ a, a ∈ as → ∀ S1, I S1 → ∃ ρ1, f (i a) ρ = some ρ1 ∧ (mt ρ1 S1).Does (fun d S2 => d = .bl (t a) ∧ I S2) ∧ ∀ S2, I S2 → t a = true → (me ρ1 S2).Does (fun d S3 => d = g a ∧ I S3))
    (q : ∀ S', I S' → Q ((as.filter t).map g) S') : LcAQ d f mt me ρ n S Q := by
  subst hn
  exact lcAQ_inv (pre := []) I t g hI h rfl hS q
theorem lcA_fix {d : D} {ds : List D} (h : d = .tup ds ∨ d = .lst ds) : ∀ (r pre : List D) (S : Sto), ds = pre ++ r → lcA d f mt me ρ (r.length + 1) pre.length S = lcL f mt me ρ r S
  | [], pre, S, e => by
    unfold lcA
    rw [seqOf_fix h]
    have e1 : ds[pre.length]? = none := by rw [e, List.append_nil]; exact List.getElem?_eq_none (Nat.le_refl _)
    simp only [e1]
    rw [if_pos (by rw [e, List.append_nil])] <;> rfl
  | x :: r, pre, S, e => by
    unfold lcA
    rw [seqOf_fix h]
    have e1 : ds[pre.length]? = some x := by rw [e, List.getElem?_append_right (Nat.le_refl _), Nat.sub_self] <;> rfl
    simp only [e1]
    rw [lcL]
    have q : ∀ S2, lcA d f mt me ρ (x :: r).length (pre.length + 1) S2 = lcL f mt me ρ r S2 := fun S2 => by
      have q := lcA_fix h r (pre ++ [x]) S2 (by rw [e, List.append_assoc] <;> rfl)
      rw [List.length_append, List.length_singleton] at q
      exact q
    cases f x ρ with
    | none => rfl
    | some ρ1 =>
      simp only
      cases mt ρ1 S with
      | ok d1 S1 =>
        cases d1 with
        | bl b =>
          cases b with
          | true =>
            simp only
            cases me ρ1 S1 with
            | ok y S2 =>
              simp only
              rw [q] <;> (cases lcL f mt me ρ r S2 <;> rfl)
            | _ => rfl
          | false => exact q S1
        | _ => rfl
      | _ => rfl
theorem lcAQ_fix {d : D} {ds : List D} {Q : List D → Sto → Prop} {n : Nat} (h : d = .tup ds ∨ d = .lst ds) (hn : n = ds.length) : LcAQ d f mt me ρ n S Q = LcQ f mt me ρ ds S Q := by
  subst hn
  unfold LcAQ LcQ
  have := lcA_fix (f := f) (mt := mt) (me := me) (ρ := ρ) h ds [] S rfl
  rw [show (([] : List D).length) = 0 from rfl] at this
  rw [this]
@[simp] theorem lcAQ_tup {ds : List D} {Q : List D → Sto → Prop} : LcAQ (.tup ds) f mt me ρ ds.length S Q = LcQ f mt me ρ ds S Q := lcAQ_fix (.inl rfl) rfl
@[simp] theorem lcAQ_lst {ds : List D} {Q : List D → Sto → Prop} : LcAQ (.lst ds) f mt me ρ ds.length S Q = LcQ f mt me ρ ds S Q := lcAQ_fix (.inr rfl) rfl
end
@[simp] theorem lcAQ_fixT {ds : List D} {f : D → Rho → Option Rho} {mt me : ME} {ρ : Rho} {n : Nat} {S : Sto} {Q : List D → Sto → Prop} {α : Type} {g : α → D} {as : List α} : LcAQ (.tup (as.map g)) f mt me ρ as.length S Q = LcQ f mt me ρ (as.map g) S Q := lcAQ_fix (.inl rfl) (by rw [List.length_map])
@[simp] theorem lcAQ_fixL {ds : List D} {f : D → Rho → Option Rho} {mt me : ME} {ρ : Rho} {n : Nat} {S : Sto} {Q : List D → Sto → Prop} {α : Type} {g : α → D} {as : List α} : LcAQ (.lst (as.map g)) f mt me ρ as.length S Q = LcQ f mt me ρ (as.map g) S Q := lcAQ_fix (.inr rfl) (by rw [List.length_map])
theorem seqOf_cell {S : Sto} {n : Nat} {ds : List D} (h : S[n]? = some (.lst ds)) : seqOf S (.cell n) = some ds := by
  show (match S[n]? with | some (Cell.lst ds) => some ds | _ => none) = _
  rw [h]
end Dm
-- text Hw2
namespace Dm
open PySem L2
end Dm
-- text DmSimp
namespace Dm
open PySem L2
section
variable {S : Sto} {k : D → Prop} {i j : Int} {ds es : List D} {n : Nat} {a b : Bool} {x y : Str}
@[simp] theorem optQ_none : OptQ none k = False := rfl
@[simp] theorem optQ_ite {c : Prop} [Decidable c] {d : D} : OptQ (if c then some d else none) k = (c ∧ k d) := by
  by_cases h : c
  · rw [if_pos h]; simp [h]
  · rw [if_neg h]; simp [h]
@[simp] theorem optQ_map {α : Type} {o : Option α} {f : α → D} : OptQ (o.map f) k = (match o with
    | some z => k (f z)
    | none => False) := by cases o <;> rfl
@[simp] theorem gI_int {f : Int → Int → D} : gI f S (.int i) (.int j) = some (f i j) := rfl
@[simp] theorem gIC_int {C : Int → Int → Prop} [∀ i j, Decidable (C i j)] {f : Int → Int → D} : gIC C f S (.int i) (.int j) = if C i j then some (f i j) else none := rfl
@[simp] theorem gAdd_int : gAdd S (.int i) (.int j) = some (.int (i + j)) := rfl
@[simp] theorem gAdd_tup : gAdd S (.tup ds) (.tup es) = if ds.length + es.length ≤ 16777216 then some (.tup (ds ++ es)) else none := rfl
@[simp] theorem gNeg_int : gNeg S (.int i) = some (.int (-i)) := rfl
@[simp] theorem gLen_tup : gLen S [.tup ds] = some (.int ds.length) := rfl
@[simp] theorem gLen_lst : gLen S [.lst ds] = some (.int ds.length) := rfl
theorem lstOf_cell (h : S[n]? = some (.lst ds)) : lstOf S (.cell n) = some ds := by simp only [lstOf, h]
theorem gLen_cell (h : S[n]? = some (.lst ds)) : gLen S [.cell n] = some (.int ds.length) := by
  show (lstOf S (.cell n)).map _ = _
  rw [lstOf_cell h] <;> rfl
@[simp] theorem gInt1_int : gInt1 S [.int i] = some (.int i) := rfl
@[simp] theorem gInt1_bl : gInt1 S [.bl b] = some (.int (if b then 1 else 0)) := rfl
@[simp] theorem gII_int {f : Int → Int → Int} : gII f S [.int i, .int j] = some (.int (f i j)) := rfl
@[simp] theorem gTuple_tup : gTuple S [.tup ds] = some (.tup ds) := rfl
@[simp] theorem gTuple_lst : gTuple S [.lst ds] = some (.tup ds) := rfl
theorem gTuple_cell (h : S[n]? = some (.lst ds)) : gTuple S [.cell n] = some (.tup ds) := by
  show (lstOf S (.cell n)).map _ = _
  rw [lstOf_cell h] <;> rfl
@[simp] theorem gIx_tup : gIx S (.tup ds) (.int i) = atI ds i := rfl
@[simp] theorem gIx_lst : gIx S (.lst ds) (.int i) = atI ds i := rfl
theorem gIx_cell (h : S[n]? = some (.lst ds)) : gIx S (.cell n) (.int i) = atI ds i := by
  show (lstOf S (.cell n)).bind _ = _
  rw [lstOf_cell h] <;> rfl
@[simp] theorem gEq_int : gEq S (.int i) (.int j) = some (.bl (i == j)) := rfl
@[simp] theorem gNe_int : gNe S (.int i) (.int j) = some (.bl (!(i == j))) := rfl
@[simp] theorem gEq_str : gEq S (.str x) (.str y) = some (.bl (x == y)) := rfl
@[simp] theorem gNe_str : gNe S (.str x) (.str y) = some (.bl (!(x == y))) := rfl
theorem shaped_bool (b : Bool) : SeqAt.shaped (.bool b) = true := by cases b <;> decide
@[simp] theorem gEq_bl : gEq S (.bl a) (.bl b) = some (.bl (a == b)) := by
  show (if SeqAt.shaped (.bool a) = true ∧ SeqAt.shaped (.bool b) = true then some (PyData.eqv (.bool a) (.bool b)) else none).map D.bl = _
  rw [if_pos ⟨shaped_bool a, shaped_bool b⟩]
  simp [PyData.eqv]
@[simp] theorem gNe_bl : gNe S (.bl a) (.bl b) = some (.bl (!(a == b))) := by
  show (if SeqAt.shaped (.bool a) = true ∧ SeqAt.shaped (.bool b) = true then some (PyData.eqv (.bool a) (.bool b)) else none).map (fun b => D.bl (!b)) = _
  rw [if_pos ⟨shaped_bool a, shaped_bool b⟩]
  simp [PyData.eqv]
@[simp] theorem gIsN_non {neg : Bool} {d : D} : gIsN neg S d .non = some (.bl (if neg then !isNon d else isNon d)) := rfl
@[simp] theorem isNon_non : isNon .non = true := rfl
@[simp] theorem isNon_bl : isNon (.bl b) = false := rfl
@[simp] theorem isNon_int : isNon (.int i) = false := rfl
@[simp] theorem isNon_str : isNon (.str x) = false := rfl
@[simp] theorem isNon_tup : isNon (.tup ds) = false := rfl
@[simp] theorem isNon_lst : isNon (.lst ds) = false := rfl
@[simp] theorem isNon_cell : isNon (.cell n) = false := rfl
@[simp] theorem tyOf_non : tyOf S .non = some .non := rfl
@[simp] theorem tyOf_bl : tyOf S (.bl b) = some .bl := rfl
@[simp] theorem tyOf_int : tyOf S (.int i) = some .int := rfl
@[simp] theorem tyOf_str : tyOf S (.str x) = some .str := rfl
@[simp] theorem tyOf_tup : tyOf S (.tup ds) = some .tup := rfl
@[simp] theorem tyOf_exv {c : Str} {fs : List (Str × Int)} : tyOf S (.exn c fs) = some .exn := rfl
@[simp] theorem tyOf_lst : tyOf S (.lst ds) = some .lst := rfl
theorem tyOf_cell (h : S[n]? = some (.lst ds)) : tyOf S (.cell n) = some .lst := by simp only [tyOf, h]
@[simp] theorem seqOf_tup : seqOf S (.tup ds) = some ds := rfl
@[simp] theorem seqOf_lst : seqOf S (.lst ds) = some ds := rfl
@[simp] theorem lstOf_lst : lstOf S (.lst ds) = some ds := rfl
@[simp] theorem flatD_int : flatD (.int i) = true := rfl
@[simp] theorem eqF_int : eqF (.int i) (.int j) = (i == j) := rfl
@[simp] theorem tgN_eq {ρ : Rho} {d : D} {i : Nat} : tgN i d ρ = some (ρ.set i (some d)) := rfl
@[simp] theorem tgT_eq {ρ : Rho} {m : Nat} {f : List D → Rho → Option Rho} : tgT m f (.tup ds) ρ = if ds.length = m then f ds ρ else none := rfl
@[simp] theorem tgCons_eq {ρ : Rho} {d : D} {f : D → Rho → Option Rho} {g : List D → Rho → Option Rho} : tgCons f g (d :: ds) ρ = (f d ρ).bind fun ρ1 => g ds ρ1 := rfl
@[simp] theorem tgNil_eq {ρ : Rho} : tgNil [] ρ = some ρ := rfl
@[simp] theorem atI_zero {α : Type} {x : α} {xs : List α} : atI (x :: xs) 0 = some x := by simp [atI, ixN]
@[simp] theorem atI_one {α : Type} {x y : α} {xs : List α} : atI (x :: y :: xs) 1 = some y := by
  have h : (1 : Int) < ((xs.length + 1 + 1 : Nat) : Int) := by omega
  simp only [atI, ixN, List.length_cons, if_pos (show (0 : Int) ≤ 1 by decide), if_pos h] <;> rfl
@[simp] theorem atI_two {α : Type} {x y z : α} {xs : List α} : atI (x :: y :: z :: xs) 2 = some z := by
  have h : (2 : Int) < ((xs.length + 1 + 1 + 1 : Nat) : Int) := by omega
  simp only [atI, ixN, List.length_cons, if_pos (show (0 : Int) ≤ 2 by decide), if_pos h] <;> rfl
theorem atI_of {α : Type} {xs : List α} {i : Int} (h0 : 0 ≤ i) (h : i < xs.length) : atI xs i = xs[i.toNat]? := by
  simp [atI, ixN, h0, h]
theorem cdivw {i j : Int} (h0 : 0 < j) (h : j < 18446744073709551616) : CDivW i j := by
  refine ⟨h0, ?_⟩
  have h1 : j.natAbs < 2 ^ 64 := by omega
  have h2 : j.natAbs.log2 < 64 := (Nat.log2_lt (by omega)).mpr h1
  omega
theorem log2_le {a : Nat} {n : Nat} (h : a < 2 ^ n) : a.log2 ≤ n := by
  by_cases h0 : a = 0
  · subst h0
    rw [Nat.log2_zero]; exact Nat.zero_le _
  · exact Nat.le_of_lt ((Nat.log2_lt h0).mpr h)
theorem cmulw {i j : Int} (n m : Nat) (h : i.natAbs < 2 ^ n) (h' : j.natAbs < 2 ^ m) (hs : n + m < 1000000) : CMulW i j := by
  have h1 := log2_le h
  have h2 := log2_le h'
  show i.natAbs.log2 + j.natAbs.log2 < 1000000
  omega
theorem cmulw64 {i j : Int} (h : -18446744073709551616 < i ∧ i < 18446744073709551616) (h' : -18446744073709551616 < j ∧ j < 18446744073709551616) : CMulW i j := cmulw 64 64 (by omega) (by omega) (by decide)
end
end Dm
-- text DmDict
namespace Dm
open PySem L2 PySem.Spec PyProof.Rows
open PySem.W (Frag)
/-! ### dicts whose keys are ints and texts -/
def keyD : D → Option Key
  | .int i => some (.inl i)
  | .str x => some (.inr x)
  | _ => none
def valD (kvs : List (Key × D)) (k : Key) : Option D := (kvs.find? fun kv => decide (kv.1 = k)).map (·.2)
def putD (kvs : List (Key × D)) (k : Key) (v : D) : List (Key × D) :=
  if (kvs.any fun kv => decide (kv.1 = k)) = true then kvs.map (fun kv => if kv.1 = k then (kv.1, v) else kv) else kvs ++ [(k, v)]
def mergeD (kvs more : List (Key × D)) : List (Key × D) := more.foldl (fun acc kv => putD acc kv.1 kv.2) kvs
def dicOf (S : Sto) : D → Option (List (Key × D))
  | .cell n => match S[n]? with
    | some (.dic kvs) => some kvs
    | _ => none
  | _ => none
section
variable {F : Fx} {μ : List Addr} {H : Hp} {S : Sto}
theorem keyD_of {v : V} {d : D} {k : Key} (r : RD F μ H v d) (e : keyD d = some k) : v = kV k := by
  cases r with
  | int i => cases e; rfl
  | str x => cases e; rfl
  | _ => exact nomatch e
theorem valV_of {k : Key} : ∀ {vk : List (Key × V)} {kvs : List (Key × D)} {d : D}, KvR F μ H vk kvs → valD kvs k = some d → ∃ v, valV vk k = some v ∧ RD F μ H v d
  | _, _, d, .nil, e => by cases e
  | p :: vk, q :: kvs, d, .cons h r, e => by
    obtain ⟨h1, h2⟩ := h
    by_cases c : q.1 = k
    · have e1 : valD (q :: kvs) k = some q.2 := by simp [valD, List.find?_cons, c]
      have e2 : valV (p :: vk) k = some p.2 := valV_pos (by rw [h1]; exact c)
      rw [e1] at e; cases e
      exact ⟨_, e2, h2⟩
    · have e1 : valD (q :: kvs) k = valD kvs k := by simp [valD, List.find?_cons, c]
      have e2 : valV (p :: vk) k = valV vk k := by
        have : ¬ p.1 = k := by rw [h1]; exact c
        simp [valV, List.find?_cons, this]
      rw [e1] at e
      rw [e2]
      exact valV_of r e
theorem valV_none {k : Key} : ∀ {vk : List (Key × V)} {kvs : List (Key × D)}, KvR F μ H vk kvs → (valV vk k).isSome = (valD kvs k).isSome
  | _, _, .nil => rfl
  | p :: vk, q :: kvs, .cons h r => by
    obtain ⟨h1, h2⟩ := h
    by_cases c : q.1 = k
    · have e1 : valD (q :: kvs) k = some q.2 := by simp [valD, List.find?_cons, c]
      have e2 : valV (p :: vk) k = some p.2 := valV_pos (by rw [h1]; exact c)
      rw [e1, e2] <;> rfl
    · have e1 : valD (q :: kvs) k = valD kvs k := by simp [valD, List.find?_cons, c]
      have e2 : valV (p :: vk) k = valV vk k := by
        have : ¬ p.1 = k := by rw [h1]; exact c
        simp [valV, List.find?_cons, this]
      rw [e1, e2]
      exact valV_none r
theorem any_of {k : Key} : ∀ {vk : List (Key × V)} {kvs : List (Key × D)}, KvR F μ H vk kvs → (vk.any fun kv => decide (kv.1 = k)) = (kvs.any fun kv => decide (kv.1 = k))
  | _, _, .nil => rfl
  | p :: vk, q :: kvs, .cons h r => by rw [List.any_cons, List.any_cons, h.1, any_of r]
theorem kvr_map {k : Key} {v : V} {d : D} (hd : RD F μ H v d) : ∀ {vk : List (Key × V)} {kvs : List (Key × D)}, KvR F μ H vk kvs → KvR F μ H (vk.map fun kv => if kv.1 = k then (kv.1, v) else kv) (kvs.map fun kv => if kv.1 = k then (kv.1, d) else kv)
  | _, _, .nil => .nil
  | p :: vk, q :: kvs, .cons h r => by
    refine .cons ?_ (kvr_map hd r)
    obtain ⟨h1, h2⟩ := h
    by_cases c : q.1 = k
    · have c' : p.1 = k := by rw [h1]; exact c
      simp only [if_pos c, if_pos c']
      exact ⟨h1, hd⟩
    · have c' : ¬ p.1 = k := by rw [h1]; exact c
      simp only [if_neg c, if_neg c']
      exact ⟨h1, h2⟩
theorem kvr_snoc {p : Key × V} {q : Key × D} (h : p.1 = q.1 ∧ RD F μ H p.2 q.2) : ∀ {vk : List (Key × V)} {kvs : List (Key × D)}, KvR F μ H vk kvs → KvR F μ H (vk ++ [p]) (kvs ++ [q])
  | _, _, .nil => .cons h .nil
  | _, _, .cons a r => .cons a (kvr_snoc h r)
theorem kvr_put {k : Key} {v : V} {d : D} (hd : RD F μ H v d) {vk : List (Key × V)} {kvs : List (Key × D)} (r : KvR F μ H vk kvs) : KvR F μ H (putK vk k v) (putD kvs k d) := by
  unfold putK putD
  rw [any_of r]
  split
  · exact kvr_map hd r
  · exact kvr_snoc ⟨rfl, hd⟩ r
theorem kvr_len : ∀ {vk : List (Key × V)} {kvs : List (Key × D)}, KvR F μ H vk kvs → vk.length = kvs.length
  | _, _, .nil => rfl
  | _, _, .cons _ r => by rw [List.length_cons, List.length_cons, kvr_len r]
theorem kvr_merge : ∀ {vm : List (Key × V)} {more : List (Key × D)} {vk : List (Key × V)} {kvs : List (Key × D)}, KvR F μ H vm more → KvR F μ H vk kvs → KvR F μ H (mergeK vk vm) (mergeD kvs more)
  | _, _, _, _, .nil, r => r
  | p :: vm, q :: more, vk, kvs, .cons h t, r => by
    obtain ⟨h1, h2⟩ := h
    unfold mergeK mergeD
    rw [List.foldl_cons, List.foldl_cons, h1]
    exact kvr_merge t (kvr_put h2 r)
theorem kvr_mv {F' : Fx} {μ' : List Addr} {H' : Hp} (m : Mv F μ H F' μ' H') {vk : List (Key × V)} {kvs : List (Key × D)} (r : KvR F μ H vk kvs) : KvR F' μ' H' vk kvs := Paired.mapP r fun _ _ z => ⟨z.1, z.2.mv m⟩
theorem dic_at {v : V} {d : D} {kvs : List (Key × D)} (s : RS F μ H S) (r : RD F μ H v d) (e : dicOf S d = some kvs) : ∃ n a vk, d = .cell n ∧ v = .ref a ∧ μ[n]? = some a ∧ S[n]? = some (.dic kvs) ∧ H a = some (.dK vk) ∧ KvR F μ H vk kvs := by
  cases r with
  | @cell a n ea =>
    have e : (match S[n]? with | some (Cell.dic kvs) => some kvs | _ => none) = some kvs := e
    cases q : S[n]? with
    | none => rw [q] at e; exact nomatch e
    | some c =>
      rw [q] at e
      cases c with
      | dic kvs' =>
        cases e
        obtain ⟨vk, h1, h2⟩ := s.at_ n a _ ea q
        exact ⟨n, a, vk, rfl, rfl, ea, q, h1, h2⟩
      | _ => exact nomatch e
  | _ => exact nomatch e
/-- a reserved thing as a cell -/
theorem RS.asCellG {p : Addr} {c : Cell} (r : RS (F.hold p) μ H S) (hx : p ∉ F.ξ) (hc : CellOk F (μ ++ [p]) H p c) : RS F (μ ++ [p]) H (S ++ [c]) := by
  have np := (r.xi p List.mem_cons_self).1
  refine ⟨by rw [List.length_append, List.length_append, r.len] <;> rfl, ?_, fun n a c' e1 e2 => ?_, fun a ha => ⟨fun z => ?_, (r.xi a (List.mem_cons_of_mem _ ha)).2⟩⟩
  · refine List.nodup_append.mpr ⟨r.nd, by simp, fun a ha b hb => ?_⟩
    rw [List.mem_singleton.mp hb]
    rintro rfl
    exact np ha
  · by_cases hn : n < μ.length
    · rw [List.getElem?_append_left hn] at e1
      rw [List.getElem?_append_left (by rw [← r.len]; exact hn)] at e2
      exact (r.at_ n a c' e1 e2).mv .asCell rfl
    · have hn' : n = μ.length := by
        have q := (List.getElem?_eq_some_iff.mp e1).1
        rw [List.length_append, List.length_singleton] at q
        omega
      subst hn'
      rw [List.getElem?_append_right (Nat.le_refl _), Nat.sub_self] at e1
      rw [List.getElem?_append_right (by rw [r.len]; exact Nat.le_refl _), r.len, Nat.sub_self] at e2
      cases e1; cases e2
      exact hc
  · rcases List.mem_append.mp z with z | z
    · exact (r.xi a (List.mem_cons_of_mem _ ha)).1 z
    · rw [List.mem_singleton.mp z] at ha
      exact hx ha
end
section
variable {X : Cx} {W : WX} {tg e a b c o i : Expr} {es : List Expr} {mo mi ma mb mc m : ME} {mr : MA} {pos p p1 p2 p3 : Pos}
/-- d[k] -/
def gDIx : Sto → D → D → Option D := fun S x y => (dicOf S x).bind fun kvs => (keyD y).bind fun k => valD kvs k
theorem d_dix (hu : X.A.units + 64 < cLine) (ho : DE X W o mo) (hi : DE X W i mi) (hs : NoSl i := by exact fun _ _ => rfl) : DE X W (.Subscript o i pos) (mOp gDIx mo mi) := by
  obtain ⟨to, po, ko⟩ := ho
  obtain ⟨ti, pi, ki⟩ := hi
  refine ⟨_, pe_dget (by omega) po pi hs, fun ξ μ σ H ρ S Q g s h => ko ξ μ σ H ρ S _ g s (WR.bind h fun x S1 v μ1 H1 u1 s1 r1 h1 => ?_)⟩
  refine ki ξ μ1 σ H1 ρ S1 _ (g.up u1) s1 (WR.bind h1 fun y S2 w μ2 H2 u2 s2 r2 h2 => ?_)
  unfold gDIx at h2
  cases q1 : dicOf S2 x with
  | none => rw [q1] at h2; exact h2.elim
  | some kvs =>
    rw [q1] at h2
    cases q2 : keyD y with
    | none => rw [q2] at h2; exact h2.elim
    | some k =>
      rw [q2] at h2
      simp only [Option.bind_some] at h2
      cases q3 : valD kvs k with
      | none => rw [q3] at h2; exact h2.elim
      | some d =>
        rw [q3] at h2
        obtain ⟨n, a, vk, rfl, rfl, ea, es, e3, e4⟩ := dic_at s2 (r1.up u2) q1
        obtain ⟨z, e5, e6⟩ := valV_of e4 q3
        have ek := keyD_of r2 q2
        subst ek
        exact ⟨a, z, rfl, by rw [← e5]; exact DGet.k e3, h2 z μ2 H2 .refl s2 e6⟩
/-- {} -/
def mDNew : ME := fun _ S => .ok (.cell S.length) (S ++ [.dic []])
theorem d_dnew : DE X W (.Dict [] [] pos) mDNew := by
  refine ⟨_, pe_dnewK, fun ξ μ σ H ρ S Q g s h => fun p hp => ?_⟩
  have s1 := s.holds (p := p) (o := .dK []) hp
  have s2 := RS.asCellG (c := .dic []) s1 (s.outX hp) ⟨[], upd_same, .nil⟩
  exact h (.ref p) (μ ++ [p]) _ (.alloc hp) s2 (.cell (by rw [List.getElem?_append_right (by rw [s.len]; exact Nat.le_refl _), s.len, Nat.sub_self] <;> rfl))
/-- {k: v, ..} -/
abbrev MPs := Rho → Sto → Res (List (D × D))
def mPNil : MPs := fun _ S => .ok [] S
def mPCons (k v : ME) (r : MPs) : MPs := fun ρ S => (k ρ S).bind fun x S1 => (v ρ S1).bind fun y S2 => (r ρ S2).bind fun xs S3 => .ok ((x, y) :: xs) S3
def PrR (F : Fx) (μ : List Addr) (H : Hp) : List (V × V) → List (D × D) → Prop := Paired fun p q => RD F μ H p.1 q.1 ∧ RD F μ H p.2 q.2
structure DPs (X : Cx) (W : WX) (pos : Pos) (keys : List (Option Expr)) (values : List Expr) (m : MPs) : Prop where
  ex : ∃ trs, PPs X pos keys values trs ∧ ∀ ξ μ σ H ρ S Q, RG (fx X ξ) μ H σ ρ → RS (fx X ξ) μ H S → WR (fx X ξ) (PrR (fx X ξ)) (m ρ S) Q (fun cls dd H' => W cls dd σ H') μ H → tPairs trs σ H Q
theorem dps_nil : DPs X W pos [] [] mPNil := ⟨_, pps_nil, fun ξ μ σ H ρ S Q g s h => h [] μ H .refl s .nil⟩
theorem dps_cons {ks : List (Option Expr)} {vs : List Expr} {mr : MPs} (hk : DE X W a ma) (hv : DE X W b mb) (hr : DPs X W pos ks vs mr) : DPs X W pos (some a :: ks) (b :: vs) (mPCons ma mb mr) := by
  obtain ⟨ta, pa, ka⟩ := hk
  obtain ⟨tb, pb, kb⟩ := hv
  obtain ⟨tr, pr, kr⟩ := hr
  refine ⟨_, pps_cons pa pb pr, fun ξ μ σ H ρ S Q g s h => ka ξ μ σ H ρ S _ g s (WR.bind h fun x S1 v μ1 H1 u1 s1 r1 h1 => ?_)⟩
  refine kb ξ μ1 σ H1 ρ S1 _ (g.up u1) s1 (WR.bind h1 fun y S2 w μ2 H2 u2 s2 r2 h2 => ?_)
  refine kr ξ μ2 σ H2 ρ S2 _ (g.up (u1.trans u2)) s2 (WR.bind h2 fun ds S3 vs μ3 H3 u3 s3 r3 h3 => ?_)
  exact h3 _ μ3 H3 .refl s3 (.cons ⟨r1.up (u2.trans u3), r2.up u3⟩ r3)
def keysD : List (D × D) → Option (List (Key × D))
  | [] => some []
  | (k, v) :: r => (keyD k).bind fun k => (keysD r).map ((k, v) :: ·)
theorem keysD_of {F : Fx} {μ : List Addr} {H : Hp} : ∀ {ps : List (V × V)} {ds : List (D × D)} {kvs : List (Key × D)}, PrR F μ H ps ds → keysD ds = some kvs → ∃ vk : List (Key × V), ps = vk.map (fun kv => (kV kv.1, kv.2)) ∧ KvR F μ H vk kvs ∧ vk.length = kvs.length
  | _, _, kvs, .nil, e => by cases e; exact ⟨[], rfl, .nil, rfl⟩
  | p :: ps, (k, d) :: ds, kvs, .cons h r, e => by
    obtain ⟨h1, h2⟩ := h
    have e : (keyD k).bind (fun k => (keysD ds).map ((k, d) :: ·)) = some kvs := e
    cases q1 : keyD k with
    | none => rw [q1] at e; exact nomatch e
    | some k' =>
      cases q2 : keysD ds with
      | none => rw [q1, q2] at e; exact nomatch e
      | some more =>
        rw [q1, q2] at e; cases e
        obtain ⟨vk, e1, e2, e3⟩ := keysD_of r q2
        refine ⟨(k', p.2) :: vk, ?_, .cons ⟨rfl, h2⟩ e2, by rw [List.length_cons, List.length_cons, e3]⟩
        rw [List.map_cons, e1, ← keyD_of h1 q1]
def mDisp (m : MPs) : ME := fun ρ S => (m ρ S).bind fun ds S1 => match keysD ds with
  | some kvs => if kvs.length ≤ 15 then .ok (.cell S1.length) (S1 ++ [.dic (mergeD [] kvs)]) else .bad
  | none => .bad
theorem d_disp {keys : List (Option Expr)} {values : List Expr} {m : MPs} (h : DPs X W pos keys values m) (hall : keys.all (·.isSome) = true := by rfl) (hl : keys.length = values.length := by rfl) (h0 : keys ≠ [] := by exact List.cons_ne_nil _ _) (h15 : keys.length ≤ 15 := by decide) : DE X W (.Dict keys values pos) (mDisp m) := by
  obtain ⟨trs, ps, kp⟩ := h
  refine ⟨_, pe_disp ps hall hl h0 h15, fun ξ μ σ H ρ S Q g s h => fun p hp => ?_⟩
  have m0 : Mv (fx X ξ) μ H ((fx X ξ).hold p) μ (upd H p (.dK [])) := .holds hp
  have s1 : RS ((fx X ξ).hold p) μ (upd H p (.dK [])) S := s.holds hp
  have n0 : p ∉ μ := s.out hp
  refine kp (p :: ξ) μ σ (upd H p (.dK [])) ρ S _ (g.mv m0) s1 ?_
  unfold mDisp at h
  cases e : m ρ S with
  | bad => rw [e] at h; exact h.elim
  | exc cc fs S1 =>
    rw [e] at h
    have h : ∀ cls dd μ' H', Up μ H μ' H' → RS (fx X ξ) μ' H' S1 → XR (fx X ξ) μ' H' cls dd cc fs → W cls dd σ H' := h
    intro cls dd μ' H' u s' x
    have u' : Up μ H μ' H' := ⟨u.pre, fun a h1 h2 => by
      have := u.new a h1 h2
      by_cases c : a = p
      · rw [c]; exact hp
      · rw [upd_ne c] at this; exact this, fun a o' h1 h2 => u.keep a o' (by rw [upd_ne (ne_of_none h1 hp)]; exact h1) h2⟩
    exact h cls dd μ' H' u' (RS.free (F := fx X ξ) (p := p) s') ⟨x.1, x.2.imp id fun ⟨d, vfs, z1, z2, z3, z5, z4⟩ => ⟨d, vfs, z1, z2, z3, fun q => z5 (List.mem_cons_of_mem _ q), Paired.mapP z4 fun _ _ z => ⟨z.1, RD.free (F := fx X ξ) (p := p) _ z.2⟩⟩⟩
  | ok ds S1 =>
    rw [e] at h
    intro vps μ2 H2 u2 s2 r2
    have e2 : H2 p = some (.dK []) := u2.keep _ _ upd_same n0
    have np2 : p ∉ μ2 := (s2.xi p List.mem_cons_self).1
    have h : WE' (fx X ξ) (match keysD ds with | some kvs => if kvs.length ≤ 15 then .ok (.cell S1.length) (S1 ++ [.dic (mergeD [] kvs)]) else .bad | none => .bad) Q (fun cls dd H' => W cls dd σ H') μ H := h
    cases q : keysD ds with
    | none => rw [q] at h; exact h.elim
    | some kvs =>
      rw [q] at h
      simp only at h
      by_cases c : kvs.length ≤ 15
      · rw [if_pos c] at h
        obtain ⟨vk, e3, e4, e5⟩ := keysD_of r2 q
        refine ⟨e2, vk, e3, by omega, ?_⟩
        have s3 : RS ((fx X ξ).hold p) μ2 (upd H2 p (.dK (mergeK [] vk))) S1 := RS.wr (F := fx X ξ) (p := p) s2
        have e6 : KvR ((fx X ξ).hold p) μ2 (upd H2 p (.dK (mergeK [] vk))) (mergeK [] vk) (mergeD [] kvs) := kvr_mv (Mv.wr (F := fx X ξ) (p := p)) (kvr_merge e4 .nil)
        have s4 := RS.asCellG (F := fx X ξ) (c := .dic (mergeD [] kvs)) s3 (s.outX hp) ⟨_, upd_same, kvr_mv (Mv.asCell (F := fx X ξ) (p := p)) e6⟩
        refine h (.ref p) (μ2 ++ [p]) _ ?_ s4 (.cell (by rw [List.getElem?_append_right (by rw [s2.len]; exact Nat.le_refl _), s2.len, Nat.sub_self] <;> rfl))
        obtain ⟨ν, en⟩ := u2.pre
        refine ⟨⟨ν ++ [p], by rw [en, List.append_assoc]⟩, fun a ha hn => ?_, fun a o ha hn => ?_⟩
        · rcases List.mem_append.mp ha with z | z
          · have := u2.new a z hn
            by_cases c : a = p
            · rw [c]; exact hp
            · rw [upd_ne c] at this; exact this
          · rw [List.mem_singleton.mp z]; exact hp
        · rw [upd_ne (ne_of_none ha hp)]
          exact u2.keep a o (by rw [upd_ne (ne_of_none ha hp)]; exact ha) hn
      · rw [if_neg c] at h; exact h.elim
/-- d[k] = v -/
def mSetDx (m o i : ME) : MS := fun ρ S => ofRes (m ρ S) ρ fun d S1 => ofRes (o ρ S1) ρ fun x S2 => ofRes (i ρ S2) ρ fun y S3 => match x with
  | .cell n => match S3[n]?, keyD y with
    | some (.dic kvs), some k => if kvs.length < 16777216 then .nx ρ (S3.set n (.dic (putD kvs k d))) else .bad
    | _, _ => .bad
  | _ => .bad
theorem Up.cellW {μ : List Addr} {H : Hp} {a : Addr} {o : HO} (h : a ∈ μ) : Up μ H μ (upd H a o) := ⟨⟨[], (List.append_nil _).symm⟩, fun _ h n => absurd h n, fun b u e n => by
  have hb : b ≠ a := fun z => n (by rw [z]; exact h)
  rw [upd_ne hb]; exact e⟩
theorem ds_setDx (hu : X.A.units + 64 < cLine) (he : DE X W e m) (ho : DE X W o mo) (hi : DE X W i mi) (hs : swapsWith e (some (.Subscript o i p)) pos.line X.env = pure false := by rfl) : DS X W (.Assign [.Subscript o i p] e pos) (mSetDx m mo mi) := by
  obtain ⟨te, pe, ke⟩ := he
  obtain ⟨to, po, ko⟩ := ho
  obtain ⟨ti, pi, ki⟩ := hi
  refine ⟨_, ps_dput (by omega) po pi pe hs, fun ξ μ σ H ρ S D g s h => ke ξ μ σ H ρ S _ g s (WS'.bind g h fun d S1 v μ1 H1 u1 s1 r1 h1 => ?_)⟩
  refine ko ξ μ1 σ H1 ρ S1 _ (g.up u1) s1 (WS'.bind (g.up u1) h1 fun x S2 v2 μ2 H2 u2 s2 r2 h2 => ?_)
  refine ki ξ μ2 σ H2 ρ S2 _ (g.up (u1.trans u2)) s2 (WS'.bind (g.up (u1.trans u2)) h2 fun y S3 v3 μ3 H3 u3 s3 r3 h3 => ?_)
  have rd := r1.up (u2.trans u3)
  have rx := r2.up u3
  cases rx with
  | @cell a n ea =>
    simp only at h3
    cases q : S3[n]? with
    | none => rw [q] at h3; exact h3.elim
    | some c =>
      rw [q] at h3
      cases c with
      | dic kvs =>
        cases q2 : keyD y with
        | none => rw [q2] at h3; exact h3.elim
        | some k =>
          rw [q2] at h3
          simp only at h3
          by_cases c : kvs.length < 16777216
          · rw [if_pos c] at h3
            obtain ⟨vk, e1, e2⟩ := s3.at_ n a _ ea q
            have ek := keyD_of r3 q2
            subst ek
            have ha : a ∈ μ3 := List.mem_of_getElem? ea
            refine ⟨a, _, rfl, DPut.k e1 (by rw [kvr_len e2, sizeLine_eq]; exact c), ?_⟩
            have u4 : Up μ3 H3 μ3 (upd H3 a (.dK (putK vk k v))) := .cellW ha
            refine h3 σ μ3 _ u4 (s3.write ea ⟨_, upd_same, (kvr_put rd e2).up u4⟩) (g.up (u1.trans (u2.trans (u3.trans u4))))
          · rw [if_neg c] at h3; exact h3.elim
      | _ => exact h3.elim
  | _ => exact h3.elim
end
/-! ### dict comprehensions -/
def dcA (d : D) (f : D → Rho → Option Rho) (mt mk mv : ME) (ρ : Rho) : Nat → Nat → List (Key × D) → Sto → Option (List (Key × D) × Sto)
  | 0, _, _, _ => none
  | n + 1, i, acc, S => match seqOf S d with
    | none => none
    | some ds => match ds[i]? with
      | none => if i = ds.length then some (acc, S) else none
      | some x => match f x ρ with
        | none => none
        | some ρ1 => match mt ρ1 S with
          | .ok (.bl true) S1 => match mk ρ1 S1 with
            | .ok y S2 => match mv ρ1 S2 with
              | .ok z S3 => match keyD y with
                | some k => dcA d f mt mk mv ρ n (i + 1) (putD acc k z) S3
                | none => none
              | _ => none
            | _ => none
          | .ok (.bl false) S1 => dcA d f mt mk mv ρ n (i + 1) acc S1
          | _ => none
def mDcA (m : ME) (f : D → Rho → Option Rho) (mt mk mv : ME) (vs : List Nat) : ME := fun ρ S => (iAny m ρ S).bind fun p S1 => match dcA p.1 f mt mk mv (wipeD ρ vs) (p.2 + 1) 0 [] S1 with
  | some (kvs, S2) => .ok (.cell S2.length) (S2 ++ [.dic kvs])
  | none => .bad
theorem dcA_pos {d : D} {f : D → Rho → Option Rho} {mt mk mv : ME} {ρ : Rho} {k i : Nat} {acc : List (Key × D)} {S : Sto} {r : List (Key × D) × Sto} (h : dcA d f mt mk mv ρ k i acc S = some r) : 0 < k := by
  cases k with
  | zero => exact nomatch h
  | succ k => exact Nat.succ_pos k
theorem putD_len {kvs : List (Key × D)} {k : Key} {v : D} : (putD kvs k v).length ≤ kvs.length + 1 := by
  unfold putD
  split
  · rw [List.length_map]; omega
  · rw [List.length_append]; exact Nat.le_refl _
section
variable {X : Cx} {W : WX} {tg e a b c : Expr} {m mt mk mv : ME} {pos p : Pos}
theorem dcA_read {wi : TI} {tg' : TG} {tt : TT} {tk te : TE} {f : D → Rho → Option Rho} {is vs : List Nat} {ξ μ : List Addr} {σ : L2.St} {H : Hp} {ρ : Rho} {S : Sto} {Q : VK} {Wx : Value → Option Addr → Hp → Prop}
    (ki : ∀ R, WR (fx X ξ) (fun μ H (J : It) (p : D × Nat) => ItA (fx X ξ) μ H J p) (iAny m ρ S) R Wx μ H → wi σ H R)
    (kg : ∀ ξ μ σ H ρ v d ρ' (Q : L2.St → Hp → Prop), RG (fx X ξ) μ H σ ρ → RD (fx X ξ) μ H v d → f d ρ = some ρ' → (∀ σ', RG (fx X ξ) μ H σ' ρ' → (∀ js : List Nat, (∀ i ∈ is, i ∈ js) → wipe σ' js = wipe σ js) → Q σ' H) → tg' v σ H Q)
    (kt : ∀ ξ μ σ H ρ S Q, RG (fx X ξ) μ H σ ρ → RS (fx X ξ) μ H S → WT' (fx X ξ) (mt ρ S) Q (fun cls dd H' => W0 cls dd σ H') μ H → tt σ H Q)
    (kk : ∀ ξ μ σ H ρ S Q, RG (fx X ξ) μ H σ ρ → RS (fx X ξ) μ H S → WE' (fx X ξ) (mk ρ S) Q (fun cls dd H' => W0 cls dd σ H') μ H → tk σ H Q)
    (ke : ∀ ξ μ σ H ρ S Q, RG (fx X ξ) μ H σ ρ → RS (fx X ξ) μ H S → WE' (fx X ξ) (mv ρ S) Q (fun cls dd H' => W0 cls dd σ H') μ H → te σ H Q)
    (hv : ∀ i ∈ is, i ∈ vs) (g : RG (fx X ξ) μ H σ ρ) (s : RS (fx X ξ) μ H S) (h : WE' (fx X ξ) (mDcA m f mt mk mv vs ρ S) Q Wx μ H) : tDc wi tg' tt tk te vs σ H Q := by
  refine ki _ (WR.bind h fun p S1 J μ1 H1 u1 s1 r1 h1 => ?_)
  obtain ⟨d, n0⟩ := p
  intro D hD
  obtain ⟨hz, r1⟩ := r1
  have hz : n0 ≤ 16777216 := hz
  have ext : Ext (fx X ξ) ((fx X ξ).hold D) H1 := ⟨rfl, rfl, fun a ha => (List.mem_cons.mp ha).elim (fun z => .inr (by rw [z]; exact hD)) .inl⟩
  have main : WE' (fx X ξ) (match dcA d f mt mk mv (wipeD ρ vs) (n0 + 1) 0 [] S1 with
    | some (kvs, S2) => Res.ok (.cell S2.length) (S2 ++ [.dic kvs])
    | none => .bad) Q Wx μ1 H1 := h1
  refine ⟨fun i k H' => ∃ μ' S' vk acc, Up μ1 H1 μ' H' ∧ RS ((fx X ξ).hold D) μ' H' S' ∧ H' D = some (.dK vk) ∧ KvR ((fx X ξ).hold D) μ' H' vk acc ∧ acc.length ≤ i ∧ i + k = n0 + 1 ∧
      ∃ kvs S2, dcA d f mt mk mv (wipeD ρ vs) k i acc S' = some (kvs, S2) ∧ ∀ μ2 H2 vk2, Up μ1 H1 μ2 H2 → RS ((fx X ξ).hold D) μ2 H2 S2 → KvR ((fx X ξ).hold D) μ2 H2 vk2 kvs → H2 D = some (.dK vk2) → Q (.ref D) H2,
    ⟨_, μ1, S1, [], [], .fresh hD, s1.holds hD, upd_same, .nil, Nat.le_refl _, Nat.zero_add _, ?_⟩, ?_⟩
  · cases q : dcA d f mt mk mv (wipeD ρ vs) (n0 + 1) 0 [] S1 with
    | none => rw [q] at main; exact main.elim
    | some r =>
      obtain ⟨kvs, S2⟩ := r
      rw [q] at main
      refine ⟨kvs, S2, rfl, fun μ2 H2 vk2 u2 s2 r2 e2 => ?_⟩
      have s3 := RS.asCellG (F := fx X ξ) (c := .dic kvs) s2 (s1.outX hD) ⟨vk2, e2, kvr_mv (Mv.asCell (F := fx X ξ) (p := D)) r2⟩
      refine main (.ref D) (μ2 ++ [D]) H2 ?_ s3 (.cell (by rw [List.getElem?_append_right (by rw [s2.len]; exact Nat.le_refl _), s2.len, Nat.sub_self] <;> rfl))
      obtain ⟨ν, en⟩ := u2.pre
      refine ⟨⟨ν ++ [D], by rw [en, List.append_assoc]⟩, fun a ha hn => ?_, fun a o ha hn => u2.keep a o ha hn⟩
      rcases List.mem_append.mp ha with z | z
      · exact u2.new a z hn
      · rw [List.mem_singleton.mp z]; exact hD
  rintro i k H' ⟨μ', S', vk, acc, u', s', hacc, racc, hla, hi, kvs, S2, eL, fin⟩
  cases k with
  | zero => exact nomatch eL
  | succ k =>
    unfold dcA at eL
    cases q' : seqOf S' d with
    | none => rw [q'] at eL; exact nomatch eL
    | some es =>
      rw [q'] at eL
      simp only at eL
      obtain ⟨t1, t2⟩ := r1 ((fx X ξ).hold D) μ' H' S' i ext u' s' es q'
      cases q2 : es[i]? with
      | none =>
        rw [q2] at eL
        simp only at eL
        by_cases e : i = es.length
        · rw [if_pos e] at eL
          cases eL
          exact .inl ⟨t2 e, fin μ' H' vk u' s' racc hacc⟩
        · rw [if_neg e] at eL; exact nomatch eL
      | some x0 =>
        rw [q2] at eL
        simp only at eL
        obtain ⟨go, yl⟩ := t1 x0 q2
        cases ef : f x0 (wipeD ρ vs) with
        | none => rw [ef] at eL; exact nomatch eL
        | some ρ1 =>
          rw [ef] at eL
          simp only at eL
          refine .inr ⟨go, fun H2 => ∃ μ' S' vk acc, Up μ1 H1 μ' H2 ∧ RS ((fx X ξ).hold D) μ' H2 S' ∧ H2 D = some (.dK vk) ∧ KvR ((fx X ξ).hold D) μ' H2 vk acc ∧ acc.length ≤ i + 1 ∧ (i + 1) + k = n0 + 1 ∧
              ∃ kvs S2, dcA d f mt mk mv (wipeD ρ vs) k (i + 1) acc S' = some (kvs, S2) ∧ ∀ μ2 H2 vk2, Up μ1 H1 μ2 H2 → RS ((fx X ξ).hold D) μ2 H2 S2 → KvR ((fx X ξ).hold D) μ2 H2 vk2 kvs → H2 D = some (.dK vk2) → Q (.ref D) H2,
            fun H2 z => ⟨k, Nat.lt_succ_self k, z⟩, fun x H2 y => ?_⟩
          obtain ⟨eH, r2⟩ := yl x H2 y
          subst eH
          have g2 : RG (fx X (D :: ξ)) μ' H2 (wipe σ vs) (wipeD ρ vs) := (((g.up u1).mv (.ext ext u'))).wipe vs
          refine kg (D :: ξ) μ' (wipe σ vs) H2 (wipeD ρ vs) x _ ρ1 _ g2 r2 ef fun σ3 g3 w3 => ?_
          have nD : D ∉ μ' := (s'.xi D List.mem_cons_self).1
          have ww : wipe (wipe σ vs) vs = wipe σ vs := by
            refine List.ext_getElem? fun k => ?_
            rw [wipe_get, wipe_get, wipe_length]
            by_cases q : k ∈ vs ∧ k < σ.length
            · rw [if_pos q, if_pos q]
            · rw [if_neg q, if_neg q]
          refine ⟨by rw [w3 vs hv, ww], ?_⟩
          refine kt (D :: ξ) μ' σ3 H2 ρ1 S' _ g3 s' ?_
          cases et : mt ρ1 S' with
          | bad => rw [et] at eL; exact nomatch eL
          | exc c fs S3 => rw [et] at eL; exact nomatch eL
          | ok dd S3 =>
            rw [et] at eL
            cases dd with
            | bl b =>
              intro μ3 H3 u3 s3
              have eD3 : H3 D = some (.dK vk) := u3.keep _ _ hacc nD
              cases b with
              | false =>
                exact ⟨μ3, S3, vk, acc, u'.trans u3, s3, eD3, racc.up u3, Nat.le_succ_of_le hla, by omega, kvs, S2, eL, fin⟩
              | true =>
                simp only at eL
                refine kk (D :: ξ) μ3 σ3 H3 ρ1 S3 _ (g3.up u3) s3 ?_
                cases ek : mk ρ1 S3 with
                | bad => rw [ek] at eL; exact nomatch eL
                | exc c fs S4 => rw [ek] at eL; exact nomatch eL
                | ok y S4 =>
                  rw [ek] at eL
                  intro v μ4 H4 u4 s4 r4
                  simp only at eL
                  refine ke (D :: ξ) μ4 σ3 H4 ρ1 S4 _ (g3.up (u3.trans u4)) s4 ?_
                  cases ev : mv ρ1 S4 with
                  | bad => rw [ev] at eL; exact nomatch eL
                  | exc c fs S5 => rw [ev] at eL; exact nomatch eL
                  | ok z S5 =>
                    rw [ev] at eL
                    intro w μ5 H5 u5 s5 r5
                    simp only at eL
                    cases eky : keyD y with
                    | none => rw [eky] at eL; exact nomatch eL
                    | some ky =>
                      rw [eky] at eL
                      simp only at eL
                      have kp := dcA_pos eL
                      have nD3 : D ∉ μ3 := (s3.xi D List.mem_cons_self).1
                      have nD4 : D ∉ μ4 := (s4.xi D List.mem_cons_self).1
                      have eD5 : H5 D = some (.dK vk) := u5.keep _ _ (u4.keep _ _ eD3 nD3) nD4
                      have rv : KvR ((fx X ξ).hold D) μ5 H5 vk acc := ((racc.up u3).up u4).up u5
                      have ez := keyD_of (r4.up u5) eky
                      subst ez
                      refine ⟨vk, ky, rfl, eD5, by rw [kvr_len rv, sizeLine_eq]; omega, μ5, S5, _, putD acc ky z, ?_, RS.wr (F := fx X ξ) (p := D) s5, upd_same, kvr_mv (Mv.wr (F := fx X ξ) (p := D)) (kvr_put r5 rv), Nat.le_trans putD_len (by omega), by omega, kvs, S2, eL, fin⟩
                      have U := u'.trans (u3.trans (u4.trans u5))
                      exact ⟨U.pre, U.new, fun a o ha na => by
                        rw [upd_ne (ne_of_none ha hD)]
                        exact U.keep a o ha na⟩
            | _ => exact nomatch eL
end
/-! ### what they do -/
section
variable {S : Sto} {ρ : Rho} {Q : D → Sto → Prop} {N B C : Rho → Sto → Prop} {R : D → Sto → Prop} {E : EX} {EO : EXO}
@[simp] theorem keyD_int {i : Int} : keyD (.int i) = some (.inl i) := rfl
@[simp] theorem keyD_str {x : Str} : keyD (.str x) = some (.inr x) := rfl
@[simp] theorem does_dnew : (mDNew ρ S).DoesE E Q = Q (.cell S.length) (S ++ [.dic []]) := rfl
@[simp] theorem does_pnil {Q : List (D × D) → Sto → Prop} : (mPNil ρ S).DoesE E Q = Q [] S := rfl
@[simp] theorem does_pcons {k v : ME} {r : MPs} {Q : List (D × D) → Sto → Prop} : (mPCons k v r ρ S).DoesE E Q = (k ρ S).DoesE E fun x S1 => (v ρ S1).DoesE E fun y S2 => (r ρ S2).DoesE E fun xs S3 => Q ((x, y) :: xs) S3 := by
  unfold mPCons
  rw [does_bind]; congr 1; funext x S1
  rw [does_bind]; congr 1; funext y S2
  rw [does_bind] <;> rfl
@[simp] theorem does_disp {m : MPs} : (mDisp m ρ S).DoesE E Q = (m ρ S).DoesE E fun ds S1 => match keysD ds with
    | some kvs => kvs.length ≤ 15 ∧ Q (.cell S1.length) (S1 ++ [.dic (mergeD [] kvs)])
    | none => False := by
  unfold mDisp
  rw [does_bind]; congr 1; funext ds S1
  cases keysD ds with
  | none => rfl
  | some kvs =>
    simp only
    by_cases h : kvs.length ≤ 15
    · rw [if_pos h]; simp [h]
    · rw [if_neg h]; simp [h, Res.DoesE]
@[simp] theorem does_setDx {m o i : ME} : (mSetDx m o i ρ S).DoesE EO N R B C = (m ρ S).DoesE (eAt EO ρ) fun d S1 => (o ρ S1).DoesE (eAt EO ρ) fun x S2 => (i ρ S2).DoesE (eAt EO ρ) fun y S3 => match x with
    | .cell n => match S3[n]?, keyD y with
      | some (.dic kvs), some k => kvs.length < 16777216 ∧ N ρ (S3.set n (.dic (putD kvs k d)))
      | _, _ => False
    | _ => False := by
  unfold mSetDx
  rw [does_ofRes]; congr 1; funext d S1
  rw [does_ofRes]; congr 1; funext x S2
  rw [does_ofRes]; congr 1; funext y S3
  cases x with
  | cell n =>
    simp only
    cases S3[n]? with
    | none => rfl
    | some c =>
      cases c with
      | dic kvs =>
        cases keyD y with
        | none => rfl
        | some k =>
          simp only
          by_cases h : kvs.length < 16777216
          · rw [if_pos h]; simp [h]
          · rw [if_neg h]; simp [h, Out.DoesE]
      | _ => rfl
  | _ => rfl
theorem dicOf_cell {n : Nat} {kvs : List (Key × D)} (h : S[n]? = some (.dic kvs)) : dicOf S (.cell n) = some kvs := by
  show (match S[n]? with | some (Cell.dic kvs) => some kvs | _ => none) = _
  rw [h]
theorem gDIx_cell {n : Nat} {kvs : List (Key × D)} {y : D} (h : S[n]? = some (.dic kvs)) : gDIx S (.cell n) y = (keyD y).bind fun k => valD kvs k := by
  unfold gDIx
  rw [dicOf_cell h] <;> rfl
/-- a dict comprehension without tests, whose parts change nothing -/
theorem dcA_map {f : D → Rho → Option Rho} {mk mv : ME} {α : Type} {i : α → D} {k : α → Key} {g : α → D} {d : D} {as0 : List α} (hd : seqOf S d = some (as0.map i))
    (h : ∀ a, a ∈ as0 → ∃ ρ1 y, f (i a) ρ = some ρ1 ∧ mk ρ1 S = .ok y S ∧ keyD y = some (k a) ∧ mv ρ1 S = .ok (g a) S) :
    ∀ {as pre : List α} {acc : List (Key × D)}, as0 = pre ++ as → dcA d f mYes mk mv ρ (as.length + 1) pre.length acc S = some (as.foldl (fun acc a => putD acc (k a) (g a)) acc, S)
  | [], pre, acc, e => by
    unfold dcA
    rw [hd]
    have e1 : (as0.map i)[pre.length]? = none := by rw [e, List.append_nil]; exact List.getElem?_eq_none (by rw [List.length_map]; exact Nat.le_refl _)
    simp only [e1]
    rw [if_pos (by rw [e, List.append_nil, List.length_map])] <;> rfl
  | a :: as, pre, acc, e => by
    obtain ⟨ρ1, y, ef, ek, eky, ev⟩ := h a (by rw [e]; exact List.mem_append.mpr (.inr List.mem_cons_self))
    have e1 : (as0.map i)[pre.length]? = some (i a) := by rw [List.getElem?_map, e, List.getElem?_append_right (Nat.le_refl _), Nat.sub_self] <;> rfl
    have en : as0 = (pre ++ [a]) ++ as := by rw [e, List.append_assoc] <;> rfl
    have q := dcA_map hd h (as := as) (pre := pre ++ [a]) (acc := putD acc (k a) (g a)) en
    rw [List.length_append, List.length_singleton] at q
    unfold dcA
    rw [hd]
    simp only [e1, ef, mYes, ek, eky, ev]
    exact q
theorem does_dcA {m : ME} {f : D → Rho → Option Rho} {mt mk mv : ME} {vs : List Nat} {d : D} {S1 S2 : Sto} {ds : List D} {kvs : List (Key × D)} (e : m ρ S = .ok d S1) (e1 : seqOf S1 d = some ds) (e2 : dcA d f mt mk mv (wipeD ρ vs) (ds.length + 1) 0 [] S1 = some (kvs, S2)) (q : Q (.cell S2.length) (S2 ++ [.dic kvs])) :
    (mDcA m f mt mk mv vs ρ S).DoesE E Q := by
  unfold mDcA iAny
  rw [e]
  show Res.DoesE (Res.bind (match seqOf S1 d with | some ds => Res.ok (d, ds.length) S1 | none => .bad) _) E Q
  rw [e1]
  show Res.DoesE (match dcA d f mt mk mv (wipeD ρ vs) (ds.length + 1) 0 [] S1 with | some (kvs, S2) => .ok (.cell S2.length) (S2 ++ [.dic kvs]) | none => .bad) E Q
  rw [e2]
  exact q
end
end Dm
-- text DmKw
namespace Dm
open PySem L2 PySem.Spec PyProof.Rows
open PySem.W (Frag)
/-! ### constant data -/
mutual
inductive KD (K : Frag) : V → D → Prop
  | non : KD K .non .non
  | bl (b : Bool) : KD K (.bl b) (.bl b)
  | int (i : Int) : KD K (.int i) (.int i)
  | str (x : Str) : KD K (.str x) (.str x)
  | tup {a : Addr} {xs : List V} {ds : List D} : KT K a xs → KDs K xs ds → KD K (.ref a) (.tup ds)
inductive KDs (K : Frag) : List V → List D → Prop
  | nil : KDs K [] []
  | cons {v : V} {vs : List V} {d : D} {ds : List D} : KD K v d → KDs K vs ds → KDs K (v :: vs) (d :: ds)
end
mutual
theorem KD.rd {F : Fx} {μ : List Addr} {H : Hp} : ∀ {v : V} (d : D), KD F.K v d → RD F μ H v d
  | _, .non, h => by cases h; exact .non
  | _, .bl b, h => by cases h; exact .bl b
  | _, .int i, h => by cases h; exact .int i
  | _, .str x, h => by cases h; exact .str x
  | _, .tup ds, h => by
    cases h with
    | tup t r => exact .tup (.inr t) (KDs.rd ds r)
  | _, .lst _, h => by cases h
  | _, .cell _, h => by cases h
  | _, .glo _, h => by cases h
  | _, .exn _ _, h => by cases h
theorem KDs.rd {F : Fx} {μ : List Addr} {H : Hp} : ∀ {vs : List V} (ds : List D), KDs F.K vs ds → RDs F μ H vs ds
  | _, [], h => by cases h; exact .nil
  | _, d :: ds, h => by
    cases h with
    | cons a b => exact .cons (KD.rd d a) (KDs.rd ds b)
end
/-- the name stands for this -/
def GlK (K : Frag) (mg : Str → Option Value) (x : Str) (d : D) : Prop := ∃ u v, mg x = some u ∧ RelV v u ∧ KD K v d
theorem GlK.glD {X : Cx} {K : Frag} {mg : Str → Option Value} {x : Str} {d : D} (h : GlK K mg x d) (hK : X.K = K := by rfl) (hg : X.mg = mg := by rfl) : GlD X x d := by
  obtain ⟨u, v, h1, h2, h3⟩ := h
  exact ⟨u, v, by rw [hg]; exact h1, h2, fun ξ μ H => KD.rd (F := fx X ξ) d (by show KD X.K v d; rw [hK]; exact h3)⟩
theorem kt_mk {K : Frag} {a : Addr} {od : Option Addr} {its : Array Value} {n : Nat} {sl : Array (Option Value)} {xs : List V} (h : K.lookup a = some ⟨.type "tuple", od, .seq its n, sl⟩) (hz : its.size ≤ 1000) (r : Vals xs its.toList) : KT K a xs :=
  ⟨_, its, n, h, rfl, rfl, by rw [sizeLine_eq]; omega, r⟩
/-! ### defs with defaults -/
structure FnDD (P : Program) (w : World) (K : Frag) (mg : Str → Option Value) (base : Heap) (k : Nat) (x : Str) (st : Stmt) (dvs : List V) (kws : List (Str × V)) (ps : List Str) (m : List D → Sto → Res D) : Prop where
  ex : ∃ f fd, mg x = some (.ref f) ∧ FunD K x x (defArgs st) (defBody st) (defScope st) dvs kws f fd ∧ FnOk P w K mg base (L2.CX P w) k f fd ps (spD w K mg m)
section
variable {P : Program} {w : World} {K : Frag} {mg : Str → Option Value} {base : Heap}
theorem fndd_mk {x : Str} {st : Stmt} {f : Addr} {fd : FuncData} {N ps : List Str} {dvs : List V} {kws : List (Str × V)} {k np nN : Nat} {mb : MS} (hm : mg x = some (.ref f)) (F : FunD K x x (defArgs st) (defBody st) (defScope st) dvs kws f fd) (S : FnScope N ps (defScope st)) (hnp : ps.length = np) (hnN : N.length = nN)
    (hb : ∀ (cdv : Value) (A : Around) (outer : List Env) (s : Shared) (H : Hp) (E : XK), Room k (A.deeper (envOfC x (defScope st) s.heap.objs.size f cdv)) →
      DSs (cxOf (L2.CX P w) P w K mg base N x (defScope st) f cdv A outer s H E) (fun cls d _ H => E cls d H) (defBody st) mb) : FnDD P w K mg base (k + 1) x st dvs kws ps (mDef np nN mb) := by
  subst hnp hnN
  refine ⟨f, fd, hm, F, F.ok S (fun vs H Q E h => ?_) (fun cdv A outer s H vs Q E hr h => ?_)⟩
  · obtain ⟨ξ, μ, ds, S0, s0, r0, w0⟩ := h
    unfold mDef at w0
    by_cases c : ds.length = ps.length
    · rw [r0.length]; exact c
    · rw [if_neg c] at w0; exact w0.elim
  · obtain ⟨ξ, μ, ds, S0, s0, r0, w0⟩ := h
    obtain ⟨ts, pt, kt⟩ := hb cdv A outer s H E hr
    refine ⟨ts, pt, ?_⟩
    unfold mDef at w0
    by_cases c : ds.length = ps.length
    · rw [if_pos c] at w0
      refine kt ξ μ _ H _ S0 _ (rg_start r0) s0 ?_
      show WS' ⟨K, mg, ξ, w⟩ _ _ _ μ H
      rw [c]
      cases e : mb (ds.map some ++ List.replicate (N.length - ps.length) none) S0 with
      | nx ρ S' => rw [e] at w0; exact fun σ μ' H' u s g => w0 _ μ' H' u s .non
      | rt d S' => rw [e] at w0; exact w0
      | exc c fs ρ S' => rw [e] at w0; exact fun cls dd σ μ' H' u s g x => w0 cls dd μ' H' u s x
      | bk ρ S' => rw [e] at w0; exact w0.elim
      | ct ρ S' => rw [e] at w0; exact w0.elim
      | bad => rw [e] at w0; exact w0.elim
    · rw [if_neg c] at w0; exact w0.elim
end
/-- how the arguments come to the parameters: the written ones, the keywords', the defaults dd -/
def KwBD (K : Frag) (x : Str) (st : Stmt) (dvs : List V) (kws : List (Str × V)) (ps : List Str) (n : Nat) (ks : List Str) (perm : List Nat) (dd : List V) : Prop :=
  ∀ f fd, FunD K x x (defArgs st) (defBody st) (defScope st) dvs kws f fd → ∃ dv : List Value, Vals dd dv ∧ ∀ (s : Shared) (us ws : List Value), K.In s.heap → us.length = n → ws.length = ks.length → BindsTo s fd ⟨us, ks.zip ws⟩ (ps.zip (perm.filterMap ((us ++ ws ++ dv)[·]?)))
theorem kwb_kw {K : Frag} {x : Str} {st : Stmt} {kws : List (Str × V)} {ps : List Str} {n : Nat} {ks : List Str} {perm : List Nat} (ms : List (Str × V)) (hk : kws ≠ []) (hms : ∀ q ∈ ms, q ∈ kws)
    (h : ∀ (D : Addr) (doc pm : Value) (an : Option Addr) (cdv ct : Value) (us ws mv : List Value), us.length = n → ws.length = ks.length → mv.length = ms.length →
      KwChain D ((ms.map (·.1)).zip mv) (bindArgs (PySem.W.fnOf x x (defArgs st) (defBody st) (defScope st) .none (.ref D) doc pm an cdv ct) ⟨us, ks.zip ws⟩) (ps.zip (perm.filterMap ((us ++ ws ++ mv)[·]?)))) :
    KwBD K x st [] kws ps n ks perm (ms.map (·.2)) := by
  intro f fd F
  obtain ⟨oc, od, dV, kV, doc, pm, an, cdv, ct, osl, rfl, lk, hcd, hD, hK⟩ := F.ex
  rcases hD with ⟨_, rfl⟩ | ⟨e, _⟩
  · rcases hK with e | ⟨D, rfl, hq⟩
    · exact absurd e hk
    · obtain ⟨mv, hl, rk, hks⟩ := kwd_vals (ms := ms) fun q h => hq q (hms q h)
      exact ⟨mv, rk, fun s us ws X l1 l2 => BindsTo.of_looks fun M => KwChain.looks X hks (h D doc pm an cdv ct us ws mv l1 l2 hl)⟩
  · exact absurd rfl e
/-- positional defaults alone -/
theorem kwb_pos {K : Frag} {x : Str} {st : Stmt} {dvs : List V} {ps : List Str} {n : Nat} {ks : List Str} {perm : List Nat} (hd : dvs ≠ [])
    (h : ∀ (T : Addr) (kV doc pm : Value) (an : Option Addr) (cdv ct : Value) (us ws its : List Value), us.length = n → ws.length = ks.length → its.length = dvs.length →
      ∃ k, bindArgs (PySem.W.fnOf x x (defArgs st) (defBody st) (defScope st) (.ref T) kV doc pm an cdv ct) ⟨us, ks.zip ws⟩ = seqItems? (.ref T) >>= k ∧ k (some its.toArray) = pure (ps.zip (perm.filterMap ((us ++ ws ++ its)[·]?)))) :
    KwBD K x st dvs [] ps n ks perm dvs := by
  intro f fd F
  obtain ⟨oc, od, dV, kV, doc, pm, an, cdv, ct, osl, rfl, lk, hcd, hD, hK⟩ := F.ex
  rcases hD with ⟨e, _⟩ | ⟨_, T, o, its, m, rfl, lT, oT, rT⟩
  · exact absurd e hd
  · refine ⟨its, rT, fun s us ws X l1 l2 => ?_⟩
    obtain ⟨k, e1, e2⟩ := h T kV doc pm an cdv ct us ws its l1 l2 rT.length.symm
    refine BindsTo.of_looks fun M => ?_
    rw [e1]
    exact looks_items X lT oT (.of_pure e2)
def mCallD (f : List D → Sto → Res D) (n q : Nat) (perm : List Nat) (dd : List D) (a k : MA) : ME := fun ρ S => (a ρ S).bind fun xs S1 => (k ρ S1).bind fun zs S2 => if xs.length = n ∧ zs.length = q then f (perm.filterMap ((xs ++ zs ++ dd)[·]?)) S2 else .bad
def tCallPD (n q : Nat) (sp : Sp) (perm : List Nat) (dd : List V) (E : L2.St → XK) (t tk : TA) : TE := fun σ H Q => t σ H fun vs H1 => tk σ H1 fun zs H2 => vs.length = n ∧ zs.length = q ∧ sp (perm.filterMap ((vs ++ zs ++ dd)[·]?)) H2 Q (E σ)
section
variable {X : Cx} {W : WX} {tg e a b c : Expr} {es : List Expr} {kw : Keyword} {kws : List Keyword} {st : Stmt} {ma mb mc m : ME} {mr mk : MA} {pos p p1 p2 p3 kpos : Pos} {nm : Option Str}
theorem run_fnPD {CX : CXT} {k n : Nat} {f : Addr} {fd : FuncData} {ps ks : List Str} {sp : Sp} {E : L2.St → XK} {perm : List Nat} {pins : List (Addr × Obj)} {σ : L2.St} {H : Hp} {s : Shared} {Q : VK} {us ws dv : List Value} {vs zs dd : List V} (F : FnOk X.prog X.w X.K X.mg X.base CX k f fd ps sp) (hr : Room k X.A)
    (hdv : Vals dd dv) (hb : ∀ (s : Shared) (us ws : List Value), X.K.In s.heap → us.length = n → ws.length = ks.length → BindsTo s fd ⟨us, ks.zip ws⟩ (ps.zip (perm.filterMap ((us ++ ws ++ dv)[·]?)))) (hx : ∀ σ, PassesAt CX X σ (E σ)) (I : Inv X pins σ H s) (r : Vals vs us) (rz : Vals zs ws) (l1 : vs.length = n) (l2 : zs.length = ks.length) (h : sp (perm.filterMap ((vs ++ zs ++ dd)[·]?)) H Q (E σ)) :
    wpAny (model X.prog X.w) X.A (call (.ref f) us (ks.zip ws)) (EP X pins σ Q) X.xe s := by
  have r2 := vals_perm perm ((r.append rz).append hdv)
  refine wpAny_call (codeAny_mono (F.run X.A X.stack s H ⟨us, ks.zip ws⟩ _ _ Q (E σ) hr I.env0 (hb s us ws I.kIn (r.length.symm.trans l1) (rz.length.symm.trans l2)) r2 h) fun r s' hq => ?_)
  cases r with
  | error e => exact hx σ pins H s e s' I hq
  | ok fl =>
    cases fl with
    | ret u => exact I.after hq
    | next => exact False.elim hq
    | brk => exact False.elim hq
    | cont => exact False.elim hq
theorem rds_rd {K : Frag} {F : Fx} {μ : List Addr} {H : Hp} {vs : List V} {ds : List D} (hK : F.K = K) (h : KDs K vs ds) : RDs F μ H vs ds := KDs.rd ds (by rw [hK]; exact h)
theorem d_callD {j k n : Nat} {x : Str} {ps ks : List Str} {dvs : List V} {kwd : List (Str × V)} {f : List D → Sto → Res D} (F : FnDD X.prog X.w X.K X.mg X.base j x st dvs kwd ps f) (perm : List Nat) {dd : List V} {de : List D} (hb : KwBD X.K x st dvs kwd ps n ks perm dd) (hde : KDs X.K dd de)
    (hr : Room k X.A) (tk : Takes X W) (ha : DA X W (e :: es) mr) (hkw : DK X W (kw :: kws) mk) (hj : j ≤ k := by decide) (hg : Gl X x := by rfl) (hall : (backToKw pos (keywordEach (kw :: kws) X.env)).all (·.1.isSome) = true := by rfl) (hks : (backToKw pos (keywordEach (kw :: kws) X.env)).filterMap (·.1) = ks := by rfl)
    (hdb : (x == ("__debug__" : Str)) = false := by decide) (he : starEach (e :: es) X.env = (false, eval e X.env) :: starEach es X.env := by rfl)
    (hpl : ((backTo pos (starEach (e :: es) X.env)).any (·.1) || (backToKw pos (keywordEach (kw :: kws) X.env)).any (·.1.isNone)) = false := by rfl) : DE X W (.Call (.Name x p) (e :: es) (kw :: kws) pos) (mCallD f n ks.length perm de mr mk) := by
  obtain ⟨fa, fd, hm, Fu, G⟩ := F
  obtain ⟨ta, pa, ka⟩ := ha
  obtain ⟨tk', pk, kk⟩ := hkw
  obtain ⟨dv, hdv, hB⟩ := hb fa fd Fu
  refine ⟨tCallPD n ks.length (spD X.w X.K X.mg f) perm dd (WE W) ta tk', ⟨fun pins s σ H Q I h => ?_⟩, fun ξ μ σ H ρ S Q g s h => ka ξ μ σ H ρ S _ g s (WR.bind h fun xs S1 vs μ1 H1 u1 s1 r1 h1 => ?_)⟩
  · refine wpAny_Call_Name_kw (ld_glob I hg hm ?_ hdb)
    refine PySem.W.callWith_KW (h₀ := X.base) I.ok.mod.kin Fu.kp hall (thn (pa.run pos pins s σ H _ I h) fun us s1 ⟨vs, H1, I1, r, q⟩ => ?_) hpl he
    refine thn (pk.run pos pins s1 σ H1 _ I1 q) fun ws s2 ⟨zs, H2, I2, rz, l1, l2, q2⟩ => ⟨I2.kIn, ?_⟩
    rw [hks]
    exact run_fnPD G (hr.mono hj) hdv hB (fun σ => passAt tk σ) I2 r rz l1 l2 q2
  · refine kk ξ μ1 σ H1 ρ S1 _ (g.up u1) s1 (WR.bind h1 fun zs S2 ws μ2 H2 u2 s2 r2 h2 => ?_)
    by_cases c : xs.length = n ∧ zs.length = ks.length
    · rw [if_pos c] at h2
      exact ⟨by rw [r1.length]; exact c.1, by rw [r2.length]; exact c.2, ξ, μ2, _, S2, s2, rds_perm perm (((r1.up u2).append r2).append (rds_rd (F := fx X ξ) rfl hde)), h2⟩
    · rw [if_neg c] at h2; exact h2.elim
/-- f(e, ..), the defaults behind -/
theorem d_callD1 {j k n : Nat} {x : Str} {ps : List Str} {dvs : List V} {kwd : List (Str × V)} {f : List D → Sto → Res D} (F : FnDD X.prog X.w X.K X.mg X.base j x st dvs kwd ps f) (perm : List Nat) {dd : List V} {de : List D} (hb : KwBD X.K x st dvs kwd ps n [] perm dd) (hde : KDs X.K dd de)
    (hr : Room k X.A) (tk : Takes X W) (ha : DA X W (e :: es) mr) (hj : j ≤ k := by decide) (hg : Gl X x := by rfl)
    (hdb : (x == ("__debug__" : Str)) = false := by decide) (he : starEach (e :: es) X.env = (false, eval e X.env) :: starEach es X.env := by rfl) (hpl : (backTo pos (starEach es X.env)).any (·.1) = false := by rfl) : DE X W (.Call (.Name x p) (e :: es) [] pos) (mCallD f n 0 perm de mr mNil) := by
  obtain ⟨fa, fd, hm, Fu, G⟩ := F
  obtain ⟨ta, pa, ka⟩ := ha
  obtain ⟨dv, hdv, hB⟩ := hb fa fd Fu
  refine ⟨tCallPD n 0 (spD X.w X.K X.mg f) perm dd (WE W) ta tNil, ⟨fun pins s σ H Q I h => ?_⟩, fun ξ μ σ H ρ S Q g s h => ka ξ μ σ H ρ S _ g s (WR.bind h fun xs S1 vs μ1 H1 u1 s1 r1 h1 => ?_)⟩
  · refine wpAny_Call_Name_kw (ld_glob I hg hm ?_ hdb)
    refine PySem.W.callWith_K (h₀ := X.base) I.ok.mod.kin Fu.kp (thn (pa.run pos pins s σ H _ I h) fun us s1 ⟨vs, H1, I1, r, l1, l2, q⟩ => ⟨I1.kIn, ?_⟩) he hpl
    exact run_fnPD (ks := []) (ws := []) (zs := []) G (hr.mono hj) hdv hB (fun σ => passAt tk σ) I1 r .nil l1 rfl q
  · have h1 : WE' (fx X ξ) (if xs.length = n ∧ ([] : List D).length = 0 then f (perm.filterMap ((xs ++ [] ++ de)[·]?)) S1 else .bad) Q (fun cls dd H' => W cls dd σ H') μ1 H1 := h1
    by_cases c : xs.length = n ∧ ([] : List D).length = 0
    · rw [if_pos c] at h1
      exact ⟨by rw [r1.length]; exact c.1, rfl, ξ, μ1, _, S1, s1, rds_perm perm ((r1.append .nil).append (rds_rd (F := fx X ξ) rfl hde)), h1⟩
    · rw [if_neg c] at h1; exact h1.elim
end
section
variable {S : Sto} {ρ : Rho} {Q : D → Sto → Prop} {E : EX} {EO : EXO}
@[simp] theorem does_callD {f : List D → Sto → Res D} {n q : Nat} {p : List Nat} {dd : List D} {a k : MA} : (mCallD f n q p dd a k ρ S).DoesE E Q = (a ρ S).DoesE E fun xs S1 => (k ρ S1).DoesE E fun zs S2 => (xs.length = n ∧ zs.length = q) ∧ (f (p.filterMap ((xs ++ zs ++ dd)[·]?)) S2).DoesE E Q := by
  unfold mCallD
  rw [does_bind]
  congr 1
  funext xs S1
  rw [does_bind]
  congr 1
  funext zs S2
  by_cases h : xs.length = n ∧ zs.length = q
  · rw [if_pos h]; simp [h]
  · rw [if_neg h]; simp [h, Res.DoesE]
end
end Dm
-- text DmSetD
namespace L2
open PySem PySem.Spec PyProof.Rows
/-- name = {..} on one line, the name a local -/
theorem ps_setDc {X : Cx} {i : Nat} {y : Str} {py : Pos} {kx vx tg iter : Expr} {ifs : List Expr} {scope : Scope} {own : List (Str × Nat)} {pos spos : Pos} {wi : TI} {g : TG} {tt : TT} {tk tv : TE} (hc : X.calm = true) (hN : X.N.Nodup) (hy : X.N[i]? = some y) (hyl : X.env.scope.names.lookup y = some .local)
    (hsw : swapsWith (.DictComp kx vx [⟨tg, iter, ifs, 0⟩] scope pos) (some (.Name y py)) spos.line X.env = pure true) (hi : PI X tg iter wi) (ok : BlkOk X.N X.env.scope scope own)
    (hg : ∀ (s : Shared) (H : Hp) (C : Addr) (cl : List (Str × Addr)) (fp : List Addr), PG (X.blk s H scope (compEnvC scope cl C X.env) fp) tg g) (ht : ∀ (s : Shared) (H : Hp) (C : Addr) (cl : List (Str × Addr)) (fp : List Addr), PTs (X.blk s H scope (compEnvC scope cl C X.env) fp) ifs tt)
    (hk : ∀ (s : Shared) (H : Hp) (C : Addr) (cl : List (Str × Addr)) (fp : List Addr), PE (X.blk s H scope (compEnvC scope cl C X.env) fp) kx tk)
    (he : ∀ (s : Shared) (H : Hp) (C : Addr) (cl : List (Str × Addr)) (fp : List Addr), PE (X.blk s H scope (compEnvC scope cl C X.env) fp) vx tv) (hs : ∀ x, foldedSetIterable iter X.env x = pure x := by intro _; rfl) :
    PS X (.Assign [.Name y py] (.DictComp kx vx [⟨tg, iter, ifs, 0⟩] scope pos) spos) (tAsg (tDc wi g tt tk tv (own.map (·.2))) (gName i)) := by
  refine ⟨fun pins s σ H D I h => ?_⟩
  rw [exec_Assign_Name_used _ _ _ _ hsw]
  refine wpAny_bind (wpAny_standAt (wpAny_bind ?_))
  show wpAny _ X.A (do let _ ← comprehension (.DictComp kx vx [⟨tg, iter, ifs, 0⟩] scope pos) scope X.env (firstIterPos [⟨tg, iter, ifs, 0⟩] pos) newDict false (eval iter X.env) (some (assign (.Name y py) X.env))) _ _ s
  have h : tDc wi g tt tk tv (own.map (·.2)) σ H (fun x H1 => gName i x σ H1 D.nx) := h
  refine wpAny_bind (thn (dc_core (Qf := fun _ s' => SP X pins D .next s') hc hN I hi ok hg ht hk he hs h fun L C s' m H' I' q hn f => ?_) fun _ s' hq => wpAny_pure (wpAny_pure hq))
  show wpAny _ _ (assign (.Name y py) X.env (.ref L)) _ _ _
  refine wpAny_assign_Name (store_ok2 (v := V.ref L) I' hN hy (.inl hyl) rfl (fun s2 I2 ⟨a, sb, ha⟩ => ?_) (.inr hyl))
  obtain ⟨f0, f1, f2, f3, f4, f5⟩ := f
  have haC : C ≠ a := by
    rcases ha with z | z
    · rw [z]; exact f1
    · exact fun e => f4 y a z e.symm
  refine ⟨m, hn.sameBut sb haC, fun h3 sb3 => ?_⟩
  exact ⟨_, H', I2.turned (t' := s2.toks) (fun b o hb e => (sb3.2 b hb).trans e) f0 f1 f3 f4 f5, q⟩
end L2
namespace Dm
open PySem L2 PySem.Spec PyProof.Rows
section
variable {X : Cx} {W : WX} {tg e a b c : Expr} {m mt mk mv : ME} {pos p : Pos}
theorem ds_setDc (i : Nat) {y : Str} {py spos : Pos} {kx vx : Expr} {ifs : List Expr} {scope : Scope} {own : List (Str × Nat)} {f : D → Rho → Option Rho} {is : List Nat} (hc : X.calm = true) (hN : X.N.Nodup) (hi : DE X W e m) (ok : BlkOk X.N X.env.scope scope own)
    (hg : ∀ (s : Shared) (H : Hp) (C : Addr) (cl : List (Str × Addr)) (fp : List Addr), DG (X.blk s H scope (compEnvC scope cl C X.env) fp) tg f is)
    (ht : ∀ (s : Shared) (H : Hp) (C : Addr) (cl : List (Str × Addr)) (fp : List Addr), DTs (X.blk s H scope (compEnvC scope cl C X.env) fp) W0 ifs mt)
    (hk : ∀ (s : Shared) (H : Hp) (C : Addr) (cl : List (Str × Addr)) (fp : List Addr), DE (X.blk s H scope (compEnvC scope cl C X.env) fp) W0 kx mk)
    (he : ∀ (s : Shared) (H : Hp) (C : Addr) (cl : List (Str × Addr)) (fp : List Addr), DE (X.blk s H scope (compEnvC scope cl C X.env) fp) W0 vx mv)
    (hv : ∀ i ∈ is, i ∈ own.map (·.2) := by decide) (hy : X.N[i]? = some y := by rfl) (hyl : X.env.scope.names.lookup y = some .local := by rfl)
    (hsw : swapsWith (.DictComp kx vx [⟨tg, e, ifs, 0⟩] scope pos) (some (.Name y py)) spos.line X.env = pure true := by rfl) (hs : ∀ x, foldedSetIterable e X.env x = pure x := by intro _; rfl) :
    DS X W (.Assign [.Name y py] (.DictComp kx vx [⟨tg, e, ifs, 0⟩] scope pos) spos) (mAsg i (mDcA m f mt mk mv (own.map (·.2)))) := by
  obtain ⟨wi, pi, ki⟩ := dia_any (tg := tg) hi
  obtain ⟨tg', pg, kg⟩ := dg_all (Xf := blkOf X scope) (K := X.K) (mg := X.mg) (fun _ => rfl) (fun _ => rfl) fun i => hg i.1 i.2.1 i.2.2.1 i.2.2.2.1 i.2.2.2.2
  obtain ⟨tt, pt, kt⟩ := dts_all (Xf := blkOf X scope) (K := X.K) (mg := X.mg) (fun _ => rfl) (fun _ => rfl) fun i => ht i.1 i.2.1 i.2.2.1 i.2.2.2.1 i.2.2.2.2
  obtain ⟨tk, pk, kk⟩ := de_all (Xf := blkOf X scope) (K := X.K) (mg := X.mg) (fun _ => rfl) (fun _ => rfl) fun i => hk i.1 i.2.1 i.2.2.1 i.2.2.2.1 i.2.2.2.2
  obtain ⟨te, pe, ke⟩ := de_all (Xf := blkOf X scope) (K := X.K) (mg := X.mg) (fun _ => rfl) (fun _ => rfl) fun i => he i.1 i.2.1 i.2.2.1 i.2.2.2.1 i.2.2.2.2
  refine ⟨_, ps_setDc (i := i) hc hN hy hyl hsw pi ok (fun s H C cl fp => pg (s, H, C, cl, fp)) (fun s H C cl fp => pt (s, H, C, cl, fp)) (fun s H C cl fp => pk (s, H, C, cl, fp)) (fun s H C cl fp => pe (s, H, C, cl, fp)) hs, fun ξ μ σ H ρ S D g s h => ?_⟩
  exact dcA_read (fun R => ki ξ μ σ H ρ S R g s) kg kt kk ke hv g s (WS'.bind g h fun x S1 v μ1 H1 u1 s1 r1 h1 => h1 _ μ1 H1 .refl s1 ((g.up u1).set i r1))
end
end Dm
-- text Hw3
namespace Dm
open PySem L2
noncomputable section
def m_need_rules : List D → Sto → Res D := mDef 2 2 (mSeq (mIfS (mOr (mNot (mIsi .str (mVar 0))) (mOp (gIn true) (mVar 0) (mK (.tup [(.str "early"), (.str "late"), (.str "refuse")])))) (mRaise "InvalidRule") mNop) (mIfS (mOr (mNot (mIsi .str (mVar 1))) (mOp (gIn true) (mVar 1) (mK (.tup [(.str "ahead"), (.str "behind"), (.str "refuse")])))) (mRaise "InvalidRule") mNop))
def m_found_by : List D → Sto → Res D := mDef 5 7 (mSeq (mAsg 5 (mFz (mLcA (mBack (mVar 0)) (tgN 6) (mOp gEq (mOp gDIx (mVar 1) (mOp gSub (mVar 2) (mVar 6))) (mVar 6)) (mOp gSub (mVar 2) (mVar 6)) [6]))) (mSeq (mIfS (mOp gEq (mCallB gLen (mCons (mVar 5) mNil)) (mK (.int 1))) (mRet (mOp gIx (mVar 5) (mK (.int 0)))) mNop) (mSeq (mIfS (mOp gEq (mCallB gLen (mCons (mVar 5) mNil)) (mK (.int 2))) (mSeq (mIfS (mOp gEq (mVar 3) (mK (.str "refuse"))) (mRet (mK .non)) mNop) (mRet (mIf (mOp gEq (mVar 3) (mK (.str "early"))) (mOp gIx (mVar 5) (mK (.int 0))) (mOp gIx (mVar 5) (mK (.int 1)))))) mNop) (mSeq (mIfS (mOp gEq (mVar 4) (mK (.str "refuse"))) (mRet (mK .non)) mNop) (mSeq (mIfS (mOp gEq (mVar 4) (mK (.str "ahead"))) (mRet (mOp gSub (mVar 2) (mOp gDIx (mVar 1) (mOp gSub (mVar 2) (mOp gIx (mVar 0) (mK (.int (-1)))))))) mNop) (mRet (mOp gSub (mVar 2) (mOp gDIx (mVar 1) (mOp gSub (mVar 2) (mOp gIx (mVar 0) (mK (.int 0))))))))))))
def m_find_moment : List D → Sto → Res D := mDef 5 7 (mSeq (mDrop (mCall m_need_zone (mCons (mVar 0) mNil))) (mSeq (mDrop (mCall m_need_table (mCons (mVar 0) (mCons (mVar 1) mNil)))) (mSeq (mDrop (mCall m_need_number (mCons (mVar 2) mNil))) (mSeq (mDrop (mCall m_need_rules (mCons (mVar 3) (mCons (mVar 4) mNil)))) (mSeq (mAsg 5 (mDcA (mOp gIx (mVar 0) (mK (.int 0))) (tgN 6) mYes (mOp gSub (mVar 2) (mVar 6)) (mCall m_offset_in (mCons (mVar 1) (mCons (mOp gSub (mVar 2) (mVar 6)) mNil))) [6])) (mRet (mCall m_found_by (mCons (mOp gIx (mVar 0) (mK (.int 0))) (mCons (mVar 5) (mCons (mVar 2) (mCons (mVar 3) (mCons (mVar 4) mNil))))))))))))
end
end Dm
-- text DmMisc
namespace Dm
open PySem L2
open PySem.W (Frag)
section
variable {X : Cx} {W : WX} {tg e a b c : Expr} {es : List Expr} {ma mb mc m : ME} {mr : MA} {pos p p1 p2 p3 : Pos}
/-! ### x, y = a, b -/
def mPar (i j : Nat) (a : MA) : MS := fun ρ S => ofRes (a ρ S) ρ fun ds S1 => match ds with
  | [d, d'] => .nx ((ρ.set i (some d)).set j (some d')) S1
  | _ => .bad
theorem ds_par (i j : Nat) {x y : Str} {px py pt pt2 : Pos} {kt k2 : Nat} (hc : X.calm = true) (hN : X.N.Nodup) (ha : DA X W [a, b] mr) (hij : i ≠ j := by decide) (hi : X.N[i]? = some x := by rfl) (hj : X.N[j]? = some y := by rfl)
    (hx : X.env.scope.names.lookup x = some .local := by rfl) (hy : X.env.scope.names.lookup y = some .local := by rfl)
    (hw : swappedStores [.Tuple [.Name x px, .Name y py] kt pt] (.Tuple [a, b] k2 pt2) X.env = pure (some [x, y]) := by rfl)
    (hs : swapsWithSole [.Tuple [.Name x px, .Name y py] kt pt] (.Tuple [a, b] k2 pt2) pos.line X.env = pure false := by rfl) :
    DS X W (.Assign [.Tuple [.Name x px, .Name y py] kt pt] (.Tuple [a, b] k2 pt2) pos) (mPar i j mr) := by
  obtain ⟨ta, pa, ka⟩ := ha
  refine ⟨_, ps_par hc hN hi hj hij hx hy pa hw hs, fun ξ μ σ H ρ S D g s h => ka ξ μ σ H ρ S _ g s (WS'.bind g h fun ds S1 vs μ1 H1 u1 s1 r1 h1 => ?_)⟩
  cases r1 with
  | nil => exact h1.elim
  | @cons v vs d ds r rr =>
    cases rr with
    | nil => exact h1.elim
    | @cons v2 vs2 d2 ds2 r2 rr2 =>
      cases rr2 with
      | cons _ _ => exact h1.elim
      | nil => exact ⟨v, v2, rfl, h1 _ μ1 H1 .refl s1 (((g.up u1).set i r).set j r2)⟩
/-! ### x, y = a tuple, a list that stands still -/
def tgU (n : Nat) (f : List D → Rho → Option Rho) : D → Rho → Option Rho := fun d ρ => match d with
  | .tup ds => if ds.length = n then f ds ρ else none
  | .lst ds => if ds.length = n then f ds ρ else none
  | _ => none
theorem pgOr {X : Cx} {tg : Expr} {g g' : TG} (h : PG X tg g) (h' : PG X tg g') : PG X tg (fun v σ H Q => g v σ H Q ∨ g' v σ H Q) := ⟨fun pins s σ H v u Q I r hw => hw.elim (h.run pins s σ H v u Q I r) (h'.run pins s σ H v u Q I r)⟩
theorem dg_any {k n : Nat} {f : List D → Rho → Option Rho} {is : List Nat} {tp : Pos} (hc : X.calm = true) (h : DGs X es f is) (hn : (assignEach es X.env).length = n := by rfl) (hst : (assignEach es X.env).findIdx? (·.1) = none := by rfl) : DG X (.Tuple es k tp) (tgU n f) is := by
  obtain ⟨t, p, k⟩ := h
  refine ⟨_, pgOr (pg_tup hc p hn hst) (pg_lst hc p hn hst), fun ξ μ σ H ρ v d ρ' Q g r e kk => ?_⟩
  cases r with
  | @tup a xs ds fz r =>
    unfold tgU at e
    by_cases c : ds.length = n
    · simp only [if_pos c] at e
      exact .inl ⟨a, xs, rfl, fz.sq, by rw [r.length]; exact c, k ξ μ σ H ρ xs ds ρ' Q g r e kk⟩
    · simp only [if_neg c] at e
      exact nomatch e
  | @lst a xs ds fz r =>
    unfold tgU at e
    by_cases c : ds.length = n
    · simp only [if_pos c] at e
      exact .inr ⟨a, xs, rfl, fz.sq, by rw [r.length]; exact c, k ξ μ σ H ρ xs ds ρ' Q g r e kk⟩
    · simp only [if_neg c] at e
      exact nomatch e
  | _ => exact nomatch e
/-! ### sum, max, min of a list of ints -/
def mxI : List Int → Int
  | [] => 0
  | [x] => x
  | x :: r => if mxI r > x then mxI r else x
theorem mxI_mem : ∀ {l : List Int}, 0 < l.length → mxI l ∈ l ∧ ∀ y, y ∈ l → y ≤ mxI l
  | [], h => absurd h (by simp)
  | [x], _ => ⟨by simp [mxI], fun y hy => by simp at hy; simp [mxI, hy]⟩
  | x :: y :: r, _ => by
    obtain ⟨h1, h2⟩ := mxI_mem (l := y :: r) (by simp)
    rw [mxI]
    · by_cases c : mxI (y :: r) > x
      · rw [if_pos c]
        refine ⟨List.mem_cons_of_mem _ h1, fun z hz => ?_⟩
        rcases List.mem_cons.mp hz with rfl | hz
        · omega
        · exact h2 z hz
      · rw [if_neg c]
        refine ⟨List.mem_cons_self, fun z hz => ?_⟩
        rcases List.mem_cons.mp hz with rfl | hz
        · omega
        · have := h2 z hz; omega
    · simp
def gMax1 : Sto → List D → Option D := fun S ds => match ds with
  | [d] => (lstOf S d).bind fun es => (intsOf es).bind fun ns => if 0 < ns.length then some (.int (mxI ns)) else none
  | _ => none
theorem c_max1 : CallD X (rMax X.K) gMax1 := by
  intro ξ μ H S ds vs z Q s r e k
  unfold gMax1 at e
  cases r with
  | nil => exact nomatch e
  | @cons v vs d ds r rr =>
    cases rr with
    | cons _ _ => exact nomatch e
    | nil =>
      simp only at e
      cases q : lstOf S d with
      | none => rw [q] at e; exact nomatch e
      | some es =>
        rw [q] at e
        have e : (intsOf es).bind (fun ns => if 0 < ns.length then some (D.int (mxI ns)) else none) = some z := e
        obtain ⟨a, xs, rfl, h1, h2⟩ := RD.lstS s r q
        cases c : intsOf es with
        | none => rw [c] at e; exact nomatch e
        | some ns =>
          rw [c] at e
          simp only [Option.bind_some] at e
          by_cases hl : 0 < ns.length
          · rw [if_pos hl] at e; cases e
            have ee := intsOf_eq c
            subst ee
            have ev := rdsInts h2
            subst ev
            refine ⟨a, ns, rfl, h1, hl, fun m hm hy => ?_⟩
            obtain ⟨m1, m2⟩ := mxI_mem hl
            have : m = mxI ns := Int.le_antisymm (m2 m hm) (hy _ m1)
            rw [this]
            exact k _ μ H .refl s (.int _)
          · rw [if_neg hl] at e; exact nomatch e
/-! ### a kept list some times -/
def mRepC (a b : ME) : MA := fun ρ S => (a ρ S).bind fun x S1 => (b ρ S1).bind fun y S2 => match x, y with
  | .cell n, .int k => match S2[n]? with
    | some (.lst xs) => if k < 1000000 ∧ xs.length * k.toNat ≤ 16777216 ∧ -1000000 < k then .ok (List.replicate k.toNat xs).flatten S2 else .bad
    | _ => .bad
  | _, _ => .bad
/-! ### list(range(a, b)) -/
noncomputable def mLstRg (a : MA) : MA := fun ρ S => (a ρ S).bind fun ds S1 => match ds with
  | [.int i, .int j] => @ite _ (-1000000000000000000 ≤ i ∧ i ≤ 1000000000000000000 ∧ -1000000000000000000 ≤ j ∧ j ≤ 1000000000000000000 ∧ j - i ≤ 16777216) (Classical.propDecidable _) (.ok (rngD i (j - i).toNat) S1) .bad
  | _ => .bad
end
/-! ### what they do -/
section
variable {S : Sto} {ρ : Rho} {N B C : Rho → Sto → Prop} {R : D → Sto → Prop} {E : EX} {EO : EXO}
@[simp] theorem does_par {i j : Nat} {a : MA} : (mPar i j a ρ S).DoesE EO N R B C = (a ρ S).DoesE (eAt EO ρ) fun ds S1 => match ds with
    | [d, d'] => N ((ρ.set i (some d)).set j (some d')) S1
    | _ => False := by
  unfold mPar
  rw [does_ofRes]; congr 1; funext ds S1
  match ds with
  | [] => rfl
  | [_] => rfl
  | [_, _] => rfl
  | _ :: _ :: _ :: _ => rfl
@[simp] theorem tgU_tup {m : Nat} {f : List D → Rho → Option Rho} {ds : List D} : tgU m f (.tup ds) ρ = if ds.length = m then f ds ρ else none := rfl
@[simp] theorem tgU_lst {m : Nat} {f : List D → Rho → Option Rho} {ds : List D} : tgU m f (.lst ds) ρ = if ds.length = m then f ds ρ else none := rfl
@[simp] theorem does_repC {a b : ME} {Q : List D → Sto → Prop} : (mRepC a b ρ S).DoesE E Q = (a ρ S).DoesE E fun x S1 => (b ρ S1).DoesE E fun y S2 => match x, y with
    | .cell n, .int k => ∃ xs, S2[n]? = some (.lst xs) ∧ (k < 1000000 ∧ xs.length * k.toNat ≤ 16777216 ∧ -1000000 < k) ∧ Q (List.replicate k.toNat xs).flatten S2
    | _, _ => False := by
  unfold mRepC
  rw [does_bind]; congr 1; funext x S1
  rw [does_bind]; congr 1; funext y S2
  cases x with
  | cell n =>
    cases y with
    | int k =>
      simp only
      cases e : S2[n]? with
      | none => simp [Res.DoesE]
      | some c =>
        cases c with
        | lst xs =>
          simp only
          by_cases h : k < 1000000 ∧ xs.length * k.toNat ≤ 16777216 ∧ -1000000 < k
          · rw [if_pos h]; simp [h]
          · rw [if_neg h]; simp [h, Res.DoesE]
        | _ => simp [Res.DoesE]
    | _ => rfl
  | _ => cases y <;> rfl
@[simp] theorem does_lstRg {a : MA} {Q : List D → Sto → Prop} : (mLstRg a ρ S).DoesE E Q = (a ρ S).DoesE E fun ds S1 => match ds with
    | [.int i, .int j] => (-1000000000000000000 ≤ i ∧ i ≤ 1000000000000000000 ∧ -1000000000000000000 ≤ j ∧ j ≤ 1000000000000000000 ∧ j - i ≤ 16777216) ∧ Q (rngD i (j - i).toNat) S1
    | _ => False := by
  unfold mLstRg
  rw [does_bind]; congr 1; funext ds S1
  match ds with
  | [] => rfl
  | [d] => cases d <;> rfl
  | [d, d'] =>
    cases d with
    | int i =>
      cases d' with
      | int j =>
        simp only
        by_cases h : -1000000000000000000 ≤ i ∧ i ≤ 1000000000000000000 ∧ -1000000000000000000 ≤ j ∧ j ≤ 1000000000000000000 ∧ j - i ≤ 16777216
        · rw [if_pos h]; simp [h]
        · rw [if_neg h]; simp [h, Res.DoesE]
      | _ => rfl
    | _ => cases d' <;> rfl
  | d :: d' :: _ :: _ => cases d <;> (try rfl) <;> cases d' <;> rfl
theorem gMax1_ints {d : D} {ns : List Int} (h : lstOf S d = some (ns.map .int)) (hl : 0 < ns.length) : gMax1 S [d] = some (.int (mxI ns)) := by
  show (lstOf S d).bind _ = _
  rw [h]
  show (intsOf (ns.map D.int)).bind _ = _
  rw [intsOf_map]
  show (if 0 < ns.length then _ else _) = _
  rw [if_pos hl]
end
end Dm
-- text Hw4
namespace Dm
open PySem L2
noncomputable section
def m_law_cells_chart : List D → Sto → Res D := mDef 3 13 (mSeq (mAsgG (tgT 2 (tgCons (tgN 3) (tgCons (tgN 4) tgNil))) (mVar 1)) (mSeq (mAsg 5 (mCall m_law_draw (mCons (mVar 0) (mCons (mCallB gLen (mCons (mVar 3) mNil)) mNil)))) (mSeq (mAsg 6 (mOp gIx (mVar 3) (mVar 5))) (mSeq (mAsg 7 (mCall m_law_any_hour (mCons (mVar 0) mNil))) (mSeq (mAsg 8 (mNew (mLst mNil))) (mSeq (mAsg 2 (mFz (mCatV (mVar 2) (mLc (iRange1 (mCons (mK (.int 3)) mNil)) (tgN 12) mYes (mCall m_law_draw (mCons (mVar 0) (mCons (mK (.int 100000000000000000)) mNil))) [12])))) (mSeq (mForA (mFz (mSlL (mVar 2) mNoPart (mPart (mOp gMul (mK (.int 60)) (mCallB gInt1 (mCons (mOp gGt (mCallB gLen (mCons (mVar 3) mNil)) (mK (.int 1))) mNil)))))) (tgN 9) (mSeq (mAsg 10 (mCall m_law_digits (mCons (mVar 9) mNil))) (mSeq (mAsg 5 (mOp gMod (mCallB gInt1 (mCons (mOp gAdd (mOp gAdd (mVar 5) (mK (.int 1))) (mCall m_law_draw (mCons (mVar 10) (mCons (mOp gSub (mCallB gLen (mCons (mVar 3) mNil)) (mK (.int 1))) mNil)))) mNil)) (mCallB gLen (mCons (mVar 3) mNil)))) (mSeq (mApp (mVar 8) (mTup (mCons (mVar 7) (mCons (mOp gIx (mVar 3) (mVar 5)) mNil)))) (mSeq (mAsg 11 (mCall m_law_draw (mCons (mVar 10) (mCons (mK (.int 4)) mNil)))) (mSeq (mAsg 7 (mOp gAdd (mVar 7) (mVar 4))) (mIfS (mOp gGt (mVar 11) (mK (.int 1))) (mAsg 7 (mOp gAdd (mVar 7) (mCall m_law_draw (mCons (mVar 10) (mCons (mOp gIx (mFz (mLst (mCons (mK (.int 0)) (mCons (mK (.int 0)) (mCons (mK (.int 5)) (mCons (mOp gMul (mK (.int 2)) (mVar 4)) mNil)))))) (mVar 11)) mNil))))) mNop))))))) (mRet (mTup (mCons (mVar 6) (mCons (mCallB gTuple (mCons (mVar 8) mNil)) mNil)))))))))))
end
end Dm
-- text DmBack
namespace Dm
open PySem L2
section
variable {X : Cx} {W : WX} {e : Expr} {m : ME} {te te' : TE} {k : Nat} {p1 p2 p3 pos : Pos}
theorem peOr (h : PE X e te) (h' : PE X e te') : PE X e (fun σ H Q => te σ H Q ∨ te' σ H Q) := ⟨fun pins s σ H Q I hw => hw.elim (h.run pins s σ H Q I) (h'.run pins s σ H Q I)⟩
/-- x[::-1], a tuple or a list -/
def mBackA (m : ME) : ME := fun ρ S => (m ρ S).bind fun x S1 => match x with
  | .tup ds => .ok (.tup ds.reverse) S1
  | x => match lstOf S1 x with
    | some ds => .ok (.lst ds.reverse) S1
    | none => .bad
theorem d_backA (h : DE X W e m) : DE X W (.Subscript e (.Slice none none (some (.UnaryOp .USub (.Constant (.int 1) k p1) p2)) p3) pos) (mBackA m) := by
  obtain ⟨te, pe, ke⟩ := h
  refine ⟨_, peOr (pe_backT pe) (pe_revL pe), fun ξ μ σ H ρ S Q g s h => ?_⟩
  unfold mBackA at h
  cases e1 : m ρ S with
  | bad => rw [e1] at h; exact h.elim
  | exc c fs S1 =>
    rw [e1] at h
    refine .inl (ke ξ μ σ H ρ S _ g s ?_)
    rw [e1]; exact h
  | ok d S1 =>
    rw [e1] at h
    by_cases c : ∃ ds, d = .tup ds
    · obtain ⟨ds, rfl⟩ := c
      refine .inl (ke ξ μ σ H ρ S _ g s ?_)
      rw [e1]
      intro v μ1 H1 u1 s1 r1
      cases r1 with
      | @tup a xs _ f r =>
        exact ⟨a, xs, rfl, f.sq, fun p hp => h _ μ1 _ (u1.trans (.fresh hp)) (s1.fresh hp) (.tup (.inl ⟨.inl upd_same, s1.out hp, s1.outX hp⟩) (r.reverse.up (.fresh hp)))⟩
    · have h : WE' (fx X ξ) (match lstOf S1 d with | some ds => .ok (.lst ds.reverse) S1 | none => .bad) Q (fun cls dd H' => W cls dd σ H') μ H := by
        cases d with
        | tup ds => exact absurd ⟨ds, rfl⟩ c
        | _ => exact h
      refine .inr (ke ξ μ σ H ρ S _ g s ?_)
      rw [e1]
      intro v μ1 H1 u1 s1 r1
      cases q : lstOf S1 d with
      | none => rw [q] at h; exact h.elim
      | some ds =>
        rw [q] at h
        obtain ⟨a, xs, rfl, h3, r3⟩ := RD.lstS s1 r1 q
        exact ⟨a, xs, rfl, h3, fun p hp => h _ μ1 _ (u1.trans (.fresh hp)) (s1.fresh hp) (.lst (.inl ⟨.inl upd_same, s1.out hp, s1.outX hp⟩) (r3.reverse.up (.fresh hp)))⟩
end
section
variable {S : Sto} {ρ : Rho} {Q : D → Sto → Prop} {E : EX} {EO : EXO}
@[simp] theorem does_backA {m : ME} : (mBackA m ρ S).DoesE E Q = (m ρ S).DoesE E fun x S1 => match x with
    | .tup ds => Q (.tup ds.reverse) S1
    | x => match lstOf S1 x with
      | some ds => Q (.lst ds.reverse) S1
      | none => False := by
  unfold mBackA
  rw [does_bind]; congr 1; funext x S1
  cases x with
  | lst ds => rfl
  | cell n => 
    simp only
    cases lstOf S1 (.cell n) <;> rfl
  | _ => rfl
end
end Dm
-- text Hw5
namespace Dm
open PySem L2
end Dm
-- text DmSet
namespace Dm
open PySem L2 PySem.Spec PyProof.Rows
/-! ### set(xs), xs a list of ints, so that it can be sorted -/
section
variable {P : Program} {w : World} {A : Around} {E : Value → Shared → Prop} {s : Shared}
/-- an empty set as it is made -/
def bare (w : World) : Obj := { cls := .type "set", dict := none, data := .set #[] 0 (.fresh 0 0 (!w.params.followText "set-order")) }
end
end Dm
-- text DmSet2
namespace Dm
open PySem L2 PySem.Spec PyProof.Rows
open PySem.W (Frag)
/-! ### the members of a list, ascending, each once -/
def insU (x : Int) : List Int → List Int
  | [] => [x]
  | y :: r => if x < y then x :: y :: r else if x = y then y :: r else y :: insU x r
def uniq : List Int → List Int
  | [] => []
  | x :: r => insU x (uniq r)
/-! ### sorted(set(xs)) for any number of members -/
section
variable {X : Cx} {W : WX} {e : Expr} {m : ME} {p p1 p2 pos : Pos}
def gSortSet : Sto → D → Option (List D) := fun S d => (lstOf S d).bind fun es => (intsOf es).bind fun ns => if (uniq ns).length ≤ 4000 then some ((uniq ns).map .int) else none
def mSortSet (m : ME) : MA := fun ρ S => (m ρ S).bind fun d S1 => match gSortSet S1 d with
  | some ds => .ok ds S1
  | none => .bad
end
section
variable {S : Sto} {ρ : Rho} {E : EX}
@[simp] theorem does_sortSet {m : ME} {Q : List D → Sto → Prop} : (mSortSet m ρ S).DoesE E Q = (m ρ S).DoesE E fun d S1 => match gSortSet S1 d with
    | some ds => Q ds S1
    | none => False := by
  unfold mSortSet
  rw [does_bind]; congr 1; funext d S1
  cases gSortSet S1 d <;> rfl
end
end Dm
-- text Hw6
namespace Dm
open PySem L2
end Dm
-- text DmIn2
namespace Dm
open PySem L2 PySem.Spec PyProof.Rows
open PySem.W (Frag)
/-! ### x in xs, both nested plain data -/
end Dm
-- text DmTab
namespace Dm
open PySem L2 PySem.Spec PyProof.Rows
open PySem.W (Frag)
/-! ### a dict of the module with text keys, its values plain -/
inductive KEs (K : Frag) (P : Params) : List DictEntry → List (Str × D) → Prop
  | nil : KEs K P [] []
  | cons {e : DictEntry} {r : List DictEntry} {x : Str} {t : Tok} {v : V} {d : D} {kvs : List (Str × D)} : e.key = .str x t → e.hash = PyData.keyHash P x → RelV v e.val → KD K v d → KEs K P r kvs → KEs K P (e :: r) ((x, d) :: kvs)
def tbLook : List (Str × D) → Str → Option D
  | [], _ => none
  | (x, d) :: r, z => if x = z then some d else tbLook r z
theorem KEs.lit {K : Frag} {P : Params} : ∀ {es : List DictEntry} {kvs : List (Str × D)}, KEs K P es kvs → PySem.W.KeysLit P es
  | _, _, .nil => trivial
  | _, _, .cons h1 h2 _ _ r => ⟨⟨_, _, h1, h2⟩, r.lit⟩
theorem KEs.noRef {K : Frag} {P : Params} : ∀ {es : List DictEntry} {kvs : List (Str × D)}, KEs K P es kvs → es.any (·.refKey) = false
  | _, _, .nil => rfl
  | _, _, .cons h1 _ _ _ r => by
    rw [List.any_cons, r.noRef, Bool.or_false]
    unfold DictEntry.refKey
    rw [h1]
theorem KEs.find {K : Frag} {P : Params} (z : Str) : ∀ {es : List DictEntry} {kvs : List (Str × D)}, KEs K P es kvs →
    match tbLook kvs z with
    | some d => ∃ e v, es.find? (·.key.isStr z) = some e ∧ RelV v e.val ∧ KD K v d
    | none => es.find? (·.key.isStr z) = none
  | _, _, .nil => rfl
  | _, _, .cons (e := e) (x := x) (t := t) (v := v) (d := d) (kvs := kvs) h1 h2 h3 h4 r => by
    have ih := KEs.find z r
    unfold tbLook
    by_cases c : x = z
    · rw [if_pos c]
      refine ⟨e, v, ?_, h3, h4⟩
      rw [List.find?_cons_of_pos]
      rw [h1, PySem.W.isStr_of]
      show (x == z) = true
      rw [c]; exact beq_self_eq_true _
    · rw [if_neg c]
      have n : ¬ (e.key.isStr z) = true := by
        rw [h1, PySem.W.isStr_of]
        intro q
        exact c (of_decide_eq_true (by simpa [Value.isStrOf] using q))
      rw [List.find?_cons_of_neg (p := fun q : DictEntry => q.key.isStr z) n]
      exact ih
/-- the name stands for this dict -/
def GlT (K : Frag) (w : World) (mg : Str → Option Value) (x : Str) (kvs : List (Str × D)) : Prop :=
  ∃ d es n, mg x = some (.ref d) ∧ K.lookup d = some ⟨.type "dict", none, .dict es n, #[]⟩ ∧ (d == sysModules) = false ∧ KEs K w.params es.toList kvs
def mTbIn (neg : Bool) (kvs : List (Str × D)) (a : ME) : ME := fun ρ S => (a ρ S).bind fun x S1 => match x with
  | .str z => .ok (.bl (if neg then !(tbLook kvs z).isSome else (tbLook kvs z).isSome)) S1
  | _ => .bad
def mTbIx (kvs : List (Str × D)) (a : ME) : ME := fun ρ S => (a ρ S).bind fun x S1 => match x with
  | .str z => match tbLook kvs z with
    | some d => .ok d S1
    | none => .bad
  | _ => .bad
theorem nsIn_tab {K : Frag} {P : Params} {d : Addr} {es : Array DictEntry} {n : Nat} {kvs : List (Str × D)} (l : K.lookup d = some ⟨.type "dict", none, .dict es n, #[]⟩) (k : KEs K P es.toList kvs) (z : Str) :
    match tbLook kvs z with
    | some dd => ∃ u v, PySem.W.nsIn K d z = some (some u) ∧ RelV v u ∧ KD K v dd
    | none => PySem.W.nsIn K d z = some none := by
  have h := KEs.find z k
  unfold PySem.W.nsIn
  rw [l]
  cases q : tbLook kvs z with
  | some dd =>
    rw [q] at h
    obtain ⟨e, v, h1, h2, h3⟩ := h
    refine ⟨e.val, v, ?_, h2, h3⟩
    simp only [h1]
  | none =>
    rw [q] at h
    have h' : es.toList.find? (·.key.isStr z) = none := h
    simp only [h', k.noRef, Bool.false_eq_true, if_false]
section
variable {X : Cx} {W : WX} {a : Expr} {ma : ME} {pos p : Pos}
theorem tb_name {x : Str} {kvs : List (Str × D)} (hg : Gl X x) (h : GlT X.K X.w X.mg x kvs) (hd : (x == ("__debug__" : Str)) = false := by decide) :
    ∃ (d : Addr) (es : Array DictEntry) (n : Nat), KDict X.K X.w d es n ∧ KEs X.K X.w.params es.toList kvs ∧ PE X (.Name x p) (fun _ H Q => Q (.ref d) H) := by
  obtain ⟨d, es, n, h1, h2, h3, h4⟩ := h
  exact ⟨d, es, n, ⟨h2, h4.lit, h3⟩, h4, pe_glob hg h1 rfl hd⟩
theorem dt_tbnot {x : Str} {kvs : List (Str × D)} (hg : Gl X x) (h : GlT X.K X.w X.mg x kvs) (ha : DE X W a ma) (hd : (x == ("__debug__" : Str)) = false := by decide) (hm : behindInMarks .NotIn (.Name x p) = false := by first | exact nomark _ | rfl) : DT X W (.Compare a [.NotIn] [.Name x p] pos) (mTbIn true kvs ma) := by
  obtain ⟨ta, pa, ka⟩ := ha
  obtain ⟨d, es, n, hD, hK, pn⟩ := tb_name (p := p) hg h hd
  refine ⟨_, pt_cmpR (op_notIn_kd hD) pa pn hm, fun ξ μ σ H ρ S Q g s h => ka ξ μ σ H ρ S _ g s (WR.bind (WT'.val h) fun y S1 v μ1 H1 u1 s1 r1 h1 => ?_)⟩
  cases r1 with
  | str z =>
    have q := nsIn_tab hD.at_ hK z
    cases e : tbLook kvs z with
    | some dd =>
      simp only [e] at q h1
      obtain ⟨u, v', q1, q2, q3⟩ := q
      exact ⟨z, some u, rfl, rfl, q1, h1 _ μ1 H1 .refl s1 (.bl _)⟩
    | none =>
      simp only [e] at q h1
      exact ⟨z, none, rfl, rfl, q, h1 _ μ1 H1 .refl s1 (.bl _)⟩
  | _ => exact h1.elim
theorem d_tbix {x : Str} {kvs : List (Str × D)} (hg : Gl X x) (h : GlT X.K X.w X.mg x kvs) (ha : DE X W a ma) (hd : (x == ("__debug__" : Str)) = false := by decide) (hs : PlainIx a := by exact fun _ _ => rfl) : DE X W (.Subscript (.Name x p) a pos) (mTbIx kvs ma) := by
  obtain ⟨ta, pa, ka⟩ := ha
  obtain ⟨d, es, n, hD, hK, pn⟩ := tb_name (p := p) hg h hd
  refine ⟨_, pe_ix ix_kdict pn pa hs, fun ξ μ σ H ρ S Q g s h => ka ξ μ σ H ρ S _ g s (WR.bind h fun y S1 v μ1 H1 u1 s1 r1 h1 => ?_)⟩
  cases r1 with
  | str z =>
    have q := nsIn_tab hD.at_ hK z
    cases e : tbLook kvs z with
    | some dd =>
      simp only [e] at q h1
      obtain ⟨u, v', q1, q2, q3⟩ := q
      exact ⟨d, z, v', rfl, rfl, ⟨es, n, u, hD.at_, hD.lit, q1, q2⟩, h1 _ μ1 H1 .refl s1 (KD.rd (F := fx X ξ) dd q3)⟩
    | none =>
      simp only [e] at h1
      exact h1.elim
  | _ => exact h1.elim
end
end Dm
-- text DmG
namespace Dm
open PySem L2 PySem.Spec PyProof.Rows
open PySem.W (Frag)
/-! ### room under which no repr is under way -/
structure RoomG (k : Nat) (A : Around) : Prop extends Room k A where
  gd : A.guards = some []
theorem RoomG.mono {j k : Nat} {A : Around} (r : RoomG k A) (h : j ≤ k) : RoomG j A := ⟨r.toRoom.mono h, r.gd⟩
theorem RoomG.deeper {k : Nat} {A : Around} (r : RoomG (k + 1) A) (env : Env) : RoomG k (A.deeper env) := ⟨r.toRoom.deeper env, r.gd⟩
structure FnG (P : Program) (w : World) (K : Frag) (mg : Str → Option Value) (base : Heap) (CX : CXT) (k : Nat) (f : Addr) (fd : FuncData) (ps : List Str) (sp : Sp) : Prop where
  len : ∀ vs H Q E, sp vs H Q E → vs.length = ps.length
  run : ∀ (A : Around) (outer : List Env) (s : Shared) (H : Hp) (args : Args) (us : List Value) (vs : List V) (Q : VK) (E : XK), RoomG k A → Env0 P w K mg base A outer s H → BindsTo s fd args (ps.zip us) → Vals vs us → sp vs H Q E →
    codeAny (model P w) A (.call (.ref f) args) (CR CX outer P w H s Q E) s
section
variable {P : Program} {w : World} {K : Frag} {mg : Str → Option Value} {base : Heap} {CX : CXT} {k : Nat} {f : Addr} {fd : FuncData} {ps N : List Str} {sp : Sp}
theorem FnG.mono {j : Nat} (F : FnG P w K mg base CX j f fd ps sp) (h : j ≤ k) : FnG P w K mg base CX k f fd ps sp := ⟨F.len, fun A outer s H args us vs Q E hr => F.run A outer s H args us vs Q E (hr.mono h)⟩
theorem FnG.imp {sp' : Sp} (F : FnG P w K mg base CX k f fd ps sp) (h : ∀ vs H Q E, sp' vs H Q E → sp vs H Q E) : FnG P w K mg base CX k f fd ps sp' :=
  ⟨fun vs H Q E q => F.len vs H Q E (h _ _ _ _ q), fun A outer s H args us vs Q E hr he hb hv hs => F.run A outer s H args us vs Q E hr he hb hv (h _ _ _ _ hs)⟩
end
structure FnDG (P : Program) (w : World) (K : Frag) (mg : Str → Option Value) (base : Heap) (k : Nat) (x : Str) (st : Stmt) (ps : List Str) (m : List D → Sto → Res D) : Prop where
  ex : ∃ f fd, mg x = some (.ref f) ∧ Fun K x x st f fd ∧ Binds K fd ps [] ∧ FnG P w K mg base (L2.CX P w) k f fd ps (spD w K mg m)
section
variable {P : Program} {w : World} {K : Frag} {mg : Str → Option Value} {base : Heap}
theorem FnDG.mono {j k : Nat} {x : Str} {st : Stmt} {ps : List Str} {m : List D → Sto → Res D} (F : FnDG P w K mg base j x st ps m) (h : j ≤ k) : FnDG P w K mg base k x st ps m :=
  let ⟨f, fd, a, b, c, d⟩ := F; ⟨f, fd, a, b, c, d.mono h⟩
end
end Dm
-- text DmGEnd
namespace Dm
open PySem L2 PySem.Spec PyProof.Rows
open PySem.W (Frag)
/-- of all addresses the script's alone may be tracked, frozen, and then the written part does not know it -/
def Lone (K : Frag) (a : Addr) (H : Hp) : Prop := ∀ b, H b = none ∨ (b = a ∧ K.lookup a = none ∧ ∃ o xs, H b = some (.frz o (.lst xs)))
section
variable {P : Program} {w : World} {K : Frag} {mg mb : Str → Option Value} {k : Nat} {fa a : Addr} {fd : FuncData} {x : Str} {s : Shared} {vs : List Value} {ns : List Int} {H : Hp}
theorem Lone.free (L : Lone K a H) (KX : K.In s.heap) {b : Addr} {o : Obj} (h : K.lookup b = some o) : H b = none := by
  rcases L b with q | ⟨rfl, q, _⟩
  · exact q
  · rw [q] at h; cases h
theorem Lone.dic (L : Lone K a H) (ha : s.heap.get? a = some { cls := .type "list", data := .seq vs.toArray }) {b : Addr} {o : Obj} {es : Array DictEntry} {n : Nat} (h : s.heap.get? b = some o) (hd : o.data = .dict es n) : H b = none := by
  rcases L b with q | ⟨rfl, _, _⟩
  · exact q
  · rw [ha] at h
    cases h
    cases (show Data.seq vs.toArray _ = Data.dict es n from hd)
end
end Dm
-- text DmRepr
namespace Dm
open PySem L2 PySem.Spec PyProof.Rows
open PySem.W (Frag)
/-! ### repr of plain data -/
def reprOk (d : PyData) : Prop := d.showable = true ∧ d.hasDict = false ∧ d.shown.length ≤ sizeLine ∧ d.depth ≤ 64
/-! cells within, their items plain -/
end Dm
-- text DmPar3
namespace Dm
open PySem L2 PySem.Spec PyProof.Rows
open PySem.W (Frag)
/-! ### x, y, z = a, b, c -/
def mPar3 (i j l : Nat) (a : MA) : MS := fun ρ S => ofRes (a ρ S) ρ fun ds S1 => match ds with
  | [d, d', d''] => .nx (((ρ.set i (some d)).set j (some d')).set l (some d'')) S1
  | _ => .bad
section
variable {S : Sto} {ρ : Rho} {N B C : Rho → Sto → Prop} {R : D → Sto → Prop} {E : EX} {EO : EXO}
@[simp] theorem does_par3 {i j l : Nat} {a : MA} : (mPar3 i j l a ρ S).DoesE EO N R B C = (a ρ S).DoesE (eAt EO ρ) fun ds S1 => match ds with
    | [d, d', d''] => N (((ρ.set i (some d)).set j (some d')).set l (some d'')) S1
    | _ => False := by
  unfold mPar3
  rw [does_ofRes]; congr 1; funext ds S1
  match ds with
  | [] => rfl
  | [_] => rfl
  | [_, _] => rfl
  | [_, _, _] => rfl
  | _ :: _ :: _ :: _ :: _ => rfl
@[simp] theorem does_tbin {neg : Bool} {kvs : List (Str × D)} {a : ME} {Q : D → Sto → Prop} : (mTbIn neg kvs a ρ S).DoesE E Q = (a ρ S).DoesE E fun x S1 => match x with
    | .str z => Q (.bl (if neg then !(tbLook kvs z).isSome else (tbLook kvs z).isSome)) S1
    | _ => False := by
  unfold mTbIn
  rw [does_bind]; congr 1; funext x S1
  cases x <;> rfl
@[simp] theorem does_tbix {kvs : List (Str × D)} {a : ME} {Q : D → Sto → Prop} : (mTbIx kvs a ρ S).DoesE E Q = (a ρ S).DoesE E fun x S1 => match x with
    | .str z => ∃ d, tbLook kvs z = some d ∧ Q d S1
    | _ => False := by
  unfold mTbIx
  rw [does_bind]; congr 1; funext x S1
  cases x with
  | str z =>
    simp only
    cases e : tbLook kvs z with
    | some d => simp
    | none => exact propext ⟨fun h => h.elim, fun ⟨_, h, _⟩ => nomatch h⟩
  | _ => rfl
end
end Dm
-- text Hw7
namespace Dm
open PySem L2
noncomputable section
def m_is_zones : List D → Sto → Res D := mDef 1 2 (mSeq (mIfS (mOr (mNot (mIsi .tup (mVar 0))) (mNot (mChain gLe gLe (mK (.int 1)) (mCallB gLen (mCons (mVar 0) mNil)) (mK (.int 2))))) (mRet (mK (.bl false))) mNop) (mRet (mCallB gAll (mCons (mFz (mLcA (mVar 0) (tgN 1) mYes (mCall m_is_zone (mCons (mVar 1) mNil)) [1])) mNil))))
def m_need_zones : List D → Sto → Res D := mDef 1 1 (mIfS (mNot (mCall m_is_zones (mCons (mVar 0) mNil))) (mRaise "InvalidZones") mNop)
def m_is_part : List D → Sto → Res D := mDef 4 4 (mSeq (mIfS (mOp gEq (mVar 2) (mK (.str "fold"))) (mRet (mAnd (mIsi .str (mVar 3)) (mOp (gIn false) (mVar 3) (mK (.tup [(.str "early"), (.str "late"), (.str "refuse")]))))) mNop) (mSeq (mIfS (mOp gEq (mVar 2) (mK (.str "gap"))) (mRet (mAnd (mIsi .str (mVar 3)) (mOp (gIn false) (mVar 3) (mK (.tup [(.str "ahead"), (.str "behind"), (.str "refuse")]))))) mNop) (mSeq (mIfS (mNot (mCall m_is_integer (mCons (mVar 3) mNil))) (mRet (mK (.bl false))) mNop) (mSeq (mIfS (mOp gEq (mVar 2) (mK (.str "place"))) (mRet (mChain gLe gLt (mK (.int 0)) (mVar 3) (mCallB gLen (mCons (mVar 0) mNil)))) mNop) (mSeq (mIfS (mOp gEq (mVar 2) (mK (.str "minutes"))) (mRet (mChain gLe gLe (mUn gNeg (mK (.int 100000))) (mVar 3) (mK (.int 100000)))) mNop) (mSeq (mIfS (mNot (mChain gLe gLt (mK (.int 0)) (mVar 3) (mCallB gLen (mCons (mVar 1) mNil)))) (mRet (mK (.bl false))) mNop) (mSeq (mIfS (mOp gEq (mVar 2) (mK (.str "point"))) (mRet (mOp gNe (mOp gIx (mVar 1) (mVar 3)) (mK (.str "span")))) mNop) (mRet (mOp gEq (mOp gIx (mVar 1) (mVar 3)) (mVar 2))))))))))
def m_is_step : List D → Sto → Res D := mDef 3 6 (mSeq (mIfS (mOr (mNot (mIsi .tup (mVar 2))) (mOp gEq (mCallB gLen (mCons (mVar 2) mNil)) (mK (.int 0)))) (mRet (mK (.bl false))) mNop) (mSeq (mIfS (mOr (mNot (mIsi .str (mOp gIx (mVar 2) (mK (.int 0))))) (mTbIn true [("read", (.tup [(.str "moment"), (.str "place")])), ("find", (.tup [(.str "reading"), (.str "place"), (.str "fold"), (.str "gap")])), ("offset", (.tup [(.str "moment"), (.str "place")])), ("edition", (.tup [(.str "moment"), (.str "place")])), ("plus", (.tup [(.str "moment"), (.str "span")])), ("less", (.tup [(.str "reading"), (.str "span")])), ("add", (.tup [(.str "point"), (.str "minutes")]))] (mOp gIx (mVar 2) (mK (.int 0))))) (mRet (mK (.bl false))) mNop) (mSeq (mAsg 3 (mTbIx [("read", (.tup [(.str "moment"), (.str "place")])), ("find", (.tup [(.str "reading"), (.str "place"), (.str "fold"), (.str "gap")])), ("offset", (.tup [(.str "moment"), (.str "place")])), ("edition", (.tup [(.str "moment"), (.str "place")])), ("plus", (.tup [(.str "moment"), (.str "span")])), ("less", (.tup [(.str "reading"), (.str "span")])), ("add", (.tup [(.str "point"), (.str "minutes")]))] (mOp gIx (mVar 2) (mK (.int 0))))) (mSeq (mIfS (mOp gNe (mCallB gLen (mCons (mVar 2) mNil)) (mOp gAdd (mCallB gLen (mCons (mVar 3) mNil)) (mK (.int 1)))) (mRet (mK (.bl false))) mNop) (mRet (mCallB gAll (mCons (mFz (mLc (iEnumS (mVar 3)) (tgU 2 (tgCons (tgN 4) (tgCons (tgN 5) tgNil))) mYes (mCall m_is_part (mCons (mVar 0) (mCons (mVar 1) (mCons (mVar 5) (mCons (mOp gIx (mVar 2) (mOp gAdd (mVar 4) (mK (.int 1)))) mNil))))) [4, 5])) mNil)))))))
def m_kind_made : List D → Sto → Res D := mDef 2 2 (mSeq (mIfS (mOp gEq (mOp gIx (mVar 1) (mK (.int 0))) (mK (.str "add"))) (mRet (mOp gIx (mVar 0) (mOp gIx (mVar 1) (mK (.int 1))))) mNop) (mRet (mTbIx [("read", (.str "reading")), ("find", (.str "moment")), ("offset", (.str "span")), ("edition", (.str "moment")), ("plus", (.str "reading")), ("less", (.str "moment"))] (mOp gIx (mVar 1) (mK (.int 0))))))
def m_kinds_of : List D → Sto → Res D := mDef 1 3 (mSeq (mAsg 1 (mNew (mLst (mCons (mK (.str "moment")) mNil)))) (mSeq (mForA (mVar 0) (tgN 2) (mApp (mVar 1) (mCall m_kind_made (mCons (mVar 1) (mCons (mVar 2) mNil))))) (mRet (mVar 1))))
def m_is_program : List D → Sto → Res D := mDef 2 4 (mSeq (mDrop (mCall m_need_zones (mCons (mVar 0) mNil))) (mSeq (mIfS (mOr (mNot (mIsi .tup (mVar 1))) (mOp gGt (mCallB gLen (mCons (mVar 1) mNil)) (mK (.int 8)))) (mRet (mK (.bl false))) mNop) (mSeq (mAsg 2 (mNew (mLst (mCons (mK (.str "moment")) mNil)))) (mSeq (mForA (mVar 1) (tgN 3) (mSeq (mIfS (mNot (mCall m_is_step (mCons (mVar 0) (mCons (mVar 2) (mCons (mVar 3) mNil))))) (mRet (mK (.bl false))) mNop) (mApp (mVar 2) (mCall m_kind_made (mCons (mVar 2) (mCons (mVar 3) mNil)))))) (mRet (mOp gLt (mCallB gLen (mCons (mFz (mLcA (mVar 1) (tgN 3) (mOp gEq (mOp gIx (mVar 3) (mK (.int 0))) (mK (.str "edition"))) (mVar 3) [3])) mNil)) (mK (.int 2))))))))
def m_need_program : List D → Sto → Res D := mDef 2 2 (mIfS (mNot (mCall m_is_program (mCons (mVar 0) (mCons (mVar 1) mNil)))) (mRaise "InvalidProgram") mNop)
def m_kinds : List D → Sto → Res D := mDef 2 2 (mSeq (mDrop (mCall m_need_zones (mCons (mVar 0) mNil))) (mSeq (mDrop (mCall m_need_program (mCons (mVar 0) (mCons (mVar 1) mNil)))) (mRet (mCall m_kinds_of (mCons (mVar 1) mNil)))))
end
end Dm
-- text DmMin
namespace Dm
open PySem L2 PySem.Spec PyProof.Rows
open PySem.W (Frag)
/-! ### min of a list of ints -/
section
variable {X : Cx} {W : WX}
/-! ### key in a dict -/
/-! ### xs.clear() -/
def mClear (o : ME) : MS := fun ρ S => ofRes (o ρ S) ρ fun x S1 => match x with
  | .cell n => match S1[n]? with
    | some (.lst _) => .nx ρ (S1.set n (.lst []))
    | _ => .bad
  | _ => .bad
end
section
variable {S : Sto} {ρ : Rho} {N B C : Rho → Sto → Prop} {R : D → Sto → Prop} {E : EX} {EO : EXO}
@[simp] theorem does_clear {o : ME} : (mClear o ρ S).DoesE EO N R B C = (o ρ S).DoesE (eAt EO ρ) fun x S1 => match x with
    | .cell n => (∃ xs, S1[n]? = some (.lst xs)) ∧ N ρ (S1.set n (.lst []))
    | _ => False := by
  unfold mClear
  rw [does_ofRes]; congr 1; funext x S1
  cases x with
  | cell n =>
    simp only
    cases q : S1[n]? with
    | none => exact propext ⟨fun h => h.elim, fun ⟨⟨_, h⟩, _⟩ => nomatch h⟩
    | some c =>
      cases c with
      | lst ds => exact propext ⟨fun h => ⟨⟨_, rfl⟩, h⟩, fun h => h.2⟩
      | _ => exact propext ⟨fun h => h.elim, fun ⟨⟨_, h⟩, _⟩ => nomatch h⟩
  | _ => rfl
end
end Dm
-- text DmTry
/-! try .. except X (as n): the caught exception stands in the heap as a value -/
namespace Dm
open PySem L2 PySem.Spec PyProof.Rows
open PySem.W (Frag)
section
variable {X : Cx} {pins : List (Addr × Obj)} {σ : L2.St} {H : Hp} {s : Shared}
theorem _root_.L2.Inv.track {a : Addr} {o : HO} (I : Inv X pins σ H s) (h0 : X.s_0.heap.get? a = none) (hn : H a = none) (hL : a ≠ X.env.locals) (hC : ∀ x c, X.env.cells.lookup x = some c → c ≠ a) (hp : ∀ p ∈ X.pn ++ pins, p.1 ≠ a)
    (new : ObjOk X.prog X.w (upd H a o) s.heap a o) : Inv X pins σ (upd H a o) s := by
  have n0 : ∀ {b : Addr} {u : Obj}, X.s_0.heap.get? b = some u → b ≠ a := fun {b u} e z => by
    rw [z, h0] at e; cases e
  have nH : ∀ {b : Addr} {u : HO}, H b = some u → b ≠ a := fun {b u} e z => by
    rw [z, hn] at e; cases e
  refine ⟨I.ok, I.os, I.bare, ⟨I.base.keep, I.base.slot, fun b u e n hx => ?_, I.base.there, fun b xs e => ?_, fun b u xs e => ?_, fun b ps e => ?_⟩, I.loc, I.cell, ?_, fun x c e => ?_, fun p hq => ?_, fun b u e => ?_, I.len⟩
  · rw [upd_ne (n0 e)]
    exact I.base.free b u e n hx
  · have q := I.base.tups b xs e
    rw [upd_ne (nH q)]
    exact q
  · have q := I.base.frzs b u xs e
    rw [upd_ne (nH q)]
    exact q
  · obtain ⟨m, q⟩ := I.base.tbls b ps e
    exact ⟨m, by rw [upd_ne (nH q)]; exact q⟩
  · rw [upd_ne (Ne.symm hL)]
    exact I.free
  · rw [upd_ne (hC x c e)]
    exact I.freeC x c e
  · obtain ⟨e, n, ne, nf, d⟩ := I.pin p hq
    exact ⟨e, by rw [upd_ne (hp p hq)]; exact n, ne, nf, d⟩
  · by_cases hb : b = a
    · subst hb
      rw [upd_same] at e
      cases e
      exact new
    · rw [upd_ne hb] at e
      exact (I.hok b u e).stay (fun c v _ q => q) (fun c q => by rw [upd_ne (nH q)]; exact q) fun c xs q => by rw [upd_ne (nH q)]; exact q
theorem _root_.L2.Inv.suiteV (I : Inv X pins σ H s) (a : Addr) : Inv (X.suite a (X.pn ++ pins)) [] σ H s :=
  ⟨I.ok.suite _ _, I.os, I.bare, I.base, I.loc, I.cell, I.free, I.freeC, fun p hp => by rw [List.append_nil] at hp; exact I.pin p hp, I.hok, I.len⟩
theorem _root_.L2.Inv.unsuiteV {a : Addr} {pn' : List (Addr × Obj)} (I : Inv (X.suite a (X.pn ++ pins)) pn' σ H s) (ok : X.Ok) : Inv X pins σ H s :=
  ⟨ok, I.os, I.bare, I.base, I.loc, I.cell, I.free, I.freeC, fun p hp => I.pin p (List.mem_append_left _ hp), I.hok, I.len⟩
end
theorem exV_ok {P : Program} {w : World} {H : Hp} {h : Heap} {a : Addr} {cls : Value} {d : Option Addr} {oe : Obj} {vs : Array Value} (e : h.get? a = some oe) (z : Zc cls d oe) (hd : oe.data = .fields vs) : ObjOk P w H h a (ExV cls d a) :=
  ⟨⟨oe, vs, e, z, hd⟩, ⟨oe, e⟩, fun _ _ ⟨o, v, q, r⟩ k => ⟨o, v, k o q, r⟩⟩
/-- the slot of a clause's name: what is wished for behind the suite, the slots at its start -/
def endsI (oi : Option Nat) (D : Ends) : Ends := match oi with
  | none => D
  | some i => { nx := fun σ' H' => D.nx (σ'.set i none) H', rt := D.rt, bk := fun σ' H' => D.bk (σ'.set i none) H', ct := fun σ' H' => D.ct (σ'.set i none) H' }
def slotI (oi : Option Nat) (σ : L2.St) (a : Addr) : L2.St := match oi with
  | none => σ
  | some i => σ.set i (some (.ref a))
def wTry (K : Frag) (Wout : WX) (D : Ends) : List (Value × Option Nat × TS) → WX
  | [] => Wout
  | (c, oi, ts) :: r => fun cls d σ H => ∃ b, PySem.W.exmOne K cls c = some b ∧ (b = true → ∀ a, H a = none → ts (endsI oi D) (slotI oi σ a) (upd H a (ExV cls d a))) ∧ (b = false → wTry K Wout D r cls d σ H)
inductive HdsV (X : Cx) : List ExceptHandler → List (Value × Option Nat × TS) → Prop
  | nil : HdsV X [] []
  | one {x : Str} {c : Value} {ts : TS} {b₀ : Stmt} {suite : List Stmt} {np pos' : Pos} {hds : List ExceptHandler} {l : List (Value × Option Nat × TS)} (hc : Names X x c)
      (hsu : ∀ (a : Addr) (pn : List (Addr × Obj)), PSs (X.suite a pn) (b₀ :: suite) ts) (r : HdsV X hds l) : HdsV X (.ExceptHandler (some (.Name x np)) none (b₀ :: suite) pos' :: hds) ((c, none, ts) :: l)
  | as {x n : Str} {c : Value} {i : Nat} {ts : TS} {b₀ : Stmt} {suite : List Stmt} {np pos' : Pos} {hds : List ExceptHandler} {l : List (Value × Option Nat × TS)} (hc : Names X x c) (hi : X.N[i]? = some n) (hln : X.env.kindOf n = some .local)
      (hsu : ∀ (a : Addr) (pn : List (Addr × Obj)), PSs (X.suite a pn) (b₀ :: suite) ts) (r : HdsV X hds l) : HdsV X (.ExceptHandler (some (.Name x np)) (some n) (b₀ :: suite) pos' :: hds) ((c, some i, ts) :: l)
section
variable {X : Cx} {body : List Stmt} {h₀ : ExceptHandler} {hds : List ExceptHandler} {l : List (Value × Option Nat × TS)} {pos : Pos} {tb : WX → TS} {Wout : WX}
theorem ps_tryV (hx : X.ex = []) (hs : X.stack = X.env :: X.outer) (hf : X.env.frame = some X.env.locals) (hN : X.N.Nodup) (tk : Takes X Wout)
    (hb : ∀ (W : WX) (pn : List (Addr × Obj)) (xe : Value → Shared → Prop), Takes (X.tr pn xe) W → PassesOwn (model X.prog X.w) X.A X.env xe → PSs (X.tr pn xe) body (tb W))
    (hh : HdsV X (h₀ :: hds) l) : PS X (.Try body (h₀ :: hds) [] [] pos) (fun D σ H => tb (wTry X.K Wout D l) D σ H) := by
  refine ⟨fun pins s σ H D I h => ?_⟩
  have ok := I.ok
  have hfr : X.A.frames = some (X.env :: X.outer) := by rw [ok.frames, hs]
  refine wpAny_Try_except ?_
  refine wpAny_mono ((hb (wTry X.K Wout D l) (X.pn ++ pins) (fun e s₁ => wpAny (model X.prog X.w) X.A (noteFrame e X.env) (fun _ s₂ => wpAny (model X.prog X.w) X.A (setFlight e none) (fun _ s₃ =>
    wpAny (model X.prog X.w) X.A (handleBy e X.env (h₀ :: hds)) (SP X pins D) X.xe s₃) X.xe s₂) X.xe s₁) (fun u s' xx => ?_) PassesOwn.looking).run [] s σ H D (I.toTry _) h) (fun f s1 hsp => ?_) (fun e s1 he => he)
  · -- the catch
    obtain ⟨a, B, sI, pins', σ', H', cls, d, rfl, J', nb, up, sky, na, os, ag, w⟩ := xx
    have J : Inv X pins σ' H' sI := J'.ofTry ok
    have sky' : Sky B (X.env :: X.outer) a (Zc cls d) X.env.locals s'.heap := by rw [← hs]; exact sky
    show wpAny (model X.prog X.w) X.A (noteFrame (.ref a) X.env) _ _ _
    refine Sky.land Zc.steady hfr hf sky' fun h3 fl3 up3 => ?_
    have J3 : Inv X pins σ' H' { s' with heap := h3 } := J.landed nb fl3.1 (up.trans up3) os ag
    obtain ⟨oe3, vs3, he3, hz3, hd3⟩ := fl3.there
    have notFr : ∀ {h : Heap} {o : Obj} {vs : Array Value}, h.FunFrames B (X.env :: X.outer) → h.get? a = some o → o.data = .fields vs → a ∉ frs (X.env :: X.outer) := fun {h o vs} ff e dd hm => by
      obtain ⟨_, o', e', hnf⟩ := ff.mem hm
      rw [e] at e'; cases e'
      exact hnf _ dd
    have nfr := notFr fl3.2.2.1 he3 hd3
    have nL : a ≠ X.env.locals := fun z => nfr (List.mem_filterMap.mpr ⟨X.env, List.mem_cons_self, by rw [hf, z]⟩)
    have nF : a ∉ X.fs := fun hm => by
      obtain ⟨e, he, q⟩ := List.mem_filterMap.mp hm
      exact nfr (List.mem_filterMap.mpr ⟨e, List.mem_cons_of_mem _ he, q⟩)
    have nI : sI.heap.get? a = none := by
      cases e : sI.heap.get? a with
      | none => rfl
      | some o =>
        have z := nb a o e (by rw [hs]; exact nfr)
        rw [fl3.2.1] at z
        cases z
    have n0 : X.s_0.heap.get? a = none := by
      cases e : X.s_0.heap.get? a with
      | none => rfl
      | some o =>
        obtain ⟨o', z⟩ := J.base.there a o e (by rw [hx]; exact fun z => nomatch z)
        rw [nI] at z; cases z
    have nC : ∀ x c, X.env.cells.lookup x = some c → c ≠ a := fun x c e z => by
      obtain ⟨v, o, ho, hd⟩ := J.cell x c e
      rw [z, nI] at ho; cases ho
    have nP : ∀ p ∈ X.pn ++ pins, p.1 ≠ a := fun p hp z => by
      obtain ⟨e, _⟩ := J.pin p hp
      rw [z, nI] at e; cases e
    have S3 := J3.suiteV a
    have go : ∀ {hds' : List ExceptHandler} {l' : List (Value × Option Nat × TS)}, HdsV X hds' l' → wTry X.K Wout D l' cls d σ' H' →
        wpAny (model X.prog X.w) X.A (handleBy (.ref a) X.env hds') (SP X pins D) X.xe { s' with heap := h3 } := by
      intro hds' l' hk
      induction hk with
      | nil =>
        intro w
        refine wpAny_handleBy_nil ?_
        obtain ⟨k1, k2, k3, oe, vs, T, oT, ts', he, hz, hd, h1, hr⟩ := id fl3
        unfold PySem.passOn
        refine wpAny_bind (wpAny_field he hd h1 ?_)
        rw [if_neg (show ¬ ((Value.ref T == Value.none) = true) from by simp)]
        have fin : wpAny (model X.prog X.w) X.A (setFlight (.ref a) X.env.frame) (fun _ s4 => wpAny (model X.prog X.w) X.A (throw (.ref a) : Sem Flow) (SP X pins D) X.xe s4) X.xe { s' with heap := h3 } := by
          rw [hf]
          refine HandSPX.setFlight_upZ fl3 fun h4 hh4 up4 => wpAny_throw (tk _ _ ?_)
          exact ⟨a, B, sI, pins, σ', H', cls, d, rfl, J, nb, (up.trans up3).trans up4, .inr (.inr (by rw [hs]; exact hh4)), na, os, ag, w⟩
        first
          | exact wpAny_bind (wpAny_pure (wpAny_bind fin))
          | exact wpAny_bind fin
      | @one x c ts b₀ suite np pos' hds2 l2 hc hsu r ih =>
        intro w
        obtain ⟨b, hb1, hyes, hno⟩ := w
        refine wpAny_handleBy_cons (codeAny_handlers_test ?_) (by intro q; cases q)
        have LT : PySem.W.Looks (model X.prog X.w) h3 (typeOf (.ref a)) cls := fun A Q E s k q => wpAny_typeOf_ref (k _ _ he3) (by rw [hz3.1]; exact q)
        have LM := PySem.W.exm_one (M := model X.prog X.w) (J3.kIn) LT hb1
        have test : ∀ {Q : Value → Shared → Prop} {E : Value → Shared → Prop}, Q c { s' with heap := h3 } → wpAny (model X.prog X.w) (X.A.mark (some (.ref a))) (eval (.Name x np) X.env) Q E { s' with heap := h3 } := fun {Q E} q => by
          obtain ⟨hg, hdbg, hm | ⟨hm, hv, hnn⟩⟩ := hc
          · exact ld_glob (X := X.suite a (X.pn ++ pins)) S3 hg hm q hdbg
          · exact ld_blt (X := X.suite a (X.pn ++ pins)) S3 hg hm hv q hnn hdbg
        refine test (LM.here ?_)
        cases b with
        | true =>
          refine codeAny_handlers_suite ?_
          refine HandSPX.lands_againZ fl3 fun h4 fl4 up4 => ?_
          have J4 : Inv X pins σ' H' { s' with heap := h4 } := J.landed nb fl4.1 ((up.trans up3).trans up4) os ag
          obtain ⟨oe4, vs4, he4, hz4, hd4⟩ := fl4.there
          have J5 := Inv.track J4 n0 na nL nC nP (o := ExV cls d a) (exV_ok he4 hz4 hd4)
          have S4 := J5.suiteV a
          refine wpAny_mono ((hsu a (X.pn ++ pins)).run [] _ _ _ _ S4 (hyes rfl a na)) (fun f s6 hsp => ?_) (fun _ _ z => False.elim z)
          cases f with
          | next =>
            obtain ⟨σ6, H6, S6, q6⟩ := hsp
            exact ⟨_, _, S6.unsuiteV ok, q6⟩
          | brk =>
            obtain ⟨σ6, H6, S6, q6⟩ := hsp
            exact ⟨_, _, S6.unsuiteV ok, q6⟩
          | cont =>
            obtain ⟨σ6, H6, S6, q6⟩ := hsp
            exact ⟨_, _, S6.unsuiteV ok, q6⟩
          | ret u =>
            obtain ⟨v6, σ6, H6, S6, r6, q6⟩ := hsp
            exact ⟨_, _, _, S6.unsuiteV ok, r6, q6⟩
        | false =>
          show wpAny _ X.A (handleBy (.ref a) X.env hds2) _ _ _
          exact ih (hno rfl)
      | @as x n c i ts b₀ suite np pos' hds2 l2 hc hi hln hsu r ih =>
        intro w
        obtain ⟨b, hb1, hyes, hno⟩ := w
        have hloc : Loc X.env.scope n := .inl hln
        refine wpAny_handleBy_cons (codeAny_handlers_test ?_) (by intro q; cases q)
        have LT : PySem.W.Looks (model X.prog X.w) h3 (typeOf (.ref a)) cls := fun A Q E s k q => wpAny_typeOf_ref (k _ _ he3) (by rw [hz3.1]; exact q)
        have LM := PySem.W.exm_one (M := model X.prog X.w) (J3.kIn) LT hb1
        have test : ∀ {Q : Value → Shared → Prop} {E : Value → Shared → Prop}, Q c { s' with heap := h3 } → wpAny (model X.prog X.w) (X.A.mark (some (.ref a))) (eval (.Name x np) X.env) Q E { s' with heap := h3 } := fun {Q E} q => by
          obtain ⟨hg, hdbg, hm | ⟨hm, hv, hnn⟩⟩ := hc
          · exact ld_glob (X := X.suite a (X.pn ++ pins)) S3 hg hm q hdbg
          · exact ld_blt (X := X.suite a (X.pn ++ pins)) S3 hg hm hv q hnn hdbg
        refine test (LM.here ?_)
        cases b with
        | true =>
          refine codeAny_handlers_suite_as ?_
          refine HandSPX.lands_againZ fl3 fun h4 fl4 up4 => ?_
          have J4 : Inv X pins σ' H' { s' with heap := h4 } := J.landed nb fl4.1 ((up.trans up3).trans up4) os ag
          obtain ⟨oe4, vs4, he4, hz4, hd4⟩ := fl4.there
          have J5 := Inv.track J4 n0 na nL nC nP (o := ExV cls d a) (exV_ok he4 hz4 hd4)
          have S4 := J5.suiteV a
          refine store_ok (X := X.suite a (X.pn ++ pins)) (v := .ref a) S4 hN hi hloc rfl (fun s5 S5 => ?_) (.inr hln)
          refine wpAny_mono ((hsu a (X.pn ++ pins)).run [] s5 _ _ _ S5 (hyes rfl a na)) (fun f s6 hsp => ?_) (fun _ _ z => False.elim z)
          have end_ : ∀ {σ6 : L2.St} {H6 : Hp} {Q : Shared → Prop}, Inv (X.suite a (X.pn ++ pins)) [] σ6 H6 s6 → (∀ s7, Inv X pins (σ6.set i none) H6 s7 → Q s7) →
              wpAny (model X.prog X.w) X.A (do bindName X.env n .none; unbindBehindTheSuite X.env n pos') (fun _ s7 => Q s7) X.xe s6 := fun {σ6 H6 Q} S6 hq => gone_ok (S6.unsuiteV ok) hN hi hln hq
          cases f with
          | next =>
            obtain ⟨σ6, H6, S6, q6⟩ := hsp
            exact end_ S6 fun s7 J7 => ⟨_, _, J7, q6⟩
          | brk =>
            obtain ⟨σ6, H6, S6, q6⟩ := hsp
            exact end_ S6 fun s7 J7 => ⟨_, _, J7, q6⟩
          | cont =>
            obtain ⟨σ6, H6, S6, q6⟩ := hsp
            exact end_ S6 fun s7 J7 => ⟨_, _, J7, q6⟩
          | ret u =>
            obtain ⟨v6, σ6, H6, S6, r6, q6⟩ := hsp
            exact end_ S6 fun s7 J7 => ⟨_, _, _, J7, r6, q6⟩
        | false =>
          show wpAny _ X.A (handleBy (.ref a) X.env hds2) _ _ _
          exact ih (hno rfl)
    exact go hh w
  · cases f with
    | next =>
      obtain ⟨σ', H', J', q⟩ := hsp
      exact wpAny_execs_nil ⟨σ', H', J'.ofTry ok, q⟩
    | brk =>
      obtain ⟨σ', H', J', q⟩ := hsp
      exact ⟨σ', H', J'.ofTry ok, q⟩
    | cont =>
      obtain ⟨σ', H', J', q⟩ := hsp
      exact ⟨σ', H', J'.ofTry ok, q⟩
    | ret u =>
      obtain ⟨v, σ', H', J', r, q⟩ := hsp
      exact ⟨v, σ', H', J'.ofTry ok, r, q⟩
end
/-! ### the words -/
/-- of the program's error classes all stand directly under HourError -/
def xSub (c h : Str) : Bool := c == h || h == "HourError" || h == "ValueError" || h == "Exception"
def intFsOf : List (Str × D) → Option (List (Str × Int))
  | [] => some []
  | (f, .int i) :: r => (intFsOf r).map fun l => (f, i) :: l
  | _ :: _ => none
def setI (oi : Option Nat) (ρ : Rho) (d : D) : Rho := match oi with
  | none => ρ
  | some i => ρ.set i (some d)
def clearI (oi : Option Nat) (ρ : Rho) : Rho := match oi with
  | none => ρ
  | some i => ρ.set i none
def dropI (oi : Option Nat) : Out → Out
  | .nx ρ S => .nx (clearI oi ρ) S
  | .rt d S => .rt d S
  | .bk ρ S => .bk (clearI oi ρ) S
  | .ct ρ S => .ct (clearI oi ρ) S
  | .exc _ _ _ _ => .bad
  | .bad => .bad
def catchD (c : Str) (fs : List (Str × D)) (ns : List (Str × Int)) : List (Str × Option Nat × MS) → Rho → Sto → Out
  | [], ρ, S => .exc c fs ρ S
  | (h, oi, ms) :: r, ρ, S => if xSub c h = true then dropI oi (ms (setI oi ρ (.exn c ns)) S) else catchD c fs ns r ρ S
def mTry (cs : List Str) (hs : List (Str × Option Nat × MS)) (mb : MS) : MS := fun ρ S => match mb ρ S with
  | .exc c fs ρ1 S1 => match intFsOf fs with
    | some ns => if c ∈ cs then catchD c fs ns hs ρ1 S1 else .bad
    | none => .bad
  | o => o
/-- what the written part says of the classes that may be raised here -/
def SubOk (K : Frag) (mg : Str → Option Value) (cs : List Str) (x : Str) (v : Value) : Prop := ∀ c, c ∈ cs → ∃ Cc, mg c = some Cc ∧ PySem.W.exmOne K Cc v = some (xSub c x)
/-- the class x of a clause -/
structure TrOk (K : Frag) (mg : Str → Option Value) (cs : List Str) (x : Str) : Prop where
  ex : ∃ v : Value, mg x = some v ∧ SubOk K mg cs x v
/-- the classes are own error classes, of no plain type -/
structure PlOk (K : Frag) (mg : Str → Option Value) (cs : List Str) : Prop where
  ex : ∀ c, c ∈ cs → ∃ cls, mg c = some cls ∧ PlX K cls
inductive HdsD (X : Cx) (cs : List Str) : List ExceptHandler → List (Str × Option Nat × MS) → Prop
  | nil : HdsD X cs [] []
  | one {x : Str} {v : Value} {ms : MS} {b₀ : Stmt} {suite : List Stmt} {np pos' : Pos} {hds : List ExceptHandler} {l : List (Str × Option Nat × MS)} (hc : Names X x v) (sub : SubOk X.K X.mg cs x v)
      (hsu : ∀ (a : Addr) (pn : List (Addr × Obj)), Takes (X.suite a pn) W0 → DSs (X.suite a pn) W0 (b₀ :: suite) ms) (r : HdsD X cs hds l) : HdsD X cs (.ExceptHandler (some (.Name x np)) none (b₀ :: suite) pos' :: hds) ((x, none, ms) :: l)
  | as {x n : Str} {v : Value} (i : Nat) {ms : MS} {b₀ : Stmt} {suite : List Stmt} {np pos' : Pos} {hds : List ExceptHandler} {l : List (Str × Option Nat × MS)} (hc : Names X x v) (sub : SubOk X.K X.mg cs x v) (pl : PlOk X.K X.mg cs) (hi : X.N[i]? = some n) (hln : X.env.kindOf n = some .local)
      (hsu : ∀ (a : Addr) (pn : List (Addr × Obj)), Takes (X.suite a pn) W0 → DSs (X.suite a pn) W0 (b₀ :: suite) ms) (r : HdsD X cs hds l) : HdsD X cs (.ExceptHandler (some (.Name x np)) (some n) (b₀ :: suite) pos' :: hds) ((x, some i, ms) :: l)
theorem hds_as {X : Cx} {cs : List Str} (i : Nat) {x n : Str} {ms : MS} {b₀ : Stmt} {suite : List Stmt} {np pos' : Pos} {hds : List ExceptHandler} {l : List (Str × Option Nat × MS)} (T : TrOk X.K X.mg cs x) (P : PlOk X.K X.mg cs)
    (hsu : ∀ (a : Addr) (pn : List (Addr × Obj)), Takes (X.suite a pn) W0 → DSs (X.suite a pn) W0 (b₀ :: suite) ms) (r : HdsD X cs hds l) (hi : X.N[i]? = some n := by rfl) (hln : X.env.kindOf n = some .local := by rfl) (hg : Gl X x := by rfl) (hd : (x == ("__debug__" : Str)) = false := by decide) :
    HdsD X cs (.ExceptHandler (some (.Name x np)) (some n) (b₀ :: suite) pos' :: hds) ((x, some i, ms) :: l) :=
  let ⟨_, h1, h2⟩ := T; .as i ⟨hg, hd, .inl h1⟩ h2 P hi hln hsu r
section
variable {F : Fx} {μ : List Addr} {H : Hp}
theorem intFsOf_some : ∀ {fs : List (Str × D)} {ns : List (Str × Int)}, intFsOf fs = some ns → fs = ns.map fun p => (p.1, D.int p.2)
  | [], ns, e => by cases e; rfl
  | (f, d) :: r, ns, e => by
    cases d with
    | int i =>
      unfold intFsOf at e
      cases q : intFsOf r with
      | none => rw [q] at e; cases e
      | some l =>
        rw [q] at e
        cases e
        rw [List.map_cons, ← intFsOf_some q]
    | _ => cases e
theorem fsr_ints : ∀ {ns : List (Str × Int)} {vfs : List (Str × V)}, FsR F μ H vfs (ns.map fun p => (p.1, D.int p.2)) → vfs = intFs ns
  | [], _, h => by cases h; rfl
  | (f, i) :: r, [], h => by cases h
  | (f, i) :: r, (g, v) :: vfs, h => by
    cases h with
    | cons a b =>
      obtain ⟨h1, h2⟩ := a
      have h3 : g = f := h1
      have h4 : RD F μ H v (.int i) := h2
      clear h1 h2
      subst h3
      cases h4
      rw [fsr_ints b]
      rfl
theorem ws_drop {oi : Option Nat} {r : Out} {D : Ends} {W : WX} (h : WS' F (dropI oi r) D W μ H) : WS' F r (endsI oi D) W0 μ H := by
  cases r with
  | nx ρ S =>
    intro σ μ' H' u s g
    cases oi with
    | none => exact h σ μ' H' u s g
    | some i => exact h (σ.set i none) μ' H' u s (g.forget (σ' := σ) i)
  | rt d S =>
    intro v μ' H' u s g
    cases oi with
    | none => exact h v μ' H' u s g
    | some i => exact h v μ' H' u s g
  | bk ρ S =>
    intro σ μ' H' u s g
    cases oi with
    | none => exact h σ μ' H' u s g
    | some i => exact h (σ.set i none) μ' H' u s (g.forget (σ' := σ) i)
  | ct ρ S =>
    intro σ μ' H' u s g
    cases oi with
    | none => exact h σ μ' H' u s g
    | some i => exact h (σ.set i none) μ' H' u s (g.forget (σ' := σ) i)
  | exc c fs ρ S => exact h.elim
  | bad => exact h
theorem takes_w0 {X : Cx} : Takes X W0 := fun _ _ ⟨_, _, _, _, _, _, _, _, _, _, _, _, _, _, _, _, w⟩ => w.elim
/-- one reading for all contexts of a family -/
theorem dss_all {ι : Type} {Xf : ι → Cx} {body : List Stmt} {m : MS} {K : Frag} {mg : Str → Option Value} {w : World} {W : WX} (hK : ∀ i, (Xf i).K = K) (hg : ∀ i, ((Xf i).mg, (Xf i).w) = (mg, w)) (h : ∀ i, DSs (Xf i) W body m) :
    ∃ ts : TS, (∀ i, PSs (Xf i) body ts) ∧ ∀ ξ μ σ H ρ S D, RG ⟨K, mg, ξ, w⟩ μ H σ ρ → RS ⟨K, mg, ξ, w⟩ μ H S → WS' ⟨K, mg, ξ, w⟩ (m ρ S) D W μ H → ts D σ H := by
  refine ⟨fun D σ H => ∀ i, ∃ ts, PSs (Xf i) body ts ∧ ts D σ H, fun i => ⟨fun pins s σ H D I hw => ?_⟩, fun ξ μ σ H ρ S D g s hw i => ?_⟩
  · obtain ⟨ts, p, q⟩ := hw i
    exact p.run pins s σ H D I q
  · obtain ⟨ts, p, k⟩ := h i
    refine ⟨ts, p, k ξ μ σ H ρ S D ?_ ?_ ?_⟩
    all_goals (rw [fx_fam hK hg]; assumption)
theorem catch_read {X : Cx} {cs : List Str} {hds : List ExceptHandler} {l : List (Str × Option Nat × MS)} {W : WX} (hh : HdsD X cs hds l) :
    ∃ L : List (Value × Option Nat × TS), HdsV X hds L ∧ ∀ ξ μ σ H ρ S c ns cls dd En, c ∈ cs → RS (fx X ξ) μ H S → RG (fx X ξ) μ H σ ρ → XR (fx X ξ) μ H cls dd c (ns.map fun p => (p.1, D.int p.2)) →
      WS' (fx X ξ) (catchD c (ns.map fun p => (p.1, D.int p.2)) ns l ρ S) En W μ H → wTry X.K W En L cls dd σ H := by
  induction hh with
  | nil =>
    refine ⟨[], .nil, fun ξ μ σ H ρ S c ns cls dd D hc s g x h => ?_⟩
    exact h cls dd σ μ H .refl s g x
  | @one x v ms b₀ suite np pos' hds l hc sub hsu r ih =>
    obtain ⟨L, hL, kL⟩ := ih
    obtain ⟨ts, pts, kts⟩ := dss_all (Xf := fun i : Addr × List (Addr × Obj) => X.suite i.1 i.2) (K := X.K) (mg := X.mg) (W := W0) (fun _ => rfl) (fun _ => rfl) fun i => hsu i.1 i.2 takes_w0
    refine ⟨(v, none, ts) :: L, .one hc (fun a pn => pts (a, pn)) hL, fun ξ μ σ H ρ S c ns cls dd D hm s g x h => ?_⟩
    obtain ⟨Cc, e1, e2⟩ := sub c hm
    obtain rfl : Cc = cls := Option.some.inj (e1.symm.trans x.1)
    refine ⟨_, e2, fun e a na => ?_, fun e => ?_⟩
    · unfold catchD at h
      rw [if_pos e] at h
      have u : Up μ H μ (upd H a (ExV Cc dd a)) := .fresh na
      refine kts ξ μ _ _ _ S _ (g.up u) (s.fresh na) (ws_drop (WS'.shift u h))
    · unfold catchD at h
      rw [if_neg (by rw [e]; exact Bool.false_ne_true)] at h
      exact kL ξ μ σ H ρ S c ns Cc dd D hm s g x h
  | @as x n v i ms b₀ suite np pos' hds l hc sub pl hi hln hsu r ih =>
    obtain ⟨L, hL, kL⟩ := ih
    obtain ⟨ts, pts, kts⟩ := dss_all (Xf := fun i : Addr × List (Addr × Obj) => X.suite i.1 i.2) (K := X.K) (mg := X.mg) (W := W0) (fun _ => rfl) (fun _ => rfl) fun i => hsu i.1 i.2 takes_w0
    refine ⟨(v, some i, ts) :: L, .as hc hi hln (fun a pn => pts (a, pn)) hL, fun ξ μ σ H ρ S c ns cls dd D hm s g x h => ?_⟩
    obtain ⟨Cc, e1, e2⟩ := sub c hm
    obtain rfl : Cc = cls := Option.some.inj (e1.symm.trans x.1)
    refine ⟨_, e2, fun e a na => ?_, fun e => ?_⟩
    · unfold catchD at h
      rw [if_pos e] at h
      have u : Up μ H μ (upd H a (ExV Cc dd a)) := .fresh na
      have rv : RD (fx X ξ) μ (upd H a (ExV Cc dd a)) (.ref a) (.exn c ns) := by
        obtain ⟨cl2, e3, e4⟩ := pl.ex c hm
        obtain rfl : cl2 = Cc := Option.some.inj (e3.symm.trans e1)
        refine .exn ⟨cl2, dd, ⟨e1, e4⟩, ⟨upd_same, s.out na, s.outX na⟩, ?_⟩
        rcases x.2 with ⟨z1, z2⟩ | ⟨d, vfs, z1, z2, z3, z4, z5⟩
        · refine .inl ⟨?_, z2⟩
          cases ns with
          | nil => rfl
          | cons p ns => cases z1
        · refine .inr ⟨d, _, z1, ?_, .inr rfl, z3, z4⟩
          rw [upd_ne (ne_of_none z2 na), z2, fsr_ints z5]
      refine kts ξ μ _ _ _ S _ ((g.up u).set i rv) (s.fresh na) (ws_drop (WS'.shift u h))
    · unfold catchD at h
      rw [if_neg (by rw [e]; exact Bool.false_ne_true)] at h
      exact kL ξ μ σ H ρ S c ns Cc dd D hm s g x h
end
section
variable {X : Cx} {W : WX} {e : Expr} {body : List Stmt} {h₀ : ExceptHandler} {hds : List ExceptHandler} {l : List (Str × Option Nat × MS)} {pos : Pos} {mb : MS} {m : ME}
theorem ds_try {cs : List Str} (hN : X.N.Nodup) (tk : Takes X W) (hb : ∀ (W : WX) (pn : List (Addr × Obj)) (xe : Value → Shared → Prop), Takes (X.tr pn xe) W → DSs (X.tr pn xe) W body mb)
    (hh : HdsD X cs (h₀ :: hds) l) (hs : X.stack = X.env :: X.outer := by rfl) (hf : X.env.frame = some X.env.locals := by rfl) (hx : X.ex = [] := by rfl) : DS X W (.Try body (h₀ :: hds) [] [] pos) (mTry cs l mb) := by
  obtain ⟨L, hL, kL⟩ := catch_read (W := W) hh
  have hbody : ∀ W' : WX, ∃ ts : TS, (∀ i : { p : List (Addr × Obj) × (Value → Shared → Prop) // Takes (X.tr p.1 p.2) W' }, PSs (X.tr i.1.1 i.1.2) body ts) ∧ ∀ ξ μ σ H ρ S D, RG (fx X ξ) μ H σ ρ → RS (fx X ξ) μ H S → WS' (fx X ξ) (mb ρ S) D W' μ H → ts D σ H :=
    fun W' => dss_all (Xf := fun i : { p : List (Addr × Obj) × (Value → Shared → Prop) // Takes (X.tr p.1 p.2) W' } => X.tr i.1.1 i.1.2) (K := X.K) (mg := X.mg) (W := W') (fun _ => rfl) (fun _ => rfl) fun i => hb W' i.1.1 i.1.2 i.2
  refine ⟨_, ps_tryV (tb := fun W' => Classical.choose (hbody W')) (Wout := W) hx hs hf hN tk (fun W' pn xe tk' _ => (Classical.choose_spec (hbody W')).1 ⟨(pn, xe), tk'⟩) hL, fun ξ μ σ H ρ S D g s h => ?_⟩
  refine (Classical.choose_spec (hbody _)).2 ξ μ σ H ρ S D g s ?_
  unfold mTry at h
  cases q : mb ρ S with
  | nx ρ1 S1 => rw [q] at h; exact h
  | rt d S1 => rw [q] at h; exact h
  | bk ρ1 S1 => rw [q] at h; exact h
  | ct ρ1 S1 => rw [q] at h; exact h
  | bad => rw [q] at h; exact h.elim
  | exc c fs ρ1 S1 =>
    rw [q] at h
    simp only at h
    cases e : intFsOf fs with
    | none => rw [e] at h; exact h.elim
    | some ns =>
      rw [e] at h
      simp only at h
      by_cases hc : c ∈ cs
      · rw [if_pos hc] at h
        rw [intFsOf_some e] at h ⊢
        intro cls dd σ1 μ1 H1 u1 s1 g1 x1
        exact kL ξ μ1 σ1 H1 ρ1 S1 c ns cls dd D hc s1 g1 x1 (WS'.shift u1 h)
      · rw [if_neg hc] at h
        exact h.elim
end
end Dm
-- text DmRaise
/-! raise X(e, ..) of a class with its own __init__; e.f; isinstance(e, X) -/
namespace Dm
open PySem L2 PySem.Spec PyProof.Rows
open PySem.W (Frag)
/-! ### H.__init__(self, ..), H a class of the program over ValueError -/
structure HiOk (K : Frag) (mg : Str → Option Value) (h : Str) : Prop where
  ex : ∃ (D : Addr) (mc : Value), mg h = some (.ref D) ∧ PySem.W.readsIn K D mc = true ∧ PySem.W.specialIn K (.ref D) "__getattribute__" = some (some (.builtin "type.__getattribute__")) ∧ PySem.W.findCls K (.ref D) mc "__init__" = some (.val (.builtin "ValueError.__init__"))
section
variable {X : Cx} {e : Expr} {es : List Expr} {ta : TA} {f h : Str} {p p' p1 p2 pos : Pos}
theorem pe_hinit {pl : Sem Bool} (hg : Gl X h) (T : HiOk X.K X.mg h) (ha : PA X (e :: es) ta) (hdb : (h == ("__debug__" : Str)) = false := by decide)
    (hc : eval (.Call (.Attribute (.Name h p1) "__init__" p2) (e :: es) [] pos) X.env = (do
      let ov ← eval (.Name h p1) X.env
      standAt p2.atName
      let (f, first) ← holding [ov] (getMethod ov "__init__" pl)
      callWith pos f first (backTo pos (starEach (e :: es) X.env)) (backToKw pos (keywordEach [] X.env))) := by rfl)
    (he : starEach (e :: es) X.env = (false, eval e X.env) :: starEach es X.env := by rfl) (hpl : (backTo pos (starEach es X.env)).any (·.1) = false := by rfl) :
    PE X (.Call (.Attribute (.Name h p1) "__init__" p2) (e :: es) [] pos) (tVeI X.K ta) := by
  obtain ⟨D, mc, hm, hr, hga, hv⟩ := T
  refine ⟨fun pins s σ H Q I h => ?_⟩
  refine PySem.W.methodCall_KW (ld_glob I hg hm ?_ hdb) hc
  refine PySem.W.method_cls I.kIn hga (PySem.W.cls_value I.kIn hr hv (by decide +kernel) ?_)
  show wpAny _ _ (callWith pos (Value.builtin "ValueError.__init__") [] (backTo pos (starEach (e :: es) X.env)) []) _ _ _
  refine PyProof.Rows.callWith_method1 (thn (ha.run pos pins _ σ H _ (I.tok _) h) fun us s1 ⟨vs, H1, I1, r1, a, C, ws, ev, hl, T, ea, q⟩ => ?_) he hpl
  subst ev
  cases r1 with
  | @cons _ u0 _ ur ra rw' =>
    obtain rfl : u0 = Value.ref a := ra
    have hlen : ur.length ≤ sizeLine := by
      rw [← Paired.length rw', sizeLine_eq]
      omega
    exact oinit_ok T I1 ea hlen fun s' J => ⟨.non, H1, J, rfl, q⟩
end
/-! ### the class's own __init__ -/
def spInit (K : Frag) (C : Addr) (ns : List Str) : Sp := fun vs H Q E => ∃ a ys, vs = .ref a :: ys ∧ ys.length = ns.length ∧ H a = some (exo a C none) ∧
  ∀ H' d, H d = none → d ≠ a → H' a = some (exo a C (some d)) → H' d = some (exd d (ns.zip ys).reverse) → (∀ b, b ≠ a → b ≠ d → H' b = H b) → Q .non H'
def tInit1 (K : Frag) (f msg : Str) : TS := tSeq (tDrop (tVeI K (tCons (tVar 0) (tCons (tC (.str msg)) tNil)))) (tOst K f (tVar 0) (tVar 1))
structure XiOk (P : Program) (w : World) (K : Frag) (mg : Str → Option Value) (base : Heap) (k : Nat) (x : Str) (ns : List Str) : Prop where
  ex : ∃ (C fI : Addr) (fd : FuncData) (ps : List Str), mg x = some (.ref C) ∧ OexC K C ∧ PySem.W.findIn K (.ref C) "__init__" = some (some (.ref fI)) ∧ PySem.W.typeIn K (.ref fI) = some (.type "function") ∧ Binds K fd ps [] ∧
    FnOk P w K mg base (L2.CX P w) k fI fd ps (spInit K C ns)
section
variable {P : Program} {w : World} {K : Frag} {mg : Str → Option Value} {base : Heap} {C fI : Addr} {fd : FuncData} {x f g msg qual : Str} {st : Stmt}
theorem xi_mk1 (hm : mg x = some (.ref C)) (T : OexC K C) (iC : PySem.W.findIn K (.ref C) "__init__" = some (some (.ref fI))) (tI : PySem.W.typeIn K (.ref fI) = some (.type "function")) (F : Fun K "__init__" qual st fI fd) (B : Binds K fd ["self", f] [])
    (S : FnScope ["self", f] ["self", f] (defScope st)) (hno : PySem.W.findIn K (.ref C) f = some none)
    (hb : ∀ (cdv : Value) (A : Around) (outer : List Env) (s : Shared) (H : Hp) (E : XK), PSs (cxOf (L2.CX P w) P w K mg base ["self", f] qual (defScope st) fI cdv A outer s H E) (defBody st) (tInit1 K f msg)) : XiOk P w K mg base 1 x [f] := by
  refine ⟨C, fI, fd, _, hm, T, iC, tI, B, F.okX S (fun vs H Q E h => ?_) (fun cdv A outer s H vs Q E hr h => ?_)⟩
  · obtain ⟨a, ys, rfl, hl, _⟩ := h
    simp at hl
    simp [hl]
  · obtain ⟨a, ys, rfl, hl, ha, hq⟩ := h
    match ys, hl with
    | [y], _ =>
      refine ⟨_, hb cdv A outer s H E, ?_⟩
      refine ⟨.ref a, rfl, ?_⟩
      refine ⟨a, C, [.str msg], rfl, (by simp), T, ha, ?_⟩
      refine ⟨y, rfl, .ref a, rfl, a, C, rfl, T, hno, .inl ⟨ha, fun dx n ne => ?_⟩⟩
      refine hq _ dx n ne upd_same ?_ fun b h1 h2 => ?_
      · rw [upd_ne ne, upd_same]; rfl
      · rw [upd_ne h1, upd_ne h2]
end
def mRaiseX (c : Str) (ns : List Str) (ma : MA) : MS := fun ρ S => ofRes (ma ρ S) ρ fun ds S1 => if ds.length = ns.length then .exc c (ns.zip ds).reverse ρ S1 else .bad
theorem paired_zip {α β γ : Type} {R : α → β → Prop} : ∀ {ns : List γ} {xs : List α} {ys : List β}, Paired R xs ys → Paired (fun p q => p.1 = q.1 ∧ R p.2 q.2) (ns.zip xs) (ns.zip ys)
  | [], _, _, _ => by simp; exact .nil
  | _ :: _, [], _, h => by cases h; simp; exact .nil
  | n :: ns, x :: xs, _, h => by
    cases h with
    | cons a b =>
      simp only [List.zip_cons_cons]
      exact .cons ⟨rfl, a⟩ (paired_zip b)
theorem paired_append {α β : Type} {R : α → β → Prop} : ∀ {xs xs' : List α} {ys ys' : List β}, Paired R xs ys → Paired R xs' ys' → Paired R (xs ++ xs') (ys ++ ys')
  | [], _, _, _, h, k => by cases h; exact k
  | _ :: _, _, _, _, h, k => by
    cases h with
    | cons a b => exact .cons a (paired_append b k)
theorem paired_reverse {α β : Type} {R : α → β → Prop} : ∀ {xs : List α} {ys : List β}, Paired R xs ys → Paired R xs.reverse ys.reverse
  | [], _, h => by cases h; exact .nil
  | _ :: _, _, h => by
    cases h with
    | cons a b =>
      rw [List.reverse_cons, List.reverse_cons]
      exact paired_append (paired_reverse b) (.cons a .nil)
theorem rds_pairX {F : Fx} {μ : List Addr} {H : Hp} : ∀ {vs : List V} {ds : List D}, RDs F μ H vs ds → Paired (fun v d => RD F μ H v d) vs ds
  | _, [], h => by cases h; exact .nil
  | _, d :: ds, h => by
    cases h with
    | cons a b => exact .cons a (rds_pairX b)
section
variable {X : Cx} {W : WX} {e : Expr} {es : List Expr} {mr : MA} {m : ME} {p p1 p2 pos pos2 : Pos}
theorem ds_raiseX {j k : Nat} {x : Str} {ns : List Str} (C : XiOk X.prog X.w X.K X.mg X.base j x ns) (hc : X.calm = true) (hr : Room k X.A) (tk : Takes X W) (ha : DA X W (e :: es) mr) (hj : j + 1 ≤ k := by decide) (hn : ns.length ≤ 1000 := by decide) (hg : Gl X x := by rfl) (hdb : (x == ("__debug__" : Str)) = false := by decide)
    (he : starEach (e :: es) X.env = (false, eval e X.env) :: starEach es X.env := by rfl) (hpl : (backTo pos (starEach es X.env)).any (·.1) = false := by rfl) :
    DS X W (.Raise (some (.Call (.Name x p) (e :: es) [] pos)) none pos2) (mRaiseX x ns mr) := by
  obtain ⟨C, fI, fd, ps, hm, T, iC, tI, B, F⟩ := C
  obtain ⟨ta, pa, ka⟩ := ha
  refine ⟨_, ps_raise hc tk (pmk_oex (dvs := []) T iC tI F (hr.mono hj) B .nil (fun _ _ _ _ _ _ _ h => (let ⟨_, _, _, _, _, _, _, _, _, _, _, _, z⟩ := h; z.elim)) hg hm pa hdb he hpl), fun ξ μ σ H ρ S D g s h => ka ξ μ σ H ρ S _ g s (WS'.bind g h fun ds S1 vs μ1 H1 u1 s1 r1 h1 => ?_)⟩
  by_cases c : ds.length = ns.length
  · rw [if_pos c] at h1
    have hl := r1.length
    rw [List.append_nil]
    refine ⟨by rw [hl, c]; exact hn, fun a na => ⟨a, vs, rfl, by rw [hl, c], upd_same, fun H' d hd da e1 e2 e3 => ⟨rfl, d, _, e1, e2, ?_, ?_⟩⟩⟩
    · rw [upd_ne da] at hd; exact hd
    · rw [upd_ne da] at hd
      have eq : upd (L2.del H' a) d (.xd (ns.zip vs).reverse) = upd H1 d (.xd (ns.zip vs).reverse) := by
        funext b
        by_cases hb : b = d
        · rw [hb, upd_same, upd_same]
        · rw [upd_ne hb, upd_ne hb]
          by_cases ha : b = a
          · rw [ha, del_same, na]
          · rw [del_ne ha, e3 b ha hb, upd_ne ha]
      rw [eq]
      exact h1 _ _ σ μ1 _ (.fresh hd) (s1.fresh hd) ((g.up u1).up (.fresh hd)) ⟨hm, .inr ⟨d, _, rfl, upd_same, s1.out hd, s1.outX hd, paired_reverse (paired_zip (rds_pairX (r1.up (Up.fresh hd))))⟩⟩
  · rw [if_neg c] at h1; exact h1.elim
/-! ### e.f -/
def gXf (c f : Str) (_ : Sto) : D → Option D
  | .exn c' fs => if c' = c then (fs.lookup f).map D.int else none
  | _ => none
def tXfV (C : Addr) (f : Str) (te : TE) : TE := fun σ H Q => te σ H fun x H1 => ∃ (a dd : Addr) (fs : List (Str × V)) (v : V), x = .ref a ∧ H1 a = some (ExV (.ref C) (some dd) a) ∧ H1 dd = some (.xd fs) ∧ fs.lookup f = some v ∧ Q v H1
theorem pe_xfV {C : Addr} {te : TE} {n : Str} (T : XfC X.K C) (hno : PySem.W.findIn X.K (.ref C) n = some none) (he : PE X e te) (hb : attributeBase e n X.env (eval e X.env) = eval e X.env := by rfl) :
    PE X (.Attribute e n pos) (tXfV C n te) := by
  refine ⟨fun pins s σ H Q I h => ?_⟩
  refine attr_of hb (thn (he.run pins s σ H _ I h) fun u s1 hh => ?_)
  obtain ⟨x, H1, I1, rx, a, dd, fs, v, ex, ea, ed, l, q⟩ := hh
  subst ex
  obtain rfl : u = Value.ref a := rx
  have xa : ObjOk X.prog X.w H1 s1.heap a (.ext fun h => ∃ (oe : Obj) (vs : Array Value), h.get? a = some oe ∧ Zc (.ref C) (some dd) oe ∧ oe.data = .fields vs) := I1.hok a _ ea
  obtain ⟨oe, vs, ha, hz, hd⟩ := xa.1
  have hx : ObjOk X.prog X.w H1 s1.heap dd (.xd fs) := I1.hok dd _ ed
  obtain ⟨mA, hns, hr⟩ := hx
  obtain ⟨od, ho, hl⟩ := lookIn_ns hns
  obtain ⟨u, hu, ru⟩ := RelO.some_of (v := v) (o := mA n) (by rw [← l]; exact hr n)
  have J : PySem.W.InstAt s1.heap a oe C (some od) := ⟨ha, hz.1, by unfold PySem.W.notCls; rw [hd] <;> rfl, by rw [hz.2]; exact ho⟩
  exact HandSPX.exc_get I1.kIn J T.ga T.gg T.exC (PySem.W.findObj_own T.hdC hno rfl (by rw [hl, hu])) (handed_of ru) ⟨v, H1, I1.tok _, ru, q⟩
structure XfOk (K : Frag) (mg : Str → Option Value) (c f : Str) : Prop where
  ex : ∃ C : Addr, mg c = some (.ref C) ∧ XfC K C ∧ PySem.W.findIn K (.ref C) f = some none
theorem lookup_ints {f : Str} {i : Int} : ∀ {fs : List (Str × Int)}, fs.lookup f = some i → (intFs fs).lookup f = some (.int i)
  | [], h => by simp at h
  | (g, j) :: fs, h => by
    show List.lookup f ((g, V.int j) :: intFs fs) = _
    rw [List.lookup_cons] at h ⊢
    by_cases e : (f == g) = true
    · rw [e] at h ⊢
      simp at h ⊢
      exact h
    · have e' : (f == g) = false := by simpa using e
      rw [e'] at h ⊢
      exact lookup_ints h
theorem d_xf {c n : Str} (T : XfOk X.K X.mg c n) (ha : DE X W e m) (hb : attributeBase e n X.env (eval e X.env) = eval e X.env := by rfl) : DE X W (.Attribute e n pos) (mUn (gXf c n) m) := by
  obtain ⟨C, h1, h2, h3⟩ := T
  obtain ⟨ta, pa, ka⟩ := ha
  refine ⟨_, pe_xfV h2 h3 pa hb, fun ξ μ σ H ρ S Q g s h => ka ξ μ σ H ρ S _ g s (WR.bind h fun x S1 v μ1 H1 u1 s1 r1 w1 => ?_)⟩
  cases r1 with
  | @exn a c' ns z =>
    simp only [gXf] at w1
    by_cases e : c' = c
    · subst e
      rw [if_pos rfl] at w1
      cases q : ns.lookup n with
      | none => rw [q] at w1; exact w1.elim
      | some i =>
        rw [q] at w1
        obtain ⟨cls, dd, ⟨e1, _⟩, ⟨e2, e3, e4⟩, e5⟩ := z
        have ec : cls = .ref C := Option.some.inj (e1.symm.trans h1)
        subst ec
        rcases e5 with ⟨z1, _⟩ | ⟨d, fs, z1, z2, hf, z3, z4⟩
        · subst z1
          simp at q
        · subst z1
          obtain rfl : fs = intFs ns := hf.resolve_left fun e => by subst e; simp at q
          exact ⟨a, d, _, _, rfl, e2, z2, lookup_ints q, w1 _ μ1 H1 .refl s1 (.int i)⟩
    · rw [if_neg e] at w1; exact w1.elim
  | _ => exact w1.elim
end
/-! ### isinstance(e, X) -/
def gIsX (cs : List Str) (x : Str) (_ : Sto) : D → Option D
  | .exn c _ => if c ∈ cs then some (.bl (xSub c x)) else none
  | _ => none
/-- the class x, the classes cs under which the exception may be -/
structure IsOk (K : Frag) (mg : Str → Option Value) (cs : List Str) (x : Str) : Prop where
  ex : ∃ cv : Value, (mg x = some cv ∧ ∃ C : Addr, cv = .ref C) ∧ ∀ c, c ∈ cs → ∃ D : Addr, mg c = some (.ref D) ∧ ExcC K D ∧ PySem.W.kitOne K (.ref D) cv = some (xSub c x)
section
variable {X : Cx} {W : WX} {e : Expr} {m : ME} {p p1 pos : Pos}
theorem d_isx {cs : List Str} {x : Str} (h : DE X W e m) (T : IsOk X.K X.mg cs x) (hm : X.mg "isinstance" = none) (hg : Gl X "isinstance" := by rfl) (hgx : Gl X x := by rfl) (hd : (x == ("__debug__" : Str)) = false := by decide)
    (he : starEach [e, .Name x p1] X.env = (false, eval e X.env) :: starEach [.Name x p1] X.env := by rfl) (hpl : (backTo pos (starEach [.Name x p1] X.env)).any (·.1) = false := by rfl)
    (hs2 : starEach [.Name x p1] X.env = (false, eval (.Name x p1) X.env) :: starEach [] X.env := by rfl) :
    DE X W (.Call (.Name "isinstance" p) [e, .Name x p1] [] pos) (mUn (gIsX cs x) m) := by
  obtain ⟨te, pe, k⟩ := h
  obtain ⟨cv, ⟨h1, C, rfl⟩, h2⟩ := T
  refine ⟨_, pe_callB call_isV hg hm (by decide +kernel) (pa_cons pe (pa_cons (pe_glob (v := .ref C) hgx h1 rfl hd) pa_nil hs2) he) (he := he) (hpl := hpl), fun ξ μ σ H ρ S Q g s h => k ξ μ σ H ρ S _ g s (WR.bind h fun x' S1 v μ1 H1 u1 s1 r1 w1 => ?_)⟩
  cases r1 with
  | @exn a c ns z =>
    simp only [gIsX] at w1
    by_cases hc : c ∈ cs
    · rw [if_pos hc] at w1
      obtain ⟨D, e1, e2, e3⟩ := h2 c hc
      obtain ⟨cls, dd, ⟨z1, _⟩, ⟨z2, z3, z4⟩, z5⟩ := z
      have ec : cls = .ref D := Option.some.inj (z1.symm.trans e1)
      subst ec
      refine ⟨a, D, dd, .ref C, .ref C, _, rfl, z2, e2, ?_, fun u hu => hu, e3, w1 _ μ1 H1 .refl s1 (.bl _)⟩
      rcases z5 with ⟨_, rfl⟩ | ⟨d, fs, q1, q2, _⟩
      · exact .inl rfl
      · exact .inr ⟨d, _, q1, q2⟩
    · rw [if_neg hc] at w1; exact w1.elim
  | _ => exact w1.elim
end
/-! ### X(e, ..) as a value -/
def newFs (ns : List Str) (ds : List D) : List (Str × Int) := (intFsOf (ns.zip ds).reverse).getD []
def mNewX (c : Str) (ns : List Str) (ma : MA) : ME := fun ρ S => (ma ρ S).bind fun ds S1 => if ds.length = ns.length then .ok (.exn c (newFs ns ds)) S1 else .bad
def mNew0 (c : Str) : ME := fun _ S => .ok (.exn c []) S
section
variable {S : Sto} {ρ : Rho} {E : EX} {Q : D → Sto → Prop}
@[simp] theorem does_new0 {c : Str} : (mNew0 c ρ S).DoesE E Q = Q (.exn c []) S := rfl
@[simp] theorem does_newX {c : Str} {ns : List Str} {ma : MA} : (mNewX c ns ma ρ S).DoesE E Q = (ma ρ S).DoesE E fun ds S1 => ds.length = ns.length ∧ Q (.exn c (newFs ns ds)) S1 := by
  unfold mNewX
  rw [does_bind]; congr 1; funext ds S1
  by_cases h : ds.length = ns.length
  · rw [if_pos h]; simp [h]
  · rw [if_neg h]; simp [h, Res.DoesE]
end
end Dm
-- text Hw8
namespace Dm
open PySem L2
noncomputable section
def m_is_world : List D → Sto → Res D := mDef 2 5 (mSeq (mDrop (mCall m_need_zones (mCons (mVar 0) mNil))) (mSeq (mIfS (mOr (mNot (mIsi .tup (mVar 1))) (mOp gNe (mCallB gLen (mCons (mVar 1) mNil)) (mK (.int 2)))) (mRet (mK (.bl false))) mNop) (mSeq (mForA (mVar 1) (tgN 2) (mSeq (mIfS (mOr (mNot (mIsi .tup (mVar 2))) (mOp gNe (mCallB gLen (mCons (mVar 2) mNil)) (mCallB gLen (mCons (mVar 0) mNil)))) (mRet (mK (.bl false))) mNop) (mIfS (mNot (mCallB gAll (mCons (mFz (mLc (iEnumS (mVar 0)) (tgU 2 (tgCons (tgN 3) (tgCons (tgN 4) tgNil))) mYes (mCall m_is_table (mCons (mVar 4) (mCons (mOp gIx (mVar 2) (mVar 3)) mNil))) [3, 4])) mNil))) (mRet (mK (.bl false))) mNop))) (mRet (mK (.bl true))))))
def m_need_world : List D → Sto → Res D := mDef 2 2 (mIfS (mNot (mCall m_is_world (mCons (mVar 0) (mCons (mVar 1) mNil)))) (mRaise "InvalidWorld") mNop)
def m_asked_moments : List D → Sto → Res D := mDef 3 5 (mSeq (mAsg 3 (mOp gIx (mVar 2) (mOp gIx (mVar 1) (mK (.int 1))))) (mSeq (mIfS (mOr (mOp gEq (mOp gIx (mVar 1) (mK (.int 0))) (mK (.str "read"))) (mOp gEq (mOp gIx (mVar 1) (mK (.int 0))) (mK (.str "offset")))) (mRet (mFz (mLst (mCons (mVar 3) mNil)))) mNop) (mSeq (mIfS (mOp gEq (mOp gIx (mVar 1) (mK (.int 0))) (mK (.str "find"))) (mRet (mFz (mLcA (mBackA (mOp gIx (mOp gIx (mVar 0) (mOp gIx (mVar 1) (mK (.int 2)))) (mK (.int 0)))) (tgN 4) mYes (mOp gSub (mVar 3) (mVar 4)) [4]))) mNop) (mSeq (mIfS (mOp gEq (mOp gIx (mVar 1) (mK (.int 0))) (mK (.str "edition"))) (mRet (mFz (mLst (mCons (mOp gSub (mVar 3) (mK (.int 1))) mNil)))) mNop) (mRet (mFz (mLst mNil)))))))
def m_value_made : List D → Sto → Res D := mDef 4 5 (mSeq (mAsg 4 (mOp gIx (mVar 2) (mOp gIx (mVar 1) (mK (.int 1))))) (mSeq (mIfS (mOp gEq (mOp gIx (mVar 1) (mK (.int 0))) (mK (.str "read"))) (mRet (mOp gAdd (mVar 4) (mOp gDIx (mVar 3) (mVar 4)))) mNop) (mSeq (mIfS (mOp gEq (mOp gIx (mVar 1) (mK (.int 0))) (mK (.str "offset"))) (mRet (mOp gDIx (mVar 3) (mVar 4))) mNop) (mSeq (mIfS (mOp gEq (mOp gIx (mVar 1) (mK (.int 0))) (mK (.str "find"))) (mRet (mCall m_found_by (mCons (mOp gIx (mOp gIx (mVar 0) (mOp gIx (mVar 1) (mK (.int 2)))) (mK (.int 0))) (mCons (mVar 3) (mCons (mVar 4) (mCons (mOp gIx (mVar 1) (mK (.int 3))) (mCons (mOp gIx (mVar 1) (mK (.int 4))) mNil))))))) mNop) (mSeq (mIfS (mOp gEq (mOp gIx (mVar 1) (mK (.int 0))) (mK (.str "edition"))) (mRet (mVar 4)) mNop) (mSeq (mIfS (mOp gEq (mOp gIx (mVar 1) (mK (.int 0))) (mK (.str "plus"))) (mRet (mOp gAdd (mVar 4) (mOp gIx (mVar 2) (mOp gIx (mVar 1) (mK (.int 2)))))) mNop) (mSeq (mIfS (mOp gEq (mOp gIx (mVar 1) (mK (.int 0))) (mK (.str "less"))) (mRet (mOp gSub (mVar 4) (mOp gIx (mVar 2) (mOp gIx (mVar 1) (mK (.int 2)))))) mNop) (mRet (mOp gAdd (mVar 4) (mOp gIx (mVar 1) (mK (.int 2))))))))))))
def m_table_ahead : List D → Sto → Res D := mDef 2 3 (mRet (mTup (mCons (mOp gIx (mVar 0) (mK (.int 0))) (mCons (mFz (mLcA (mOp gIx (mVar 0) (mK (.int 1))) (tgN 2) (mOp gLt (mOp gIx (mVar 2) (mK (.int 0))) (mVar 1)) (mVar 2) [2])) mNil))))
def m_run : List D → Sto → Res D := mDef 4 13 (mSeq (mDrop (mCall m_need_zones (mCons (mVar 0) mNil))) (mSeq (mDrop (mCall m_need_program (mCons (mVar 0) (mCons (mVar 1) mNil)))) (mSeq (mDrop (mCall m_need_world (mCons (mVar 0) (mCons (mVar 2) mNil)))) (mSeq (mDrop (mCall m_need_number (mCons (mVar 3) mNil))) (mSeq (mAsg 4 (mNew (mCallBL gList (mCons (mOp gIx (mVar 2) (mK (.int 0))) mNil)))) (mSeq (mAsg 5 (mNew (mLst (mCons (mVar 3) mNil)))) (mSeq (mFor (iEnumS (mVar 1)) (tgU 2 (tgCons (tgN 6) (tgCons (tgN 7) tgNil))) (mSeq (mIfS (mOp gEq (mOp gIx (mVar 7) (mK (.int 0))) (mK (.str "edition"))) (mSeq (mPar 8 9 (mCons (mOp gIx (mVar 5) (mOp gIx (mVar 7) (mK (.int 1)))) (mCons (mOp gIx (mVar 7) (mK (.int 2))) mNil))) (mSeq (mIfS (mOp gNe (mCall m_table_ahead (mCons (mOp gIx (mVar 4) (mVar 9)) (mCons (mVar 8) mNil))) (mCall m_table_ahead (mCons (mOp gIx (mOp gIx (mVar 2) (mK (.int 1))) (mVar 9)) (mCons (mVar 8) mNil)))) (mRaise "Unsuited") mNop) (mSetIx (mOp gIx (mOp gIx (mVar 2) (mK (.int 1))) (mVar 9)) (mVar 4) (mVar 9)))) mNop) (mSeq (mAsg 10 mDNew) (mSeq (mForA (mCall m_asked_moments (mCons (mVar 0) (mCons (mVar 7) (mCons (mVar 5) mNil)))) (tgN 11) (mSetDx (mCall m_offset_in (mCons (mOp gIx (mVar 4) (mOp gIx (mVar 7) (mK (.int 2)))) (mCons (mVar 11) mNil))) (mVar 10) (mVar 11))) (mSeq (mAsg 12 (mCall m_value_made (mCons (mVar 0) (mCons (mVar 7) (mCons (mVar 5) (mCons (mVar 10) mNil)))))) (mSeq (mIfS (mOp (gIsN false) (mVar 12) (mK .non)) (mRaiseX "Refused" ["step"] (mCons (mVar 6) mNil)) mNop) (mApp (mVar 5) (mVar 12)))))))) (mRet (mVar 5)))))))))
end
end Dm
-- text Hw9
namespace Dm
open PySem L2
end Dm
-- text DmLc2
namespace Dm
open PySem L2
open PySem.W (Frag)
/-! ### comprehensions of two generators -/
def lcL2 (f : D → Rho → Option Rho) (mt : ME) (mi1 : ME) (f1 : D → Rho → Option Rho) (mt1 me : ME) (vs1 : List Nat) (ρ : Rho) : List D → Sto → Option (List D × Sto)
  | [], S => some ([], S)
  | d :: r, S => match f d ρ with
    | none => none
    | some ρ1 => match mt ρ1 S with
      | .ok (.bl true) S1 => match iAny mi1 ρ1 S1 with
        | .ok p1 S2 => match lcA p1.1 f1 mt1 me (wipeD ρ1 vs1) (p1.2 + 1) 0 S2 with
          | some (ys, S3) => match lcL2 f mt mi1 f1 mt1 me vs1 ρ r S3 with
            | some (zs, S4) => some (ys ++ zs, S4)
            | none => none
          | none => none
        | _ => none
      | .ok (.bl false) S1 => lcL2 f mt mi1 f1 mt1 me vs1 ρ r S1
      | _ => none
def mLc2 (mi : MA) (f : D → Rho → Option Rho) (mt : ME) (mi1 : ME) (f1 : D → Rho → Option Rho) (mt1 me : ME) (vs vs1 : List Nat) : MA := fun ρ S => (mi ρ S).bind fun ds S1 => match lcL2 f mt mi1 f1 mt1 me vs1 (wipeD ρ vs) ds S1 with
  | some (ys, S2) => if ys.length ≤ 16777216 then .ok ys S2 else .bad
  | none => .bad
def lcA2 (d : D) (f : D → Rho → Option Rho) (mt : ME) (mi1 : ME) (f1 : D → Rho → Option Rho) (mt1 me : ME) (vs1 : List Nat) (ρ : Rho) : Nat → Nat → Sto → Option (List D × Sto)
  | 0, _, _ => none
  | k + 1, i, S => match seqOf S d with
    | none => none
    | some ds => match ds[i]? with
      | none => if i = ds.length then some ([], S) else none
      | some x => match f x ρ with
        | none => none
        | some ρ1 => match mt ρ1 S with
          | .ok (.bl true) S1 => match iAny mi1 ρ1 S1 with
            | .ok p1 S2 => match lcA p1.1 f1 mt1 me (wipeD ρ1 vs1) (p1.2 + 1) 0 S2 with
              | some (ys, S3) => match lcA2 d f mt mi1 f1 mt1 me vs1 ρ k (i + 1) S3 with
                | some (zs, S4) => some (ys ++ zs, S4)
                | none => none
              | none => none
            | _ => none
          | .ok (.bl false) S1 => lcA2 d f mt mi1 f1 mt1 me vs1 ρ k (i + 1) S1
          | _ => none
def mLcA2 (m : ME) (f : D → Rho → Option Rho) (mt : ME) (mi1 : ME) (f1 : D → Rho → Option Rho) (mt1 me : ME) (vs vs1 : List Nat) : MA := fun ρ S => (iAny m ρ S).bind fun p S1 => match lcA2 p.1 f mt mi1 f1 mt1 me vs1 (wipeD ρ vs) (p.2 + 1) 0 S1 with
  | some (ys, S2) => if ys.length ≤ 16777216 then .ok ys S2 else .bad
  | none => .bad
theorem Mv.comp {F : Fx} {μ μ1 μ2 : List Addr} {H H1 H2 : Hp} (a : Mv F μ H F μ1 H1) (b : Mv F μ1 H1 F μ2 H2) : Mv F μ H F μ2 H2 := ⟨fun h => b.t (a.t h), fun h => b.l (a.l h), fun h => b.c (a.c h), rfl, fun h => b.x (a.x h)⟩
/-! ### what they do -/
section
variable {S : Sto} {ρ : Rho} {f f1 : D → Rho → Option Rho} {mt mt1 me : ME} {mi : MA} {mi1 : ME} {E : EX}
def LcQ2 (f : D → Rho → Option Rho) (mt : ME) (mi1 : ME) (f1 : D → Rho → Option Rho) (mt1 me : ME) (vs1 : List Nat) (ρ : Rho) (ds : List D) (S : Sto) (Q : List D → Sto → Prop) : Prop := ∃ ys S2, lcL2 f mt mi1 f1 mt1 me vs1 ρ ds S = some (ys, S2) ∧ Q ys S2
@[simp] theorem does_lc2 {vs vs1 : List Nat} {Q : List D → Sto → Prop} : (mLc2 mi f mt mi1 f1 mt1 me vs vs1 ρ S).DoesE E Q = (mi ρ S).DoesE E fun ds S1 => LcQ2 f mt mi1 f1 mt1 me vs1 (wipeD ρ vs) ds S1 fun ys S2 => ys.length ≤ 16777216 ∧ Q ys S2 := by
  unfold mLc2
  rw [does_bind]
  congr 1
  funext ds S1
  unfold LcQ2
  cases e : lcL2 f mt mi1 f1 mt1 me vs1 (wipeD ρ vs) ds S1 with
  | none => refine propext ⟨fun h => h.elim, fun ⟨_, _, h, _⟩ => nomatch h⟩
  | some r =>
    obtain ⟨ys, S2⟩ := r
    refine propext ⟨fun q => ?_, ?_⟩
    · simp only at q
      by_cases c : ys.length ≤ 16777216
      · rw [if_pos c] at q
        exact ⟨ys, S2, rfl, c, q⟩
      · rw [if_neg c] at q
        exact q.elim
    · rintro ⟨ys', S2', e', c, q⟩
      cases e'
      simp only
      rw [if_pos c]
      exact q
def LcAQ2 (d : D) (f : D → Rho → Option Rho) (mt : ME) (mi1 : ME) (f1 : D → Rho → Option Rho) (mt1 me : ME) (vs1 : List Nat) (ρ : Rho) (n : Nat) (S : Sto) (Q : List D → Sto → Prop) : Prop := ∃ ys S2, lcA2 d f mt mi1 f1 mt1 me vs1 ρ (n + 1) 0 S = some (ys, S2) ∧ Q ys S2
@[simp] theorem does_lcA2 {m : ME} {vs vs1 : List Nat} {Q : List D → Sto → Prop} : (mLcA2 m f mt mi1 f1 mt1 me vs vs1 ρ S).DoesE E Q = (m ρ S).DoesE E fun d S1 => match seqOf S1 d with
    | some ds => LcAQ2 d f mt mi1 f1 mt1 me vs1 (wipeD ρ vs) ds.length S1 fun ys S2 => ys.length ≤ 16777216 ∧ Q ys S2
    | none => False := by
  unfold mLcA2 iAny
  rw [does_bind, does_bind]
  congr 1
  funext d S1
  cases seqOf S1 d with
  | none => rfl
  | some ds =>
    simp only [does_ok]
    unfold LcAQ2
    cases e : lcA2 d f mt mi1 f1 mt1 me vs1 (wipeD ρ vs) (ds.length + 1) 0 S1 with
    | none => refine propext ⟨fun h => h.elim, fun ⟨_, _, h, _⟩ => nomatch h⟩
    | some r =>
      obtain ⟨ys, S2⟩ := r
      refine propext ⟨fun q => ?_, ?_⟩
      · simp only at q
        by_cases c : ys.length ≤ 16777216
        · rw [if_pos c] at q
          exact ⟨ys, S2, rfl, c, q⟩
        · rw [if_neg c] at q
          exact q.elim
      · rintro ⟨ys', S2', e', c, q⟩
        cases e'
        simp only
        rw [if_pos c]
        exact q
end
end Dm
-- text Hw10
namespace Dm
open PySem L2
end Dm
-- text DmPop
namespace Dm
open PySem L2
open PySem.W (Frag)
/-! ### xs.pop(), xs.reverse() as statements -/
section
variable {X : Cx} {W : WX}
def mPopS (o : ME) : MS := fun ρ S => ofRes (o ρ S) ρ fun x S1 => match x with
  | .cell n => match S1[n]? with
    | some (.lst ds) => if ds = [] then .bad else .nx ρ (S1.set n (.lst ds.dropLast))
    | _ => .bad
  | _ => .bad
def mRevS (o : ME) : MS := fun ρ S => ofRes (o ρ S) ρ fun x S1 => match x with
  | .cell n => match S1[n]? with
    | some (.lst ds) => .nx ρ (S1.set n (.lst ds.reverse))
    | _ => .bad
  | _ => .bad
end
section
variable {S : Sto} {ρ : Rho} {N B C : Rho → Sto → Prop} {R : D → Sto → Prop} {EO : EXO}
@[simp] theorem does_popS {o : ME} : (mPopS o ρ S).DoesE EO N R B C = (o ρ S).DoesE (eAt EO ρ) fun x S1 => match x with
    | .cell n => ∃ xs, S1[n]? = some (.lst xs) ∧ xs ≠ [] ∧ N ρ (S1.set n (.lst xs.dropLast))
    | _ => False := by
  unfold mPopS
  rw [does_ofRes]; congr 1; funext x S1
  cases x with
  | cell n =>
    simp only
    cases q : S1[n]? with
    | none => exact propext ⟨fun h => h.elim, fun ⟨_, h, _⟩ => nomatch h⟩
    | some c =>
      cases c with
      | lst ds =>
        by_cases hd : ds = []
        · simp only [if_pos hd]
          refine propext ⟨fun h => h.elim, fun ⟨xs, h, h2, _⟩ => ?_⟩
          cases h
          exact absurd hd h2
        · simp only [if_neg hd]
          refine propext ⟨fun h => ⟨ds, rfl, hd, h⟩, fun ⟨xs, h, _, h3⟩ => ?_⟩
          cases h
          exact h3
      | _ => exact propext ⟨fun h => h.elim, fun ⟨_, h, _⟩ => nomatch h⟩
  | _ => rfl
@[simp] theorem does_revS {o : ME} : (mRevS o ρ S).DoesE EO N R B C = (o ρ S).DoesE (eAt EO ρ) fun x S1 => match x with
    | .cell n => ∃ xs, S1[n]? = some (.lst xs) ∧ N ρ (S1.set n (.lst xs.reverse))
    | _ => False := by
  unfold mRevS
  rw [does_ofRes]; congr 1; funext x S1
  cases x with
  | cell n =>
    simp only
    cases q : S1[n]? with
    | none => exact propext ⟨fun h => h.elim, fun ⟨_, h, _⟩ => nomatch h⟩
    | some c =>
      cases c with
      | lst ds =>
        refine propext ⟨fun h => ⟨ds, rfl, h⟩, fun ⟨xs, h, h3⟩ => ?_⟩
        cases h
        exact h3
      | _ => exact propext ⟨fun h => h.elim, fun ⟨_, h, _⟩ => nomatch h⟩
  | _ => rfl
end
end Dm
-- text Hw11
namespace Dm
open PySem L2
end Dm
-- text DmCatW
namespace Dm
open PySem L2 PySem.Spec PyProof.Rows
open PySem.W (Frag)
section
variable {X : Cx} {W : WX} {tg a b : Expr} {ma mb : ME} {pos : Pos} {E : EX}
/-- two lists that stand, one behind the other -/
def mCatW (a b : ME) : MA := fun ρ S => (a ρ S).bind fun x S1 => (b ρ S1).bind fun y S2 => match lstOf S2 x, lstOf S2 y with
  | some xs, some ys => if xs.length + ys.length ≤ 16777216 then .ok (xs ++ ys) S2 else .bad
  | _, _ => .bad
theorem dl_catW (ha : DE X W a ma) (hb : DE X W b mb) : DL X W (.BinOp a .Add b pos) (mCatW ma mb) := by
  obtain ⟨ta, pa, ka⟩ := ha
  obtain ⟨tb, pb, kb⟩ := hb
  refine ⟨_, pe_op op_catB pa pb, fun ξ μ σ H ρ S Q g s h => ka ξ μ σ H ρ S _ g s (WL'.bind h fun x S1 v μ1 H1 u1 s1 r1 h1 => ?_)⟩
  refine kb ξ μ1 σ H1 ρ S1 _ (g.up u1) s1 (WL'.bind h1 fun y S2 w μ2 H2 u2 s2 r2 h2 => ?_)
  have r1 := r1.up u2
  cases c : lstOf S2 x with
  | none => simp only [c] at h2; exact h2.elim
  | some ds =>
    cases c' : lstOf S2 y with
    | none => simp only [c, c'] at h2; exact h2.elim
    | some es =>
      simp only [c, c'] at h2
      obtain ⟨l, xs, rfl, h4, r3⟩ := RD.lstS s2 r1 c
      obtain ⟨l', ys, rfl, h4', r3'⟩ := RD.lstS s2 r2 c'
      by_cases l : ds.length + es.length ≤ 16777216
      · rw [if_pos l] at h2
        refine ⟨_, _, xs, ys, rfl, rfl, h4, h4', by rw [r3.length, r3'.length, sizeLine_eq]; exact l, fun r hr => ?_⟩
        exact h2 r _ μ2 _ (.fresh hr) hr (s2.holds hr) ((RDs.append r3 r3').mv (.holds hr)) upd_same
      · rw [if_neg l] at h2
        exact h2.elim
variable {ρ : Rho} {S : Sto}
@[simp] theorem does_catW {a b : ME} {Q : List D → Sto → Prop} : (mCatW a b ρ S).DoesE E Q = (a ρ S).DoesE E fun x S1 => (b ρ S1).DoesE E fun y S2 => match lstOf S2 x, lstOf S2 y with
    | some xs, some ys => xs.length + ys.length ≤ 16777216 ∧ Q (xs ++ ys) S2
    | _, _ => False := by
  unfold mCatW
  rw [does_bind]; congr 1; funext x S1
  rw [does_bind]; congr 1; funext y S2
  cases e : lstOf S2 x with
  | none => simp [Res.DoesE]
  | some xs =>
    cases e' : lstOf S2 y with
    | none => simp [Res.DoesE]
    | some ys =>
      simp only
      by_cases h : xs.length + ys.length ≤ 16777216
      · rw [if_pos h]; simp [h]
      · rw [if_neg h]; simp [h, Res.DoesE]
end
end Dm
-- text Hw12
namespace Dm
open PySem L2
end Dm
-- text DmTupMul
namespace Dm
open PySem L2 PySem.Spec PyProof.Rows
open PySem.W (Frag)
/-! ### a tuple some times -/
def gMulT : Sto → D → D → Option D := fun _ x y => match x, y with
  | .tup ds, .int k => if ds.length ≠ 0 ∧ 2 ≤ k ∧ k ≤ 1000 ∧ ds.length ≤ 1000 then some (.tup (List.replicate k.toNat ds).flatten) else none
  | _, _ => none
@[simp] theorem gMulT_tup {S : Sto} {ds : List D} {k : Int} : gMulT S (.tup ds) (.int k) = if ds.length ≠ 0 ∧ 2 ≤ k ∧ k ≤ 1000 ∧ ds.length ≤ 1000 then some (.tup (List.replicate k.toNat ds).flatten) else none := rfl
end Dm
-- text Hw13
namespace Dm
open PySem L2
end Dm
-- text DmGet
namespace Dm
open PySem L2 PySem.Spec PyProof.Rows
open PySem.W (Frag)
section
variable {X : Cx} {W : WX} {a o e f : Expr} {mo me mf ma : ME} {apos cpos pos p2 : Pos}
/-! ### d.get(k, x) -/
def mGet2 (mo mk mx : ME) : ME := fun ρ S => (mo ρ S).bind fun d S1 => match dicOf S1 d with
  | none => .bad
  | some _ => (mk ρ S1).bind fun y S2 => (mx ρ S2).bind fun z S3 => match dicOf S3 d, keyD y with
    | some kvs, some k => .ok ((valD kvs k).getD z) S3
    | _, _ => .bad
theorem d_get (hu : X.A.units + 64 < cLine) (ho : DE X W o mo) (he : DE X W e me) (hf : DE X W f mf) (h1 : attributeBase o "get" X.env (eval o X.env) = eval o X.env := by rfl)
    (h2 : ((backTo cpos (starEach [e, f] X.env)).all (fun x => !x.1) && (backToKw cpos (keywordEach [] X.env)).all (fun x => x.1.isSome) && decide (([e, f] : List Expr).length + ([] : List Keyword).length + (if ([] : List Keyword).isEmpty then 0 else 1) < 30)) = true := by rfl)
    (h3 : (apos.endLine == cpos.line) = true := by rfl) (h4 : backTo cpos (starEach [e, f] X.env) = [(false, eval e X.env), (false, eval f X.env)] := by rfl) :
    DE X W (.Call (.Attribute o "get" apos) [e, f] [] cpos) (mGet2 mo me mf) := by
  obtain ⟨to, po, ko⟩ := ho
  obtain ⟨te, pe, ke⟩ := he
  obtain ⟨tf, pf, kf⟩ := hf
  refine ⟨_, pe_dget2 (by omega) po pe pf ⟨h1, h2, h3, h4⟩, fun ξ μ σ H ρ S Q g s h => ko ξ μ σ H ρ S _ g s (WR.bind h fun x S1 v μ1 H1 u1 s1 r1 w1 => ?_)⟩
  cases q0 : dicOf S1 x with
  | none => rw [q0] at w1; exact w1.elim
  | some kvs0 =>
    rw [q0] at w1
    obtain ⟨n0, a0, vk0, rfl, rfl, ea0, es0, e30, e40⟩ := dic_at s1 r1 q0
    refine ⟨a0, rfl, .inl ⟨_, .inl e30⟩, ?_⟩
    refine ke ξ μ1 σ H1 ρ S1 _ (g.up u1) s1 (WR.bind w1 fun y S2 w μ2 H2 u2 s2 r2 w2 => ?_)
    refine kf ξ μ2 σ H2 ρ S2 _ (g.up (u1.trans u2)) s2 (WR.bind w2 fun z S3 w' μ3 H3 u3 s3 r3 w3 => ?_)
    cases q1 : dicOf S3 (.cell n0) with
    | none => rw [q1] at w3; exact w3.elim
    | some kvs =>
      cases q2 : keyD y with
      | none => rw [q1, q2] at w3; exact w3.elim
      | some k =>
        rw [q1, q2] at w3
        simp only at w3
        obtain ⟨n, a, vk, en, ev, ea, es, e3, e4⟩ := dic_at s3 (r1.up (u2.trans u3)) q1
        have ev : a0 = a := by injection ev
        subst ev
        have ek := keyD_of (r2.up u3) q2
        subst ek
        refine ⟨_, DGet.k e3, ?_⟩
        cases q3 : valD kvs k with
        | none =>
          rw [q3] at w3
          have hn := valV_none (k := k) e4
          rw [q3] at hn
          have hn' : valV vk k = none := by
            cases c : valV vk k with
            | none => rfl
            | some _ => rw [c] at hn; cases hn
          rw [hn']
          exact w3 _ μ3 H3 .refl s3 r3
        | some d =>
          rw [q3] at w3
          obtain ⟨zz, e5, e6⟩ := valV_of e4 q3
          rw [e5]
          exact w3 _ μ3 H3 .refl s3 e6
/-! ### texts: s + t, s[i:j] -/
def gCatS : Sto → D → D → Option D := fun _ x y => match x, y with
  | .str a, .str b => if a.length + b.length ≤ 16777216 then some (.str (a ++ b)) else none
  | _, _ => none
variable {lo hi : Option Expr} {ml mh : MO}
def mSlS (a : ME) (lo hi : MO) : ME := fun ρ S => (a ρ S).bind fun x S1 => (lo ρ S1).bind fun l S2 => (hi ρ S2).bind fun h S3 => match x with
  | .str z => if z.length ≤ 16777216 then .ok (.str (cutS z l h)) S3 else .bad
  | _ => .bad
end
section
variable {S : Sto} {ρ : Rho} {E : EX} {Q : D → Sto → Prop}
@[simp] theorem does_get2 {mo mk mx : ME} : (mGet2 mo mk mx ρ S).DoesE E Q = (mo ρ S).DoesE E fun d S1 => match dicOf S1 d with
    | none => False
    | some _ => (mk ρ S1).DoesE E fun y S2 => (mx ρ S2).DoesE E fun z S3 => match dicOf S3 d, keyD y with
      | some kvs, some k => Q ((valD kvs k).getD z) S3
      | _, _ => False := by
  unfold mGet2
  rw [does_bind]; congr 1; funext d S1
  cases dicOf S1 d with
  | none => rfl
  | some kvs0 =>
    simp only
    rw [does_bind]; congr 1; funext y S2
    rw [does_bind]; congr 1; funext z S3
    cases dicOf S3 d with
    | none => rfl
    | some kvs =>
      cases keyD y with
      | none => rfl
      | some k => rfl
@[simp] theorem gCatS_str {a b : Str} : gCatS S (.str a) (.str b) = if a.length + b.length ≤ 16777216 then some (.str (a ++ b)) else none := rfl
@[simp] theorem does_slS {a : ME} {lo hi : MO} : (mSlS a lo hi ρ S).DoesE E Q = (a ρ S).DoesE E fun x S1 => (lo ρ S1).DoesE E fun l S2 => (hi ρ S2).DoesE E fun h S3 => match x with
    | .str z => z.length ≤ 16777216 ∧ Q (.str (cutS z l h)) S3
    | _ => False := by
  unfold mSlS
  rw [does_bind]; congr 1; funext x S1
  rw [does_bind]; congr 1; funext l S2
  rw [does_bind]; congr 1; funext h S3
  cases x with
  | str z =>
    simp only
    by_cases c : z.length ≤ 16777216
    · rw [if_pos c]; simp [c]
    · rw [if_neg c]; simp [c, Res.DoesE]
  | _ => rfl
end
end Dm
-- text Hw14
namespace Dm
open PySem L2
end Dm
-- text DmTupMul1
namespace Dm
open PySem L2 PySem.Spec PyProof.Rows
open PySem.W (Frag)
/-! ### a tuple some times, once too -/
def gMulU : Sto → D → D → Option D := fun S x y => match x, y with
  | .tup ds, .int k => if k = 1 then some (.tup ds) else gMulT S (.tup ds) (.int k)
  | _, _ => none
@[simp] theorem gMulU_tup {S : Sto} {ds : List D} {k : Int} : gMulU S (.tup ds) (.int k) = if k = 1 then some (.tup ds) else if ds.length ≠ 0 ∧ 2 ≤ k ∧ k ≤ 1000 ∧ ds.length ≤ 1000 then some (.tup (List.replicate k.toNat ds).flatten) else none := rfl
end Dm
-- text Hw15
namespace Dm
open PySem L2
end Dm
-- text Hw16
namespace Dm
open PySem L2
end Dm
-- text DmStr
namespace Dm
open PySem L2 PySem.Spec PyProof.Rows
/-! ### str of a number -/
end Dm
-- text Hw17
namespace Dm
open PySem L2
end Dm
-- text Hw18
namespace Dm
open PySem L2
end Dm
-- text DmUpper
namespace Dm
open PySem L2 PySem.Spec PyProof.Rows
/-! ### text.upper() -/
end Dm
-- text Hw19
namespace Dm
open PySem L2
end Dm
-- text DmPopE
namespace Dm
open PySem L2 PySem.Spec PyProof.Rows
open PySem.W (Frag)
/-! ### xs.pop() as a value -/
section
variable {X : Cx} {W : WX}
def mPopE (o : ME) : ME := fun ρ S => (o ρ S).bind fun x S1 => match x with
  | .cell n => match S1[n]? with
    | some (.lst ds) => match ds[ds.length - 1]? with
      | some d => .ok d (S1.set n (.lst ds.dropLast))
      | none => .bad
    | _ => .bad
  | _ => .bad
end
section
variable {S : Sto} {ρ : Rho} {Q : D → Sto → Prop} {E : EX}
@[simp] theorem does_popE {o : ME} : (mPopE o ρ S).DoesE E Q = (o ρ S).DoesE E fun x S1 => match x with
    | .cell n => ∃ xs, S1[n]? = some (.lst xs) ∧ ∃ d, xs[xs.length - 1]? = some d ∧ Q d (S1.set n (.lst xs.dropLast))
    | _ => False := by
  unfold mPopE
  rw [does_bind]; congr 1; funext x S1
  cases x with
  | cell n =>
    simp only
    cases q : S1[n]? with
    | none => exact propext ⟨fun h => h.elim, fun ⟨_, h, _⟩ => nomatch h⟩
    | some c =>
      cases c with
      | lst ds =>
        cases hd : ds[ds.length - 1]? with
        | none =>
          simp only
          refine propext ⟨fun h => ?_, fun ⟨xs, h, d, h2, _⟩ => ?_⟩
          · rw [hd] at h; exact h.elim
          · cases h
            rw [hd] at h2
            cases h2
        | some d =>
          simp only
          refine propext ⟨fun h => ?_, fun ⟨xs, h, d', h2, h3⟩ => ?_⟩
          · rw [hd] at h
            exact ⟨ds, rfl, d, hd, h⟩
          · cases h
            rw [hd] at h2
            cases h2
            rw [hd]
            exact h3
      | _ => exact propext ⟨fun h => h.elim, fun ⟨_, h, _⟩ => nomatch h⟩
  | _ => rfl
end
/-! ### d.get(k) -/
end Dm
-- text DmIdx
namespace Dm
open PySem L2 PySem.Spec PyProof.Rows
open PySem.W (Frag)
theorem resMonoI {α : Type} {r : Res α} {E : EX} {Q Q' : α → Sto → Prop} (h : r.DoesE E Q) (hQ : ∀ a S, Q a S → Q' a S) : r.DoesE E Q' := by
  cases r with
  | ok a S => exact hQ _ _ h
  | exc c fs S => exact h
  | bad => exact h
/-! ### xs.index(y), flat items -/
section
variable {X : Cx} {W : WX} {o e : Expr} {mo me : ME} {apos cpos : Pos}
def mIdx (mo me : ME) : ME := fun ρ S => (mo ρ S).bind fun x S1 => match lstOf S1 x with
  | none => .bad
  | some _ => (me ρ S1).bind fun y S2 => match lstOf S2 x with
    | some ds => if flatD y = true ∧ ds.all flatD = true then match ds.findIdx? (eqF · y) with
      | some j => .ok (.int (j : Nat)) S2
      | none => .bad
      else .bad
    | none => .bad
end
section
variable {S : Sto} {ρ : Rho} {Q : D → Sto → Prop} {E : EX}
@[simp] theorem does_idx {o m : ME} : (mIdx o m ρ S).DoesE E Q = (o ρ S).DoesE E fun x S1 => (∃ l, lstOf S1 x = some l) ∧ (m ρ S1).DoesE E fun y S2 => ∃ ds, lstOf S2 x = some ds ∧ (flatD y = true ∧ ds.all flatD = true) ∧ ∃ j, ds.findIdx? (eqF · y) = some j ∧ Q (.int (j : Nat)) S2 := by
  unfold mIdx
  rw [does_bind]; congr 1; funext x S1
  cases q : lstOf S1 x with
  | none => exact propext ⟨fun h => h.elim, fun ⟨⟨_, h⟩, _⟩ => nomatch h⟩
  | some l =>
    simp only
    rw [does_bind]
    refine propext ⟨fun h => ⟨⟨l, rfl⟩, ?_⟩, fun ⟨_, h⟩ => ?_⟩
    · refine resMonoI h fun y S2 h2 => ?_
      cases q1 : lstOf S2 x with
      | none => rw [q1] at h2; exact h2.elim
      | some ds =>
        rw [q1] at h2
        simp only at h2
        by_cases c : flatD y = true ∧ ds.all flatD = true
        · rw [if_pos c] at h2
          cases q2 : ds.findIdx? (eqF · y) with
          | none => rw [q2] at h2; exact h2.elim
          | some j => rw [q2] at h2; exact ⟨ds, rfl, c, j, q2, h2⟩
        · rw [if_neg c] at h2; exact h2.elim
    · refine resMonoI h fun y S2 h2 => ?_
      obtain ⟨ds, q1, c, j, q2, h3⟩ := h2
      rw [q1]
      simp only
      rw [if_pos c, q2]
      exact h3
end
end Dm
-- text DmExt
namespace Dm
open PySem L2
open PySem.W (Frag)
/-! ### xs.extend(a new list) -/
section
variable {X : Cx} {W : WX}
def mExt (o : ME) (nb : MA) : MS := fun ρ S => ofRes (o ρ S) ρ fun x S1 => match x with
  | .cell n => match S1[n]? with
    | some (.lst _) => ofRes (nb ρ S1) ρ fun es S2 => match S2[n]? with
      | some (.lst ds) => if ds.length + es.length ≤ 16777216 then .nx ρ (S2.set n (.lst (ds ++ es))) else .bad
      | _ => .bad
    | _ => .bad
  | _ => .bad
theorem WSL.bind {F : Fx} {E : Ends} {W : WX} {Q1 : VK} {μ : List Addr} {H : Hp} {σ : L2.St} {ρ : Rho} {r : Res (List D)} {f : List D → Sto → Out} (g : RG F μ H σ ρ) (h : WS' F (ofRes r ρ f) E W μ H)
    (k : ∀ ds S1 p xs μ1 H1, Up μ H μ1 H1 → H p = none → RS (F.hold p) μ1 H1 S1 → RDs (F.hold p) μ1 H1 xs ds → H1 p = some (.lst xs) → WS' F (f ds S1) E W μ1 H1 → Q1 (.ref p) H1) : WL' F r Q1 (fun cls dd H' => W cls dd σ H') μ H := by
  cases r with
  | ok x S1 => exact fun p xs μ1 H1 u1 hp s1 r1 e1 => k x S1 p xs μ1 H1 u1 hp s1 r1 e1 (WS'.shift u1 h)
  | exc c fs S => exact fun cls dd μ' H' u' s' x' => h cls dd σ μ' H' u' s' (g.up u') x'
  | bad => exact h
end
section
variable {S : Sto} {ρ : Rho} {N B C : Rho → Sto → Prop} {R : D → Sto → Prop} {EO : EXO}
@[simp] theorem does_ext {o : ME} {nb : MA} : (mExt o nb ρ S).DoesE EO N R B C = (o ρ S).DoesE (eAt EO ρ) fun x S1 => match x with
    | .cell n => (∃ ds0, S1[n]? = some (.lst ds0)) ∧ (nb ρ S1).DoesE (eAt EO ρ) fun es S2 => ∃ ds, S2[n]? = some (.lst ds) ∧ ds.length + es.length ≤ 16777216 ∧ N ρ (S2.set n (.lst (ds ++ es)))
    | _ => False := by
  unfold mExt
  rw [does_ofRes]; congr 1; funext x S1
  cases x with
  | cell n =>
    simp only
    cases e : S1[n]? with
    | none => exact propext ⟨fun h => h.elim, fun ⟨⟨_, h⟩, _⟩ => nomatch h⟩
    | some c =>
      cases c with
      | lst ds0 =>
        simp only
        rw [does_ofRes]
        refine propext ⟨fun h => ⟨⟨ds0, rfl⟩, resMonoI h fun es S2 h2 => ?_⟩, fun ⟨_, h⟩ => resMonoI h fun es S2 h2 => ?_⟩
        · cases q : S2[n]? with
          | none => rw [q] at h2; exact h2.elim
          | some c2 =>
            rw [q] at h2
            cases c2 with
            | lst ds =>
              simp only at h2
              by_cases l : ds.length + es.length ≤ 16777216
              · rw [if_pos l] at h2; exact ⟨ds, rfl, l, h2⟩
              · rw [if_neg l] at h2; exact h2.elim
            | _ => exact h2.elim
        · obtain ⟨ds, q, l, h3⟩ := h2
          rw [q]
          simp only
          rw [if_pos l]
          exact h3
      | _ => exact propext ⟨fun h => h.elim, fun ⟨⟨_, h⟩, _⟩ => nomatch h⟩
  | _ => rfl
end
end Dm
-- text Hw20
namespace Dm
open PySem L2
end Dm
-- text Hw21
namespace Dm
open PySem L2
end Dm
-- text Hw22
namespace Dm
open PySem L2
end Dm
-- text Hw23
namespace Dm
open PySem L2
end Dm
-- text DmEqC
namespace Dm
open PySem L2 PySem.Spec PyProof.Rows
open PySem.W (Frag)
/-! ### == of data that holds cells -/
end Dm
-- text Hw24
namespace Dm
open PySem L2
end Dm
-- text Hw25
namespace Dm
open PySem L2
end Dm
-- text Hw26
namespace Dm
open PySem L2
end Dm
-- text DmSetG
namespace Dm
open PySem L2
open PySem.W (Frag)
/-! ### sets of ints that grow: set(), xs.add(x), sorted(xs) -/
section
variable {X : Cx} {W : WX} {pos p p1 : Pos}
/-- set() -/
def mSNew : ME := fun _ S => .ok (.cell S.length) (S ++ [.set []])
def insS (k : Int) (ns : List Int) : List Int := if k ∈ ns then ns else ns ++ [k]
/-- xs.add(x) -/
def mSAdd (o m : ME) : MS := fun ρ S => ofRes (o ρ S) ρ fun x S1 => match x with
  | .cell n => match S1[n]? with
    | some (.set _) => ofRes (m ρ S1) ρ fun d S2 => match d, S2[n]? with
      | .int k, some (.set ns) => if ns.length ≤ 4000 then .nx ρ (S2.set n (.set (insS k ns))) else .bad
      | _, _ => .bad
    | _ => .bad
  | _ => .bad
/-- sorted(xs), a set -/
def mSortG (m : ME) : MA := fun ρ S => (m ρ S).bind fun d S1 => match d with
  | .cell n => match S1[n]? with
    | some (.set ns) => if ns.length ≤ 4000 then .ok ((uniq ns).map .int) S1 else .bad
    | _ => .bad
  | _ => .bad
end
section
variable {S : Sto} {ρ : Rho} {Q : D → Sto → Prop} {N B C : Rho → Sto → Prop} {R : D → Sto → Prop} {E : EX} {EO : EXO}
@[simp] theorem does_snew : (mSNew ρ S).DoesE E Q = Q (.cell S.length) (S ++ [.set []]) := rfl
@[simp] theorem does_sadd {o m : ME} : (mSAdd o m ρ S).DoesE EO N R B C = (o ρ S).DoesE (eAt EO ρ) fun x S1 => match x with
    | .cell n => (∃ ns0, S1[n]? = some (.set ns0)) ∧ (m ρ S1).DoesE (eAt EO ρ) fun d S2 => ∃ k ns, d = .int k ∧ S2[n]? = some (.set ns) ∧ ns.length ≤ 4000 ∧ N ρ (S2.set n (.set (insS k ns)))
    | _ => False := by
  unfold mSAdd
  rw [does_ofRes]; congr 1; funext x S1
  cases x with
  | cell n =>
    simp only
    cases h : S1[n]? with
    | none => simp [Out.DoesE]
    | some c =>
      cases c with
      | set ns0 =>
        simp only
        rw [does_ofRes]
        simp only [Option.some.injEq, Cell.set.injEq, exists_eq', true_and]
        congr 1; funext d S2
        cases d with
        | int k =>
          cases h2 : S2[n]? with
          | none => simp [Out.DoesE]
          | some c2 =>
            cases c2 with
            | set ns =>
              simp only
              by_cases l : ns.length ≤ 4000
              · rw [if_pos l]; simp [Out.DoesE, l]
              · rw [if_neg l]; simp [Out.DoesE, l]
            | _ => simp [Out.DoesE]
        | _ => simp [Out.DoesE]
      | _ => simp [Out.DoesE]
  | _ => simp [Out.DoesE]
@[simp] theorem does_sortG {m : ME} {Q : List D → Sto → Prop} : (mSortG m ρ S).DoesE E Q = (m ρ S).DoesE E fun d S1 => match d with
    | .cell n => ∃ ns, S1[n]? = some (.set ns) ∧ ns.length ≤ 4000 ∧ Q ((uniq ns).map .int) S1
    | _ => False := by
  unfold mSortG
  rw [does_bind]; congr 1; funext d S1
  cases d with
  | cell n =>
    simp only
    cases h : S1[n]? with
    | none => simp [Res.DoesE]
    | some c =>
      cases c with
      | set ns =>
        simp only
        by_cases l : ns.length ≤ 4000
        · rw [if_pos l]; simp [Res.DoesE, l]
        · rw [if_neg l]; simp [Res.DoesE, l]
      | _ => simp [Res.DoesE]
  | _ => simp [Res.DoesE]
end
end Dm
-- text Hw27
namespace Dm
open PySem L2
end Dm
-- text DmGen1
set_option maxHeartbeats 1000000
/-! ### a for loop in the body of a generator def -/
namespace Dm
open PySem PySem.Spec PyProof.Rows GenW L2
end Dm
-- text DmGen2
set_option maxHeartbeats 1000000
/-! ### generator defs over plain data; list(g(..)) -/
namespace Dm
open PySem L2 PySem.Spec PyProof.Rows GenW
open PySem.W (Frag)
inductive GOut where
  | nx (ys : List D) (ρ : Rho) (S : Sto) | rt (ys : List D) (d : D) (S : Sto) | bk (ys : List D) (ρ : Rho) (S : Sto) | ct (ys : List D) (ρ : Rho) (S : Sto)
  | exc (c : Str) (fs : List (Str × D)) (ρ : Rho) (S : Sto) | bad
def gOf (ys : List D) : Out → GOut
  | .nx ρ S => .nx ys ρ S
  | .rt d S => .rt ys d S
  | .bk ρ S => .bk ys ρ S
  | .ct ρ S => .ct ys ρ S
  | .exc c fs ρ S => .exc c fs ρ S
  | .bad => .bad
def WG' (F : Fx) (r : GOut) (E : GEnds) (W : WX) (μ : List Addr) (H : Hp) : Prop := match r with
  | .nx ys ρ S => ∀ vs σ μ' H', Up μ H μ' H' → RS F μ' H' S → RG F μ' H' σ ρ → RDs F μ' H' vs ys → E.nx vs σ H'
  | .rt ys d S => ∀ vs v μ' H', Up μ H μ' H' → RS F μ' H' S → RD F μ' H' v d → RDs F μ' H' vs ys → E.rt vs v H'
  | .bk ys ρ S => ∀ vs σ μ' H', Up μ H μ' H' → RS F μ' H' S → RG F μ' H' σ ρ → RDs F μ' H' vs ys → E.bk vs σ H'
  | .ct ys ρ S => ∀ vs σ μ' H', Up μ H μ' H' → RS F μ' H' S → RG F μ' H' σ ρ → RDs F μ' H' vs ys → E.ct vs σ H'
  | .exc c fs ρ S => ∀ cls dd σ μ' H', Up μ H μ' H' → RS F μ' H' S → RG F μ' H' σ ρ → XR F μ' H' cls dd c fs → W cls dd σ H'
  | .bad => False
section
variable {F : Fx} {μ μ1 : List Addr} {H H1 : Hp} {E : GEnds} {W : WX}
theorem WG'.shift {r : GOut} (u : Up μ H μ1 H1) (h : WG' F r E W μ H) : WG' F r E W μ1 H1 := by
  cases r with
  | nx ys ρ S => exact fun vs σ μ' H' u' => h vs σ μ' H' (u.trans u')
  | rt ys d S => exact fun vs v μ' H' u' => h vs v μ' H' (u.trans u')
  | bk ys ρ S => exact fun vs σ μ' H' u' => h vs σ μ' H' (u.trans u')
  | ct ys ρ S => exact fun vs σ μ' H' u' => h vs σ μ' H' (u.trans u')
  | exc c fs ρ S => exact fun cls dd σ μ' H' u' => h cls dd σ μ' H' (u.trans u')
  | bad => exact h
theorem WG'.plain {o : Out} {vs : List V} {ys : List D} (r : RDs F μ H vs ys) (h : WG' F (gOf ys o) E W μ H) : WS' F o (E.at vs) W μ H := by
  cases o with
  | nx ρ S => exact fun σ μ' H' u s g => h vs σ μ' H' u s g (r.up u)
  | rt d S => exact fun v μ' H' u s g => h vs v μ' H' u s g (r.up u)
  | bk ρ S => exact fun σ μ' H' u s g => h vs σ μ' H' u s g (r.up u)
  | ct ρ S => exact fun σ μ' H' u s g => h vs σ μ' H' u s g (r.up u)
  | exc c fs ρ S => exact h
  | bad => exact h
end
/-! ### the promise -/
section
variable {P : Program} {w : World} {K : Frag} {mg : Str → Option Value} {base : Heap}
theorem GFn.mono {j k : Nat} {f : Addr} {fd : FuncData} {ps : List Str} {sp : SpG} (F : GFn P w K mg base j f fd ps sp) (h : j ≤ k) : GFn P w K mg base k f fd ps sp := by
  refine ⟨F.len, fun A outer s H args us vs Q E hr he hb hv hs => codeAny_mono (F.run A outer s H args us vs Q E (hr.mono h) he hb hv hs) fun r s' q => ?_⟩
  cases r with
  | error e => exact q
  | ok fl =>
    cases fl with
    | ret u =>
      obtain ⟨a, g, c, h1, h2, h3, h4, h5, h6, h7, h8, h9, wake⟩ := q
      exact ⟨a, g, c, h1, h2, h3, h4, h5, h6, h7, h8, h9, fun A S s2 hr => wake A S s2 (hr.mono h)⟩
    | _ => exact q
end
/-! ### list(g(..)) -/
section
variable {X : Cx} {W : WX} {e : Expr} {es : List Expr} {st : Stmt} {k : Nat} {tg : TGen} {E : L2.St → XK} {mr : MA} {pos p p1 pos' : Pos}
def oneOf {α : Type} (cs : List Str) (r : Res α) : Res α := match r with
  | .exc c fs S => if c ∈ cs then .exc c fs S else .bad
  | r => r
/-- the words: the arguments, then all that is handed out -/
def mListG (cs : List Str) (f : List D → Sto → Res (List D)) (a : MA) : MA := fun ρ S => (a ρ S).bind fun ds S1 => oneOf cs (f ds S1)
end
end Dm
-- text DmGen3
set_option maxHeartbeats 1000000
namespace Dm
open PySem L2 PySem.Spec PyProof.Rows GenW
open PySem.W (Frag)
/-! ### the words -/
section
variable {S : Sto} {ρ : Rho} {E : EX} {EO : EXO}
/-- what is wanted of a generator's statement -/
def GOut.DoesE (o : GOut) (EO : EXO) (N : List D → Rho → Sto → Prop) : Prop := match o with
  | .nx ys ρ S => N ys ρ S
  | .exc c fs ρ S => EO c fs ρ S
  | _ => False
@[simp] theorem listG_does {cs : List Str} {f : List D → Sto → Res (List D)} {a : MA} {Q : List D → Sto → Prop} : (mListG cs f a ρ S).DoesE E Q = (a ρ S).DoesE E fun ds S1 => (oneOf cs (f ds S1)).DoesE E Q := by
  unfold mListG
  rw [does_bind]
end
end Dm
-- text DmGen4
set_option maxHeartbeats 1000000
/-! ### list(g(k = v, ..)) -/
namespace Dm
open PySem L2 PySem.Spec PyProof.Rows GenW
open PySem.W (Frag)
section
variable {X : Cx} {W : WX} {e : Expr} {es : List Expr} {kws : List Keyword} {st : Stmt} {k : Nat} {mr mk : MA} {pos p p1 pos' : Pos}
def mListGK (cs : List Str) (f : List D → Sto → Res (List D)) (q : Nat) (perm : List Nat) (a : MA) : MA := fun ρ S => (a ρ S).bind fun zs S1 => if zs.length = q then oneOf cs (f (perm.filterMap (zs[·]?)) S1) else .bad
@[simp] theorem listGK_does {S : Sto} {ρ : Rho} {E : EX} {cs : List Str} {f : List D → Sto → Res (List D)} {a : MA} {q : Nat} {perm : List Nat} {Q : List D → Sto → Prop} : (mListGK cs f q perm a ρ S).DoesE E Q = (a ρ S).DoesE E fun zs S1 => zs.length = q ∧ (oneOf cs (f (perm.filterMap (zs[·]?)) S1)).DoesE E Q := by
  unfold mListGK
  rw [does_bind]
  congr 1
  funext zs S1
  by_cases c : zs.length = q
  · rw [if_pos c]; simp [c]
  · rw [if_neg c]; simp [c, Res.DoesE]
end
end Dm
-- text Hw28
namespace Dm
open PySem L2
end Dm
-- text DmCnt
namespace Dm
open PySem L2 PySem.Spec PyProof.Rows
open PySem.W (Frag)
/-! ### xs.count(y), flat items -/
section
variable {X : Cx} {W : WX} {o e : Expr} {mo me : ME} {apos cpos : Pos}
def rCntF (K : Frag) : V → List V → Hp → VK → Prop := fun x xs H Q => ∃ (a : Addr) (ys : List V) (y : V), x = V.ref a ∧ xs = [y] ∧ SqL K H a ys ∧ flatV y = true ∧ ys.all flatV = true ∧ Q (.int ((ys.countP fun z => eqV z y : Nat) : Int)) H
theorem cnt_vals {y : V} : ∀ {ys : List V} {its : List Value}, Vals ys its → ys.all flatV = true → its.countP (eqU y) = ys.countP fun z => eqV z y
  | [], _, r, _ => by cases r; rfl
  | z :: ys, _, r, f => by
    cases r with
    | cons r rr =>
      rw [List.all_cons, Bool.and_eq_true] at f
      rw [List.countP_cons, List.countP_cons, cnt_vals rr f.2, eqU_of r f.1]
theorem mt_countF : MtR X "list.count" (rCntF X.K) := by
  intro pins s σ H x xs v us Q I rx rxs h
  obtain ⟨a, ys, y, rfl, rfl, hs, fy, fys, q⟩ := h
  cases rx
  cases rxs with
  | cons ry rt =>
    rename_i uy ut
    cases rt
    obtain ⟨its, rv, ⟨⟨cls, dd, data, sl⟩, n, ho, hc, hdn, hd⟩, hlen⟩ := I.list hs
    simp only at hc hd
    subst hc hd
    refine call_meets PySem.F.slot_list_count ⟨_, ho, rfl⟩ PySem.F.entry_list_count (PySem.F.args_list_count_2 _ _)
      (SeqAt.list_countAt a its.toArray n dd sl uy (eqU y)) ⟨ho, fun u' hu' => mem_eqAt ry fy rv fys u' (by simpa using hu'), ?_⟩
    have ec : its.toArray.toList.countP (eqU y) = ys.countP fun z => eqV z y := cnt_vals rv fys
    refine ⟨.int ((ys.countP fun z => eqV z y : Nat) : Int), H, I.tok _, ⟨s.toks, ?_⟩, q⟩
    show Value.int ((its.toArray.toList.countP (eqU y) : Nat) : Int) s.toks = Value.int ((ys.countP fun z => eqV z y : Nat) : Int) s.toks
    rw [ec]
def mCnt (mo me : ME) : ME := fun ρ S => (mo ρ S).bind fun x S1 => match lstOf S1 x with
  | none => .bad
  | some _ => (me ρ S1).bind fun y S2 => match lstOf S2 x with
    | some ds => if flatD y = true ∧ ds.all flatD = true then .ok (.int ((ds.countP (eqF · y) : Nat) : Int)) S2 else .bad
    | none => .bad
theorem cnt_rds {F : Fx} {μ : List Addr} {H : Hp} {w : V} {y : D} (r2 : RD F μ H w y) : ∀ {xs : List V} {ds : List D}, RDs F μ H xs ds → (xs.countP fun z => eqV z w) = ds.countP (eqF · y)
  | _, [], r => by cases r; rfl
  | _, d :: ds, r => by
    cases r with
    | cons a b => rw [List.countP_cons, List.countP_cons, cnt_rds r2 b, eqF_of a r2]
theorem d_cnt (ho : DE X W o mo) (he : DE X W e me) (hbase : attributeBase o "count" X.env (eval o X.env) = eval o X.env := by rfl)
    (hfew : ((backTo cpos (starEach (e :: []) X.env)).all (fun x => !x.1) && (backToKw cpos (keywordEach [] X.env)).all (fun x => x.1.isSome)
      && decide ((e :: ([] : List Expr)).length + ([] : List Keyword).length + (if ([] : List Keyword).isEmpty then 0 else 1) < 30)) = true := by rfl)
    (hline : (apos.endLine == cpos.line) = true := by rfl) (hs : starEach (e :: []) X.env = (false, eval e X.env) :: starEach [] X.env := by rfl) (hplain : (backTo cpos (starEach [] X.env)).any (·.1) = false := by rfl) :
    DE X W (.Call (.Attribute o "count" apos) [e] [] cpos) (mCnt mo me) := by
  obtain ⟨to, po, ko⟩ := ho
  obtain ⟨te, pe, ke⟩ := he
  refine ⟨_, pe_bm PySem.F.plainAttrs_list PySem.F.slot_list_count PySem.F.type_list_count mt_countF po (pa_cons pe pa_nil hs) hbase hfew hline hs hplain, fun ξ μ σ H ρ S Q g s h => ko ξ μ σ H ρ S _ g s (WR.bind h fun x S1 v μ1 H1 u1 s1 r1 w1 => ?_)⟩
  cases q0 : lstOf S1 x with
  | none => rw [q0] at w1; exact w1.elim
  | some ds0 =>
    rw [q0] at w1
    obtain ⟨a, xs0, rfl, e0, _⟩ := RD.lstS s1 r1 q0
    refine ⟨.inl ⟨rfl, _, e0⟩, ?_⟩
    refine ke ξ μ1 σ H1 ρ S1 _ (g.up u1) s1 (WR.bind w1 fun y S2 w μ2 H2 u2 s2 r2 w2 => ?_)
    cases q1 : lstOf S2 x with
    | none => rw [q1] at w2; exact w2.elim
    | some ds =>
      rw [q1] at w2
      simp only at w2
      by_cases c : flatD y = true ∧ ds.all flatD = true
      · rw [if_pos c] at w2
        obtain ⟨a', xs, ea, e1, rs⟩ := RD.lstS s2 (r1.up u2) q1
        cases ea
        refine ⟨a, xs, w, rfl, rfl, e1, by rw [flat_of r2]; exact c.1, by rw [flats_of rs]; exact c.2, ?_⟩
        rw [cnt_rds r2 rs]
        exact w2 _ μ2 H2 .refl s2 (.int _)
      · rw [if_neg c] at w2; exact w2.elim
end
section
variable {S : Sto} {ρ : Rho} {Q : D → Sto → Prop} {E : EX}
@[simp] theorem does_cnt {o m : ME} : (mCnt o m ρ S).DoesE E Q = (o ρ S).DoesE E fun x S1 => (∃ l, lstOf S1 x = some l) ∧ (m ρ S1).DoesE E fun y S2 => ∃ ds, lstOf S2 x = some ds ∧ (flatD y = true ∧ ds.all flatD = true) ∧ Q (.int ((ds.countP (eqF · y) : Nat) : Int)) S2 := by
  unfold mCnt
  rw [does_bind]; congr 1; funext x S1
  cases q : lstOf S1 x with
  | none => exact propext ⟨fun h => h.elim, fun ⟨⟨_, h⟩, _⟩ => nomatch h⟩
  | some l =>
    simp only
    rw [does_bind]
    refine propext ⟨fun h => ⟨⟨l, rfl⟩, ?_⟩, fun ⟨_, h⟩ => ?_⟩
    · refine resMonoI h fun y S2 h2 => ?_
      cases q1 : lstOf S2 x with
      | none => rw [q1] at h2; exact h2.elim
      | some ds =>
        rw [q1] at h2
        simp only at h2
        by_cases c : flatD y = true ∧ ds.all flatD = true
        · rw [if_pos c] at h2
          exact ⟨ds, rfl, c, h2⟩
        · rw [if_neg c] at h2; exact h2.elim
    · refine resMonoI h fun y S2 h2 => ?_
      obtain ⟨ds, q1, c, h3⟩ := h2
      rw [q1]
      simp only
      rw [if_pos c]
      exact h3
end
end Dm
-- text Hw29
namespace Dm
open PySem L2
noncomputable section
def m_law_make_step : List D → Sto → Res D := mDef 3 16 (mSeq (mAsg 3 (mOp gIx (mFz (mLst (mCons (mK (.str "read")) (mCons (mK (.str "find")) (mCons (mK (.str "find")) (mCons (mK (.str "find")) (mCons (mK (.str "offset")) (mCons (mK (.str "edition")) (mCons (mK (.str "plus")) (mCons (mK (.str "less")) (mCons (mK (.str "add")) (mCons (mK (.str "add")) mNil)))))))))))) (mCall m_law_draw (mCons (mVar 0) (mCons (mK (.int 10)) mNil))))) (mSeq (mAsg 4 (mCall m_law_draw (mCons (mVar 0) (mCons (mCallB gLen (mCons (mVar 1) mNil)) mNil)))) (mSeq (mAsg 5 (mFz (mLc (iRange1 (mCons (mCallB gLen (mCons (mVar 2) mNil)) mNil)) (tgN 8) (mOp gEq (mOp gIx (mVar 2) (mVar 8)) (mK (.str "moment"))) (mVar 8) [8]))) (mSeq (mAsg 6 (mFz (mLc (iRange1 (mCons (mCallB gLen (mCons (mVar 2) mNil)) mNil)) (tgN 8) (mOp gEq (mOp gIx (mVar 2) (mVar 8)) (mK (.str "reading"))) (mVar 8) [8]))) (mSeq (mAsg 7 (mFz (mLc (iRange1 (mCons (mCallB gLen (mCons (mVar 2) mNil)) mNil)) (tgN 8) (mOp gEq (mOp gIx (mVar 2) (mVar 8)) (mK (.str "span"))) (mVar 8) [8]))) (mSeq (mAsg 8 (mOp gIx (mVar 5) (mCall m_law_draw (mCons (mVar 0) (mCons (mCallB gLen (mCons (mVar 5) mNil)) mNil))))) (mSeq (mIfS (mAnd (mOp gEq (mVar 3) (mK (.str "find"))) (mOp gGt (mCallB gLen (mCons (mVar 6) mNil)) (mK (.int 0)))) (mSeq (mAsg 9 (mOp gIx (mFz (mLst (mCons (mK (.str "early")) (mCons (mK (.str "late")) (mCons (mK (.str "refuse")) mNil))))) (mCall m_law_draw (mCons (mVar 0) (mCons (mK (.int 3)) mNil))))) (mSeq (mAsg 10 (mOp gIx (mFz (mLst (mCons (mK (.str "ahead")) (mCons (mK (.str "behind")) (mCons (mK (.str "refuse")) mNil))))) (mCall m_law_draw (mCons (mVar 0) (mCons (mK (.int 3)) mNil))))) (mRet (mTup (mCons (mK (.str "find")) (mCons (mOp gIx (mVar 6) (mCall m_law_draw (mCons (mVar 0) (mCons (mCallB gLen (mCons (mVar 6) mNil)) mNil)))) (mCons (mVar 4) (mCons (mVar 9) (mCons (mVar 10) mNil))))))))) mNop) (mSeq (mIfS (mAnd (mOp gEq (mVar 3) (mK (.str "plus"))) (mOp gGt (mCallB gLen (mCons (mVar 7) mNil)) (mK (.int 0)))) (mRet (mTup (mCons (mK (.str "plus")) (mCons (mVar 8) (mCons (mOp gIx (mVar 7) (mCall m_law_draw (mCons (mVar 0) (mCons (mCallB gLen (mCons (mVar 7) mNil)) mNil)))) mNil))))) mNop) (mSeq (mIfS (mAnd (mOp gEq (mVar 3) (mK (.str "less"))) (mAnd (mOp gGt (mCallB gLen (mCons (mVar 7) mNil)) (mK (.int 0))) (mOp gGt (mCallB gLen (mCons (mVar 6) mNil)) (mK (.int 0))))) (mRet (mTup (mCons (mK (.str "less")) (mCons (mOp gIx (mVar 6) (mCall m_law_draw (mCons (mVar 0) (mCons (mCallB gLen (mCons (mVar 6) mNil)) mNil)))) (mCons (mOp gIx (mVar 7) (mCall m_law_draw (mCons (mVar 0) (mCons (mCallB gLen (mCons (mVar 7) mNil)) mNil)))) mNil))))) mNop) (mSeq (mIfS (mOp (gIn false) (mVar 3) (mFz (mLst (mCons (mK (.str "read")) (mCons (mK (.str "offset")) (mCons (mK (.str "edition")) (mCons (mK (.str "find")) mNil))))))) (mRet (mTup (mCons (mOp gIx (mFz (mLst (mCons (mK (.str "read")) (mCons (mVar 3) mNil)))) (mCallB gInt1 (mCons (mOp gNe (mVar 3) (mK (.str "find"))) mNil))) (mCons (mVar 8) (mCons (mVar 4) mNil))))) mNop) (mSeq (mAsgG (tgU 2 (tgCons (tgN 11) (tgCons (tgN 12) tgNil))) (mOp gIx (mVar 1) (mVar 4))) (mSeq (mAsg 13 (mOp gSub (mOp gIx (mVar 11) (mK (.int (-1)))) (mOp gIx (mVar 11) (mK (.int 0))))) (mSeq (mAsg 14 (mFz (mLst (mCons (mK (.int 1)) (mCons (mK (.int (-1))) (mCons (mVar 13) (mCons (mUn gNeg (mVar 13)) (mCons (mOp gAdd (mVar 13) (mK (.int 1))) (mCons (mVar 12) (mCons (mOp gSub (mVar 12) (mK (.int 1))) (mCons (mOp gSub (mK (.int 1)) (mVar 12)) (mCons (mOp gSub (mVar 12) (mVar 13)) (mCons (mOp gSub (mCall m_law_draw (mCons (mVar 0) (mCons (mK (.int 41)) mNil))) (mK (.int 20))) mNil))))))))))))) (mSeq (mAsg 15 (mOp gIx (mFz (mCatV (mVar 14) (mLst (mCons (mOp gSub (mCall m_law_draw (mCons (mVar 0) (mCons (mK (.int 200001)) mNil))) (mK (.int 100000))) mNil)))) (mCall m_law_draw (mCons (mVar 0) (mCons (mK (.int 11)) mNil))))) (mRet (mTup (mCons (mK (.str "add")) (mCons (mOp gIx (mFz (mCatW (mVar 5) (mVar 6))) (mCall m_law_draw (mCons (mVar 0) (mCons (mOp gAdd (mCallB gLen (mCons (mVar 5) mNil)) (mCallB gLen (mCons (mVar 6) mNil))) mNil)))) (mCons (mCallB gMax2 (mCons (mK (.int (-100000))) (mCons (mCallB gMin2 (mCons (mK (.int 100000)) (mCons (mVar 15) mNil))) mNil))) mNil)))))))))))))))))))
def m_law_sort_made : List D → Sto → Res D := mDef 2 3 (mSeq (mAsg 2 (mDisp (mPCons (mK (.str "read")) (mK (.str "reading")) (mPCons (mK (.str "find")) (mK (.str "moment")) (mPCons (mK (.str "offset")) (mK (.str "span")) (mPCons (mK (.str "edition")) (mK (.str "moment")) (mPCons (mK (.str "plus")) (mK (.str "reading")) mPNil))))))) (mSeq (mIfS (mOp gEq (mOp gIx (mVar 1) (mK (.int 0))) (mK (.str "add"))) (mRet (mOp gIx (mVar 0) (mOp gIx (mVar 1) (mK (.int 1))))) mNop) (mRet (mGet2 (mVar 2) (mOp gIx (mVar 1) (mK (.int 0))) (mK (.str "moment"))))))
def m_law_sorts : List D → Sto → Res D := mDef 1 3 (mSeq (mAsg 1 (mNew (mLst (mCons (mK (.str "moment")) mNil)))) (mSeq (mForA (mVar 0) (tgN 2) (mApp (mVar 1) (mCall m_law_sort_made (mCons (mVar 1) (mCons (mVar 2) mNil))))) (mRet (mVar 1))))
def m_law_make_steps : List D → Sto → Res D := mDef 4 14 (mSeq (mAsg 4 (mOp gSub (mK (.int 1)) (mCallB gInt1 (mCons (mAnd (mOp gLt (mVar 2) (mK (.int 8))) (mOp gGt (mCallB gMax1 (mCons (mFz (mLcA (mVar 1) (tgU 2 (tgCons (tgN 10) (tgCons (tgN 11) tgNil))) mYes (mCallB gLen (mCons (mVar 10) mNil)) [10, 11])) mNil)) (mK (.int 2)))) mNil)))) (mSeq (mAsg 5 (mNew (mSlL (mFz (mLst (mCons (mTup (mCons (mK (.str "read")) (mCons (mK (.int 0)) (mCons (mCall m_law_draw (mCons (mVar 0) (mCons (mCallB gLen (mCons (mVar 1) mNil)) mNil))) mNil)))) mNil))) mNoPart (mPart (mCall m_law_draw (mCons (mVar 0) (mCons (mK (.int 3)) mNil))))))) (mSeq (mFor (iRange1 (mCons (mOp gAdd (mOp gSub (mK (.int 1)) (mCallB gLen (mCons (mVar 5) mNil))) (mCall m_law_draw (mCons (mVar 0) (mCons (mK (.int 8)) mNil)))) mNil)) (tgN 6) (mSeq (mAsg 7 (mCall m_law_make_step (mCons (mVar 0) (mCons (mVar 1) (mCons (mCall m_law_sorts (mCons (mVar 5) mNil)) mNil))))) (mSeq (mAsg 8 (mFz (mLcA (mVar 5) (tgN 12) mYes (mOp gIx (mVar 12) (mK (.int 0))) [12]))) (mSeq (mAsg 9 (mCallB gLen (mCons (mFz (mLcA (mVar 8) (tgN 13) (mOp (gIn false) (mVar 13) (mFz (mLst (mCons (mK (.str "read")) (mCons (mK (.str "find")) (mCons (mK (.str "offset")) (mCons (mK (.str "edition")) mNil))))))) (mVar 13) [13])) mNil))) (mSeq (mIfS (mAnd (mOp (gIn false) (mOp gIx (mVar 7) (mK (.int 0))) (mFz (mLst (mCons (mK (.str "read")) (mCons (mK (.str "find")) (mCons (mK (.str "offset")) (mCons (mK (.str "edition")) mNil))))))) (mOp gGe (mVar 9) (mVar 2))) (mAsg 7 (mTup (mCons (mK (.str "add")) (mCons (mCallB gLen (mCons (mVar 5) mNil)) (mCons (mOp gSub (mK (.int 1)) (mOp gMul (mK (.int 2)) (mCall m_law_draw (mCons (mVar 0) (mCons (mK (.int 2)) mNil))))) mNil))))) mNop) (mSeq (mIfS (mAnd (mOp gEq (mOp gIx (mVar 7) (mK (.int 0))) (mK (.str "edition"))) (mOr (mNot (mVar 3)) (mOp (gIn false) (mK (.str "edition")) (mVar 8)))) (mAsg 7 (mTup (mCons (mK (.str "read")) (mCons (mOp gIx (mVar 7) (mK (.int 1))) (mCons (mOp gIx (mVar 7) (mK (.int 2))) mNil))))) mNop) (mSeq (mIfS (mAnd (mOp gEq (mOp gIx (mVar 7) (mK (.int 0))) (mK (.str "find"))) (mOp gGt (mCnt (mVar 8) (mK (.str "find"))) (mVar 4))) (mAsg 7 (mTup (mCons (mK (.str "add")) (mCons (mOp gIx (mVar 7) (mK (.int 1))) (mCons (mK (.int 1)) mNil))))) mNop) (mSeq (mIfS (mAnd (mOp gEq (mOp gIx (mVar 7) (mK (.int 0))) (mK (.str "add"))) (mOp gEq (mOp gIx (mCall m_law_sorts (mCons (mVar 5) mNil)) (mOp gIx (mVar 7) (mK (.int 1)))) (mK (.str "span")))) (mAsg 7 (mTup (mCons (mK (.str "add")) (mCons (mK (.int 0)) (mCons (mOp gIx (mVar 7) (mK (.int 2))) mNil))))) mNop) (mApp (mVar 5) (mVar 7)))))))))) (mRet (mCallB gTuple (mCons (mVar 5) mNil))))))
def m_law_ran_v2 : List D → Sto → Res D := mDef 4 7 (mSeq (mAsg 4 (mK .non)) (mSeq (mAsg 5 (mK .non)) (mSeq (mTry ["InvalidNumber", "InvalidProgram", "InvalidWorld", "InvalidZone", "InvalidZones", "Refused", "Unsuited"] [("HourError", some 6, (mAsg 4 (mVar 6)))] (mAsg 5 (mCallD m_run 4 0 [0, 1, 2, 3] [(.int 0)] (mCons (mVar 0) (mCons (mVar 1) (mCons (mVar 2) (mCons (mVar 3) mNil)))) mNil))) (mSeq (mIfS (mOp (gIsN false) (mVar 4) (mK .non)) (mRet (mTup (mCons (mK (.str "values")) (mCons (mVar 5) mNil)))) mNop) (mSeq (mIfS (mUn (gIsX ["InvalidNumber", "InvalidProgram", "InvalidWorld", "InvalidZone", "InvalidZones", "Refused", "Unsuited"] "Refused") (mVar 4)) (mRet (mTup (mCons (mK (.str "refused")) (mCons (mUn (gXf "Refused" "step") (mVar 4)) mNil)))) mNop) (mRet (mTup (mCons (mK (.str "unsuited")) (mCons (mUn (gIsX ["InvalidNumber", "InvalidProgram", "InvalidWorld", "InvalidZone", "InvalidZones", "Refused", "Unsuited"] "Unsuited") (mVar 4)) mNil)))))))))
def m_law_start_chart : List D → Sto → Res D := mDef 3 12 (mSeq (mAsgG (tgU 2 (tgCons (tgN 3) (tgCons (tgN 4) tgNil))) (mVar 1)) (mSeq (mAsg 5 (mOp gSub (mOp gIx (mVar 3) (mK (.int (-1)))) (mOp gIx (mVar 3) (mK (.int 0))))) (mSeq (mAsgG (tgU 2 (tgCons (tgN 6) (tgCons (tgN 7) tgNil))) (mCall m_law_make_chart (mCons (mVar 0) (mCons (mVar 1) (mCons (mK (.int 6)) mNil))))) (mSeq (mIfS (mOp gEq (mCallB gLen (mCons (mVar 7) mNil)) (mK (.int 0))) (mRet (mTup (mCons (mVar 6) (mCons (mVar 7) mNil)))) mNop) (mSeq (mAsg 8 (mOp gAdd (mVar 2) (mOp gIx (mFz (mLst (mCons (mK (.int 0)) (mCons (mK (.int 1)) (mCons (mUn gNeg (mCall m_law_draw (mCons (mVar 0) (mCons (mOp gAdd (mVar 5) (mK (.int 1))) mNil)))) (mCons (mOp gSub (mOp gSub (mCall m_law_draw (mCons (mVar 0) (mCons (mOp gAdd (mOp gMul (mK (.int 2)) (mVar 5)) (mK (.int 3))) mNil))) (mVar 5)) (mK (.int 1))) mNil)))))) (mCall m_law_draw (mCons (mVar 0) (mCons (mK (.int 4)) mNil)))))) (mSeq (mAsg 9 (mOp gSub (mVar 8) (mOp gIx (mOp gIx (mVar 7) (mCall m_law_draw (mCons (mVar 0) (mCons (mCallB gLen (mCons (mVar 7) mNil)) mNil)))) (mK (.int 0))))) (mRet (mTup (mCons (mVar 6) (mCons (mCallB gTuple (mCons (mFz (mLcA (mVar 7) (tgU 2 (tgCons (tgN 10) (tgCons (tgN 11) tgNil))) mYes (mTup (mCons (mOp gAdd (mVar 10) (mVar 9)) (mCons (mVar 11) mNil))) [10, 11])) mNil)) mNil))))))))))
def m_law_later_chart : List D → Sto → Res D := mDef 4 13 (mSeq (mAsg 4 (mCall m_law_draw (mCons (mVar 0) (mCons (mK (.int 5)) mNil)))) (mSeq (mIfS (mOp gEq (mVar 4) (mK (.int 0))) (mRet (mVar 2)) mNop) (mSeq (mIfS (mOp gEq (mVar 4) (mK (.int 1))) (mRet (mCall m_law_start_chart (mCons (mVar 0) (mCons (mVar 1) (mCons (mVar 3) mNil))))) mNop) (mSeq (mAsg 5 (mOp gSub (mOp gAdd (mVar 3) (mCall m_law_draw (mCons (mVar 0) (mCons (mOp gMul (mK (.int 2)) (mOp gIx (mVar 1) (mK (.int 1)))) mNil)))) (mCall m_law_draw (mCons (mVar 0) (mCons (mOp gIx (mVar 1) (mK (.int 1))) mNil))))) (mSeq (mAsg 6 (mNew (mLcA (mOp gIx (mVar 2) (mK (.int 1))) (tgN 10) (mOp gLt (mOp gIx (mVar 10) (mK (.int 0))) (mVar 5)) (mVar 10) [10]))) (mSeq (mAsg 7 (mOp gIx (mFz (mCatL (mLst (mCons (mOp gIx (mVar 2) (mK (.int 0))) mNil)) (mLcA (mVar 6) (tgU 2 (tgCons (tgN 9) (tgCons (tgN 11) tgNil))) mYes (mVar 11) [9, 11]))) (mK (.int (-1))))) (mSeq (mIfS (mAnd (mOp gGt (mVar 4) (mK (.int 2))) (mOp gGt (mCallB gLen (mCons (mOp gIx (mVar 1) (mK (.int 0))) mNil)) (mK (.int 1)))) (mSeq (mAsg 8 (mFz (mLcA (mOp gIx (mVar 1) (mK (.int 0))) (tgN 11) (mOp gNe (mVar 11) (mVar 7)) (mVar 11) [11]))) (mSeq (mAsg 9 (mCallB gMax1 (mCons (mFz (mCatL (mLst (mCons (mVar 5) mNil)) (mLcA (mVar 6) (tgU 2 (tgCons (tgN 12) (tgCons (tgN 11) tgNil))) mYes (mOp gAdd (mVar 12) (mOp gIx (mVar 1) (mK (.int 1)))) [12, 11]))) mNil))) (mApp (mVar 6) (mTup (mCons (mVar 9) (mCons (mOp gIx (mVar 8) (mCall m_law_draw (mCons (mVar 0) (mCons (mCallB gLen (mCons (mVar 8) mNil)) mNil)))) mNil)))))) mNop) (mRet (mTup (mCons (mOp gIx (mVar 2) (mK (.int 0))) (mCons (mCallB gTuple (mCons (mVar 6) mNil)) mNil)))))))))))
def m_law_unlike_ahead : List D → Sto → Res D := mDef 3 6 (mSeq (mAsg 3 (mFz (mLcA (mVar 0) (tgN 4) mYes (mFz (mLcA (mOp gIx (mOp gIx (mVar 4) (mVar 1)) (mK (.int 1))) (tgN 5) (mOp gLt (mOp gIx (mVar 5) (mK (.int 0))) (mVar 2)) (mVar 5) [5])) [4]))) (mRet (mOr (mOp gNe (mOp gIx (mOp gIx (mOp gIx (mVar 0) (mK (.int 0))) (mVar 1)) (mK (.int 0))) (mOp gIx (mOp gIx (mOp gIx (mVar 0) (mK (.int 1))) (mVar 1)) (mK (.int 0)))) (mOp gNe (mOp gIx (mVar 3) (mK (.int 0))) (mOp gIx (mVar 3) (mK (.int 1)))))))
def m_law_stepped : List D → Sto → Res D := mDef 4 10 (mSeq (mAsg 4 (mNew (mCallBL gList (mCons (mOp gIx (mVar 2) (mK (.int 0))) mNil)))) (mSeq (mAsg 5 (mNew (mLst (mCons (mVar 3) mNil)))) (mSeq (mFor (iRange1 (mCons (mCallB gLen (mCons (mVar 1) mNil)) mNil)) (tgN 6) (mSeq (mAsg 7 (mOp gIx (mVar 1) (mVar 6))) (mSeq (mAsg 8 (mOp gIx (mVar 5) (mOp gIx (mVar 7) (mK (.int 1))))) (mSeq (mAsg 9 (mOp gIx (mFz (mLst (mCons (mK (.int 0)) (mCons (mOp gIx (mVar 7) (mK (.int 2))) mNil)))) (mCallB gInt1 (mCons (mOp (gIn false) (mOp gIx (mVar 7) (mK (.int 0))) (mFz (mLst (mCons (mK (.str "read")) (mCons (mK (.str "find")) (mCons (mK (.str "offset")) (mCons (mK (.str "edition")) mNil))))))) mNil)))) (mSeq (mIfS (mOp gEq (mOp gIx (mVar 7) (mK (.int 0))) (mK (.str "edition"))) (mSeq (mIfS (mCall m_law_unlike_ahead (mCons (mVar 2) (mCons (mVar 9) (mCons (mVar 8) mNil)))) (mRet (mTup (mCons (mK (.str "unsuited")) (mCons (mK (.bl true)) mNil)))) mNop) (mSetIx (mOp gIx (mOp gIx (mVar 2) (mK (.int 1))) (mVar 9)) (mVar 4) (mVar 9))) (mIfS (mOp gEq (mOp gIx (mVar 7) (mK (.int 0))) (mK (.str "read"))) (mAsg 8 (mCall m_reading_at (mCons (mOp gIx (mVar 0) (mVar 9)) (mCons (mOp gIx (mVar 4) (mVar 9)) (mCons (mVar 8) mNil))))) (mIfS (mOp gEq (mOp gIx (mVar 7) (mK (.int 0))) (mK (.str "offset"))) (mAsg 8 (mCall m_offset_at (mCons (mOp gIx (mVar 0) (mVar 9)) (mCons (mOp gIx (mVar 4) (mVar 9)) (mCons (mVar 8) mNil))))) (mIfS (mOp gEq (mOp gIx (mVar 7) (mK (.int 0))) (mK (.str "find"))) (mAsg 8 (mCallD m_find_moment 3 2 [0, 1, 2, 3, 4] [] (mCons (mOp gIx (mVar 0) (mVar 9)) (mCons (mOp gIx (mVar 4) (mVar 9)) (mCons (mVar 8) mNil))) (mCons (mOp gIx (mVar 7) (mK (.int 3))) (mCons (mOp gIx (mVar 7) (mK (.int 4))) mNil)))) (mIfS (mOp gEq (mOp gIx (mVar 7) (mK (.int 0))) (mK (.str "add"))) (mAsg 8 (mOp gAdd (mVar 8) (mOp gIx (mVar 7) (mK (.int 2))))) (mIfS (mOp gEq (mOp gIx (mVar 7) (mK (.int 0))) (mK (.str "plus"))) (mAsg 8 (mOp gAdd (mVar 8) (mOp gIx (mVar 5) (mOp gIx (mVar 7) (mK (.int 2)))))) (mAsg 8 (mOp gSub (mVar 8) (mOp gIx (mVar 5) (mOp gIx (mVar 7) (mK (.int 2)))))))))))) (mSeq (mIfS (mOp (gIsN false) (mVar 8) (mK .non)) (mRet (mTup (mCons (mK (.str "refused")) (mCons (mVar 6) mNil)))) mNop) (mApp (mVar 5) (mVar 8)))))))) (mRet (mTup (mCons (mK (.str "values")) (mCons (mVar 5) mNil)))))))
def m_law_k77_whole_runs_step_by_step : List D → Sto → Res D := mDef 1 17 (mSeq (mAsg 1 (mCall m_law_digits (mCons (mOp gIx (mFz (mCatV (mVar 0) (mLst (mCons (mK (.int 1000000000000000000000000000000000000480257719936612204875093)) mNil)))) (mK (.int 0))) mNil))) (mSeq (mAsg 2 (mCallB gTuple (mCons (mFz (mLc (iRange1 (mCons (mOp gAdd (mK (.int 1)) (mCall m_law_draw (mCons (mVar 1) (mCons (mK (.int 2)) mNil)))) mNil)) (tgN 6) mYes (mCall m_law_make_region (mCons (mVar 1) mNil)) [6])) mNil))) (mSeq (mAsg 3 (mCall m_law_make_steps (mCons (mVar 1) (mCons (mVar 2) (mCons (mK (.int 8)) (mCons (mK (.bl true)) mNil)))))) (mSeq (mAsg 4 (mOp gFdiv (mCall m_law_any_hour (mCons (mVar 1) mNil)) (mK (.int 2)))) (mSeq (mAsg 5 (mNew (mLst mNil))) (mSeq (mFor (iRange1 (mCons (mCallB gLen (mCons (mVar 2) mNil)) mNil)) (tgN 6) (mSeq (mAsgG (tgU 2 (tgCons (tgN 7) (tgCons (tgN 8) tgNil))) (mCall m_law_cells_chart (mCons (mVar 1) (mCons (mOp gIx (mVar 2) (mVar 6)) (mCons (mFz (mSlL (mVar 0) (mPart (mK (.int 1))) (mPart (mK (.int 57))))) mNil))))) (mSeq (mAsg 9 (mOp gSub (mOp gAdd (mVar 4) (mCall m_law_draw (mCons (mVar 1) (mCons (mK (.int 3)) mNil)))) (mK (.int 1)))) (mSeq (mIfS (mOp gGt (mCallB gLen (mCons (mVar 8) mNil)) (mK (.int 0))) (mAsg 9 (mOp gAdd (mOp gSub (mVar 9) (mOp gIx (mOp gIx (mVar 8) (mCall m_law_draw (mCons (mVar 1) (mCons (mCallB gLen (mCons (mVar 8) mNil)) mNil)))) (mK (.int 0)))) (mCall m_law_draw (mCons (mVar 1) (mCons (mOp gSub (mOp gAdd (mK (.int 1)) (mOp gIx (mOp gIx (mOp gIx (mVar 2) (mVar 6)) (mK (.int 0))) (mK (.int (-1))))) (mOp gIx (mOp gIx (mOp gIx (mVar 2) (mVar 6)) (mK (.int 0))) (mK (.int 0)))) mNil))))) mNop) (mApp (mVar 5) (mTup (mCons (mVar 7) (mCons (mCallB gTuple (mCons (mFz (mLcA (mVar 8) (tgU 2 (tgCons (tgN 15) (tgCons (tgN 16) tgNil))) mYes (mTup (mCons (mOp gAdd (mVar 15) (mVar 9)) (mCons (mVar 16) mNil))) [15, 16])) mNil)) mNil)))))))) (mSeq (mAsg 10 (mFz (mLc (iRange1 (mCons (mCallB gLen (mCons (mVar 2) mNil)) mNil)) (tgN 6) mYes (mCall m_law_later_chart (mCons (mVar 1) (mCons (mOp gIx (mVar 2) (mVar 6)) (mCons (mOp gIx (mVar 5) (mVar 6)) (mCons (mVar 4) mNil))))) [6]))) (mSeq (mFor (iSeq (mFz (mLst (mCons (mTup (mCons (mCallB gTuple (mCons (mVar 5) mNil)) (mCons (mCallB gTuple (mCons (mVar 10) mNil)) mNil))) (mCons (mTup (mCons (mCallB gTuple (mCons (mVar 5) mNil)) (mCons (mCallB gTuple (mCons (mVar 5) mNil)) mNil))) mNil))))) (tgN 11) (mSeq (mAsg 12 (mCall m_law_stepped (mCons (mVar 2) (mCons (mVar 3) (mCons (mVar 11) (mCons (mVar 4) mNil)))))) (mSeq (mIfS (mNot (mCall (m_law_same 30) (mCons (mCall m_law_ran_v2 (mCons (mVar 2) (mCons (mVar 3) (mCons (mVar 11) (mCons (mVar 4) mNil))))) (mCons (mVar 12) mNil)))) (mRet (mK (.bl false))) mNop) (mSeq (mIfS (mNot (mCall (m_law_same 30) (mCons (mCall m_kinds (mCons (mVar 2) (mCons (mVar 3) mNil))) (mCons (mCall m_law_sorts (mCons (mVar 3) mNil)) mNil)))) (mRet (mK (.bl false))) mNop) (mSeq (mFor (iRange1 (mCons (mCallB gLen (mCons (mVar 3) mNil)) mNil)) (tgN 13) (mSeq (mAsg 14 (mCall m_law_stepped (mCons (mVar 2) (mCons (mSlT (mVar 3) mNoPart (mPart (mVar 13))) (mCons (mVar 11) (mCons (mVar 4) mNil)))))) (mSeq (mIfS (mNot (mCall (m_law_same 30) (mCons (mCall m_law_ran_v2 (mCons (mVar 2) (mCons (mSlT (mVar 3) mNoPart (mPart (mVar 13))) (mCons (mVar 11) (mCons (mVar 4) mNil))))) (mCons (mVar 14) mNil)))) (mRet (mK (.bl false))) mNop) (mSeq (mIfS (mAnd (mOp gNe (mOp gIx (mVar 14) (mK (.int 0))) (mK (.str "values"))) (mNot (mCall (m_law_same 30) (mCons (mVar 14) (mCons (mVar 12) mNil))))) (mRet (mK (.bl false))) mNop) (mIfS (mAnd (mOp gEq (mOp gIx (mVar 14) (mK (.int 0))) (mK (.str "values"))) (mAnd (mOp gEq (mOp gIx (mVar 12) (mK (.int 0))) (mK (.str "values"))) (mOp gNe (mFz (mSlL (mOp gIx (mVar 12) (mK (.int 1))) mNoPart (mPart (mOp gAdd (mVar 13) (mK (.int 1)))))) (mOp gIx (mVar 14) (mK (.int 1)))))) (mRet (mK (.bl false))) mNop))))) (mIfS (mOp gEq (mOp gIx (mCall m_law_ran_v2 (mCons (mVar 2) (mCons (mVar 3) (mCons (mVar 11) (mCons (mK (.int 0)) mNil))))) (mK (.int 0))) (mK (.str "values"))) (mIfS (mNot (mCall (m_law_same 30) (mCons (mCallD m_run 3 0 [0, 1, 2, 3] [(.int 0)] (mCons (mVar 2) (mCons (mVar 3) (mCons (mVar 11) mNil))) mNil) (mCons (mOp gIx (mCall m_law_stepped (mCons (mVar 2) (mCons (mVar 3) (mCons (mVar 11) (mCons (mK (.int 0)) mNil))))) (mK (.int 1))) mNil)))) (mRet (mK (.bl false))) mNop) mNop)))))) (mRet (mK (.bl true)))))))))))
end
end Dm
-- text V_k77
namespace V
open PySem L2 PySem.Spec PyProof.Rows Dm
open PySem.W (Frag)
theorem rvR {a : Addr} : L2.RelV (.ref a) (.ref a) := rfl
theorem rvS {x : Str} {t : Tok} : L2.RelV (.str x) (.str x t) := ⟨t, rfl⟩
theorem rvI {x : Int} {t : Tok} : L2.RelV (.int x) (.int x t) := ⟨t, rfl⟩
def top (i : Nat) : Stmt := PySem.Challenge.pw_hoursmeant_k77_whole_runs_step_by_step.main.body.getD i (.Pass ⟨0, 0, 0, 0⟩)
theorem kit_plain {K : PySem.W.Frag} {D : Addr} {x : String} (hx : PySem.W.kitMeta x = true) (h : PySem.W.mroIn K D (.type x) = some false) : PySem.W.kitOne K (.ref D) (.type x) = some false := by
  unfold PySem.W.kitOne PySem.W.kitCls
  have e : ((Value.ref D) == (Value.type x)) = false := rfl
  rw [e, if_neg Bool.false_ne_true]
  simp only
  rw [if_pos hx]
  exact h
theorem kit_self {K : PySem.W.Frag} {C : Addr} : PySem.W.kitOne K (.ref C) (.ref C) = some true := by
  unfold PySem.W.kitOne
  rw [if_pos (beq_self_eq_true (Value.ref C))]
theorem kit_own {K : PySem.W.Frag} {D C : Addr} {b : Bool} (hd : PySem.W.hasDictIn K C = true) (ht : PySem.W.typeIn K (.ref C) = some (.type "type")) (hr : PySem.W.subIn K (.ref C) (.ref C) = some true) (h : PySem.W.subIn K (.ref D) (.ref C) = some b) : PySem.W.kitOne K (.ref D) (.ref C) = some b := by
  unfold PySem.W.kitOne PySem.W.kitCls
  by_cases e : ((Value.ref D) == (Value.ref C)) = true
  · rw [if_pos e]
    have e2 : Value.ref D = Value.ref C := eq_of_beq e
    rw [e2, hr] at h
    exact h
  · rw [if_neg e]
    simp only
    obtain ⟨cd, hc, _⟩ := PySem.W.any_some hd
    rw [if_pos (by rw [hc, ht]; rfl)]
    exact h
structure Txt (K : Frag) (mg : Str → Option Value) (w : World) : Prop where
  n_all : mg "all" = none
  n_bool : mg "bool" = none
  n_enumerate : mg "enumerate" = none
  n_int : mg "int" = none
  n_isinstance : mg "isinstance" = none
  n_len : mg "len" = none
  n_list : mg "list" = none
  n_max : mg "max" = none
  n_min : mg "min" = none
  n_range : mg "range" = none
  n_str : mg "str" = none
  n_tuple : mg "tuple" = none
  v_FOLDS : GlK K mg "FOLDS" (.tup [(.str "early"), (.str "late"), (.str "refuse")])
  v_GAPS : GlK K mg "GAPS" (.tup [(.str "ahead"), (.str "behind"), (.str "refuse")])
  v_MADE : GlT K w mg "MADE" [("read", (.str "reading")), ("find", (.str "moment")), ("offset", (.str "span")), ("edition", (.str "moment")), ("plus", (.str "reading")), ("less", (.str "moment"))]
  v_MOST_MINUTES : ∃ t, mg "MOST_MINUTES" = some (.int (100000) t)
  v_MOST_OFFSET : ∃ t, mg "MOST_OFFSET" = some (.int (900) t)
  v_MOST_SPACING : ∃ t, mg "MOST_SPACING" = some (.int (1000000) t)
  v_MOST_STEPS : ∃ t, mg "MOST_STEPS" = some (.int (8) t)
  v_PARTS : GlT K w mg "PARTS" [("read", (.tup [(.str "moment"), (.str "place")])), ("find", (.tup [(.str "reading"), (.str "place"), (.str "fold"), (.str "gap")])), ("offset", (.tup [(.str "moment"), (.str "place")])), ("edition", (.tup [(.str "moment"), (.str "place")])), ("plus", (.tup [(.str "moment"), (.str "span")])), ("less", (.tup [(.str "reading"), (.str "span")])), ("add", (.tup [(.str "point"), (.str "minutes")]))]
  x_InvalidNumber : XcOk K mg "InvalidNumber"
  x_InvalidProgram : XcOk K mg "InvalidProgram"
  x_InvalidRule : XcOk K mg "InvalidRule"
  x_InvalidTable : XcOk K mg "InvalidTable"
  x_InvalidWorld : XcOk K mg "InvalidWorld"
  x_InvalidZone : XcOk K mg "InvalidZone"
  x_InvalidZones : XcOk K mg "InvalidZones"
  x_Unsuited : XcOk K mg "Unsuited"
  f_Refused_step : XfOk K mg "Refused" "step"
  i_Refused : IsOk K mg ["InvalidNumber", "InvalidProgram", "InvalidWorld", "InvalidZone", "InvalidZones", "Refused", "Unsuited"] "Refused"
  i_Unsuited : IsOk K mg ["InvalidNumber", "InvalidProgram", "InvalidWorld", "InvalidZone", "InvalidZones", "Refused", "Unsuited"] "Unsuited"
  p__IrImIdIeIsRdUd77 : PlOk K mg ["InvalidNumber", "InvalidProgram", "InvalidWorld", "InvalidZone", "InvalidZones", "Refused", "Unsuited"]
  t_HourError_IrImIdIeIsRdUd77 : TrOk K mg ["InvalidNumber", "InvalidProgram", "InvalidWorld", "InvalidZone", "InvalidZones", "Refused", "Unsuited"] "HourError"
section
variable {P : Program} {w : World} {K : Frag} {mg : Str → Option Value} {base : Heap}
theorem Txt.c_FOLDS (T : Txt K mg w) {X : Cx} (hK : X.K = K := by rfl) (h : X.mg = mg := by rfl) : GlD X "FOLDS" (.tup [(.str "early"), (.str "late"), (.str "refuse")]) := T.v_FOLDS.glD hK h
theorem Txt.c_GAPS (T : Txt K mg w) {X : Cx} (hK : X.K = K := by rfl) (h : X.mg = mg := by rfl) : GlD X "GAPS" (.tup [(.str "ahead"), (.str "behind"), (.str "refuse")]) := T.v_GAPS.glD hK h
theorem Txt.c_MADE (T : Txt K mg w) {X : Cx} (hK : X.K = K := by rfl) (h : X.mg = mg := by rfl) (hw : X.w = w := by rfl) : GlT X.K X.w X.mg "MADE" [("read", (.str "reading")), ("find", (.str "moment")), ("offset", (.str "span")), ("edition", (.str "moment")), ("plus", (.str "reading")), ("less", (.str "moment"))] := by
  rw [hK, h, hw]
  exact T.v_MADE
theorem Txt.c_MOST_MINUTES (T : Txt K mg w) {X : Cx} (h : X.mg = mg := by rfl) : GlD X "MOST_MINUTES" (.int 100000) := by
  obtain ⟨t, e⟩ := T.v_MOST_MINUTES
  exact ⟨_, .int _, by rw [h]; exact e, ⟨t, rfl⟩, fun _ _ _ => .int _⟩
theorem Txt.c_MOST_OFFSET (T : Txt K mg w) {X : Cx} (h : X.mg = mg := by rfl) : GlD X "MOST_OFFSET" (.int 900) := by
  obtain ⟨t, e⟩ := T.v_MOST_OFFSET
  exact ⟨_, .int _, by rw [h]; exact e, ⟨t, rfl⟩, fun _ _ _ => .int _⟩
theorem Txt.c_MOST_SPACING (T : Txt K mg w) {X : Cx} (h : X.mg = mg := by rfl) : GlD X "MOST_SPACING" (.int 1000000) := by
  obtain ⟨t, e⟩ := T.v_MOST_SPACING
  exact ⟨_, .int _, by rw [h]; exact e, ⟨t, rfl⟩, fun _ _ _ => .int _⟩
theorem Txt.c_MOST_STEPS (T : Txt K mg w) {X : Cx} (h : X.mg = mg := by rfl) : GlD X "MOST_STEPS" (.int 8) := by
  obtain ⟨t, e⟩ := T.v_MOST_STEPS
  exact ⟨_, .int _, by rw [h]; exact e, ⟨t, rfl⟩, fun _ _ _ => .int _⟩
theorem Txt.c_PARTS (T : Txt K mg w) {X : Cx} (hK : X.K = K := by rfl) (h : X.mg = mg := by rfl) (hw : X.w = w := by rfl) : GlT X.K X.w X.mg "PARTS" [("read", (.tup [(.str "moment"), (.str "place")])), ("find", (.tup [(.str "reading"), (.str "place"), (.str "fold"), (.str "gap")])), ("offset", (.tup [(.str "moment"), (.str "place")])), ("edition", (.tup [(.str "moment"), (.str "place")])), ("plus", (.tup [(.str "moment"), (.str "span")])), ("less", (.tup [(.str "reading"), (.str "span")])), ("add", (.tup [(.str "point"), (.str "minutes")]))] := by
  rw [hK, h, hw]
  exact T.v_PARTS
abbrev s_is_integer : Stmt := top 16
theorem sc_is_integer : FnScope ["value"] ["value"] (defScope s_is_integer) := ⟨rfl, rfl, rfl, by decide +kernel, rfl, by decide +kernel, by decide +kernel⟩
theorem fn_is_integer (T : Txt K mg w) {f : Addr} {fd : FuncData} (hm : mg "is_integer" = some (.ref f)) (F : Fun K "is_integer" "is_integer" s_is_integer f fd) : FnD P w K mg base 1 "is_integer" s_is_integer ["value"] m_is_integer := by
  refine fnd_mk (np := 1) (nN := 1) (k := 0) hm F (F.binds fun _ _ _ _ _ _ us hl => match us, hl with | [_], _ => rfl) sc_is_integer rfl rfl fun cdv A outer s H E hr => ?_
  have tk : Takes (cxOf (L2.CX P w) P w K mg base ["value"] "is_integer" (defScope s_is_integer) f cdv A outer s H E) (fun cls d _ H => E cls d H) := takes_of rfl rfl rfl rfl
  exact (dss_one (ds_ret (d_and (d_isi .int (d_var 0) T.n_isinstance T.n_int) (d_one (d_not (d_isi .bl (d_var 0) T.n_isinstance T.n_bool))))))
abbrev s_is_zone : Stmt := top 17
theorem sc_is_zone : FnScope ["value", "offsets", "spacing", "offset", "k"] ["value"] (defScope s_is_zone) := ⟨rfl, rfl, rfl, by decide +kernel, rfl, by decide +kernel, by decide +kernel⟩
theorem fn_is_zone (T : Txt K mg w) {f : Addr} {fd : FuncData} (hm : mg "is_zone" = some (.ref f)) (F : Fun K "is_zone" "is_zone" s_is_zone f fd) (G_is_integer : FnD P w K mg base 1 "is_integer" s_is_integer ["value"] m_is_integer) : FnD P w K mg base 2 "is_zone" s_is_zone ["value"] m_is_zone := by
  refine fnd_mk (np := 1) (nN := 5) (k := 1) hm F (F.binds fun _ _ _ _ _ _ us hl => match us, hl with | [_], _ => rfl) sc_is_zone rfl rfl fun cdv A outer s H E hr => ?_
  have tk : Takes (cxOf (L2.CX P w) P w K mg base ["value", "offsets", "spacing", "offset", "k"] "is_zone" (defScope s_is_zone) f cdv A outer s H E) (fun cls d _ H => E cls d H) := takes_of rfl rfl rfl rfl
  exact (dss_cons (ds_if (DT.w (dw_or (dt_not (dt_val (d_isi .tup (d_var 0) T.n_isinstance T.n_tuple))) (dw_or1 (dt_cmp (op_neA hr.units) o_ne (d_callB call_len c_len T.n_len (da_cons (d_var 0) da_nil)) d_int)))) (dss_one (ds_ret d_bl)) dss_nil) (dss_cons (ds_asg (d_var 0) (dg_tup rfl (dgs_cons (dg_name 1 sc_is_zone.nd) (dgs_cons (dg_name 2 sc_is_zone.nd) dgs_nil)))) (dss_cons (ds_if (DT.w (dw_or (dt_not (dt_val (d_isi .tup (d_var 1) T.n_isinstance T.n_tuple))) (dw_or1 (dt_not (dt_chain op_le op_le o_le o_le d_int (d_callB call_len c_len T.n_len (da_cons (d_var 1) da_nil)) d_int))))) (dss_one (ds_ret d_bl)) dss_nil) (dss_cons (ds_for (passes_of rfl) rfl (di_seq (d_var 1)) (dg_name 3 sc_is_zone.nd) (dss_one (ds_if (DT.w (dw_or (dt_not (dt_val (d_call G_is_integer hr tk (da_cons (d_var 3) da_nil)))) (dw_or1 (dt_not (dt_chain op_le op_le o_le o_le (d_un un_neg o_neg (d_glob rfl (T.c_MOST_OFFSET))) (d_var 3) (d_glob rfl (T.c_MOST_OFFSET))))))) (dss_one (ds_ret d_bl)) dss_nil))) (dss_cons (ds_for (passes_of rfl) rfl (di_range2 (da_cons d_int (da_cons (d_callB call_len c_len T.n_len (da_cons (d_var 1) da_nil)) da_nil)) T.n_range) (dg_name 4 sc_is_zone.nd) (dss_one (ds_if (dt_cmp op_le o_le (d_ix ix_seq o_ix (d_var 1) (d_var 4)) (d_ix ix_seq o_ix (d_var 1) (d_op op_sub o_sub (d_var 4) d_int))) (dss_one (ds_ret d_bl)) dss_nil))) (dss_one (ds_ret (d_and (d_call G_is_integer hr tk (da_cons (d_var 2) da_nil)) (d_one (d_chain op_lt op_le o_lt o_le (d_op op_sub o_sub (d_ix ix_seq o_ix (d_var 1) (d_fold (d := .int (-1)) (d_un un_neg o_neg d_int) (fun _ _ => rfl))) (d_ix ix_seq o_ix (d_var 1) d_int)) (d_var 2) (d_glob rfl (T.c_MOST_SPACING))))))))))))
abbrev s_is_zones : Stmt := top 18
theorem sc_is_zones : FnScope ["value", "zone"] ["value"] (defScope s_is_zones) := ⟨rfl, rfl, rfl, by decide +kernel, rfl, by decide +kernel, by decide +kernel⟩
theorem fn_is_zones (T : Txt K mg w) {f : Addr} {fd : FuncData} (hm : mg "is_zones" = some (.ref f)) (F : Fun K "is_zones" "is_zones" s_is_zones f fd) (G_is_zone : FnD P w K mg base 2 "is_zone" s_is_zone ["value"] m_is_zone) : FnD P w K mg base 3 "is_zones" s_is_zones ["value"] m_is_zones := by
  refine fnd_mk (np := 1) (nN := 2) (k := 2) hm F (F.binds fun _ _ _ _ _ _ us hl => match us, hl with | [_], _ => rfl) sc_is_zones rfl rfl fun cdv A outer s H E hr => ?_
  have tk : Takes (cxOf (L2.CX P w) P w K mg base ["value", "zone"] "is_zones" (defScope s_is_zones) f cdv A outer s H E) (fun cls d _ H => E cls d H) := takes_of rfl rfl rfl rfl
  exact (dss_cons (ds_if (DT.w (dw_or (dt_not (dt_val (d_isi .tup (d_var 0) T.n_isinstance T.n_tuple))) (dw_or1 (dt_not (dt_chain op_le op_le o_le o_le d_int (d_callB call_len c_len T.n_len (da_cons (d_var 0) da_nil)) d_int))))) (dss_one (ds_ret d_bl)) dss_nil) (dss_one (ds_ret (d_callB (cr_all rfl) c_all T.n_all (da_cons (d_fz (dl_lcA (own := [("zone", 1)]) rfl sc_is_zones.nd (d_var 0) (blkOk_by (own := [("zone", 1)]) (N := ["value", "zone"]) (sc := defScope s_is_zones) (by decide +kernel)) (fun _ _ _ _ _ => (dg_name 1 sc_is_zones.nd)) (fun _ _ _ _ _ => dts_nil) (fun _ _ _ _ _ => (d_call G_is_zone hr takes0 (da_cons (d_var 1) da_nil))))) da_nil)))))
abbrev s_need_zone : Stmt := top 19
theorem sc_need_zone : FnScope ["zone"] ["zone"] (defScope s_need_zone) := ⟨rfl, rfl, rfl, by decide +kernel, rfl, by decide +kernel, by decide +kernel⟩
theorem fn_need_zone (T : Txt K mg w) {f : Addr} {fd : FuncData} (hm : mg "need_zone" = some (.ref f)) (F : Fun K "need_zone" "need_zone" s_need_zone f fd) (G_is_zone : FnD P w K mg base 2 "is_zone" s_is_zone ["value"] m_is_zone) : FnD P w K mg base 3 "need_zone" s_need_zone ["zone"] m_need_zone := by
  refine fnd_mk (np := 1) (nN := 1) (k := 2) hm F (F.binds fun _ _ _ _ _ _ us hl => match us, hl with | [_], _ => rfl) sc_need_zone rfl rfl fun cdv A outer s H E hr => ?_
  have tk : Takes (cxOf (L2.CX P w) P w K mg base ["zone"] "need_zone" (defScope s_need_zone) f cdv A outer s H E) (fun cls d _ H => E cls d H) := takes_of rfl rfl rfl rfl
  exact (dss_one (ds_if (dt_not (dt_val (d_call G_is_zone hr tk (da_cons (d_var 0) da_nil)))) (dss_one (ds_raise T.x_InvalidZone rfl tk)) dss_nil))
abbrev s_need_zones : Stmt := top 20
theorem sc_need_zones : FnScope ["zones"] ["zones"] (defScope s_need_zones) := ⟨rfl, rfl, rfl, by decide +kernel, rfl, by decide +kernel, by decide +kernel⟩
theorem fn_need_zones (T : Txt K mg w) {f : Addr} {fd : FuncData} (hm : mg "need_zones" = some (.ref f)) (F : Fun K "need_zones" "need_zones" s_need_zones f fd) (G_is_zones : FnD P w K mg base 3 "is_zones" s_is_zones ["value"] m_is_zones) : FnD P w K mg base 4 "need_zones" s_need_zones ["zones"] m_need_zones := by
  refine fnd_mk (np := 1) (nN := 1) (k := 3) hm F (F.binds fun _ _ _ _ _ _ us hl => match us, hl with | [_], _ => rfl) sc_need_zones rfl rfl fun cdv A outer s H E hr => ?_
  have tk : Takes (cxOf (L2.CX P w) P w K mg base ["zones"] "need_zones" (defScope s_need_zones) f cdv A outer s H E) (fun cls d _ H => E cls d H) := takes_of rfl rfl rfl rfl
  exact (dss_one (ds_if (dt_not (dt_val (d_call G_is_zones hr tk (da_cons (d_var 0) da_nil)))) (dss_one (ds_raise T.x_InvalidZones rfl tk)) dss_nil))
abbrev s_need_number : Stmt := top 21
theorem sc_need_number : FnScope ["number"] ["number"] (defScope s_need_number) := ⟨rfl, rfl, rfl, by decide +kernel, rfl, by decide +kernel, by decide +kernel⟩
theorem fn_need_number (T : Txt K mg w) {f : Addr} {fd : FuncData} (hm : mg "need_number" = some (.ref f)) (F : Fun K "need_number" "need_number" s_need_number f fd) (G_is_integer : FnD P w K mg base 1 "is_integer" s_is_integer ["value"] m_is_integer) : FnD P w K mg base 2 "need_number" s_need_number ["number"] m_need_number := by
  refine fnd_mk (np := 1) (nN := 1) (k := 1) hm F (F.binds fun _ _ _ _ _ _ us hl => match us, hl with | [_], _ => rfl) sc_need_number rfl rfl fun cdv A outer s H E hr => ?_
  have tk : Takes (cxOf (L2.CX P w) P w K mg base ["number"] "need_number" (defScope s_need_number) f cdv A outer s H E) (fun cls d _ H => E cls d H) := takes_of rfl rfl rfl rfl
  exact (dss_one (ds_if (dt_not (dt_val (d_call G_is_integer hr tk (da_cons (d_var 0) da_nil)))) (dss_one (ds_raise T.x_InvalidNumber rfl tk)) dss_nil))
abbrev s_is_offset : Stmt := top 22
theorem sc_is_offset : FnScope ["zone", "value"] ["zone", "value"] (defScope s_is_offset) := ⟨rfl, rfl, rfl, by decide +kernel, rfl, by decide +kernel, by decide +kernel⟩
theorem fn_is_offset (T : Txt K mg w) {f : Addr} {fd : FuncData} (hm : mg "is_offset" = some (.ref f)) (F : Fun K "is_offset" "is_offset" s_is_offset f fd) (G_is_integer : FnD P w K mg base 1 "is_integer" s_is_integer ["value"] m_is_integer) : FnD P w K mg base 2 "is_offset" s_is_offset ["zone", "value"] m_is_offset := by
  refine fnd_mk (np := 2) (nN := 2) (k := 1) hm F (F.binds fun _ _ _ _ _ _ us hl => match us, hl with | [_, _], _ => rfl) sc_is_offset rfl rfl fun cdv A outer s H E hr => ?_
  have tk : Takes (cxOf (L2.CX P w) P w K mg base ["zone", "value"] "is_offset" (defScope s_is_offset) f cdv A outer s H E) (fun cls d _ H => E cls d H) := takes_of rfl rfl rfl rfl
  exact (dss_one (ds_ret (d_and (d_call G_is_integer hr tk (da_cons (d_var 1) da_nil)) (d_one (d_cmp op_in_seq o_in (d_var 1) (d_ix ix_seq o_ix (d_var 0) d_int) (by rfl))))))
abbrev s_need_rules : Stmt := top 23
theorem sc_need_rules : FnScope ["fold", "gap"] ["fold", "gap"] (defScope s_need_rules) := ⟨rfl, rfl, rfl, by decide +kernel, rfl, by decide +kernel, by decide +kernel⟩
theorem fn_need_rules (T : Txt K mg w) {f : Addr} {fd : FuncData} (hm : mg "need_rules" = some (.ref f)) (F : Fun K "need_rules" "need_rules" s_need_rules f fd) : FnD P w K mg base 1 "need_rules" s_need_rules ["fold", "gap"] m_need_rules := by
  refine fnd_mk (np := 2) (nN := 2) (k := 0) hm F (F.binds fun _ _ _ _ _ _ us hl => match us, hl with | [_, _], _ => rfl) sc_need_rules rfl rfl fun cdv A outer s H E hr => ?_
  have tk : Takes (cxOf (L2.CX P w) P w K mg base ["fold", "gap"] "need_rules" (defScope s_need_rules) f cdv A outer s H E) (fun cls d _ H => E cls d H) := takes_of rfl rfl rfl rfl
  exact (dss_cons (ds_if (DT.w (dw_or (dt_not (dt_val (d_isi .str (d_var 0) T.n_isinstance T.n_str))) (dw_or1 (dt_cmp op_notIn_seq o_in (d_var 0) (d_glob rfl (T.c_FOLDS)) (by rfl))))) (dss_one (ds_raise T.x_InvalidRule rfl tk)) dss_nil) (dss_one (ds_if (DT.w (dw_or (dt_not (dt_val (d_isi .str (d_var 1) T.n_isinstance T.n_str))) (dw_or1 (dt_cmp op_notIn_seq o_in (d_var 1) (d_glob rfl (T.c_GAPS)) (by rfl))))) (dss_one (ds_raise T.x_InvalidRule rfl tk)) dss_nil)))
abbrev s_is_mark : Stmt := top 24
theorem sc_is_mark : FnScope ["zone", "value"] ["zone", "value"] (defScope s_is_mark) := ⟨rfl, rfl, rfl, by decide +kernel, rfl, by decide +kernel, by decide +kernel⟩
theorem fn_is_mark (T : Txt K mg w) {f : Addr} {fd : FuncData} (hm : mg "is_mark" = some (.ref f)) (F : Fun K "is_mark" "is_mark" s_is_mark f fd) (G_is_integer : FnD P w K mg base 1 "is_integer" s_is_integer ["value"] m_is_integer) (G_is_offset : FnD P w K mg base 2 "is_offset" s_is_offset ["zone", "value"] m_is_offset) : FnD P w K mg base 3 "is_mark" s_is_mark ["zone", "value"] m_is_mark := by
  refine fnd_mk (np := 2) (nN := 2) (k := 2) hm F (F.binds fun _ _ _ _ _ _ us hl => match us, hl with | [_, _], _ => rfl) sc_is_mark rfl rfl fun cdv A outer s H E hr => ?_
  have tk : Takes (cxOf (L2.CX P w) P w K mg base ["zone", "value"] "is_mark" (defScope s_is_mark) f cdv A outer s H E) (fun cls d _ H => E cls d H) := takes_of rfl rfl rfl rfl
  exact (dss_one (ds_ret (d_and (d_isi .tup (d_var 1) T.n_isinstance T.n_tuple) (d_and (d_cmp (op_eqA hr.units) o_eq (d_callB call_len c_len T.n_len (da_cons (d_var 1) da_nil)) d_int) (d_and (d_call G_is_integer hr tk (da_cons (d_ix ix_seq o_ix (d_var 1) d_int) da_nil)) (d_one (d_call G_is_offset hr tk (da_cons (d_var 0) (da_cons (d_ix ix_seq o_ix (d_var 1) d_int) da_nil)))))))))
abbrev s_is_table : Stmt := top 25
theorem sc_is_table : FnScope ["zone", "value", "held", "jumps", "k", "jump"] ["zone", "value"] (defScope s_is_table) := ⟨rfl, rfl, rfl, by decide +kernel, rfl, by decide +kernel, by decide +kernel⟩
theorem fn_is_table (T : Txt K mg w) {f : Addr} {fd : FuncData} (hm : mg "is_table" = some (.ref f)) (F : Fun K "is_table" "is_table" s_is_table f fd) (G_is_mark : FnD P w K mg base 3 "is_mark" s_is_mark ["zone", "value"] m_is_mark) (G_is_offset : FnD P w K mg base 2 "is_offset" s_is_offset ["zone", "value"] m_is_offset) (G_need_zone : FnD P w K mg base 3 "need_zone" s_need_zone ["zone"] m_need_zone) : FnD P w K mg base 4 "is_table" s_is_table ["zone", "value"] m_is_table := by
  refine fnd_mk (np := 2) (nN := 6) (k := 3) hm F (F.binds fun _ _ _ _ _ _ us hl => match us, hl with | [_, _], _ => rfl) sc_is_table rfl rfl fun cdv A outer s H E hr => ?_
  have tk : Takes (cxOf (L2.CX P w) P w K mg base ["zone", "value", "held", "jumps", "k", "jump"] "is_table" (defScope s_is_table) f cdv A outer s H E) (fun cls d _ H => E cls d H) := takes_of rfl rfl rfl rfl
  exact (dss_cons (ds_expr (d_call G_need_zone hr tk (da_cons (d_var 0) da_nil))) (dss_cons (ds_if (DT.w (dw_or (dt_not (dt_val (d_isi .tup (d_var 1) T.n_isinstance T.n_tuple))) (dw_or (dt_cmp (op_neA hr.units) o_ne (d_callB call_len c_len T.n_len (da_cons (d_var 1) da_nil)) d_int) (dw_or1 (dt_not (dt_val (d_call G_is_offset hr tk (da_cons (d_var 0) (da_cons (d_ix ix_seq o_ix (d_var 1) d_int) da_nil))))))))) (dss_one (ds_ret d_bl)) dss_nil) (dss_cons (ds_asg (d_var 1) (dg_tup rfl (dgs_cons (dg_name 2 sc_is_table.nd) (dgs_cons (dg_name 3 sc_is_table.nd) dgs_nil)))) (dss_cons (ds_if (dt_not (dt_val (d_isi .tup (d_var 3) T.n_isinstance T.n_tuple))) (dss_one (ds_ret d_bl)) dss_nil) (dss_cons (ds_for (passes_of rfl) rfl (di_enum (d_var 3) T.n_enumerate) (dg_tup rfl (dgs_cons (dg_name 4 sc_is_table.nd) (dgs_cons (dg_name 5 sc_is_table.nd) dgs_nil))) (dss_cons (ds_if (DT.w (dw_or (dt_not (dt_val (d_call G_is_mark hr tk (da_cons (d_var 0) (da_cons (d_var 5) da_nil))))) (dw_or1 (dt_cmp (op_eqA hr.units) o_eq (d_ix ix_seq o_ix (d_var 5) d_int) (d_var 2))))) (dss_one (ds_ret d_bl)) dss_nil) (dss_cons (ds_if (DT.w (dw_and (dt_cmp op_gt o_gt (d_var 4) d_int) (dw_and1 (dt_cmp op_lt o_lt (d_op op_sub o_sub (d_ix ix_seq o_ix (d_var 5) d_int) (d_ix ix_seq o_ix (d_ix ix_seq o_ix (d_var 3) (d_op op_sub o_sub (d_var 4) d_int)) d_int)) (d_ix ix_seq o_ix (d_var 0) d_int))))) (dss_one (ds_ret d_bl)) dss_nil) (dss_one (ds_set 2 sc_is_table.nd (d_ix ix_seq o_ix (d_var 5) d_int)))))) (dss_one (ds_ret d_bl)))))))
abbrev s_need_table : Stmt := top 26
theorem sc_need_table : FnScope ["zone", "table"] ["zone", "table"] (defScope s_need_table) := ⟨rfl, rfl, rfl, by decide +kernel, rfl, by decide +kernel, by decide +kernel⟩
theorem fn_need_table (T : Txt K mg w) {f : Addr} {fd : FuncData} (hm : mg "need_table" = some (.ref f)) (F : Fun K "need_table" "need_table" s_need_table f fd) (G_is_table : FnD P w K mg base 4 "is_table" s_is_table ["zone", "value"] m_is_table) : FnD P w K mg base 5 "need_table" s_need_table ["zone", "table"] m_need_table := by
  refine fnd_mk (np := 2) (nN := 2) (k := 4) hm F (F.binds fun _ _ _ _ _ _ us hl => match us, hl with | [_, _], _ => rfl) sc_need_table rfl rfl fun cdv A outer s H E hr => ?_
  have tk : Takes (cxOf (L2.CX P w) P w K mg base ["zone", "table"] "need_table" (defScope s_need_table) f cdv A outer s H E) (fun cls d _ H => E cls d H) := takes_of rfl rfl rfl rfl
  exact (dss_one (ds_if (dt_not (dt_val (d_call G_is_table hr tk (da_cons (d_var 0) (da_cons (d_var 1) da_nil))))) (dss_one (ds_raise T.x_InvalidTable rfl tk)) dss_nil))
abbrev s_offset_in : Stmt := top 27
theorem sc_offset_in : FnScope ["table", "moment", "held", "at", "offset"] ["table", "moment"] (defScope s_offset_in) := ⟨rfl, rfl, rfl, by decide +kernel, rfl, by decide +kernel, by decide +kernel⟩
theorem fn_offset_in (T : Txt K mg w) {f : Addr} {fd : FuncData} (hm : mg "offset_in" = some (.ref f)) (F : Fun K "offset_in" "offset_in" s_offset_in f fd) : FnD P w K mg base 1 "offset_in" s_offset_in ["table", "moment"] m_offset_in := by
  refine fnd_mk (np := 2) (nN := 5) (k := 0) hm F (F.binds fun _ _ _ _ _ _ us hl => match us, hl with | [_, _], _ => rfl) sc_offset_in rfl rfl fun cdv A outer s H E hr => ?_
  have tk : Takes (cxOf (L2.CX P w) P w K mg base ["table", "moment", "held", "at", "offset"] "offset_in" (defScope s_offset_in) f cdv A outer s H E) (fun cls d _ H => E cls d H) := takes_of rfl rfl rfl rfl
  exact (dss_cons (ds_set 2 sc_offset_in.nd (d_ix ix_seq o_ix (d_var 0) d_int)) (dss_cons (ds_for (passes_of rfl) rfl (di_seq (d_ix ix_seq o_ix (d_var 0) d_int)) (dg_tup rfl (dgs_cons (dg_name 3 sc_offset_in.nd) (dgs_cons (dg_name 4 sc_offset_in.nd) dgs_nil))) (dss_cons (ds_if (dt_cmp op_gt o_gt (d_var 3) (d_var 1)) (dss_one ds_break) dss_nil) (dss_one (ds_set 2 sc_offset_in.nd (d_var 4))))) (dss_one (ds_ret (d_var 2)))))
abbrev s_offset_at : Stmt := top 28
theorem sc_offset_at : FnScope ["zone", "table", "moment"] ["zone", "table", "moment"] (defScope s_offset_at) := ⟨rfl, rfl, rfl, by decide +kernel, rfl, by decide +kernel, by decide +kernel⟩
theorem fn_offset_at (T : Txt K mg w) {f : Addr} {fd : FuncData} (hm : mg "offset_at" = some (.ref f)) (F : Fun K "offset_at" "offset_at" s_offset_at f fd) (G_offset_in : FnD P w K mg base 1 "offset_in" s_offset_in ["table", "moment"] m_offset_in) (G_need_number : FnD P w K mg base 2 "need_number" s_need_number ["number"] m_need_number) (G_need_table : FnD P w K mg base 5 "need_table" s_need_table ["zone", "table"] m_need_table) (G_need_zone : FnD P w K mg base 3 "need_zone" s_need_zone ["zone"] m_need_zone) : FnD P w K mg base 6 "offset_at" s_offset_at ["zone", "table", "moment"] m_offset_at := by
  refine fnd_mk (np := 3) (nN := 3) (k := 5) hm F (F.binds fun _ _ _ _ _ _ us hl => match us, hl with | [_, _, _], _ => rfl) sc_offset_at rfl rfl fun cdv A outer s H E hr => ?_
  have tk : Takes (cxOf (L2.CX P w) P w K mg base ["zone", "table", "moment"] "offset_at" (defScope s_offset_at) f cdv A outer s H E) (fun cls d _ H => E cls d H) := takes_of rfl rfl rfl rfl
  exact (dss_cons (ds_expr (d_call G_need_zone hr tk (da_cons (d_var 0) da_nil))) (dss_cons (ds_expr (d_call G_need_table hr tk (da_cons (d_var 0) (da_cons (d_var 1) da_nil)))) (dss_cons (ds_expr (d_call G_need_number hr tk (da_cons (d_var 2) da_nil))) (dss_one (ds_ret (d_call G_offset_in hr tk (da_cons (d_var 1) (da_cons (d_var 2) da_nil))))))))
abbrev s_reading_at : Stmt := top 29
theorem sc_reading_at : FnScope ["zone", "table", "moment"] ["zone", "table", "moment"] (defScope s_reading_at) := ⟨rfl, rfl, rfl, by decide +kernel, rfl, by decide +kernel, by decide +kernel⟩
theorem fn_reading_at (T : Txt K mg w) {f : Addr} {fd : FuncData} (hm : mg "reading_at" = some (.ref f)) (F : Fun K "reading_at" "reading_at" s_reading_at f fd) (G_offset_at : FnD P w K mg base 6 "offset_at" s_offset_at ["zone", "table", "moment"] m_offset_at) : FnD P w K mg base 7 "reading_at" s_reading_at ["zone", "table", "moment"] m_reading_at := by
  refine fnd_mk (np := 3) (nN := 3) (k := 6) hm F (F.binds fun _ _ _ _ _ _ us hl => match us, hl with | [_, _, _], _ => rfl) sc_reading_at rfl rfl fun cdv A outer s H E hr => ?_
  have tk : Takes (cxOf (L2.CX P w) P w K mg base ["zone", "table", "moment"] "reading_at" (defScope s_reading_at) f cdv A outer s H E) (fun cls d _ H => E cls d H) := takes_of rfl rfl rfl rfl
  exact (dss_one (ds_ret (d_op op_addD o_add (d_var 2) (d_call G_offset_at hr tk (da_cons (d_var 0) (da_cons (d_var 1) (da_cons (d_var 2) da_nil)))))))
abbrev s_found_by : Stmt := top 30
theorem sc_found_by : FnScope ["offsets", "held", "reading", "fold", "gap", "moments", "offset"] ["offsets", "held", "reading", "fold", "gap"] (defScope s_found_by) := ⟨rfl, rfl, rfl, by decide +kernel, rfl, by decide +kernel, by decide +kernel⟩
theorem fn_found_by (T : Txt K mg w) {f : Addr} {fd : FuncData} (hm : mg "found_by" = some (.ref f)) (F : Fun K "found_by" "found_by" s_found_by f fd) : FnD P w K mg base 1 "found_by" s_found_by ["offsets", "held", "reading", "fold", "gap"] m_found_by := by
  refine fnd_mk (np := 5) (nN := 7) (k := 0) hm F (F.binds fun _ _ _ _ _ _ us hl => match us, hl with | [_, _, _, _, _], _ => rfl) sc_found_by rfl rfl fun cdv A outer s H E hr => ?_
  have tk : Takes (cxOf (L2.CX P w) P w K mg base ["offsets", "held", "reading", "fold", "gap", "moments", "offset"] "found_by" (defScope s_found_by) f cdv A outer s H E) (fun cls d _ H => E cls d H) := takes_of rfl rfl rfl rfl
  exact (dss_cons (ds_setLcA (mw := mFz) 5 (own := [("offset", 6)]) (rd_fz) rfl sc_found_by.nd (d_back (d_var 0)) (blkOk_by (own := [("offset", 6)]) (N := ["offsets", "held", "reading", "fold", "gap", "moments", "offset"]) (sc := defScope s_found_by) (by decide +kernel)) (fun _ _ _ _ _ => (dg_name 6 sc_found_by.nd)) (fun _ _ _ _ _ => (dts_one (dt_cmp (op_eqA hr.units) o_eq (d_dix hr.units (d_var 1) (d_op op_sub o_sub (d_var 2) (d_var 6))) (d_var 6)))) (fun _ _ _ _ _ => (d_op op_sub o_sub (d_var 2) (d_var 6)))) (dss_cons (ds_if (dt_cmp (op_eqA hr.units) o_eq (d_callB call_len c_len T.n_len (da_cons (d_var 5) da_nil)) d_int) (dss_one (ds_ret (d_ix ix_seq o_ix (d_var 5) d_int))) dss_nil) (dss_cons (ds_if (dt_cmp (op_eqA hr.units) o_eq (d_callB call_len c_len T.n_len (da_cons (d_var 5) da_nil)) d_int) (dss_cons (ds_if (dt_cmp (op_eqA hr.units) o_eq (d_var 3) d_str) (dss_one (ds_ret d_non)) dss_nil) (dss_one (ds_ret (d_ifExp (dt_cmp (op_eqA hr.units) o_eq (d_var 3) d_str) (d_ix ix_seq o_ix (d_var 5) d_int) (d_ix ix_seq o_ix (d_var 5) d_int))))) dss_nil) (dss_cons (ds_if (dt_cmp (op_eqA hr.units) o_eq (d_var 4) d_str) (dss_one (ds_ret d_non)) dss_nil) (dss_cons (ds_if (dt_cmp (op_eqA hr.units) o_eq (d_var 4) d_str) (dss_one (ds_ret (d_op op_sub o_sub (d_var 2) (d_dix hr.units (d_var 1) (d_op op_sub o_sub (d_var 2) (d_ix ix_seq o_ix (d_var 0) (d_fold (d := .int (-1)) (d_un un_neg o_neg d_int) (fun _ _ => rfl)))))))) dss_nil) (dss_one (ds_ret (d_op op_sub o_sub (d_var 2) (d_dix hr.units (d_var 1) (d_op op_sub o_sub (d_var 2) (d_ix ix_seq o_ix (d_var 0) d_int)))))))))))
abbrev s_find_moment : Stmt := top 31
theorem sc_find_moment : FnScope ["zone", "table", "reading", "fold", "gap", "held", "offset"] ["zone", "table", "reading", "fold", "gap"] (defScope s_find_moment) := ⟨rfl, rfl, rfl, by decide +kernel, rfl, by decide +kernel, by decide +kernel⟩
theorem fn_find_moment (T : Txt K mg w) {f : Addr} {fd : FuncData} (hm : mg "find_moment" = some (.ref f)) (F : FunD K "find_moment" "find_moment" (defArgs s_find_moment) (defBody s_find_moment) (defScope s_find_moment) [] [("fold", (V.str "early")), ("gap", (V.str "ahead"))] f fd) (G_found_by : FnD P w K mg base 1 "found_by" s_found_by ["offsets", "held", "reading", "fold", "gap"] m_found_by) (G_offset_in : FnD P w K mg base 1 "offset_in" s_offset_in ["table", "moment"] m_offset_in) (G_need_rules : FnD P w K mg base 1 "need_rules" s_need_rules ["fold", "gap"] m_need_rules) (G_need_number : FnD P w K mg base 2 "need_number" s_need_number ["number"] m_need_number) (G_need_table : FnD P w K mg base 5 "need_table" s_need_table ["zone", "table"] m_need_table) (G_need_zone : FnD P w K mg base 3 "need_zone" s_need_zone ["zone"] m_need_zone) : FnDD P w K mg base 6 "find_moment" s_find_moment [] [("fold", (V.str "early")), ("gap", (V.str "ahead"))] ["zone", "table", "reading", "fold", "gap"] m_find_moment := by
  refine fndd_mk (np := 5) (nN := 7) (k := 5) hm F sc_find_moment rfl rfl fun cdv A outer s H E hr => ?_
  have tk : Takes (cxOf (L2.CX P w) P w K mg base ["zone", "table", "reading", "fold", "gap", "held", "offset"] "find_moment" (defScope s_find_moment) f cdv A outer s H E) (fun cls d _ H => E cls d H) := takes_of rfl rfl rfl rfl
  exact (dss_cons (ds_expr (d_call G_need_zone hr tk (da_cons (d_var 0) da_nil))) (dss_cons (ds_expr (d_call G_need_table hr tk (da_cons (d_var 0) (da_cons (d_var 1) da_nil)))) (dss_cons (ds_expr (d_call G_need_number hr tk (da_cons (d_var 2) da_nil))) (dss_cons (ds_expr (d_call G_need_rules hr tk (da_cons (d_var 3) (da_cons (d_var 4) da_nil)))) (dss_cons (ds_setDc 5 (own := [("offset", 6)]) rfl sc_find_moment.nd (d_ix ix_seq o_ix (d_var 0) d_int) (blkOk_by (own := [("offset", 6)]) (N := ["zone", "table", "reading", "fold", "gap", "held", "offset"]) (sc := defScope s_find_moment) (by decide +kernel)) (fun _ _ _ _ _ => (dg_name 6 sc_find_moment.nd)) (fun _ _ _ _ _ => dts_nil) (fun _ _ _ _ _ => (d_op op_sub o_sub (d_var 2) (d_var 6))) (fun _ _ _ _ _ => (d_call G_offset_in hr takes0 (da_cons (d_var 1) (da_cons (d_op op_sub o_sub (d_var 2) (d_var 6)) da_nil))))) (dss_one (ds_ret (d_call G_found_by hr tk (da_cons (d_ix ix_seq o_ix (d_var 0) d_int) (da_cons (d_var 5) (da_cons (d_var 2) (da_cons (d_var 3) (da_cons (d_var 4) da_nil)))))))))))))
abbrev s_is_part : Stmt := top 37
theorem sc_is_part : FnScope ["zones", "before", "part", "value"] ["zones", "before", "part", "value"] (defScope s_is_part) := ⟨rfl, rfl, rfl, by decide +kernel, rfl, by decide +kernel, by decide +kernel⟩
theorem fn_is_part (T : Txt K mg w) {f : Addr} {fd : FuncData} (hm : mg "is_part" = some (.ref f)) (F : Fun K "is_part" "is_part" s_is_part f fd) (G_is_integer : FnD P w K mg base 1 "is_integer" s_is_integer ["value"] m_is_integer) : FnD P w K mg base 2 "is_part" s_is_part ["zones", "before", "part", "value"] m_is_part := by
  refine fnd_mk (np := 4) (nN := 4) (k := 1) hm F (F.binds fun _ _ _ _ _ _ us hl => match us, hl with | [_, _, _, _], _ => rfl) sc_is_part rfl rfl fun cdv A outer s H E hr => ?_
  have tk : Takes (cxOf (L2.CX P w) P w K mg base ["zones", "before", "part", "value"] "is_part" (defScope s_is_part) f cdv A outer s H E) (fun cls d _ H => E cls d H) := takes_of rfl rfl rfl rfl
  exact (dss_cons (ds_if (dt_cmp (op_eqA hr.units) o_eq (d_var 2) d_str) (dss_one (ds_ret (d_and (d_isi .str (d_var 3) T.n_isinstance T.n_str) (d_one (d_cmp op_in_seq o_in (d_var 3) (d_glob rfl (T.c_FOLDS)) (by rfl)))))) dss_nil) (dss_cons (ds_if (dt_cmp (op_eqA hr.units) o_eq (d_var 2) d_str) (dss_one (ds_ret (d_and (d_isi .str (d_var 3) T.n_isinstance T.n_str) (d_one (d_cmp op_in_seq o_in (d_var 3) (d_glob rfl (T.c_GAPS)) (by rfl)))))) dss_nil) (dss_cons (ds_if (dt_not (dt_val (d_call G_is_integer hr tk (da_cons (d_var 3) da_nil)))) (dss_one (ds_ret d_bl)) dss_nil) (dss_cons (ds_if (dt_cmp (op_eqA hr.units) o_eq (d_var 2) d_str) (dss_one (ds_ret (d_chain op_le op_lt o_le o_lt d_int (d_var 3) (d_callB call_len c_len T.n_len (da_cons (d_var 0) da_nil))))) dss_nil) (dss_cons (ds_if (dt_cmp (op_eqA hr.units) o_eq (d_var 2) d_str) (dss_one (ds_ret (d_chain op_le op_le o_le o_le (d_un un_neg o_neg (d_glob rfl (T.c_MOST_MINUTES))) (d_var 3) (d_glob rfl (T.c_MOST_MINUTES))))) dss_nil) (dss_cons (ds_if (dt_not (dt_chain op_le op_lt o_le o_lt d_int (d_var 3) (d_callB call_len c_len T.n_len (da_cons (d_var 1) da_nil)))) (dss_one (ds_ret d_bl)) dss_nil) (dss_cons (ds_if (dt_cmp (op_eqA hr.units) o_eq (d_var 2) d_str) (dss_one (ds_ret (d_cmp (op_neA hr.units) o_ne (d_ix ix_seq o_ix (d_var 1) (d_var 3)) d_str))) dss_nil) (dss_one (ds_ret (d_cmp (op_eqA hr.units) o_eq (d_ix ix_seq o_ix (d_var 1) (d_var 3)) (d_var 2)))))))))))
abbrev s_is_step : Stmt := top 38
theorem sc_is_step : FnScope ["zones", "before", "value", "parts", "k", "part"] ["zones", "before", "value"] (defScope s_is_step) := ⟨rfl, rfl, rfl, by decide +kernel, rfl, by decide +kernel, by decide +kernel⟩
theorem fn_is_step (T : Txt K mg w) {f : Addr} {fd : FuncData} (hm : mg "is_step" = some (.ref f)) (F : Fun K "is_step" "is_step" s_is_step f fd) (G_is_part : FnD P w K mg base 2 "is_part" s_is_part ["zones", "before", "part", "value"] m_is_part) : FnD P w K mg base 3 "is_step" s_is_step ["zones", "before", "value"] m_is_step := by
  refine fnd_mk (np := 3) (nN := 6) (k := 2) hm F (F.binds fun _ _ _ _ _ _ us hl => match us, hl with | [_, _, _], _ => rfl) sc_is_step rfl rfl fun cdv A outer s H E hr => ?_
  have tk : Takes (cxOf (L2.CX P w) P w K mg base ["zones", "before", "value", "parts", "k", "part"] "is_step" (defScope s_is_step) f cdv A outer s H E) (fun cls d _ H => E cls d H) := takes_of rfl rfl rfl rfl
  exact (dss_cons (ds_if (DT.w (dw_or (dt_not (dt_val (d_isi .tup (d_var 2) T.n_isinstance T.n_tuple))) (dw_or1 (dt_cmp (op_eqA hr.units) o_eq (d_callB call_len c_len T.n_len (da_cons (d_var 2) da_nil)) d_int)))) (dss_one (ds_ret d_bl)) dss_nil) (dss_cons (ds_if (DT.w (dw_or (dt_not (dt_val (d_isi .str (d_ix ix_seq o_ix (d_var 2) d_int) T.n_isinstance T.n_str))) (dw_or1 (dt_tbnot rfl (T.c_PARTS) (d_ix ix_seq o_ix (d_var 2) d_int))))) (dss_one (ds_ret d_bl)) dss_nil) (dss_cons (ds_set 3 sc_is_step.nd (d_tbix rfl (T.c_PARTS) (d_ix ix_seq o_ix (d_var 2) d_int))) (dss_cons (ds_if (dt_cmp (op_neA hr.units) o_ne (d_callB call_len c_len T.n_len (da_cons (d_var 2) da_nil)) (d_op op_addD o_add (d_callB call_len c_len T.n_len (da_cons (d_var 3) da_nil)) d_int)) (dss_one (ds_ret d_bl)) dss_nil) (dss_one (ds_ret (d_callB (cr_all rfl) c_all T.n_all (da_cons (d_fz (dl_lc (own := [("k", 4), ("part", 5)]) rfl sc_is_step.nd (di_enum (d_var 3) T.n_enumerate) (blkOk_by (own := [("k", 4), ("part", 5)]) (N := ["zones", "before", "value", "parts", "k", "part"]) (sc := defScope s_is_step) (by decide +kernel)) (fun _ _ _ _ _ => (dg_any rfl (dgs_cons (dg_name 4 sc_is_step.nd) (dgs_cons (dg_name 5 sc_is_step.nd) dgs_nil)))) (fun _ _ _ _ _ => dts_nil) (fun _ _ _ _ _ => (d_call G_is_part hr takes0 (da_cons (d_var 0) (da_cons (d_var 1) (da_cons (d_var 5) (da_cons (d_ix ix_seq o_ix (d_var 2) (d_op op_addD o_add (d_var 4) d_int)) da_nil)))))))) da_nil))))))))
abbrev s_kind_made : Stmt := top 39
theorem sc_kind_made : FnScope ["before", "step"] ["before", "step"] (defScope s_kind_made) := ⟨rfl, rfl, rfl, by decide +kernel, rfl, by decide +kernel, by decide +kernel⟩
theorem fn_kind_made (T : Txt K mg w) {f : Addr} {fd : FuncData} (hm : mg "kind_made" = some (.ref f)) (F : Fun K "kind_made" "kind_made" s_kind_made f fd) : FnD P w K mg base 1 "kind_made" s_kind_made ["before", "step"] m_kind_made := by
  refine fnd_mk (np := 2) (nN := 2) (k := 0) hm F (F.binds fun _ _ _ _ _ _ us hl => match us, hl with | [_, _], _ => rfl) sc_kind_made rfl rfl fun cdv A outer s H E hr => ?_
  have tk : Takes (cxOf (L2.CX P w) P w K mg base ["before", "step"] "kind_made" (defScope s_kind_made) f cdv A outer s H E) (fun cls d _ H => E cls d H) := takes_of rfl rfl rfl rfl
  exact (dss_cons (ds_if (dt_cmp (op_eqA hr.units) o_eq (d_ix ix_seq o_ix (d_var 1) d_int) d_str) (dss_one (ds_ret (d_ix ix_seq o_ix (d_var 0) (d_ix ix_seq o_ix (d_var 1) d_int)))) dss_nil) (dss_one (ds_ret (d_tbix rfl (T.c_MADE) (d_ix ix_seq o_ix (d_var 1) d_int)))))
abbrev s_kinds_of : Stmt := top 40
theorem sc_kinds_of : FnScope ["program", "made", "step"] ["program"] (defScope s_kinds_of) := ⟨rfl, rfl, rfl, by decide +kernel, rfl, by decide +kernel, by decide +kernel⟩
theorem fn_kinds_of (T : Txt K mg w) {f : Addr} {fd : FuncData} (hm : mg "kinds_of" = some (.ref f)) (F : Fun K "kinds_of" "kinds_of" s_kinds_of f fd) (G_kind_made : FnD P w K mg base 1 "kind_made" s_kind_made ["before", "step"] m_kind_made) : FnD P w K mg base 2 "kinds_of" s_kinds_of ["program"] m_kinds_of := by
  refine fnd_mk (np := 1) (nN := 3) (k := 1) hm F (F.binds fun _ _ _ _ _ _ us hl => match us, hl with | [_], _ => rfl) sc_kinds_of rfl rfl fun cdv A outer s H E hr => ?_
  have tk : Takes (cxOf (L2.CX P w) P w K mg base ["program", "made", "step"] "kinds_of" (defScope s_kinds_of) f cdv A outer s H E) (fun cls d _ H => E cls d H) := takes_of rfl rfl rfl rfl
  exact (dss_cons (ds_set 1 sc_kinds_of.nd (d_new (dl_lst (da_cons d_str da_nil)))) (dss_cons (ds_forA (passes_of rfl) rfl (d_var 0) (dg_name 2 sc_kinds_of.nd) (dss_one (ds_app (d_var 1) (d_call G_kind_made hr tk (da_cons (d_var 1) (da_cons (d_var 2) da_nil))) (fun a b => ps_expr (pe_bm PySem.F.plainAttrs_list PySem.F.slot_list_append PySem.F.type_list_append mt_append a (pa_cons b pa_nil)))))) (dss_one (ds_ret (d_var 1)))))
abbrev s_is_program : Stmt := top 41
theorem sc_is_program : FnScope ["zones", "value", "before", "step"] ["zones", "value"] (defScope s_is_program) := ⟨rfl, rfl, rfl, by decide +kernel, rfl, by decide +kernel, by decide +kernel⟩
theorem fn_is_program (T : Txt K mg w) {f : Addr} {fd : FuncData} (hm : mg "is_program" = some (.ref f)) (F : Fun K "is_program" "is_program" s_is_program f fd) (G_kind_made : FnD P w K mg base 1 "kind_made" s_kind_made ["before", "step"] m_kind_made) (G_is_step : FnD P w K mg base 3 "is_step" s_is_step ["zones", "before", "value"] m_is_step) (G_need_zones : FnD P w K mg base 4 "need_zones" s_need_zones ["zones"] m_need_zones) : FnD P w K mg base 5 "is_program" s_is_program ["zones", "value"] m_is_program := by
  refine fnd_mk (np := 2) (nN := 4) (k := 4) hm F (F.binds fun _ _ _ _ _ _ us hl => match us, hl with | [_, _], _ => rfl) sc_is_program rfl rfl fun cdv A outer s H E hr => ?_
  have tk : Takes (cxOf (L2.CX P w) P w K mg base ["zones", "value", "before", "step"] "is_program" (defScope s_is_program) f cdv A outer s H E) (fun cls d _ H => E cls d H) := takes_of rfl rfl rfl rfl
  exact (dss_cons (ds_expr (d_call G_need_zones hr tk (da_cons (d_var 0) da_nil))) (dss_cons (ds_if (DT.w (dw_or (dt_not (dt_val (d_isi .tup (d_var 1) T.n_isinstance T.n_tuple))) (dw_or1 (dt_cmp op_gt o_gt (d_callB call_len c_len T.n_len (da_cons (d_var 1) da_nil)) (d_glob rfl (T.c_MOST_STEPS)))))) (dss_one (ds_ret d_bl)) dss_nil) (dss_cons (ds_set 2 sc_is_program.nd (d_new (dl_lst (da_cons d_str da_nil)))) (dss_cons (ds_forA (passes_of rfl) rfl (d_var 1) (dg_name 3 sc_is_program.nd) (dss_cons (ds_if (dt_not (dt_val (d_call G_is_step hr tk (da_cons (d_var 0) (da_cons (d_var 2) (da_cons (d_var 3) da_nil)))))) (dss_one (ds_ret d_bl)) dss_nil) (dss_one (ds_app (d_var 2) (d_call G_kind_made hr tk (da_cons (d_var 2) (da_cons (d_var 3) da_nil))) (fun a b => ps_expr (pe_bm PySem.F.plainAttrs_list PySem.F.slot_list_append PySem.F.type_list_append mt_append a (pa_cons b pa_nil))))))) (dss_one (ds_ret (d_cmp op_lt o_lt (d_callB call_len c_len T.n_len (da_cons (d_fz (dl_lcA (own := [("step", 3)]) rfl sc_is_program.nd (d_var 1) (blkOk_by (own := [("step", 3)]) (N := ["zones", "value", "before", "step"]) (sc := defScope s_is_program) (by decide +kernel)) (fun _ _ _ _ _ => (dg_name 3 sc_is_program.nd)) (fun _ _ _ _ _ => (dts_one (dt_cmp (op_eqA hr.units) o_eq (d_ix ix_seq o_ix (d_var 3) d_int) d_str))) (fun _ _ _ _ _ => (d_var 3)))) da_nil)) d_int)))))))
abbrev s_need_program : Stmt := top 42
theorem sc_need_program : FnScope ["zones", "program"] ["zones", "program"] (defScope s_need_program) := ⟨rfl, rfl, rfl, by decide +kernel, rfl, by decide +kernel, by decide +kernel⟩
theorem fn_need_program (T : Txt K mg w) {f : Addr} {fd : FuncData} (hm : mg "need_program" = some (.ref f)) (F : Fun K "need_program" "need_program" s_need_program f fd) (G_is_program : FnD P w K mg base 5 "is_program" s_is_program ["zones", "value"] m_is_program) : FnD P w K mg base 6 "need_program" s_need_program ["zones", "program"] m_need_program := by
  refine fnd_mk (np := 2) (nN := 2) (k := 5) hm F (F.binds fun _ _ _ _ _ _ us hl => match us, hl with | [_, _], _ => rfl) sc_need_program rfl rfl fun cdv A outer s H E hr => ?_
  have tk : Takes (cxOf (L2.CX P w) P w K mg base ["zones", "program"] "need_program" (defScope s_need_program) f cdv A outer s H E) (fun cls d _ H => E cls d H) := takes_of rfl rfl rfl rfl
  exact (dss_one (ds_if (dt_not (dt_val (d_call G_is_program hr tk (da_cons (d_var 0) (da_cons (d_var 1) da_nil))))) (dss_one (ds_raise T.x_InvalidProgram rfl tk)) dss_nil))
abbrev s_is_world : Stmt := top 43
theorem sc_is_world : FnScope ["zones", "value", "tables", "place", "zone"] ["zones", "value"] (defScope s_is_world) := ⟨rfl, rfl, rfl, by decide +kernel, rfl, by decide +kernel, by decide +kernel⟩
theorem fn_is_world (T : Txt K mg w) {f : Addr} {fd : FuncData} (hm : mg "is_world" = some (.ref f)) (F : Fun K "is_world" "is_world" s_is_world f fd) (G_is_table : FnD P w K mg base 4 "is_table" s_is_table ["zone", "value"] m_is_table) (G_need_zones : FnD P w K mg base 4 "need_zones" s_need_zones ["zones"] m_need_zones) : FnD P w K mg base 5 "is_world" s_is_world ["zones", "value"] m_is_world := by
  refine fnd_mk (np := 2) (nN := 5) (k := 4) hm F (F.binds fun _ _ _ _ _ _ us hl => match us, hl with | [_, _], _ => rfl) sc_is_world rfl rfl fun cdv A outer s H E hr => ?_
  have tk : Takes (cxOf (L2.CX P w) P w K mg base ["zones", "value", "tables", "place", "zone"] "is_world" (defScope s_is_world) f cdv A outer s H E) (fun cls d _ H => E cls d H) := takes_of rfl rfl rfl rfl
  exact (dss_cons (ds_expr (d_call G_need_zones hr tk (da_cons (d_var 0) da_nil))) (dss_cons (ds_if (DT.w (dw_or (dt_not (dt_val (d_isi .tup (d_var 1) T.n_isinstance T.n_tuple))) (dw_or1 (dt_cmp (op_neA hr.units) o_ne (d_callB call_len c_len T.n_len (da_cons (d_var 1) da_nil)) d_int)))) (dss_one (ds_ret d_bl)) dss_nil) (dss_cons (ds_forA (passes_of rfl) rfl (d_var 1) (dg_name 2 sc_is_world.nd) (dss_cons (ds_if (DT.w (dw_or (dt_not (dt_val (d_isi .tup (d_var 2) T.n_isinstance T.n_tuple))) (dw_or1 (dt_cmp (op_neA hr.units) o_ne (d_callB call_len c_len T.n_len (da_cons (d_var 2) da_nil)) (d_callB call_len c_len T.n_len (da_cons (d_var 0) da_nil)))))) (dss_one (ds_ret d_bl)) dss_nil) (dss_one (ds_if (dt_not (dt_val (d_callB (cr_all rfl) c_all T.n_all (da_cons (d_fz (dl_lc (own := [("place", 3), ("zone", 4)]) rfl sc_is_world.nd (di_enum (d_var 0) T.n_enumerate) (blkOk_by (own := [("place", 3), ("zone", 4)]) (N := ["zones", "value", "tables", "place", "zone"]) (sc := defScope s_is_world) (by decide +kernel)) (fun _ _ _ _ _ => (dg_any rfl (dgs_cons (dg_name 3 sc_is_world.nd) (dgs_cons (dg_name 4 sc_is_world.nd) dgs_nil)))) (fun _ _ _ _ _ => dts_nil) (fun _ _ _ _ _ => (d_call G_is_table hr takes0 (da_cons (d_var 4) (da_cons (d_ix ix_seq o_ix (d_var 2) (d_var 3)) da_nil)))))) da_nil)))) (dss_one (ds_ret d_bl)) dss_nil)))) (dss_one (ds_ret d_bl)))))
abbrev s_need_world : Stmt := top 44
theorem sc_need_world : FnScope ["zones", "world"] ["zones", "world"] (defScope s_need_world) := ⟨rfl, rfl, rfl, by decide +kernel, rfl, by decide +kernel, by decide +kernel⟩
theorem fn_need_world (T : Txt K mg w) {f : Addr} {fd : FuncData} (hm : mg "need_world" = some (.ref f)) (F : Fun K "need_world" "need_world" s_need_world f fd) (G_is_world : FnD P w K mg base 5 "is_world" s_is_world ["zones", "value"] m_is_world) : FnD P w K mg base 6 "need_world" s_need_world ["zones", "world"] m_need_world := by
  refine fnd_mk (np := 2) (nN := 2) (k := 5) hm F (F.binds fun _ _ _ _ _ _ us hl => match us, hl with | [_, _], _ => rfl) sc_need_world rfl rfl fun cdv A outer s H E hr => ?_
  have tk : Takes (cxOf (L2.CX P w) P w K mg base ["zones", "world"] "need_world" (defScope s_need_world) f cdv A outer s H E) (fun cls d _ H => E cls d H) := takes_of rfl rfl rfl rfl
  exact (dss_one (ds_if (dt_not (dt_val (d_call G_is_world hr tk (da_cons (d_var 0) (da_cons (d_var 1) da_nil))))) (dss_one (ds_raise T.x_InvalidWorld rfl tk)) dss_nil))
abbrev s_kinds : Stmt := top 45
theorem sc_kinds : FnScope ["zones", "program"] ["zones", "program"] (defScope s_kinds) := ⟨rfl, rfl, rfl, by decide +kernel, rfl, by decide +kernel, by decide +kernel⟩
theorem fn_kinds (T : Txt K mg w) {f : Addr} {fd : FuncData} (hm : mg "kinds" = some (.ref f)) (F : Fun K "kinds" "kinds" s_kinds f fd) (G_kinds_of : FnD P w K mg base 2 "kinds_of" s_kinds_of ["program"] m_kinds_of) (G_need_program : FnD P w K mg base 6 "need_program" s_need_program ["zones", "program"] m_need_program) (G_need_zones : FnD P w K mg base 4 "need_zones" s_need_zones ["zones"] m_need_zones) : FnD P w K mg base 7 "kinds" s_kinds ["zones", "program"] m_kinds := by
  refine fnd_mk (np := 2) (nN := 2) (k := 6) hm F (F.binds fun _ _ _ _ _ _ us hl => match us, hl with | [_, _], _ => rfl) sc_kinds rfl rfl fun cdv A outer s H E hr => ?_
  have tk : Takes (cxOf (L2.CX P w) P w K mg base ["zones", "program"] "kinds" (defScope s_kinds) f cdv A outer s H E) (fun cls d _ H => E cls d H) := takes_of rfl rfl rfl rfl
  exact (dss_cons (ds_expr (d_call G_need_zones hr tk (da_cons (d_var 0) da_nil))) (dss_cons (ds_expr (d_call G_need_program hr tk (da_cons (d_var 0) (da_cons (d_var 1) da_nil)))) (dss_one (ds_ret (d_call G_kinds_of hr tk (da_cons (d_var 1) da_nil))))))
abbrev s_asked_moments : Stmt := top 46
theorem sc_asked_moments : FnScope ["zones", "step", "values", "base", "offset"] ["zones", "step", "values"] (defScope s_asked_moments) := ⟨rfl, rfl, rfl, by decide +kernel, rfl, by decide +kernel, by decide +kernel⟩
theorem fn_asked_moments (T : Txt K mg w) {f : Addr} {fd : FuncData} (hm : mg "asked_moments" = some (.ref f)) (F : Fun K "asked_moments" "asked_moments" s_asked_moments f fd) : FnD P w K mg base 1 "asked_moments" s_asked_moments ["zones", "step", "values"] m_asked_moments := by
  refine fnd_mk (np := 3) (nN := 5) (k := 0) hm F (F.binds fun _ _ _ _ _ _ us hl => match us, hl with | [_, _, _], _ => rfl) sc_asked_moments rfl rfl fun cdv A outer s H E hr => ?_
  have tk : Takes (cxOf (L2.CX P w) P w K mg base ["zones", "step", "values", "base", "offset"] "asked_moments" (defScope s_asked_moments) f cdv A outer s H E) (fun cls d _ H => E cls d H) := takes_of rfl rfl rfl rfl
  exact (dss_cons (ds_set 3 sc_asked_moments.nd (d_ix ix_seq o_ix (d_var 2) (d_ix ix_seq o_ix (d_var 1) d_int))) (dss_cons (ds_if (DT.w (dw_or (dt_cmp (op_eqA hr.units) o_eq (d_ix ix_seq o_ix (d_var 1) d_int) d_str) (dw_or1 (dt_cmp (op_eqA hr.units) o_eq (d_ix ix_seq o_ix (d_var 1) d_int) d_str)))) (dss_one (ds_ret (d_fz (dl_lst (da_cons (d_var 3) da_nil))))) dss_nil) (dss_cons (ds_if (dt_cmp (op_eqA hr.units) o_eq (d_ix ix_seq o_ix (d_var 1) d_int) d_str) (dss_one (ds_ret (d_fz (dl_lcA (own := [("offset", 4)]) rfl sc_asked_moments.nd (d_backA (d_ix ix_seq o_ix (d_ix ix_seq o_ix (d_var 0) (d_ix ix_seq o_ix (d_var 1) d_int)) d_int)) (blkOk_by (own := [("offset", 4)]) (N := ["zones", "step", "values", "base", "offset"]) (sc := defScope s_asked_moments) (by decide +kernel)) (fun _ _ _ _ _ => (dg_name 4 sc_asked_moments.nd)) (fun _ _ _ _ _ => dts_nil) (fun _ _ _ _ _ => (d_op op_sub o_sub (d_var 3) (d_var 4))))))) dss_nil) (dss_cons (ds_if (dt_cmp (op_eqA hr.units) o_eq (d_ix ix_seq o_ix (d_var 1) d_int) d_str) (dss_one (ds_ret (d_fz (dl_lst (da_cons (d_op op_sub o_sub (d_var 3) d_int) da_nil))))) dss_nil) (dss_one (ds_ret (d_fz (dl_lst da_nil))))))))
abbrev s_value_made : Stmt := top 47
theorem sc_value_made : FnScope ["zones", "step", "values", "held", "base"] ["zones", "step", "values", "held"] (defScope s_value_made) := ⟨rfl, rfl, rfl, by decide +kernel, rfl, by decide +kernel, by decide +kernel⟩
theorem fn_value_made (T : Txt K mg w) {f : Addr} {fd : FuncData} (hm : mg "value_made" = some (.ref f)) (F : Fun K "value_made" "value_made" s_value_made f fd) (G_found_by : FnD P w K mg base 1 "found_by" s_found_by ["offsets", "held", "reading", "fold", "gap"] m_found_by) : FnD P w K mg base 2 "value_made" s_value_made ["zones", "step", "values", "held"] m_value_made := by
  refine fnd_mk (np := 4) (nN := 5) (k := 1) hm F (F.binds fun _ _ _ _ _ _ us hl => match us, hl with | [_, _, _, _], _ => rfl) sc_value_made rfl rfl fun cdv A outer s H E hr => ?_
  have tk : Takes (cxOf (L2.CX P w) P w K mg base ["zones", "step", "values", "held", "base"] "value_made" (defScope s_value_made) f cdv A outer s H E) (fun cls d _ H => E cls d H) := takes_of rfl rfl rfl rfl
  exact (dss_cons (ds_set 4 sc_value_made.nd (d_ix ix_seq o_ix (d_var 2) (d_ix ix_seq o_ix (d_var 1) d_int))) (dss_cons (ds_if (dt_cmp (op_eqA hr.units) o_eq (d_ix ix_seq o_ix (d_var 1) d_int) d_str) (dss_one (ds_ret (d_op op_addD o_add (d_var 4) (d_dix hr.units (d_var 3) (d_var 4))))) dss_nil) (dss_cons (ds_if (dt_cmp (op_eqA hr.units) o_eq (d_ix ix_seq o_ix (d_var 1) d_int) d_str) (dss_one (ds_ret (d_dix hr.units (d_var 3) (d_var 4)))) dss_nil) (dss_cons (ds_if (dt_cmp (op_eqA hr.units) o_eq (d_ix ix_seq o_ix (d_var 1) d_int) d_str) (dss_one (ds_ret (d_call G_found_by hr tk (da_cons (d_ix ix_seq o_ix (d_ix ix_seq o_ix (d_var 0) (d_ix ix_seq o_ix (d_var 1) d_int)) d_int) (da_cons (d_var 3) (da_cons (d_var 4) (da_cons (d_ix ix_seq o_ix (d_var 1) d_int) (da_cons (d_ix ix_seq o_ix (d_var 1) d_int) da_nil)))))))) dss_nil) (dss_cons (ds_if (dt_cmp (op_eqA hr.units) o_eq (d_ix ix_seq o_ix (d_var 1) d_int) d_str) (dss_one (ds_ret (d_var 4))) dss_nil) (dss_cons (ds_if (dt_cmp (op_eqA hr.units) o_eq (d_ix ix_seq o_ix (d_var 1) d_int) d_str) (dss_one (ds_ret (d_op op_addD o_add (d_var 4) (d_ix ix_seq o_ix (d_var 2) (d_ix ix_seq o_ix (d_var 1) d_int))))) dss_nil) (dss_cons (ds_if (dt_cmp (op_eqA hr.units) o_eq (d_ix ix_seq o_ix (d_var 1) d_int) d_str) (dss_one (ds_ret (d_op op_sub o_sub (d_var 4) (d_ix ix_seq o_ix (d_var 2) (d_ix ix_seq o_ix (d_var 1) d_int))))) dss_nil) (dss_one (ds_ret (d_op op_addD o_add (d_var 4) (d_ix ix_seq o_ix (d_var 1) d_int)))))))))))
abbrev s_table_ahead : Stmt := top 48
theorem sc_table_ahead : FnScope ["table", "moment", "jump"] ["table", "moment"] (defScope s_table_ahead) := ⟨rfl, rfl, rfl, by decide +kernel, rfl, by decide +kernel, by decide +kernel⟩
theorem fn_table_ahead (T : Txt K mg w) {f : Addr} {fd : FuncData} (hm : mg "table_ahead" = some (.ref f)) (F : Fun K "table_ahead" "table_ahead" s_table_ahead f fd) : FnD P w K mg base 1 "table_ahead" s_table_ahead ["table", "moment"] m_table_ahead := by
  refine fnd_mk (np := 2) (nN := 3) (k := 0) hm F (F.binds fun _ _ _ _ _ _ us hl => match us, hl with | [_, _], _ => rfl) sc_table_ahead rfl rfl fun cdv A outer s H E hr => ?_
  have tk : Takes (cxOf (L2.CX P w) P w K mg base ["table", "moment", "jump"] "table_ahead" (defScope s_table_ahead) f cdv A outer s H E) (fun cls d _ H => E cls d H) := takes_of rfl rfl rfl rfl
  exact (dss_one (ds_ret (d_tup (da_cons (d_ix ix_seq o_ix (d_var 0) d_int) (da_cons (d_fz (dl_lcA (own := [("jump", 2)]) rfl sc_table_ahead.nd (d_ix ix_seq o_ix (d_var 0) d_int) (blkOk_by (own := [("jump", 2)]) (N := ["table", "moment", "jump"]) (sc := defScope s_table_ahead) (by decide +kernel)) (fun _ _ _ _ _ => (dg_name 2 sc_table_ahead.nd)) (fun _ _ _ _ _ => (dts_one (dt_cmp op_lt o_lt (d_ix ix_seq o_ix (d_var 2) d_int) (d_var 1)))) (fun _ _ _ _ _ => (d_var 2)))) da_nil)))))
abbrev s_run : Stmt := top 49
theorem sc_run : FnScope ["zones", "program", "world", "start", "holding", "values", "index", "step", "now", "place", "held", "moment", "made"] ["zones", "program", "world", "start"] (defScope s_run) := ⟨rfl, rfl, rfl, by decide +kernel, rfl, by decide +kernel, by decide +kernel⟩
theorem fn_run (T : Txt K mg w) {f : Addr} {fd : FuncData} (hm : mg "run" = some (.ref f)) (F : FunD K "run" "run" (defArgs s_run) (defBody s_run) (defScope s_run) [(V.int 0)] [] f fd) (G_value_made : FnD P w K mg base 2 "value_made" s_value_made ["zones", "step", "values", "held"] m_value_made) (G_offset_in : FnD P w K mg base 1 "offset_in" s_offset_in ["table", "moment"] m_offset_in) (G_asked_moments : FnD P w K mg base 1 "asked_moments" s_asked_moments ["zones", "step", "values"] m_asked_moments) (G_table_ahead : FnD P w K mg base 1 "table_ahead" s_table_ahead ["table", "moment"] m_table_ahead) (G_need_number : FnD P w K mg base 2 "need_number" s_need_number ["number"] m_need_number) (G_need_world : FnD P w K mg base 6 "need_world" s_need_world ["zones", "world"] m_need_world) (G_need_program : FnD P w K mg base 6 "need_program" s_need_program ["zones", "program"] m_need_program) (G_need_zones : FnD P w K mg base 4 "need_zones" s_need_zones ["zones"] m_need_zones) (GI_Refused : XiOk P w K mg base 1 "Refused" ["step"]) : FnDD P w K mg base 7 "run" s_run [(V.int 0)] [] ["zones", "program", "world", "start"] m_run := by
  refine fndd_mk (np := 4) (nN := 13) (k := 6) hm F sc_run rfl rfl fun cdv A outer s H E hr => ?_
  have tk : Takes (cxOf (L2.CX P w) P w K mg base ["zones", "program", "world", "start", "holding", "values", "index", "step", "now", "place", "held", "moment", "made"] "run" (defScope s_run) f cdv A outer s H E) (fun cls d _ H => E cls d H) := takes_of rfl rfl rfl rfl
  exact (dss_cons (ds_expr (d_call G_need_zones hr tk (da_cons (d_var 0) da_nil))) (dss_cons (ds_expr (d_call G_need_program hr tk (da_cons (d_var 0) (da_cons (d_var 1) da_nil)))) (dss_cons (ds_expr (d_call G_need_world hr tk (da_cons (d_var 0) (da_cons (d_var 2) da_nil)))) (dss_cons (ds_expr (d_call G_need_number hr tk (da_cons (d_var 3) da_nil))) (dss_cons (ds_set 4 sc_run.nd (d_new (dl_callTy call_list_of c_list T.n_list (da_cons (d_ix ix_seq o_ix (d_var 2) d_int) da_nil)))) (dss_cons (ds_set 5 sc_run.nd (d_new (dl_lst (da_cons (d_var 3) da_nil)))) (dss_cons (ds_for (passes_of rfl) rfl (di_enum (d_var 1) T.n_enumerate) (dg_any rfl (dgs_cons (dg_name 6 sc_run.nd) (dgs_cons (dg_name 7 sc_run.nd) dgs_nil))) (dss_cons (ds_if (dt_cmp (op_eqA hr.units) o_eq (d_ix ix_seq o_ix (d_var 7) d_int) d_str) (dss_cons (ds_par 8 9 rfl sc_run.nd (da_cons (d_ix ix_seq o_ix (d_var 5) (d_ix ix_seq o_ix (d_var 7) d_int)) (da_cons (d_ix ix_seq o_ix (d_var 7) d_int) da_nil))) (dss_cons (ds_if (dt_cmp (op_neA hr.units) o_ne (d_call G_table_ahead hr tk (da_cons (d_ix ix_seq o_ix (d_var 4) (d_var 9)) (da_cons (d_var 8) da_nil))) (d_call G_table_ahead hr tk (da_cons (d_ix ix_seq o_ix (d_ix ix_seq o_ix (d_var 2) d_int) (d_var 9)) (da_cons (d_var 8) da_nil)))) (dss_one (ds_raise T.x_Unsuited rfl tk)) dss_nil) (dss_one (ds_setIx (d_ix ix_seq o_ix (d_ix ix_seq o_ix (d_var 2) d_int) (d_var 9)) (d_var 4) (d_var 9))))) dss_nil) (dss_cons (ds_set 10 sc_run.nd d_dnew) (dss_cons (ds_forA (passes_of rfl) rfl (d_call G_asked_moments hr tk (da_cons (d_var 0) (da_cons (d_var 7) (da_cons (d_var 5) da_nil)))) (dg_name 11 sc_run.nd) (dss_one (ds_setDx hr.units (d_call G_offset_in hr tk (da_cons (d_ix ix_seq o_ix (d_var 4) (d_ix ix_seq o_ix (d_var 7) d_int)) (da_cons (d_var 11) da_nil))) (d_var 10) (d_var 11)))) (dss_cons (ds_set 12 sc_run.nd (d_call G_value_made hr tk (da_cons (d_var 0) (da_cons (d_var 7) (da_cons (d_var 5) (da_cons (d_var 10) da_nil)))))) (dss_cons (ds_if (dt_cmp op_isN o_isN (d_var 12) d_non) (dss_one (ds_raiseX GI_Refused rfl hr tk (da_cons (d_var 6) da_nil))) dss_nil) (dss_one (ds_app (d_var 5) (d_var 12) (fun a b => ps_expr (pe_bm PySem.F.plainAttrs_list PySem.F.slot_list_append PySem.F.type_list_append mt_append a (pa_cons b pa_nil))))))))))) (dss_one (ds_ret (d_var 5))))))))))
abbrev s__law_digits : Stmt := top 51
theorem sc__law_digits : FnScope ["_law_cell", "_law_mixed", "_law_full", "_law_k"] ["_law_cell"] (defScope s__law_digits) := ⟨rfl, rfl, rfl, by decide +kernel, rfl, by decide +kernel, by decide +kernel⟩
theorem fn__law_digits (T : Txt K mg w) {f : Addr} {fd : FuncData} (hm : mg "_law_digits" = some (.ref f)) (F : Fun K "_law_digits" "_law_digits" s__law_digits f fd) : FnD P w K mg base 1 "_law_digits" s__law_digits ["_law_cell"] m_law_digits := by
  refine fnd_mk (np := 1) (nN := 4) (k := 0) hm F (F.binds fun _ _ _ _ _ _ us hl => match us, hl with | [_], _ => rfl) sc__law_digits rfl rfl fun cdv A outer s H E hr => ?_
  have tk : Takes (cxOf (L2.CX P w) P w K mg base ["_law_cell", "_law_mixed", "_law_full", "_law_k"] "_law_digits" (defScope s__law_digits) f cdv A outer s H E) (fun cls d _ H => E cls d H) := takes_of rfl rfl rfl rfl
  exact (dss_cons (ds_if (dt_cmp op_ge o_ge (d_var 0) (d_fold (d := .int 1000000000000000000) (d_op op_pow o_pow d_int d_int) (fun _ _ => rfl))) (dss_one (ds_ret (d_new (dl_lst (da_cons (d_op op_sub o_sub (d_var 0) (d_fold (d := .int 1000000000000000000) (d_op op_pow o_pow d_int d_int) (fun _ _ => rfl))) da_nil))))) dss_nil) (dss_cons (ds_set 1 sc__law_digits.nd (d_op op_addD o_add (d_op op_mod o_mod (d_callTy call_int1 c_int1 T.n_int (da_cons (d_var 0) da_nil)) (d_fold (d := .int 100000000000000000000000000000000000133) (d_op op_addD o_add (d_fold (d := .int 100000000000000000000000000000000000000) (d_op op_pow o_pow d_int d_int) (fun _ _ => rfl)) d_int) (fun _ _ => rfl))) d_int)) (dss_cons (ds_set 2 sc__law_digits.nd d_int) (dss_cons (ds_for (passes_of rfl) rfl (di_range1 (da_cons d_int da_nil) T.n_range) (dg_name 3 sc__law_digits.nd) (dss_cons (ds_set 1 sc__law_digits.nd (d_op op_mod o_mod (d_op op_addD o_add (d_op op_addD o_add (d_op op_addD o_add (d_op op_mulW o_mul (d_var 1) (d_var 1)) (d_op op_mulW o_mul d_int (d_var 1))) (d_op op_mulW o_mul d_int (d_var 3))) d_int) (d_fold (d := .int 100000000000000000000000000000000000000009) (d_op op_addD o_add (d_fold (d := .int 100000000000000000000000000000000000000000) (d_op op_pow o_pow d_int d_int) (fun _ _ => rfl)) d_int) (fun _ _ => rfl)))) (dss_one (ds_if (dt_cmp op_gt o_gt (d_var 3) d_int) (dss_one (ds_set 2 sc__law_digits.nd (d_op op_addD o_add (d_op op_mulW o_mul (d_var 2) (d_fold (d := .int 100000000000000000000000000000000000000000) (d_op op_pow o_pow d_int d_int) (fun _ _ => rfl))) (d_var 1)))) dss_nil)))) (dss_one (ds_ret (d_new (dl_lst (da_cons (d_var 2) da_nil)))))))))
abbrev s__law_draw : Stmt := top 52
theorem sc__law_draw : FnScope ["_law_pot", "_law_upto", "_law_digit"] ["_law_pot", "_law_upto"] (defScope s__law_draw) := ⟨rfl, rfl, rfl, by decide +kernel, rfl, by decide +kernel, by decide +kernel⟩
theorem fn__law_draw (T : Txt K mg w) {f : Addr} {fd : FuncData} (hm : mg "_law_draw" = some (.ref f)) (F : Fun K "_law_draw" "_law_draw" s__law_draw f fd) : FnD P w K mg base 1 "_law_draw" s__law_draw ["_law_pot", "_law_upto"] m_law_draw := by
  refine fnd_mk (np := 2) (nN := 3) (k := 0) hm F (F.binds fun _ _ _ _ _ _ us hl => match us, hl with | [_, _], _ => rfl) sc__law_draw rfl rfl fun cdv A outer s H E hr => ?_
  have tk : Takes (cxOf (L2.CX P w) P w K mg base ["_law_pot", "_law_upto", "_law_digit"] "_law_draw" (defScope s__law_draw) f cdv A outer s H E) (fun cls d _ H => E cls d H) := takes_of rfl rfl rfl rfl
  exact (dss_cons (ds_set 2 sc__law_draw.nd (d_op op_mod o_mod (d_callTy call_int1 c_int1 T.n_int (da_cons (d_ix ix_seq o_ix (d_var 0) d_int) da_nil)) (d_var 1))) (dss_cons (ds_setIx (d_op op_fdivW o_fdiv (d_ix ix_seq o_ix (d_var 0) d_int) (d_var 1)) (d_var 0) d_int) (dss_one (ds_ret (d_var 2)))))
abbrev s__law_any_hour : Stmt := top 53
theorem sc__law_any_hour : FnScope ["_law_pot", "_law_kind"] ["_law_pot"] (defScope s__law_any_hour) := ⟨rfl, rfl, rfl, by decide +kernel, rfl, by decide +kernel, by decide +kernel⟩
theorem fn__law_any_hour (T : Txt K mg w) {f : Addr} {fd : FuncData} (hm : mg "_law_any_hour" = some (.ref f)) (F : Fun K "_law_any_hour" "_law_any_hour" s__law_any_hour f fd) (G__law_draw : FnD P w K mg base 1 "_law_draw" s__law_draw ["_law_pot", "_law_upto"] m_law_draw) : FnD P w K mg base 2 "_law_any_hour" s__law_any_hour ["_law_pot"] m_law_any_hour := by
  refine fnd_mk (np := 1) (nN := 2) (k := 1) hm F (F.binds fun _ _ _ _ _ _ us hl => match us, hl with | [_], _ => rfl) sc__law_any_hour rfl rfl fun cdv A outer s H E hr => ?_
  have tk : Takes (cxOf (L2.CX P w) P w K mg base ["_law_pot", "_law_kind"] "_law_any_hour" (defScope s__law_any_hour) f cdv A outer s H E) (fun cls d _ H => E cls d H) := takes_of rfl rfl rfl rfl
  exact (dss_cons (ds_set 1 sc__law_any_hour.nd (d_call G__law_draw hr tk (da_cons (d_var 0) (da_cons d_int da_nil)))) (dss_cons (ds_if (dt_cmp op_lt o_lt (d_var 1) d_int) (dss_one (ds_ret (d_op op_sub o_sub (d_call G__law_draw hr tk (da_cons (d_var 0) (da_cons d_int da_nil))) d_int))) dss_nil) (dss_cons (ds_if (dt_cmp (op_eqA hr.units) o_eq (d_var 1) d_int) (dss_one (ds_ret (d_op op_sub o_sub (d_call G__law_draw hr tk (da_cons (d_var 0) (da_cons (d_fold (d := .int 1800000000001) (d_op op_addD o_add (d_fold (d := .int 1800000000000) (d_op op_mulW o_mul d_int (d_fold (d := .int 100000000000) (d_op op_pow o_pow d_int d_int) (fun _ _ => rfl))) (fun _ _ => rfl)) d_int) (fun _ _ => rfl)) da_nil))) (d_fold (d := .int 900000000000) (d_op op_mulW o_mul d_int (d_fold (d := .int 100000000000) (d_op op_pow o_pow d_int d_int) (fun _ _ => rfl))) (fun _ _ => rfl))))) dss_nil) (dss_one (ds_ret (d_ix ix_seq o_ix (d_fz (dl_lst (da_cons d_int (da_cons d_int (da_cons (d_fold (d := .int (-1)) (d_un un_neg o_neg d_int) (fun _ _ => rfl)) (da_cons d_int (da_cons (d_fold (d := .int (-525600)) (d_un un_neg o_neg d_int) (fun _ _ => rfl)) (da_cons (d_fold (d := .int 999799999999) (d_op op_sub o_sub (d_fold (d := .int 999999999999) (d_op op_sub o_sub (d_fold (d := .int 1000000000000) (d_op op_pow o_pow d_int d_int) (fun _ _ => rfl)) d_int) (fun _ _ => rfl)) (d_fold (d := .int 200000000) (d_op op_mulW o_mul d_int (d_fold (d := .int 100000000) (d_op op_pow o_pow d_int d_int) (fun _ _ => rfl))) (fun _ _ => rfl))) (fun _ _ => rfl)) (da_cons (d_fold (d := .int (-999999999999)) (d_op op_sub o_sub d_int (d_fold (d := .int 1000000000000) (d_op op_pow o_pow d_int d_int) (fun _ _ => rfl))) (fun _ _ => rfl)) da_nil))))))))) (d_call G__law_draw hr tk (da_cons (d_var 0) (da_cons d_int da_nil)))))))))
abbrev s__law_make_region : Stmt := top 54
theorem sc__law_make_region : FnScope ["_law_pot", "_law_kind", "_law_low", "_law_unit", "_law_wide", "_law_mid", "_law_top", "_law_shifts", "_law_spare", "_law_more", "_law_shift"] ["_law_pot"] (defScope s__law_make_region) := ⟨rfl, rfl, rfl, by decide +kernel, rfl, by decide +kernel, by decide +kernel⟩
theorem fn__law_make_region (T : Txt K mg w) {f : Addr} {fd : FuncData} (hm : mg "_law_make_region" = some (.ref f)) (F : Fun K "_law_make_region" "_law_make_region" s__law_make_region f fd) (G__law_draw : FnD P w K mg base 1 "_law_draw" s__law_draw ["_law_pot", "_law_upto"] m_law_draw) : FnD P w K mg base 2 "_law_make_region" s__law_make_region ["_law_pot"] m_law_make_region := by
  refine fnd_mk (np := 1) (nN := 11) (k := 1) hm F (F.binds fun _ _ _ _ _ _ us hl => match us, hl with | [_], _ => rfl) sc__law_make_region rfl rfl fun cdv A outer s H E hr => ?_
  have tk : Takes (cxOf (L2.CX P w) P w K mg base ["_law_pot", "_law_kind", "_law_low", "_law_unit", "_law_wide", "_law_mid", "_law_top", "_law_shifts", "_law_spare", "_law_more", "_law_shift"] "_law_make_region" (defScope s__law_make_region) f cdv A outer s H E) (fun cls d _ H => E cls d H) := takes_of rfl rfl rfl rfl
  exact (dss_cons (ds_set 1 sc__law_make_region.nd (d_call G__law_draw hr tk (da_cons (d_var 0) (da_cons d_int da_nil)))) (dss_cons (ds_set 2 sc__law_make_region.nd (d_fold (d := .int (-900)) (d_un un_neg o_neg d_int) (fun _ _ => rfl))) (dss_cons (ds_if (dt_cmp op_lt o_lt (d_var 1) d_int) (dss_one (ds_set 2 sc__law_make_region.nd (d_op op_sub o_sub (d_call G__law_draw hr tk (da_cons (d_var 0) (da_cons d_int da_nil))) d_int))) (dss_one (ds_if (dt_cmp (op_eqA hr.units) o_eq (d_var 1) d_int) (dss_one (ds_set 2 sc__law_make_region.nd (d_op op_mulW o_mul d_int (d_op op_sub o_sub (d_call G__law_draw hr tk (da_cons (d_var 0) (da_cons d_int da_nil))) d_int)))) (dss_one (ds_if (dt_cmp (op_eqA hr.units) o_eq (d_var 1) d_int) (dss_one (ds_set 2 sc__law_make_region.nd (d_op op_sub o_sub (d_call G__law_draw hr tk (da_cons (d_var 0) (da_cons d_int da_nil))) d_int))) dss_nil))))) (dss_cons (ds_asg (d_ix ix_seq o_ix (d_fz (dl_lst (da_cons (d_tup (da_cons d_int (da_cons d_int da_nil))) (da_cons (d_tup (da_cons d_int (da_cons d_int da_nil))) (da_cons (d_tup (da_cons d_int (da_cons d_int da_nil))) (da_cons (d_tup (da_cons d_int (da_cons d_int da_nil))) (da_cons (d_tup (da_cons d_int (da_cons d_int da_nil))) (da_cons (d_tup (da_cons d_int (da_cons d_int da_nil))) da_nil)))))))) (d_var 1)) (dg_tup rfl (dgs_cons (dg_name 3 sc__law_make_region.nd) (dgs_cons (dg_name 4 sc__law_make_region.nd) dgs_nil)))) (dss_cons (ds_set 5 sc__law_make_region.nd (d_op op_addD o_add (d_var 2) (d_op op_mulW o_mul (d_var 3) (d_op op_addD o_add d_int (d_call G__law_draw hr tk (da_cons (d_var 0) (da_cons (d_var 4) da_nil))))))) (dss_cons (ds_set 6 sc__law_make_region.nd (d_op op_addD o_add (d_var 5) (d_op op_mulW o_mul (d_var 3) (d_op op_addD o_add d_int (d_call G__law_draw hr tk (da_cons (d_var 0) (da_cons (d_var 4) da_nil))))))) (dss_cons (ds_set 7 sc__law_make_region.nd (d_fz (dl_lst (da_cons (d_tup (da_cons (d_var 2) (da_cons (d_var 5) da_nil))) (da_cons (d_tup (da_cons (d_var 2) (da_cons (d_var 5) (da_cons (d_var 6) da_nil)))) (da_cons (d_tup (da_cons (d_var 2) (da_cons (d_var 6) da_nil))) (da_cons (d_tup (da_cons (d_var 2) (da_cons (d_var 5) (da_cons (d_var 6) da_nil)))) (da_cons (d_tup (da_cons (d_var 6) da_nil)) da_nil)))))))) (dss_cons (ds_set 7 sc__law_make_region.nd (d_ix ix_seq o_ix (d_var 7) (d_op op_fdivW o_fdiv (d_call G__law_draw hr tk (da_cons (d_var 0) (da_cons d_int da_nil))) d_int))) (dss_cons (ds_if (dt_cmp (op_eqA hr.units) o_eq (d_call G__law_draw hr tk (da_cons (d_var 0) (da_cons d_int da_nil))) d_int) (dss_one (ds_set 7 sc__law_make_region.nd (d_callTy call_tuple_of c_tuple T.n_tuple (da_cons (d_fz (dl_lc (own := [("_law_shift", 10)]) rfl sc__law_make_region.nd (di_seq (d_back (d_var 7))) (blkOk_by (own := [("_law_shift", 10)]) (N := ["_law_pot", "_law_kind", "_law_low", "_law_unit", "_law_wide", "_law_mid", "_law_top", "_law_shifts", "_law_spare", "_law_more", "_law_shift"]) (sc := defScope s__law_make_region) (by decide +kernel)) (fun _ _ _ _ _ => (dg_name 10 sc__law_make_region.nd)) (fun _ _ _ _ _ => dts_nil) (fun _ _ _ _ _ => (d_un un_neg o_neg (d_var 10))))) da_nil)))) dss_nil) (dss_cons (ds_set 8 sc__law_make_region.nd (d_op op_sub o_sub (d_ix ix_seq o_ix (d_var 7) (d_fold (d := .int (-1)) (d_un un_neg o_neg d_int) (fun _ _ => rfl))) (d_ix ix_seq o_ix (d_var 7) d_int))) (dss_cons (ds_set 9 sc__law_make_region.nd (d_fz (dl_lst (da_cons d_int (da_cons d_int (da_cons d_int (da_cons (d_call G__law_draw hr tk (da_cons (d_var 0) (da_cons d_int da_nil))) (da_cons (d_call G__law_draw hr tk (da_cons (d_var 0) (da_cons (d_op op_sub o_sub d_int (d_var 8)) da_nil))) (da_cons (d_op op_sub o_sub d_int (d_var 8)) da_nil))))))))) (dss_one (ds_ret (d_tup (da_cons (d_var 7) (da_cons (d_op op_addD o_add (d_op op_addD o_add (d_var 8) d_int) (d_ix ix_seq o_ix (d_var 9) (d_call G__law_draw hr tk (da_cons (d_var 0) (da_cons d_int da_nil))))) da_nil))))))))))))))))
abbrev s__law_make_chart : Stmt := top 55
theorem sc__law_make_chart : FnScope ["_law_pot", "_law_region", "_law_upto", "_law_shifts", "_law_spacing", "_law_at", "_law_held", "_law_hour", "_law_jumps", "_law_k", "_law_more"] ["_law_pot", "_law_region", "_law_upto"] (defScope s__law_make_chart) := ⟨rfl, rfl, rfl, by decide +kernel, rfl, by decide +kernel, by decide +kernel⟩
theorem fn__law_make_chart (T : Txt K mg w) {f : Addr} {fd : FuncData} (hm : mg "_law_make_chart" = some (.ref f)) (F : Fun K "_law_make_chart" "_law_make_chart" s__law_make_chart f fd) (G__law_draw : FnD P w K mg base 1 "_law_draw" s__law_draw ["_law_pot", "_law_upto"] m_law_draw) (G__law_any_hour : FnD P w K mg base 2 "_law_any_hour" s__law_any_hour ["_law_pot"] m_law_any_hour) : FnD P w K mg base 3 "_law_make_chart" s__law_make_chart ["_law_pot", "_law_region", "_law_upto"] m_law_make_chart := by
  refine fnd_mk (np := 3) (nN := 11) (k := 2) hm F (F.binds fun _ _ _ _ _ _ us hl => match us, hl with | [_, _, _], _ => rfl) sc__law_make_chart rfl rfl fun cdv A outer s H E hr => ?_
  have tk : Takes (cxOf (L2.CX P w) P w K mg base ["_law_pot", "_law_region", "_law_upto", "_law_shifts", "_law_spacing", "_law_at", "_law_held", "_law_hour", "_law_jumps", "_law_k", "_law_more"] "_law_make_chart" (defScope s__law_make_chart) f cdv A outer s H E) (fun cls d _ H => E cls d H) := takes_of rfl rfl rfl rfl
  exact (dss_cons (ds_asg (d_var 1) (dg_tup rfl (dgs_cons (dg_name 3 sc__law_make_chart.nd) (dgs_cons (dg_name 4 sc__law_make_chart.nd) dgs_nil)))) (dss_cons (ds_set 5 sc__law_make_chart.nd (d_call G__law_draw hr tk (da_cons (d_var 0) (da_cons (d_callB call_len c_len T.n_len (da_cons (d_var 3) da_nil)) da_nil)))) (dss_cons (ds_set 6 sc__law_make_chart.nd (d_ix ix_seq o_ix (d_var 3) (d_var 5))) (dss_cons (ds_set 7 sc__law_make_chart.nd (d_call G__law_any_hour hr tk (da_cons (d_var 0) da_nil))) (dss_cons (ds_set 8 sc__law_make_chart.nd (d_new (dl_lst da_nil))) (dss_cons (ds_for (passes_of rfl) rfl (di_range1 (da_cons (d_op op_mulW o_mul (d_call G__law_draw hr tk (da_cons (d_var 0) (da_cons (d_op op_addD o_add (d_var 2) d_int) da_nil))) (d_callTy call_int1 c_int1 T.n_int (da_cons (d_cmp op_gt o_gt (d_callB call_len c_len T.n_len (da_cons (d_var 3) da_nil)) d_int) da_nil))) da_nil) T.n_range) (dg_name 9 sc__law_make_chart.nd) (dss_cons (ds_set 5 sc__law_make_chart.nd (d_op op_mod o_mod (d_callTy call_int1 c_int1 T.n_int (da_cons (d_op op_addD o_add (d_op op_addD o_add (d_var 5) d_int) (d_call G__law_draw hr tk (da_cons (d_var 0) (da_cons (d_op op_sub o_sub (d_callB call_len c_len T.n_len (da_cons (d_var 3) da_nil)) d_int) da_nil)))) da_nil)) (d_callB call_len c_len T.n_len (da_cons (d_var 3) da_nil)))) (dss_cons (ds_app (d_var 8) (d_tup (da_cons (d_var 7) (da_cons (d_ix ix_seq o_ix (d_var 3) (d_var 5)) da_nil))) (fun a b => ps_expr (pe_bm PySem.F.plainAttrs_list PySem.F.slot_list_append PySem.F.type_list_append mt_append a (pa_cons b pa_nil)))) (dss_cons (ds_set 7 sc__law_make_chart.nd (d_op op_addD o_add (d_var 7) (d_var 4))) (dss_cons (ds_set 10 sc__law_make_chart.nd (d_call G__law_draw hr tk (da_cons (d_var 0) (da_cons d_int da_nil)))) (dss_one (ds_if (dt_cmp op_gt o_gt (d_var 10) d_int) (dss_one (ds_set 7 sc__law_make_chart.nd (d_op op_addD o_add (d_var 7) (d_call G__law_draw hr tk (da_cons (d_var 0) (da_cons (d_ix ix_seq o_ix (d_fz (dl_lst (da_cons d_int (da_cons d_int (da_cons d_int (da_cons d_int (da_cons (d_op op_mulW o_mul d_int (d_var 4)) da_nil))))))) (d_var 10)) da_nil)))))) dss_nil))))))) (dss_one (ds_ret (d_tup (da_cons (d_var 6) (da_cons (d_callTy call_tuple_of c_tuple T.n_tuple (da_cons (d_var 8) da_nil)) da_nil)))))))))))
abbrev s__law_whole : Stmt := top 56
theorem sc__law_whole : FnScope ["_law_thing"] ["_law_thing"] (defScope s__law_whole) := ⟨rfl, rfl, rfl, by decide +kernel, rfl, by decide +kernel, by decide +kernel⟩
theorem fn__law_whole (T : Txt K mg w) {f : Addr} {fd : FuncData} (hm : mg "_law_whole" = some (.ref f)) (F : Fun K "_law_whole" "_law_whole" s__law_whole f fd) : FnD P w K mg base 1 "_law_whole" s__law_whole ["_law_thing"] m_law_whole := by
  refine fnd_mk (np := 1) (nN := 1) (k := 0) hm F (F.binds fun _ _ _ _ _ _ us hl => match us, hl with | [_], _ => rfl) sc__law_whole rfl rfl fun cdv A outer s H E hr => ?_
  have tk : Takes (cxOf (L2.CX P w) P w K mg base ["_law_thing"] "_law_whole" (defScope s__law_whole) f cdv A outer s H E) (fun cls d _ H => E cls d H) := takes_of rfl rfl rfl rfl
  exact (dss_one (ds_ret (d_and (d_isi .int (d_var 0) T.n_isinstance T.n_int) (d_one (d_not (d_isi .bl (d_var 0) T.n_isinstance T.n_bool))))))
abbrev s__law_same : Stmt := top 57
theorem sc__law_same : FnScope ["_law_told", "_law_due", "_law_k"] ["_law_told", "_law_due"] (defScope s__law_same) := ⟨rfl, rfl, rfl, by decide +kernel, rfl, by decide +kernel, by decide +kernel⟩
theorem fn__law_same (T : Txt K mg w) {f : Addr} {fd : FuncData} (hm : mg "_law_same" = some (.ref f)) (F : Fun K "_law_same" "_law_same" s__law_same f fd) (G__law_whole : FnD P w K mg base 1 "_law_whole" s__law_whole ["_law_thing"] m_law_whole) : ∀ n : Nat, FnD P w K mg base (2 + n) "_law_same" s__law_same ["_law_told", "_law_due"] (m_law_same n)
  | 0 => fnd_bad hm F (F.binds fun _ _ _ _ _ _ us hl => match us, hl with | [_, _], _ => rfl)
  | n + 1 => by
    have GSELF := fn__law_same T hm F G__law_whole n
    refine fnd_mk (np := 2) (nN := 3) (k := 2 + n) hm F (F.binds fun _ _ _ _ _ _ us hl => match us, hl with | [_, _], _ => rfl) sc__law_same rfl rfl fun cdv A outer s H E hr => ?_
    have tk : Takes (cxOf (L2.CX P w) P w K mg base ["_law_told", "_law_due", "_law_k"] "_law_same" (defScope s__law_same) f cdv A outer s H E) (fun cls d _ H => E cls d H) := takes_of rfl rfl rfl rfl
    exact (dss_cons (ds_if (dt_val (d_isiT [.tup, .lst] (d_var 1) (pa_cons (pe_bltn (v := .ty "tuple") rfl T.n_tuple (by decide +kernel) rfl) (pa_cons (pe_bltn (v := .ty "list") rfl T.n_list (by decide +kernel) rfl) pa_nil)) (fun _ _ _ => rfl) T.n_isinstance)) (dss_cons (ds_if (DT.w (dw_or (dt_not (dt_val (d_isiT [.tup, .lst] (d_var 0) (pa_cons (pe_bltn (v := .ty "tuple") rfl T.n_tuple (by decide +kernel) rfl) (pa_cons (pe_bltn (v := .ty "list") rfl T.n_list (by decide +kernel) rfl) pa_nil)) (fun _ _ _ => rfl) T.n_isinstance))) (dw_or1 (dt_cmp (op_neA hr.units) o_ne (d_isi .lst (d_var 0) T.n_isinstance T.n_list) (d_isi .lst (d_var 1) T.n_isinstance T.n_list))))) (dss_one (ds_ret d_bl)) dss_nil) (dss_one (ds_ret (d_and (d_cmp (op_eqA hr.units) o_eq (d_callB call_len c_len T.n_len (da_cons (d_var 0) da_nil)) (d_callB call_len c_len T.n_len (da_cons (d_var 1) da_nil))) (d_one (d_callB (cr_all rfl) c_all T.n_all (da_cons (d_fz (dl_lc (own := [("_law_k", 2)]) rfl sc__law_same.nd (di_range1 (da_cons (d_callB call_len c_len T.n_len (da_cons (d_var 1) da_nil)) da_nil) T.n_range) (blkOk_by (own := [("_law_k", 2)]) (N := ["_law_told", "_law_due", "_law_k"]) (sc := defScope s__law_same) (by decide +kernel)) (fun _ _ _ _ _ => (dg_name 2 sc__law_same.nd)) (fun _ _ _ _ _ => dts_nil) (fun _ _ _ _ _ => (d_call GSELF hr takes0 (da_cons (d_ix ix_seq o_ix (d_var 0) (d_var 2)) (da_cons (d_ix ix_seq o_ix (d_var 1) (d_var 2)) da_nil)) (by omega))))) da_nil))))))) dss_nil) (dss_cons (ds_if (dt_cmp op_isN o_isN (d_var 1) d_non) (dss_one (ds_ret (d_cmp op_isN o_isN (d_var 0) d_non))) dss_nil) (dss_cons (ds_if (dt_val (d_isi .bl (d_var 1) T.n_isinstance T.n_bool)) (dss_one (ds_ret (d_and (d_isi .bl (d_var 0) T.n_isinstance T.n_bool) (d_one (d_cmp (op_eqA hr.units) o_eq (d_var 0) (d_var 1)))))) dss_nil) (dss_cons (ds_if (dt_val (d_isi .int (d_var 1) T.n_isinstance T.n_int)) (dss_one (ds_ret (d_and (d_call G__law_whole hr tk (da_cons (d_var 0) da_nil) (by omega)) (d_one (d_cmp (op_eqA hr.units) o_eq (d_var 0) (d_var 1)))))) dss_nil) (dss_cons (ds_if (dt_val (d_isi .str (d_var 1) T.n_isinstance T.n_str)) (dss_one (ds_ret (d_and (d_isi .str (d_var 0) T.n_isinstance T.n_str) (d_one (d_cmp (op_eqA hr.units) o_eq (d_var 0) (d_var 1)))))) dss_nil) (dss_one (ds_ret (d_and (d_not (d_isiT [.tup, .lst, .int, .str] (d_var 0) (pa_cons (pe_bltn (v := .ty "tuple") rfl T.n_tuple (by decide +kernel) rfl) (pa_cons (pe_bltn (v := .ty "list") rfl T.n_list (by decide +kernel) rfl) (pa_cons (pe_bltn (v := .ty "int") rfl T.n_int (by decide +kernel) rfl) (pa_cons (pe_bltn (v := .ty "str") rfl T.n_str (by decide +kernel) rfl) pa_nil)))) (fun _ _ _ => rfl) T.n_isinstance)) (d_one (d_cmp op_notN o_notN (d_var 0) d_non))))))))))
abbrev s__law_cells_chart : Stmt := top 58
theorem sc__law_cells_chart : FnScope ["_law_pot", "_law_region", "_law_cells", "_law_shifts", "_law_spacing", "_law_at", "_law_held", "_law_hour", "_law_jumps", "_law_cell", "_law_own", "_law_more", "_law_k"] ["_law_pot", "_law_region", "_law_cells"] (defScope s__law_cells_chart) := ⟨rfl, rfl, rfl, by decide +kernel, rfl, by decide +kernel, by decide +kernel⟩
theorem fn__law_cells_chart (T : Txt K mg w) {f : Addr} {fd : FuncData} (hm : mg "_law_cells_chart" = some (.ref f)) (F : Fun K "_law_cells_chart" "_law_cells_chart" s__law_cells_chart f fd) (G__law_draw : FnD P w K mg base 1 "_law_draw" s__law_draw ["_law_pot", "_law_upto"] m_law_draw) (G__law_digits : FnD P w K mg base 1 "_law_digits" s__law_digits ["_law_cell"] m_law_digits) (G__law_any_hour : FnD P w K mg base 2 "_law_any_hour" s__law_any_hour ["_law_pot"] m_law_any_hour) : FnD P w K mg base 3 "_law_cells_chart" s__law_cells_chart ["_law_pot", "_law_region", "_law_cells"] m_law_cells_chart := by
  refine fnd_mk (np := 3) (nN := 13) (k := 2) hm F (F.binds fun _ _ _ _ _ _ us hl => match us, hl with | [_, _, _], _ => rfl) sc__law_cells_chart rfl rfl fun cdv A outer s H E hr => ?_
  have tk : Takes (cxOf (L2.CX P w) P w K mg base ["_law_pot", "_law_region", "_law_cells", "_law_shifts", "_law_spacing", "_law_at", "_law_held", "_law_hour", "_law_jumps", "_law_cell", "_law_own", "_law_more", "_law_k"] "_law_cells_chart" (defScope s__law_cells_chart) f cdv A outer s H E) (fun cls d _ H => E cls d H) := takes_of rfl rfl rfl rfl
  exact (dss_cons (ds_asg (d_var 1) (dg_tup rfl (dgs_cons (dg_name 3 sc__law_cells_chart.nd) (dgs_cons (dg_name 4 sc__law_cells_chart.nd) dgs_nil)))) (dss_cons (ds_set 5 sc__law_cells_chart.nd (d_call G__law_draw hr tk (da_cons (d_var 0) (da_cons (d_callB call_len c_len T.n_len (da_cons (d_var 3) da_nil)) da_nil)))) (dss_cons (ds_set 6 sc__law_cells_chart.nd (d_ix ix_seq o_ix (d_var 3) (d_var 5))) (dss_cons (ds_set 7 sc__law_cells_chart.nd (d_call G__law_any_hour hr tk (da_cons (d_var 0) da_nil))) (dss_cons (ds_set 8 sc__law_cells_chart.nd (d_new (dl_lst da_nil))) (dss_cons (ds_set 2 sc__law_cells_chart.nd (d_fz (dl_catV (d_var 2) (dl_lc (own := [("_law_k", 12)]) rfl sc__law_cells_chart.nd (di_range1 (da_cons d_int da_nil) T.n_range) (blkOk_by (own := [("_law_k", 12)]) (N := ["_law_pot", "_law_region", "_law_cells", "_law_shifts", "_law_spacing", "_law_at", "_law_held", "_law_hour", "_law_jumps", "_law_cell", "_law_own", "_law_more", "_law_k"]) (sc := defScope s__law_cells_chart) (by decide +kernel)) (fun _ _ _ _ _ => (dg_name 12 sc__law_cells_chart.nd)) (fun _ _ _ _ _ => dts_nil) (fun _ _ _ _ _ => (d_call G__law_draw hr takes0 (da_cons (d_var 0) (da_cons (d_fold (d := .int 100000000000000000) (d_op op_pow o_pow d_int d_int) (fun _ _ => rfl)) da_nil)))))))) (dss_cons (ds_forA (passes_of rfl) rfl (d_fz (dl_slL (d_var 2) do_none (do_some (d_op op_mulW o_mul d_int (d_callTy call_int1 c_int1 T.n_int (da_cons (d_cmp op_gt o_gt (d_callB call_len c_len T.n_len (da_cons (d_var 3) da_nil)) d_int) da_nil)))))) (dg_name 9 sc__law_cells_chart.nd) (dss_cons (ds_set 10 sc__law_cells_chart.nd (d_call G__law_digits hr tk (da_cons (d_var 9) da_nil))) (dss_cons (ds_set 5 sc__law_cells_chart.nd (d_op op_mod o_mod (d_callTy call_int1 c_int1 T.n_int (da_cons (d_op op_addD o_add (d_op op_addD o_add (d_var 5) d_int) (d_call G__law_draw hr tk (da_cons (d_var 10) (da_cons (d_op op_sub o_sub (d_callB call_len c_len T.n_len (da_cons (d_var 3) da_nil)) d_int) da_nil)))) da_nil)) (d_callB call_len c_len T.n_len (da_cons (d_var 3) da_nil)))) (dss_cons (ds_app (d_var 8) (d_tup (da_cons (d_var 7) (da_cons (d_ix ix_seq o_ix (d_var 3) (d_var 5)) da_nil))) (fun a b => ps_expr (pe_bm PySem.F.plainAttrs_list PySem.F.slot_list_append PySem.F.type_list_append mt_append a (pa_cons b pa_nil)))) (dss_cons (ds_set 11 sc__law_cells_chart.nd (d_call G__law_draw hr tk (da_cons (d_var 10) (da_cons d_int da_nil)))) (dss_cons (ds_set 7 sc__law_cells_chart.nd (d_op op_addD o_add (d_var 7) (d_var 4))) (dss_one (ds_if (dt_cmp op_gt o_gt (d_var 11) d_int) (dss_one (ds_set 7 sc__law_cells_chart.nd (d_op op_addD o_add (d_var 7) (d_call G__law_draw hr tk (da_cons (d_var 10) (da_cons (d_ix ix_seq o_ix (d_fz (dl_lst (da_cons d_int (da_cons d_int (da_cons d_int (da_cons (d_op op_mulW o_mul d_int (d_var 4)) da_nil)))))) (d_var 11)) da_nil)))))) dss_nil)))))))) (dss_one (ds_ret (d_tup (da_cons (d_var 6) (da_cons (d_callTy call_tuple_of c_tuple T.n_tuple (da_cons (d_var 8) da_nil)) da_nil))))))))))))
abbrev s__law_make_step : Stmt := top 59
theorem sc__law_make_step : FnScope ["_law_pot", "_law_regions", "_law_sorts_here", "_law_kind", "_law_spot", "_law_hours", "_law_shown", "_law_spans", "_law_at", "_law_early", "_law_ahead", "_law_shifts", "_law_spacing", "_law_wide", "_law_far", "_law_more"] ["_law_pot", "_law_regions", "_law_sorts_here"] (defScope s__law_make_step) := ⟨rfl, rfl, rfl, by decide +kernel, rfl, by decide +kernel, by decide +kernel⟩
theorem fn__law_make_step (T : Txt K mg w) {f : Addr} {fd : FuncData} (hm : mg "_law_make_step" = some (.ref f)) (F : Fun K "_law_make_step" "_law_make_step" s__law_make_step f fd) (G__law_draw : FnD P w K mg base 1 "_law_draw" s__law_draw ["_law_pot", "_law_upto"] m_law_draw) : FnD P w K mg base 2 "_law_make_step" s__law_make_step ["_law_pot", "_law_regions", "_law_sorts_here"] m_law_make_step := by
  refine fnd_mk (np := 3) (nN := 16) (k := 1) hm F (F.binds fun _ _ _ _ _ _ us hl => match us, hl with | [_, _, _], _ => rfl) sc__law_make_step rfl rfl fun cdv A outer s H E hr => ?_
  have tk : Takes (cxOf (L2.CX P w) P w K mg base ["_law_pot", "_law_regions", "_law_sorts_here", "_law_kind", "_law_spot", "_law_hours", "_law_shown", "_law_spans", "_law_at", "_law_early", "_law_ahead", "_law_shifts", "_law_spacing", "_law_wide", "_law_far", "_law_more"] "_law_make_step" (defScope s__law_make_step) f cdv A outer s H E) (fun cls d _ H => E cls d H) := takes_of rfl rfl rfl rfl
  exact (dss_cons (ds_set 3 sc__law_make_step.nd (d_ix ix_seq o_ix (d_fz (dl_lst (da_cons d_str (da_cons d_str (da_cons d_str (da_cons d_str (da_cons d_str (da_cons d_str (da_cons d_str (da_cons d_str (da_cons d_str (da_cons d_str da_nil)))))))))))) (d_call G__law_draw hr tk (da_cons (d_var 0) (da_cons d_int da_nil))))) (dss_cons (ds_set 4 sc__law_make_step.nd (d_call G__law_draw hr tk (da_cons (d_var 0) (da_cons (d_callB call_len c_len T.n_len (da_cons (d_var 1) da_nil)) da_nil)))) (dss_cons (ds_setLc (mw := mFz) 5 (own := [("_law_at", 8)]) (rd_fz) rfl sc__law_make_step.nd (di_range1 (da_cons (d_callB call_len c_len T.n_len (da_cons (d_var 2) da_nil)) da_nil) T.n_range) (blkOk_by (own := [("_law_at", 8)]) (N := ["_law_pot", "_law_regions", "_law_sorts_here", "_law_kind", "_law_spot", "_law_hours", "_law_shown", "_law_spans", "_law_at", "_law_early", "_law_ahead", "_law_shifts", "_law_spacing", "_law_wide", "_law_far", "_law_more"]) (sc := defScope s__law_make_step) (by decide +kernel)) (fun _ _ _ _ _ => (dg_name 8 sc__law_make_step.nd)) (fun _ _ _ _ _ => (dts_one (dt_cmp (op_eqA hr.units) o_eq (d_ix ix_seq o_ix (d_var 2) (d_var 8)) d_str))) (fun _ _ _ _ _ => (d_var 8))) (dss_cons (ds_setLc (mw := mFz) 6 (own := [("_law_at", 8)]) (rd_fz) rfl sc__law_make_step.nd (di_range1 (da_cons (d_callB call_len c_len T.n_len (da_cons (d_var 2) da_nil)) da_nil) T.n_range) (blkOk_by (own := [("_law_at", 8)]) (N := ["_law_pot", "_law_regions", "_law_sorts_here", "_law_kind", "_law_spot", "_law_hours", "_law_shown", "_law_spans", "_law_at", "_law_early", "_law_ahead", "_law_shifts", "_law_spacing", "_law_wide", "_law_far", "_law_more"]) (sc := defScope s__law_make_step) (by decide +kernel)) (fun _ _ _ _ _ => (dg_name 8 sc__law_make_step.nd)) (fun _ _ _ _ _ => (dts_one (dt_cmp (op_eqA hr.units) o_eq (d_ix ix_seq o_ix (d_var 2) (d_var 8)) d_str))) (fun _ _ _ _ _ => (d_var 8))) (dss_cons (ds_setLc (mw := mFz) 7 (own := [("_law_at", 8)]) (rd_fz) rfl sc__law_make_step.nd (di_range1 (da_cons (d_callB call_len c_len T.n_len (da_cons (d_var 2) da_nil)) da_nil) T.n_range) (blkOk_by (own := [("_law_at", 8)]) (N := ["_law_pot", "_law_regions", "_law_sorts_here", "_law_kind", "_law_spot", "_law_hours", "_law_shown", "_law_spans", "_law_at", "_law_early", "_law_ahead", "_law_shifts", "_law_spacing", "_law_wide", "_law_far", "_law_more"]) (sc := defScope s__law_make_step) (by decide +kernel)) (fun _ _ _ _ _ => (dg_name 8 sc__law_make_step.nd)) (fun _ _ _ _ _ => (dts_one (dt_cmp (op_eqA hr.units) o_eq (d_ix ix_seq o_ix (d_var 2) (d_var 8)) d_str))) (fun _ _ _ _ _ => (d_var 8))) (dss_cons (ds_set 8 sc__law_make_step.nd (d_ix ix_seq o_ix (d_var 5) (d_call G__law_draw hr tk (da_cons (d_var 0) (da_cons (d_callB call_len c_len T.n_len (da_cons (d_var 5) da_nil)) da_nil))))) (dss_cons (ds_if (DT.w (dw_and (dt_cmp (op_eqA hr.units) o_eq (d_var 3) d_str) (dw_and1 (dt_cmp op_gt o_gt (d_callB call_len c_len T.n_len (da_cons (d_var 6) da_nil)) d_int)))) (dss_cons (ds_set 9 sc__law_make_step.nd (d_ix ix_seq o_ix (d_fz (dl_lst (da_cons d_str (da_cons d_str (da_cons d_str da_nil))))) (d_call G__law_draw hr tk (da_cons (d_var 0) (da_cons d_int da_nil))))) (dss_cons (ds_set 10 sc__law_make_step.nd (d_ix ix_seq o_ix (d_fz (dl_lst (da_cons d_str (da_cons d_str (da_cons d_str da_nil))))) (d_call G__law_draw hr tk (da_cons (d_var 0) (da_cons d_int da_nil))))) (dss_one (ds_ret (d_tup (da_cons d_str (da_cons (d_ix ix_seq o_ix (d_var 6) (d_call G__law_draw hr tk (da_cons (d_var 0) (da_cons (d_callB call_len c_len T.n_len (da_cons (d_var 6) da_nil)) da_nil)))) (da_cons (d_var 4) (da_cons (d_var 9) (da_cons (d_var 10) da_nil)))))))))) dss_nil) (dss_cons (ds_if (DT.w (dw_and (dt_cmp (op_eqA hr.units) o_eq (d_var 3) d_str) (dw_and1 (dt_cmp op_gt o_gt (d_callB call_len c_len T.n_len (da_cons (d_var 7) da_nil)) d_int)))) (dss_one (ds_ret (d_tup (da_cons d_str (da_cons (d_var 8) (da_cons (d_ix ix_seq o_ix (d_var 7) (d_call G__law_draw hr tk (da_cons (d_var 0) (da_cons (d_callB call_len c_len T.n_len (da_cons (d_var 7) da_nil)) da_nil)))) da_nil)))))) dss_nil) (dss_cons (ds_if (DT.w (dw_and (dt_cmp (op_eqA hr.units) o_eq (d_var 3) d_str) (dw_and (dt_cmp op_gt o_gt (d_callB call_len c_len T.n_len (da_cons (d_var 7) da_nil)) d_int) (dw_and1 (dt_cmp op_gt o_gt (d_callB call_len c_len T.n_len (da_cons (d_var 6) da_nil)) d_int))))) (dss_one (ds_ret (d_tup (da_cons d_str (da_cons (d_ix ix_seq o_ix (d_var 6) (d_call G__law_draw hr tk (da_cons (d_var 0) (da_cons (d_callB call_len c_len T.n_len (da_cons (d_var 6) da_nil)) da_nil)))) (da_cons (d_ix ix_seq o_ix (d_var 7) (d_call G__law_draw hr tk (da_cons (d_var 0) (da_cons (d_callB call_len c_len T.n_len (da_cons (d_var 7) da_nil)) da_nil)))) da_nil)))))) dss_nil) (dss_cons (ds_if (dt_cmp op_in_seq o_in (d_var 3) (d_fz (dl_lst (da_cons d_str (da_cons d_str (da_cons d_str (da_cons d_str da_nil)))))) (by rfl)) (dss_one (ds_ret (d_tup (da_cons (d_ix ix_seq o_ix (d_fz (dl_lst (da_cons d_str (da_cons (d_var 3) da_nil)))) (d_callTy call_int1 c_int1 T.n_int (da_cons (d_cmp (op_neA hr.units) o_ne (d_var 3) d_str) da_nil))) (da_cons (d_var 8) (da_cons (d_var 4) da_nil)))))) dss_nil) (dss_cons (ds_asg (d_ix ix_seq o_ix (d_var 1) (d_var 4)) (dg_any rfl (dgs_cons (dg_name 11 sc__law_make_step.nd) (dgs_cons (dg_name 12 sc__law_make_step.nd) dgs_nil)))) (dss_cons (ds_set 13 sc__law_make_step.nd (d_op op_sub o_sub (d_ix ix_seq o_ix (d_var 11) (d_fold (d := .int (-1)) (d_un un_neg o_neg d_int) (fun _ _ => rfl))) (d_ix ix_seq o_ix (d_var 11) d_int))) (dss_cons (ds_set 14 sc__law_make_step.nd (d_fz (dl_lst (da_cons d_int (da_cons (d_fold (d := .int (-1)) (d_un un_neg o_neg d_int) (fun _ _ => rfl)) (da_cons (d_var 13) (da_cons (d_un un_neg o_neg (d_var 13)) (da_cons (d_op op_addD o_add (d_var 13) d_int) (da_cons (d_var 12) (da_cons (d_op op_sub o_sub (d_var 12) d_int) (da_cons (d_op op_sub o_sub d_int (d_var 12)) (da_cons (d_op op_sub o_sub (d_var 12) (d_var 13)) (da_cons (d_op op_sub o_sub (d_call G__law_draw hr tk (da_cons (d_var 0) (da_cons d_int da_nil))) d_int) da_nil))))))))))))) (dss_cons (ds_set 15 sc__law_make_step.nd (d_ix ix_seq o_ix (d_fz (dl_catV (d_var 14) (dl_lst (da_cons (d_op op_sub o_sub (d_call G__law_draw hr tk (da_cons (d_var 0) (da_cons d_int da_nil))) d_int) da_nil)))) (d_call G__law_draw hr tk (da_cons (d_var 0) (da_cons d_int da_nil))))) (dss_one (ds_ret (d_tup (da_cons d_str (da_cons (d_ix ix_seq o_ix (d_fz (dl_catW (d_var 5) (d_var 6))) (d_call G__law_draw hr tk (da_cons (d_var 0) (da_cons (d_op op_addD o_add (d_callB call_len c_len T.n_len (da_cons (d_var 5) da_nil)) (d_callB call_len c_len T.n_len (da_cons (d_var 6) da_nil))) da_nil)))) (da_cons (d_callB (call_max2 rfl) c_II T.n_max (da_cons (d_fold (d := .int (-100000)) (d_un un_neg o_neg d_int) (fun _ _ => rfl)) (da_cons (d_callB (call_min2 rfl) c_II T.n_min (da_cons d_int (da_cons (d_var 15) da_nil))) da_nil))) da_nil))))))))))))))))))))
abbrev s__law_sort_made : Stmt := top 60
theorem sc__law_sort_made : FnScope ["_law_sorts_here", "_law_step", "_law_made"] ["_law_sorts_here", "_law_step"] (defScope s__law_sort_made) := ⟨rfl, rfl, rfl, by decide +kernel, rfl, by decide +kernel, by decide +kernel⟩
theorem fn__law_sort_made (T : Txt K mg w) {f : Addr} {fd : FuncData} (hm : mg "_law_sort_made" = some (.ref f)) (F : Fun K "_law_sort_made" "_law_sort_made" s__law_sort_made f fd) : FnD P w K mg base 1 "_law_sort_made" s__law_sort_made ["_law_sorts_here", "_law_step"] m_law_sort_made := by
  refine fnd_mk (np := 2) (nN := 3) (k := 0) hm F (F.binds fun _ _ _ _ _ _ us hl => match us, hl with | [_, _], _ => rfl) sc__law_sort_made rfl rfl fun cdv A outer s H E hr => ?_
  have tk : Takes (cxOf (L2.CX P w) P w K mg base ["_law_sorts_here", "_law_step", "_law_made"] "_law_sort_made" (defScope s__law_sort_made) f cdv A outer s H E) (fun cls d _ H => E cls d H) := takes_of rfl rfl rfl rfl
  exact (dss_cons (ds_set 2 sc__law_sort_made.nd (d_disp (dps_cons d_str d_str (dps_cons d_str d_str (dps_cons d_str d_str (dps_cons d_str d_str (dps_cons d_str d_str dps_nil))))))) (dss_cons (ds_if (dt_cmp (op_eqA hr.units) o_eq (d_ix ix_seq o_ix (d_var 1) d_int) d_str) (dss_one (ds_ret (d_ix ix_seq o_ix (d_var 0) (d_ix ix_seq o_ix (d_var 1) d_int)))) dss_nil) (dss_one (ds_ret (d_get hr.units (d_var 2) (d_ix ix_seq o_ix (d_var 1) d_int) d_str)))))
abbrev s__law_sorts : Stmt := top 61
theorem sc__law_sorts : FnScope ["_law_steps", "_law_sorts_here", "_law_step"] ["_law_steps"] (defScope s__law_sorts) := ⟨rfl, rfl, rfl, by decide +kernel, rfl, by decide +kernel, by decide +kernel⟩
theorem fn__law_sorts (T : Txt K mg w) {f : Addr} {fd : FuncData} (hm : mg "_law_sorts" = some (.ref f)) (F : Fun K "_law_sorts" "_law_sorts" s__law_sorts f fd) (G__law_sort_made : FnD P w K mg base 1 "_law_sort_made" s__law_sort_made ["_law_sorts_here", "_law_step"] m_law_sort_made) : FnD P w K mg base 2 "_law_sorts" s__law_sorts ["_law_steps"] m_law_sorts := by
  refine fnd_mk (np := 1) (nN := 3) (k := 1) hm F (F.binds fun _ _ _ _ _ _ us hl => match us, hl with | [_], _ => rfl) sc__law_sorts rfl rfl fun cdv A outer s H E hr => ?_
  have tk : Takes (cxOf (L2.CX P w) P w K mg base ["_law_steps", "_law_sorts_here", "_law_step"] "_law_sorts" (defScope s__law_sorts) f cdv A outer s H E) (fun cls d _ H => E cls d H) := takes_of rfl rfl rfl rfl
  exact (dss_cons (ds_set 1 sc__law_sorts.nd (d_new (dl_lst (da_cons d_str da_nil)))) (dss_cons (ds_forA (passes_of rfl) rfl (d_var 0) (dg_name 2 sc__law_sorts.nd) (dss_one (ds_app (d_var 1) (d_call G__law_sort_made hr tk (da_cons (d_var 1) (da_cons (d_var 2) da_nil))) (fun a b => ps_expr (pe_bm PySem.F.plainAttrs_list PySem.F.slot_list_append PySem.F.type_list_append mt_append a (pa_cons b pa_nil)))))) (dss_one (ds_ret (d_var 1)))))
abbrev s__law_make_steps : Stmt := top 62
theorem sc__law_make_steps : FnScope ["_law_pot", "_law_regions", "_law_most", "_law_editions", "_law_finds", "_law_steps", "_law_k", "_law_step", "_law_words", "_law_heavy", "_law_shifts", "_law_spacing", "_law_one", "_law_word"] ["_law_pot", "_law_regions", "_law_most", "_law_editions"] (defScope s__law_make_steps) := ⟨rfl, rfl, rfl, by decide +kernel, rfl, by decide +kernel, by decide +kernel⟩
theorem fn__law_make_steps (T : Txt K mg w) {f : Addr} {fd : FuncData} (hm : mg "_law_make_steps" = some (.ref f)) (F : Fun K "_law_make_steps" "_law_make_steps" s__law_make_steps f fd) (G__law_sorts : FnD P w K mg base 2 "_law_sorts" s__law_sorts ["_law_steps"] m_law_sorts) (G__law_draw : FnD P w K mg base 1 "_law_draw" s__law_draw ["_law_pot", "_law_upto"] m_law_draw) (G__law_make_step : FnD P w K mg base 2 "_law_make_step" s__law_make_step ["_law_pot", "_law_regions", "_law_sorts_here"] m_law_make_step) : FnD P w K mg base 3 "_law_make_steps" s__law_make_steps ["_law_pot", "_law_regions", "_law_most", "_law_editions"] m_law_make_steps := by
  refine fnd_mk (np := 4) (nN := 14) (k := 2) hm F (F.binds fun _ _ _ _ _ _ us hl => match us, hl with | [_, _, _, _], _ => rfl) sc__law_make_steps rfl rfl fun cdv A outer s H E hr => ?_
  have tk : Takes (cxOf (L2.CX P w) P w K mg base ["_law_pot", "_law_regions", "_law_most", "_law_editions", "_law_finds", "_law_steps", "_law_k", "_law_step", "_law_words", "_law_heavy", "_law_shifts", "_law_spacing", "_law_one", "_law_word"] "_law_make_steps" (defScope s__law_make_steps) f cdv A outer s H E) (fun cls d _ H => E cls d H) := takes_of rfl rfl rfl rfl
  exact (dss_cons (ds_set 4 sc__law_make_steps.nd (d_op op_sub o_sub d_int (d_callTy call_int1 c_int1 T.n_int (da_cons (d_and (d_cmp op_lt o_lt (d_var 2) d_int) (d_one (d_cmp op_gt o_gt (d_callB (cr_max rfl) c_max1 T.n_max (da_cons (d_fz (dl_lcA (own := [("_law_shifts", 10), ("_law_spacing", 11)]) rfl sc__law_make_steps.nd (d_var 1) (blkOk_by (own := [("_law_shifts", 10), ("_law_spacing", 11)]) (N := ["_law_pot", "_law_regions", "_law_most", "_law_editions", "_law_finds", "_law_steps", "_law_k", "_law_step", "_law_words", "_law_heavy", "_law_shifts", "_law_spacing", "_law_one", "_law_word"]) (sc := defScope s__law_make_steps) (by decide +kernel)) (fun _ _ _ _ _ => (dg_any rfl (dgs_cons (dg_name 10 sc__law_make_steps.nd) (dgs_cons (dg_name 11 sc__law_make_steps.nd) dgs_nil)))) (fun _ _ _ _ _ => dts_nil) (fun _ _ _ _ _ => (d_callB call_len c_len T.n_len (da_cons (d_var 10) da_nil))))) da_nil)) d_int))) da_nil)))) (dss_cons (ds_set 5 sc__law_make_steps.nd (d_new (dl_slL (d_fz (dl_lst (da_cons (d_tup (da_cons d_str (da_cons d_int (da_cons (d_call G__law_draw hr tk (da_cons (d_var 0) (da_cons (d_callB call_len c_len T.n_len (da_cons (d_var 1) da_nil)) da_nil))) da_nil)))) da_nil))) do_none (do_some (d_call G__law_draw hr tk (da_cons (d_var 0) (da_cons d_int da_nil))))))) (dss_cons (ds_for (passes_of rfl) rfl (di_range1 (da_cons (d_op op_addD o_add (d_op op_sub o_sub d_int (d_callB call_len c_len T.n_len (da_cons (d_var 5) da_nil))) (d_call G__law_draw hr tk (da_cons (d_var 0) (da_cons d_int da_nil)))) da_nil) T.n_range) (dg_name 6 sc__law_make_steps.nd) (dss_cons (ds_set 7 sc__law_make_steps.nd (d_call G__law_make_step hr tk (da_cons (d_var 0) (da_cons (d_var 1) (da_cons (d_call G__law_sorts hr tk (da_cons (d_var 5) da_nil)) da_nil))))) (dss_cons (ds_setLcA (mw := mFz) 8 (own := [("_law_one", 12)]) (rd_fz) rfl sc__law_make_steps.nd (d_var 5) (blkOk_by (own := [("_law_one", 12)]) (N := ["_law_pot", "_law_regions", "_law_most", "_law_editions", "_law_finds", "_law_steps", "_law_k", "_law_step", "_law_words", "_law_heavy", "_law_shifts", "_law_spacing", "_law_one", "_law_word"]) (sc := defScope s__law_make_steps) (by decide +kernel)) (fun _ _ _ _ _ => (dg_name 12 sc__law_make_steps.nd)) (fun _ _ _ _ _ => dts_nil) (fun _ _ _ _ _ => (d_ix ix_seq o_ix (d_var 12) d_int))) (dss_cons (ds_set 9 sc__law_make_steps.nd (d_callB call_len c_len T.n_len (da_cons (d_fz (dl_lcA (own := [("_law_word", 13)]) rfl sc__law_make_steps.nd (d_var 8) (blkOk_by (own := [("_law_word", 13)]) (N := ["_law_pot", "_law_regions", "_law_most", "_law_editions", "_law_finds", "_law_steps", "_law_k", "_law_step", "_law_words", "_law_heavy", "_law_shifts", "_law_spacing", "_law_one", "_law_word"]) (sc := defScope s__law_make_steps) (by decide +kernel)) (fun _ _ _ _ _ => (dg_name 13 sc__law_make_steps.nd)) (fun _ _ _ _ _ => (dts_one (dt_cmp op_in_seq o_in (d_var 13) (d_fz (dl_lst (da_cons d_str (da_cons d_str (da_cons d_str (da_cons d_str da_nil)))))) (by rfl)))) (fun _ _ _ _ _ => (d_var 13)))) da_nil))) (dss_cons (ds_if (DT.w (dw_and (dt_cmp op_in_seq o_in (d_ix ix_seq o_ix (d_var 7) d_int) (d_fz (dl_lst (da_cons d_str (da_cons d_str (da_cons d_str (da_cons d_str da_nil)))))) (by rfl)) (dw_and1 (dt_cmp op_ge o_ge (d_var 9) (d_var 2))))) (dss_one (ds_set 7 sc__law_make_steps.nd (d_tup (da_cons d_str (da_cons (d_callB call_len c_len T.n_len (da_cons (d_var 5) da_nil)) (da_cons (d_op op_sub o_sub d_int (d_op op_mulW o_mul d_int (d_call G__law_draw hr tk (da_cons (d_var 0) (da_cons d_int da_nil))))) da_nil)))))) dss_nil) (dss_cons (ds_if (DT.w (dw_and (dt_cmp (op_eqA hr.units) o_eq (d_ix ix_seq o_ix (d_var 7) d_int) d_str) (dw_and1 (DT.w (dw_or (dt_not (dt_val (d_var 3))) (dw_or1 (dt_cmp op_in_seq o_in d_str (d_var 8) (by rfl)))))))) (dss_one (ds_set 7 sc__law_make_steps.nd (d_tup (da_cons d_str (da_cons (d_ix ix_seq o_ix (d_var 7) d_int) (da_cons (d_ix ix_seq o_ix (d_var 7) d_int) da_nil)))))) dss_nil) (dss_cons (ds_if (DT.w (dw_and (dt_cmp (op_eqA hr.units) o_eq (d_ix ix_seq o_ix (d_var 7) d_int) d_str) (dw_and1 (dt_cmp op_gt o_gt (d_cnt (d_var 8) d_str) (d_var 4))))) (dss_one (ds_set 7 sc__law_make_steps.nd (d_tup (da_cons d_str (da_cons (d_ix ix_seq o_ix (d_var 7) d_int) (da_cons d_int da_nil)))))) dss_nil) (dss_cons (ds_if (DT.w (dw_and (dt_cmp (op_eqA hr.units) o_eq (d_ix ix_seq o_ix (d_var 7) d_int) d_str) (dw_and1 (dt_cmp (op_eqA hr.units) o_eq (d_ix ix_seq o_ix (d_call G__law_sorts hr tk (da_cons (d_var 5) da_nil)) (d_ix ix_seq o_ix (d_var 7) d_int)) d_str)))) (dss_one (ds_set 7 sc__law_make_steps.nd (d_tup (da_cons d_str (da_cons d_int (da_cons (d_ix ix_seq o_ix (d_var 7) d_int) da_nil)))))) dss_nil) (dss_one (ds_app (d_var 5) (d_var 7) (fun a b => ps_expr (pe_bm PySem.F.plainAttrs_list PySem.F.slot_list_append PySem.F.type_list_append mt_append a (pa_cons b pa_nil))))))))))))) (dss_one (ds_ret (d_callTy call_tuple_of c_tuple T.n_tuple (da_cons (d_var 5) da_nil)))))))
abbrev s__law_ran : Stmt := top 63
theorem sc__law_ran : FnScope ["_law_regions", "_law_steps", "_law_world", "_law_start", "_law_raised", "_law_told", "e"] ["_law_regions", "_law_steps", "_law_world", "_law_start"] (defScope s__law_ran) := ⟨rfl, rfl, rfl, by decide +kernel, rfl, by decide +kernel, by decide +kernel⟩
theorem fn__law_ran (T : Txt K mg w) {f : Addr} {fd : FuncData} (hm : mg "_law_ran" = some (.ref f)) (F : Fun K "_law_ran" "_law_ran" s__law_ran f fd) (G_run : FnDD P w K mg base 7 "run" s_run [(V.int 0)] [] ["zones", "program", "world", "start"] m_run) : FnD P w K mg base 8 "_law_ran" s__law_ran ["_law_regions", "_law_steps", "_law_world", "_law_start"] m_law_ran_v2 := by
  refine fnd_mk (np := 4) (nN := 7) (k := 7) hm F (F.binds fun _ _ _ _ _ _ us hl => match us, hl with | [_, _, _, _], _ => rfl) sc__law_ran rfl rfl fun cdv A outer s H E hr => ?_
  have tk : Takes (cxOf (L2.CX P w) P w K mg base ["_law_regions", "_law_steps", "_law_world", "_law_start", "_law_raised", "_law_told", "e"] "_law_ran" (defScope s__law_ran) f cdv A outer s H E) (fun cls d _ H => E cls d H) := takes_of rfl rfl rfl rfl
  exact (dss_cons (ds_set 4 sc__law_ran.nd d_non) (dss_cons (ds_set 5 sc__law_ran.nd d_non) (dss_cons (ds_try (cs := ["InvalidNumber", "InvalidProgram", "InvalidWorld", "InvalidZone", "InvalidZones", "Refused", "Unsuited"]) sc__law_ran.nd tk (fun _ _ _ tk => (dss_one (ds_set 5 sc__law_ran.nd (d_callD1 (n := 4) G_run [0, 1, 2, 3] (by exact kwb_pos (List.cons_ne_nil _ _) (fun _ _ _ _ _ _ _ us ws its h1 h2 h3 => match us, ws, its, h1, h2, h3 with | [_, _, _, _], [], [_], _, _, _ => ⟨_, (by rfl), (by rfl)⟩)) (.cons (.int _) .nil) hr tk (da_cons (d_var 0) (da_cons (d_var 1) (da_cons (d_var 2) (da_cons (d_var 3) da_nil)))))))) (hds_as 6 T.t_HourError_IrImIdIeIsRdUd77 T.p__IrImIdIeIsRdUd77 (fun _ _ tk => (dss_one (ds_set 4 sc__law_ran.nd (d_var 6)))) HdsD.nil)) (dss_cons (ds_if (dt_cmp op_isN o_isN (d_var 4) d_non) (dss_one (ds_ret (d_tup (da_cons d_str (da_cons (d_var 5) da_nil))))) dss_nil) (dss_cons (ds_if (dt_val (d_isx (d_var 4) T.i_Refused T.n_isinstance)) (dss_one (ds_ret (d_tup (da_cons d_str (da_cons (d_xf T.f_Refused_step (d_var 4)) da_nil))))) dss_nil) (dss_one (ds_ret (d_tup (da_cons d_str (da_cons (d_isx (d_var 4) T.i_Unsuited T.n_isinstance) da_nil))))))))))
abbrev s__law_start_chart : Stmt := top 64
theorem sc__law_start_chart : FnScope ["_law_pot", "_law_region", "_law_start", "_law_shifts", "_law_spacing", "_law_wide", "_law_held", "_law_jumps", "_law_hour", "_law_by", "_law_at", "_law_shift"] ["_law_pot", "_law_region", "_law_start"] (defScope s__law_start_chart) := ⟨rfl, rfl, rfl, by decide +kernel, rfl, by decide +kernel, by decide +kernel⟩
theorem fn__law_start_chart (T : Txt K mg w) {f : Addr} {fd : FuncData} (hm : mg "_law_start_chart" = some (.ref f)) (F : Fun K "_law_start_chart" "_law_start_chart" s__law_start_chart f fd) (G__law_draw : FnD P w K mg base 1 "_law_draw" s__law_draw ["_law_pot", "_law_upto"] m_law_draw) (G__law_make_chart : FnD P w K mg base 3 "_law_make_chart" s__law_make_chart ["_law_pot", "_law_region", "_law_upto"] m_law_make_chart) : FnD P w K mg base 4 "_law_start_chart" s__law_start_chart ["_law_pot", "_law_region", "_law_start"] m_law_start_chart := by
  refine fnd_mk (np := 3) (nN := 12) (k := 3) hm F (F.binds fun _ _ _ _ _ _ us hl => match us, hl with | [_, _, _], _ => rfl) sc__law_start_chart rfl rfl fun cdv A outer s H E hr => ?_
  have tk : Takes (cxOf (L2.CX P w) P w K mg base ["_law_pot", "_law_region", "_law_start", "_law_shifts", "_law_spacing", "_law_wide", "_law_held", "_law_jumps", "_law_hour", "_law_by", "_law_at", "_law_shift"] "_law_start_chart" (defScope s__law_start_chart) f cdv A outer s H E) (fun cls d _ H => E cls d H) := takes_of rfl rfl rfl rfl
  exact (dss_cons (ds_asg (d_var 1) (dg_any rfl (dgs_cons (dg_name 3 sc__law_start_chart.nd) (dgs_cons (dg_name 4 sc__law_start_chart.nd) dgs_nil)))) (dss_cons (ds_set 5 sc__law_start_chart.nd (d_op op_sub o_sub (d_ix ix_seq o_ix (d_var 3) (d_fold (d := .int (-1)) (d_un un_neg o_neg d_int) (fun _ _ => rfl))) (d_ix ix_seq o_ix (d_var 3) d_int))) (dss_cons (ds_asg (d_call G__law_make_chart hr tk (da_cons (d_var 0) (da_cons (d_var 1) (da_cons d_int da_nil)))) (dg_any rfl (dgs_cons (dg_name 6 sc__law_start_chart.nd) (dgs_cons (dg_name 7 sc__law_start_chart.nd) dgs_nil)))) (dss_cons (ds_if (dt_cmp (op_eqA hr.units) o_eq (d_callB call_len c_len T.n_len (da_cons (d_var 7) da_nil)) d_int) (dss_one (ds_ret (d_tup (da_cons (d_var 6) (da_cons (d_var 7) da_nil))))) dss_nil) (dss_cons (ds_set 8 sc__law_start_chart.nd (d_op op_addD o_add (d_var 2) (d_ix ix_seq o_ix (d_fz (dl_lst (da_cons d_int (da_cons d_int (da_cons (d_un un_neg o_neg (d_call G__law_draw hr tk (da_cons (d_var 0) (da_cons (d_op op_addD o_add (d_var 5) d_int) da_nil)))) (da_cons (d_op op_sub o_sub (d_op op_sub o_sub (d_call G__law_draw hr tk (da_cons (d_var 0) (da_cons (d_op op_addD o_add (d_op op_mulW o_mul d_int (d_var 5)) d_int) da_nil))) (d_var 5)) d_int) da_nil)))))) (d_call G__law_draw hr tk (da_cons (d_var 0) (da_cons d_int da_nil)))))) (dss_cons (ds_set 9 sc__law_start_chart.nd (d_op op_sub o_sub (d_var 8) (d_ix ix_seq o_ix (d_ix ix_seq o_ix (d_var 7) (d_call G__law_draw hr tk (da_cons (d_var 0) (da_cons (d_callB call_len c_len T.n_len (da_cons (d_var 7) da_nil)) da_nil)))) d_int))) (dss_one (ds_ret (d_tup (da_cons (d_var 6) (da_cons (d_callTy call_tuple_of c_tuple T.n_tuple (da_cons (d_fz (dl_lcA (own := [("_law_at", 10), ("_law_shift", 11)]) rfl sc__law_start_chart.nd (d_var 7) (blkOk_by (own := [("_law_at", 10), ("_law_shift", 11)]) (N := ["_law_pot", "_law_region", "_law_start", "_law_shifts", "_law_spacing", "_law_wide", "_law_held", "_law_jumps", "_law_hour", "_law_by", "_law_at", "_law_shift"]) (sc := defScope s__law_start_chart) (by decide +kernel)) (fun _ _ _ _ _ => (dg_any rfl (dgs_cons (dg_name 10 sc__law_start_chart.nd) (dgs_cons (dg_name 11 sc__law_start_chart.nd) dgs_nil)))) (fun _ _ _ _ _ => dts_nil) (fun _ _ _ _ _ => (d_tup (da_cons (d_op op_addD o_add (d_var 10) (d_var 9)) (da_cons (d_var 11) da_nil)))))) da_nil)) da_nil)))))))))))
abbrev s__law_later_chart : Stmt := top 65
theorem sc__law_later_chart : FnScope ["_law_pot", "_law_region", "_law_chart", "_law_start", "_law_way", "_law_cut", "_law_jumps", "_law_held", "_law_others", "_law_hour", "_law_jump", "_law_shift", "_law_at"] ["_law_pot", "_law_region", "_law_chart", "_law_start"] (defScope s__law_later_chart) := ⟨rfl, rfl, rfl, by decide +kernel, rfl, by decide +kernel, by decide +kernel⟩
theorem fn__law_later_chart (T : Txt K mg w) {f : Addr} {fd : FuncData} (hm : mg "_law_later_chart" = some (.ref f)) (F : Fun K "_law_later_chart" "_law_later_chart" s__law_later_chart f fd) (G__law_draw : FnD P w K mg base 1 "_law_draw" s__law_draw ["_law_pot", "_law_upto"] m_law_draw) (G__law_start_chart : FnD P w K mg base 4 "_law_start_chart" s__law_start_chart ["_law_pot", "_law_region", "_law_start"] m_law_start_chart) : FnD P w K mg base 5 "_law_later_chart" s__law_later_chart ["_law_pot", "_law_region", "_law_chart", "_law_start"] m_law_later_chart := by
  refine fnd_mk (np := 4) (nN := 13) (k := 4) hm F (F.binds fun _ _ _ _ _ _ us hl => match us, hl with | [_, _, _, _], _ => rfl) sc__law_later_chart rfl rfl fun cdv A outer s H E hr => ?_
  have tk : Takes (cxOf (L2.CX P w) P w K mg base ["_law_pot", "_law_region", "_law_chart", "_law_start", "_law_way", "_law_cut", "_law_jumps", "_law_held", "_law_others", "_law_hour", "_law_jump", "_law_shift", "_law_at"] "_law_later_chart" (defScope s__law_later_chart) f cdv A outer s H E) (fun cls d _ H => E cls d H) := takes_of rfl rfl rfl rfl
  exact (dss_cons (ds_set 4 sc__law_later_chart.nd (d_call G__law_draw hr tk (da_cons (d_var 0) (da_cons d_int da_nil)))) (dss_cons (ds_if (dt_cmp (op_eqA hr.units) o_eq (d_var 4) d_int) (dss_one (ds_ret (d_var 2))) dss_nil) (dss_cons (ds_if (dt_cmp (op_eqA hr.units) o_eq (d_var 4) d_int) (dss_one (ds_ret (d_call G__law_start_chart hr tk (da_cons (d_var 0) (da_cons (d_var 1) (da_cons (d_var 3) da_nil)))))) dss_nil) (dss_cons (ds_set 5 sc__law_later_chart.nd (d_op op_sub o_sub (d_op op_addD o_add (d_var 3) (d_call G__law_draw hr tk (da_cons (d_var 0) (da_cons (d_op op_mulW o_mul d_int (d_ix ix_seq o_ix (d_var 1) d_int)) da_nil)))) (d_call G__law_draw hr tk (da_cons (d_var 0) (da_cons (d_ix ix_seq o_ix (d_var 1) d_int) da_nil))))) (dss_cons (ds_setLcA (mw := mNew) 6 (own := [("_law_jump", 10)]) (rd_new) rfl sc__law_later_chart.nd (d_ix ix_seq o_ix (d_var 2) d_int) (blkOk_by (own := [("_law_jump", 10)]) (N := ["_law_pot", "_law_region", "_law_chart", "_law_start", "_law_way", "_law_cut", "_law_jumps", "_law_held", "_law_others", "_law_hour", "_law_jump", "_law_shift", "_law_at"]) (sc := defScope s__law_later_chart) (by decide +kernel)) (fun _ _ _ _ _ => (dg_name 10 sc__law_later_chart.nd)) (fun _ _ _ _ _ => (dts_one (dt_cmp op_lt o_lt (d_ix ix_seq o_ix (d_var 10) d_int) (d_var 5)))) (fun _ _ _ _ _ => (d_var 10))) (dss_cons (ds_set 7 sc__law_later_chart.nd (d_ix ix_seq o_ix (d_fz (dl_cat (dl_lst (da_cons (d_ix ix_seq o_ix (d_var 2) d_int) da_nil)) (dl_lcA (own := [("_law_hour", 9), ("_law_shift", 11)]) rfl sc__law_later_chart.nd (d_var 6) (blkOk_by (own := [("_law_hour", 9), ("_law_shift", 11)]) (N := ["_law_pot", "_law_region", "_law_chart", "_law_start", "_law_way", "_law_cut", "_law_jumps", "_law_held", "_law_others", "_law_hour", "_law_jump", "_law_shift", "_law_at"]) (sc := defScope s__law_later_chart) (by decide +kernel)) (fun _ _ _ _ _ => (dg_any rfl (dgs_cons (dg_name 9 sc__law_later_chart.nd) (dgs_cons (dg_name 11 sc__law_later_chart.nd) dgs_nil)))) (fun _ _ _ _ _ => dts_nil) (fun _ _ _ _ _ => (d_var 11))))) (d_fold (d := .int (-1)) (d_un un_neg o_neg d_int) (fun _ _ => rfl)))) (dss_cons (ds_if (DT.w (dw_and (dt_cmp op_gt o_gt (d_var 4) d_int) (dw_and1 (dt_cmp op_gt o_gt (d_callB call_len c_len T.n_len (da_cons (d_ix ix_seq o_ix (d_var 1) d_int) da_nil)) d_int)))) (dss_cons (ds_setLcA (mw := mFz) 8 (own := [("_law_shift", 11)]) (rd_fz) rfl sc__law_later_chart.nd (d_ix ix_seq o_ix (d_var 1) d_int) (blkOk_by (own := [("_law_shift", 11)]) (N := ["_law_pot", "_law_region", "_law_chart", "_law_start", "_law_way", "_law_cut", "_law_jumps", "_law_held", "_law_others", "_law_hour", "_law_jump", "_law_shift", "_law_at"]) (sc := defScope s__law_later_chart) (by decide +kernel)) (fun _ _ _ _ _ => (dg_name 11 sc__law_later_chart.nd)) (fun _ _ _ _ _ => (dts_one (dt_cmp (op_neA hr.units) o_ne (d_var 11) (d_var 7)))) (fun _ _ _ _ _ => (d_var 11))) (dss_cons (ds_set 9 sc__law_later_chart.nd (d_callB (cr_max rfl) c_max1 T.n_max (da_cons (d_fz (dl_cat (dl_lst (da_cons (d_var 5) da_nil)) (dl_lcA (own := [("_law_at", 12), ("_law_shift", 11)]) rfl sc__law_later_chart.nd (d_var 6) (blkOk_by (own := [("_law_at", 12), ("_law_shift", 11)]) (N := ["_law_pot", "_law_region", "_law_chart", "_law_start", "_law_way", "_law_cut", "_law_jumps", "_law_held", "_law_others", "_law_hour", "_law_jump", "_law_shift", "_law_at"]) (sc := defScope s__law_later_chart) (by decide +kernel)) (fun _ _ _ _ _ => (dg_any rfl (dgs_cons (dg_name 12 sc__law_later_chart.nd) (dgs_cons (dg_name 11 sc__law_later_chart.nd) dgs_nil)))) (fun _ _ _ _ _ => dts_nil) (fun _ _ _ _ _ => (d_op op_addD o_add (d_var 12) (d_ix ix_seq o_ix (d_var 1) d_int)))))) da_nil))) (dss_one (ds_app (d_var 6) (d_tup (da_cons (d_var 9) (da_cons (d_ix ix_seq o_ix (d_var 8) (d_call G__law_draw hr tk (da_cons (d_var 0) (da_cons (d_callB call_len c_len T.n_len (da_cons (d_var 8) da_nil)) da_nil)))) da_nil))) (fun a b => ps_expr (pe_bm PySem.F.plainAttrs_list PySem.F.slot_list_append PySem.F.type_list_append mt_append a (pa_cons b pa_nil))))))) dss_nil) (dss_one (ds_ret (d_tup (da_cons (d_ix ix_seq o_ix (d_var 2) d_int) (da_cons (d_callTy call_tuple_of c_tuple T.n_tuple (da_cons (d_var 6) da_nil)) da_nil))))))))))))
abbrev s__law_unlike_ahead : Stmt := top 66
theorem sc__law_unlike_ahead : FnScope ["_law_world", "_law_spot", "_law_now", "_law_rows", "_law_charts", "_law_jump"] ["_law_world", "_law_spot", "_law_now"] (defScope s__law_unlike_ahead) := ⟨rfl, rfl, rfl, by decide +kernel, rfl, by decide +kernel, by decide +kernel⟩
theorem fn__law_unlike_ahead (T : Txt K mg w) {f : Addr} {fd : FuncData} (hm : mg "_law_unlike_ahead" = some (.ref f)) (F : Fun K "_law_unlike_ahead" "_law_unlike_ahead" s__law_unlike_ahead f fd) : FnD P w K mg base 1 "_law_unlike_ahead" s__law_unlike_ahead ["_law_world", "_law_spot", "_law_now"] m_law_unlike_ahead := by
  refine fnd_mk (np := 3) (nN := 6) (k := 0) hm F (F.binds fun _ _ _ _ _ _ us hl => match us, hl with | [_, _, _], _ => rfl) sc__law_unlike_ahead rfl rfl fun cdv A outer s H E hr => ?_
  have tk : Takes (cxOf (L2.CX P w) P w K mg base ["_law_world", "_law_spot", "_law_now", "_law_rows", "_law_charts", "_law_jump"] "_law_unlike_ahead" (defScope s__law_unlike_ahead) f cdv A outer s H E) (fun cls d _ H => E cls d H) := takes_of rfl rfl rfl rfl
  exact (dss_cons (ds_setLcA (mw := mFz) 3 (own := [("_law_charts", 4)]) (rd_fz) rfl sc__law_unlike_ahead.nd (d_var 0) (blkOk_by (own := [("_law_charts", 4)]) (N := ["_law_world", "_law_spot", "_law_now", "_law_rows", "_law_charts", "_law_jump"]) (sc := defScope s__law_unlike_ahead) (by decide +kernel)) (fun _ _ _ _ _ => (dg_name 4 sc__law_unlike_ahead.nd)) (fun _ _ _ _ _ => dts_nil) (fun _ _ _ _ _ => (d_fz (dl_lcA (own := [("_law_jump", 5)]) rfl sc__law_unlike_ahead.nd (d_ix ix_seq o_ix (d_ix ix_seq o_ix (d_var 4) (d_var 1)) d_int) (blkOk_by (own := [("_law_jump", 5)]) (N := ["_law_world", "_law_spot", "_law_now", "_law_rows", "_law_charts", "_law_jump"]) (sc := (relS _ (defScope s__law_unlike_ahead))) (by decide +kernel)) (fun _ _ _ _ _ => (dg_name 5 sc__law_unlike_ahead.nd)) (fun _ _ _ _ _ => (dts_one (dt_cmp op_lt o_lt (d_ix ix_seq o_ix (d_var 5) d_int) (d_var 2)))) (fun _ _ _ _ _ => (d_var 5)))))) (dss_one (ds_ret (d_or (d_cmp (op_neA hr.units) o_ne (d_ix ix_seq o_ix (d_ix ix_seq o_ix (d_ix ix_seq o_ix (d_var 0) d_int) (d_var 1)) d_int) (d_ix ix_seq o_ix (d_ix ix_seq o_ix (d_ix ix_seq o_ix (d_var 0) d_int) (d_var 1)) d_int)) (d_one (d_cmp (op_neA hr.units) o_ne (d_ix ix_seq o_ix (d_var 3) d_int) (d_ix ix_seq o_ix (d_var 3) d_int)))))))
abbrev s__law_stepped : Stmt := top 67
theorem sc__law_stepped : FnScope ["_law_regions", "_law_steps", "_law_world", "_law_start", "_law_charts", "_law_numbers", "_law_k", "_law_step", "_law_base", "_law_spot"] ["_law_regions", "_law_steps", "_law_world", "_law_start"] (defScope s__law_stepped) := ⟨rfl, rfl, rfl, by decide +kernel, rfl, by decide +kernel, by decide +kernel⟩
theorem fn__law_stepped (T : Txt K mg w) {f : Addr} {fd : FuncData} (hm : mg "_law_stepped" = some (.ref f)) (F : Fun K "_law_stepped" "_law_stepped" s__law_stepped f fd) (G__law_unlike_ahead : FnD P w K mg base 1 "_law_unlike_ahead" s__law_unlike_ahead ["_law_world", "_law_spot", "_law_now"] m_law_unlike_ahead) (G_reading_at : FnD P w K mg base 7 "reading_at" s_reading_at ["zone", "table", "moment"] m_reading_at) (G_offset_at : FnD P w K mg base 6 "offset_at" s_offset_at ["zone", "table", "moment"] m_offset_at) (G_find_moment : FnDD P w K mg base 6 "find_moment" s_find_moment [] [("fold", (V.str "early")), ("gap", (V.str "ahead"))] ["zone", "table", "reading", "fold", "gap"] m_find_moment) : FnD P w K mg base 8 "_law_stepped" s__law_stepped ["_law_regions", "_law_steps", "_law_world", "_law_start"] m_law_stepped := by
  refine fnd_mk (np := 4) (nN := 10) (k := 7) hm F (F.binds fun _ _ _ _ _ _ us hl => match us, hl with | [_, _, _, _], _ => rfl) sc__law_stepped rfl rfl fun cdv A outer s H E hr => ?_
  have tk : Takes (cxOf (L2.CX P w) P w K mg base ["_law_regions", "_law_steps", "_law_world", "_law_start", "_law_charts", "_law_numbers", "_law_k", "_law_step", "_law_base", "_law_spot"] "_law_stepped" (defScope s__law_stepped) f cdv A outer s H E) (fun cls d _ H => E cls d H) := takes_of rfl rfl rfl rfl
  exact (dss_cons (ds_set 4 sc__law_stepped.nd (d_new (dl_callTy call_list_of c_list T.n_list (da_cons (d_ix ix_seq o_ix (d_var 2) d_int) da_nil)))) (dss_cons (ds_set 5 sc__law_stepped.nd (d_new (dl_lst (da_cons (d_var 3) da_nil)))) (dss_cons (ds_for (passes_of rfl) rfl (di_range1 (da_cons (d_callB call_len c_len T.n_len (da_cons (d_var 1) da_nil)) da_nil) T.n_range) (dg_name 6 sc__law_stepped.nd) (dss_cons (ds_set 7 sc__law_stepped.nd (d_ix ix_seq o_ix (d_var 1) (d_var 6))) (dss_cons (ds_set 8 sc__law_stepped.nd (d_ix ix_seq o_ix (d_var 5) (d_ix ix_seq o_ix (d_var 7) d_int))) (dss_cons (ds_set 9 sc__law_stepped.nd (d_ix ix_seq o_ix (d_fz (dl_lst (da_cons d_int (da_cons (d_ix ix_seq o_ix (d_var 7) d_int) da_nil)))) (d_callTy call_int1 c_int1 T.n_int (da_cons (d_cmp op_in_seq o_in (d_ix ix_seq o_ix (d_var 7) d_int) (d_fz (dl_lst (da_cons d_str (da_cons d_str (da_cons d_str (da_cons d_str da_nil)))))) (by rfl)) da_nil)))) (dss_cons (ds_if (dt_cmp (op_eqA hr.units) o_eq (d_ix ix_seq o_ix (d_var 7) d_int) d_str) (dss_cons (ds_if (dt_val (d_call G__law_unlike_ahead hr tk (da_cons (d_var 2) (da_cons (d_var 9) (da_cons (d_var 8) da_nil))))) (dss_one (ds_ret (d_tup (da_cons d_str (da_cons d_bl da_nil))))) dss_nil) (dss_one (ds_setIx (d_ix ix_seq o_ix (d_ix ix_seq o_ix (d_var 2) d_int) (d_var 9)) (d_var 4) (d_var 9)))) (dss_one (ds_if (dt_cmp (op_eqA hr.units) o_eq (d_ix ix_seq o_ix (d_var 7) d_int) d_str) (dss_one (ds_set 8 sc__law_stepped.nd (d_call G_reading_at hr tk (da_cons (d_ix ix_seq o_ix (d_var 0) (d_var 9)) (da_cons (d_ix ix_seq o_ix (d_var 4) (d_var 9)) (da_cons (d_var 8) da_nil)))))) (dss_one (ds_if (dt_cmp (op_eqA hr.units) o_eq (d_ix ix_seq o_ix (d_var 7) d_int) d_str) (dss_one (ds_set 8 sc__law_stepped.nd (d_call G_offset_at hr tk (da_cons (d_ix ix_seq o_ix (d_var 0) (d_var 9)) (da_cons (d_ix ix_seq o_ix (d_var 4) (d_var 9)) (da_cons (d_var 8) da_nil)))))) (dss_one (ds_if (dt_cmp (op_eqA hr.units) o_eq (d_ix ix_seq o_ix (d_var 7) d_int) d_str) (dss_one (ds_set 8 sc__law_stepped.nd (d_callD (n := 3) (ks := (["fold", "gap"] : List Str)) G_find_moment [0, 1, 2, 3, 4] (by exact kwb_kw [] (List.cons_ne_nil _ _) (by simp) (fun _ _ _ _ _ _ us ws mv h1 h2 h3 => match us, ws, mv, h1, h2, h3 with | [_, _, _], [_, _], [], _, _, _ => (by rfl))) .nil hr tk (da_cons (d_ix ix_seq o_ix (d_var 0) (d_var 9)) (da_cons (d_ix ix_seq o_ix (d_var 4) (d_var 9)) (da_cons (d_var 8) da_nil))) (dk_cons (d_ix ix_seq o_ix (d_var 7) d_int) (dk_cons (d_ix ix_seq o_ix (d_var 7) d_int) dk_nil))))) (dss_one (ds_if (dt_cmp (op_eqA hr.units) o_eq (d_ix ix_seq o_ix (d_var 7) d_int) d_str) (dss_one (ds_set 8 sc__law_stepped.nd (d_op op_addD o_add (d_var 8) (d_ix ix_seq o_ix (d_var 7) d_int)))) (dss_one (ds_if (dt_cmp (op_eqA hr.units) o_eq (d_ix ix_seq o_ix (d_var 7) d_int) d_str) (dss_one (ds_set 8 sc__law_stepped.nd (d_op op_addD o_add (d_var 8) (d_ix ix_seq o_ix (d_var 5) (d_ix ix_seq o_ix (d_var 7) d_int))))) (dss_one (ds_set 8 sc__law_stepped.nd (d_op op_sub o_sub (d_var 8) (d_ix ix_seq o_ix (d_var 5) (d_ix ix_seq o_ix (d_var 7) d_int)))))))))))))))) (dss_cons (ds_if (dt_cmp op_isN o_isN (d_var 8) d_non) (dss_one (ds_ret (d_tup (da_cons d_str (da_cons (d_var 6) da_nil))))) dss_nil) (dss_one (ds_app (d_var 5) (d_var 8) (fun a b => ps_expr (pe_bm PySem.F.plainAttrs_list PySem.F.slot_list_append PySem.F.type_list_append mt_append a (pa_cons b pa_nil))))))))))) (dss_one (ds_ret (d_tup (da_cons d_str (da_cons (d_var 5) da_nil))))))))
abbrev s_law : Stmt := top 68
theorem sc_law : FnScope ["_law_script", "_law_pot", "_law_regions", "_law_steps", "_law_start", "_law_charts", "_law_k", "_law_held", "_law_jumps", "_law_by", "_law_later", "_law_world", "_law_due", "_law_many", "_law_short", "_law_hour", "_law_shift"] ["_law_script"] (defScope s_law) := ⟨rfl, rfl, rfl, by decide +kernel, rfl, by decide +kernel, by decide +kernel⟩
theorem fn_law (T : Txt K mg w) {f : Addr} {fd : FuncData} (hm : mg "law" = some (.ref f)) (F : Fun K "law" "law" s_law f fd) (G__law_ran : FnD P w K mg base 8 "_law_ran" s__law_ran ["_law_regions", "_law_steps", "_law_world", "_law_start"] m_law_ran_v2) (G__law_same : FnD P w K mg base 32 "_law_same" s__law_same ["_law_told", "_law_due"] (m_law_same 30)) (G__law_stepped : FnD P w K mg base 8 "_law_stepped" s__law_stepped ["_law_regions", "_law_steps", "_law_world", "_law_start"] m_law_stepped) (G_run : FnDD P w K mg base 7 "run" s_run [(V.int 0)] [] ["zones", "program", "world", "start"] m_run) (G__law_sorts : FnD P w K mg base 2 "_law_sorts" s__law_sorts ["_law_steps"] m_law_sorts) (G_kinds : FnD P w K mg base 7 "kinds" s_kinds ["zones", "program"] m_kinds) (G__law_later_chart : FnD P w K mg base 5 "_law_later_chart" s__law_later_chart ["_law_pot", "_law_region", "_law_chart", "_law_start"] m_law_later_chart) (G__law_draw : FnD P w K mg base 1 "_law_draw" s__law_draw ["_law_pot", "_law_upto"] m_law_draw) (G__law_cells_chart : FnD P w K mg base 3 "_law_cells_chart" s__law_cells_chart ["_law_pot", "_law_region", "_law_cells"] m_law_cells_chart) (G__law_any_hour : FnD P w K mg base 2 "_law_any_hour" s__law_any_hour ["_law_pot"] m_law_any_hour) (G__law_make_steps : FnD P w K mg base 3 "_law_make_steps" s__law_make_steps ["_law_pot", "_law_regions", "_law_most", "_law_editions"] m_law_make_steps) (G__law_make_region : FnD P w K mg base 2 "_law_make_region" s__law_make_region ["_law_pot"] m_law_make_region) (G__law_digits : FnD P w K mg base 1 "_law_digits" s__law_digits ["_law_cell"] m_law_digits) : FnD P w K mg base 33 "law" s_law ["_law_script"] m_law_k77_whole_runs_step_by_step := by
  refine fnd_mk (np := 1) (nN := 17) (k := 32) hm F (F.binds fun _ _ _ _ _ _ us hl => match us, hl with | [_], _ => rfl) sc_law rfl rfl fun cdv A outer s H E hr => ?_
  have tk : Takes (cxOf (L2.CX P w) P w K mg base ["_law_script", "_law_pot", "_law_regions", "_law_steps", "_law_start", "_law_charts", "_law_k", "_law_held", "_law_jumps", "_law_by", "_law_later", "_law_world", "_law_due", "_law_many", "_law_short", "_law_hour", "_law_shift"] "law" (defScope s_law) f cdv A outer s H E) (fun cls d _ H => E cls d H) := takes_of rfl rfl rfl rfl
  exact (dss_cons (ds_set 1 sc_law.nd (d_call G__law_digits hr tk (da_cons (d_ix ix_seq o_ix (d_fz (dl_catV (d_var 0) (dl_lst (da_cons (d_fold (d := .int 1000000000000000000000000000000000000480257719936612204875093) (d_op op_addD o_add (d_fold (d := .int 1000000000000000000000000000000000000000000000000000000000000) (d_op op_pow o_pow d_int d_int) (fun _ _ => rfl)) d_int) (fun _ _ => rfl)) da_nil)))) d_int) da_nil))) (dss_cons (ds_set 2 sc_law.nd (d_callTy call_tuple_of c_tuple T.n_tuple (da_cons (d_fz (dl_lc (own := [("_law_k", 6)]) rfl sc_law.nd (di_range1 (da_cons (d_op op_addD o_add d_int (d_call G__law_draw hr tk (da_cons (d_var 1) (da_cons d_int da_nil)))) da_nil) T.n_range) (blkOk_by (own := [("_law_k", 6)]) (N := ["_law_script", "_law_pot", "_law_regions", "_law_steps", "_law_start", "_law_charts", "_law_k", "_law_held", "_law_jumps", "_law_by", "_law_later", "_law_world", "_law_due", "_law_many", "_law_short", "_law_hour", "_law_shift"]) (sc := defScope s_law) (by decide +kernel)) (fun _ _ _ _ _ => (dg_name 6 sc_law.nd)) (fun _ _ _ _ _ => dts_nil) (fun _ _ _ _ _ => (d_call G__law_make_region hr takes0 (da_cons (d_var 1) da_nil))))) da_nil))) (dss_cons (ds_set 3 sc_law.nd (d_call G__law_make_steps hr tk (da_cons (d_var 1) (da_cons (d_var 2) (da_cons d_int (da_cons d_bl da_nil)))))) (dss_cons (ds_set 4 sc_law.nd (d_op op_fdivW o_fdiv (d_call G__law_any_hour hr tk (da_cons (d_var 1) da_nil)) d_int)) (dss_cons (ds_set 5 sc_law.nd (d_new (dl_lst da_nil))) (dss_cons (ds_for (passes_of rfl) rfl (di_range1 (da_cons (d_callB call_len c_len T.n_len (da_cons (d_var 2) da_nil)) da_nil) T.n_range) (dg_name 6 sc_law.nd) (dss_cons (ds_asg (d_call G__law_cells_chart hr tk (da_cons (d_var 1) (da_cons (d_ix ix_seq o_ix (d_var 2) (d_var 6)) (da_cons (d_fz (dl_slL (d_var 0) (do_some d_int) (do_some d_int))) da_nil)))) (dg_any rfl (dgs_cons (dg_name 7 sc_law.nd) (dgs_cons (dg_name 8 sc_law.nd) dgs_nil)))) (dss_cons (ds_set 9 sc_law.nd (d_op op_sub o_sub (d_op op_addD o_add (d_var 4) (d_call G__law_draw hr tk (da_cons (d_var 1) (da_cons d_int da_nil)))) d_int)) (dss_cons (ds_if (dt_cmp op_gt o_gt (d_callB call_len c_len T.n_len (da_cons (d_var 8) da_nil)) d_int) (dss_one (ds_set 9 sc_law.nd (d_op op_addD o_add (d_op op_sub o_sub (d_var 9) (d_ix ix_seq o_ix (d_ix ix_seq o_ix (d_var 8) (d_call G__law_draw hr tk (da_cons (d_var 1) (da_cons (d_callB call_len c_len T.n_len (da_cons (d_var 8) da_nil)) da_nil)))) d_int)) (d_call G__law_draw hr tk (da_cons (d_var 1) (da_cons (d_op op_sub o_sub (d_op op_addD o_add d_int (d_ix ix_seq o_ix (d_ix ix_seq o_ix (d_ix ix_seq o_ix (d_var 2) (d_var 6)) d_int) (d_fold (d := .int (-1)) (d_un un_neg o_neg d_int) (fun _ _ => rfl)))) (d_ix ix_seq o_ix (d_ix ix_seq o_ix (d_ix ix_seq o_ix (d_var 2) (d_var 6)) d_int) d_int)) da_nil)))))) dss_nil) (dss_one (ds_app (d_var 5) (d_tup (da_cons (d_var 7) (da_cons (d_callTy call_tuple_of c_tuple T.n_tuple (da_cons (d_fz (dl_lcA (own := [("_law_hour", 15), ("_law_shift", 16)]) rfl sc_law.nd (d_var 8) (blkOk_by (own := [("_law_hour", 15), ("_law_shift", 16)]) (N := ["_law_script", "_law_pot", "_law_regions", "_law_steps", "_law_start", "_law_charts", "_law_k", "_law_held", "_law_jumps", "_law_by", "_law_later", "_law_world", "_law_due", "_law_many", "_law_short", "_law_hour", "_law_shift"]) (sc := defScope s_law) (by decide +kernel)) (fun _ _ _ _ _ => (dg_any rfl (dgs_cons (dg_name 15 sc_law.nd) (dgs_cons (dg_name 16 sc_law.nd) dgs_nil)))) (fun _ _ _ _ _ => dts_nil) (fun _ _ _ _ _ => (d_tup (da_cons (d_op op_addD o_add (d_var 15) (d_var 9)) (da_cons (d_var 16) da_nil)))))) da_nil)) da_nil))) (fun a b => ps_expr (pe_bm PySem.F.plainAttrs_list PySem.F.slot_list_append PySem.F.type_list_append mt_append a (pa_cons b pa_nil))))))))) (dss_cons (ds_setLc (mw := mFz) 10 (own := [("_law_k", 6)]) (rd_fz) rfl sc_law.nd (di_range1 (da_cons (d_callB call_len c_len T.n_len (da_cons (d_var 2) da_nil)) da_nil) T.n_range) (blkOk_by (own := [("_law_k", 6)]) (N := ["_law_script", "_law_pot", "_law_regions", "_law_steps", "_law_start", "_law_charts", "_law_k", "_law_held", "_law_jumps", "_law_by", "_law_later", "_law_world", "_law_due", "_law_many", "_law_short", "_law_hour", "_law_shift"]) (sc := defScope s_law) (by decide +kernel)) (fun _ _ _ _ _ => (dg_name 6 sc_law.nd)) (fun _ _ _ _ _ => dts_nil) (fun _ _ _ _ _ => (d_call G__law_later_chart hr takes0 (da_cons (d_var 1) (da_cons (d_ix ix_seq o_ix (d_var 2) (d_var 6)) (da_cons (d_ix ix_seq o_ix (d_var 5) (d_var 6)) (da_cons (d_var 4) da_nil))))))) (dss_cons (ds_for (passes_of rfl) rfl (di_seq (d_fz (dl_lst (da_cons (d_tup (da_cons (d_callTy call_tuple_of c_tuple T.n_tuple (da_cons (d_var 5) da_nil)) (da_cons (d_callTy call_tuple_of c_tuple T.n_tuple (da_cons (d_var 10) da_nil)) da_nil))) (da_cons (d_tup (da_cons (d_callTy call_tuple_of c_tuple T.n_tuple (da_cons (d_var 5) da_nil)) (da_cons (d_callTy call_tuple_of c_tuple T.n_tuple (da_cons (d_var 5) da_nil)) da_nil))) da_nil))))) (dg_name 11 sc_law.nd) (dss_cons (ds_set 12 sc_law.nd (d_call G__law_stepped hr tk (da_cons (d_var 2) (da_cons (d_var 3) (da_cons (d_var 11) (da_cons (d_var 4) da_nil)))))) (dss_cons (ds_if (dt_not (dt_val (d_call G__law_same hr tk (da_cons (d_call G__law_ran hr tk (da_cons (d_var 2) (da_cons (d_var 3) (da_cons (d_var 11) (da_cons (d_var 4) da_nil))))) (da_cons (d_var 12) da_nil))))) (dss_one (ds_ret d_bl)) dss_nil) (dss_cons (ds_if (dt_not (dt_val (d_call G__law_same hr tk (da_cons (d_call G_kinds hr tk (da_cons (d_var 2) (da_cons (d_var 3) da_nil))) (da_cons (d_call G__law_sorts hr tk (da_cons (d_var 3) da_nil)) da_nil))))) (dss_one (ds_ret d_bl)) dss_nil) (dss_cons (ds_for (passes_of rfl) rfl (di_range1 (da_cons (d_callB call_len c_len T.n_len (da_cons (d_var 3) da_nil)) da_nil) T.n_range) (dg_name 13 sc_law.nd) (dss_cons (ds_set 14 sc_law.nd (d_call G__law_stepped hr tk (da_cons (d_var 2) (da_cons (d_slT (d_var 3) do_none (do_some (d_var 13))) (da_cons (d_var 11) (da_cons (d_var 4) da_nil)))))) (dss_cons (ds_if (dt_not (dt_val (d_call G__law_same hr tk (da_cons (d_call G__law_ran hr tk (da_cons (d_var 2) (da_cons (d_slT (d_var 3) do_none (do_some (d_var 13))) (da_cons (d_var 11) (da_cons (d_var 4) da_nil))))) (da_cons (d_var 14) da_nil))))) (dss_one (ds_ret d_bl)) dss_nil) (dss_cons (ds_if (DT.w (dw_and (dt_cmp (op_neA hr.units) o_ne (d_ix ix_seq o_ix (d_var 14) d_int) d_str) (dw_and1 (dt_not (dt_val (d_call G__law_same hr tk (da_cons (d_var 14) (da_cons (d_var 12) da_nil)))))))) (dss_one (ds_ret d_bl)) dss_nil) (dss_one (ds_if (DT.w (dw_and (dt_cmp (op_eqA hr.units) o_eq (d_ix ix_seq o_ix (d_var 14) d_int) d_str) (dw_and (dt_cmp (op_eqA hr.units) o_eq (d_ix ix_seq o_ix (d_var 12) d_int) d_str) (dw_and1 (dt_cmp (op_neA hr.units) o_ne (d_fz (dl_slL (d_ix ix_seq o_ix (d_var 12) d_int) do_none (do_some (d_op op_addD o_add (d_var 13) d_int)))) (d_ix ix_seq o_ix (d_var 14) d_int)))))) (dss_one (ds_ret d_bl)) dss_nil)))))) (dss_one (ds_if (dt_cmp (op_eqA hr.units) o_eq (d_ix ix_seq o_ix (d_call G__law_ran hr tk (da_cons (d_var 2) (da_cons (d_var 3) (da_cons (d_var 11) (da_cons d_int da_nil))))) d_int) d_str) (dss_one (ds_if (dt_not (dt_val (d_call G__law_same hr tk (da_cons (d_callD1 (n := 3) G_run [0, 1, 2, 3] (by exact kwb_pos (List.cons_ne_nil _ _) (fun _ _ _ _ _ _ _ us ws its h1 h2 h3 => match us, ws, its, h1, h2, h3 with | [_, _, _], [], [_], _, _, _ => ⟨_, (by rfl), (by rfl)⟩)) (.cons (.int _) .nil) hr tk (da_cons (d_var 2) (da_cons (d_var 3) (da_cons (d_var 11) da_nil)))) (da_cons (d_ix ix_seq o_ix (d_call G__law_stepped hr tk (da_cons (d_var 2) (da_cons (d_var 3) (da_cons (d_var 11) (da_cons d_int da_nil))))) d_int) da_nil))))) (dss_one (ds_ret d_bl)) dss_nil)) dss_nil))))))) (dss_one (ds_ret d_bl))))))))))
abbrev si_Refused : Stmt := inClass (top 10) 0
theorem sci_Refused : FnScope ["self", "step"] ["self", "step"] (defScope si_Refused) := ⟨rfl, rfl, rfl, by decide +kernel, rfl, by decide +kernel, by decide +kernel⟩
end
theorem all_mk {l : PySem.W.OpenLaw} {w : World} {K : Frag} {h : Heap} {mg : Str → Option Value} {fa : Addr} (hlaw : LawTrue m_law_k77_whole_runs_step_by_step) (X : K.In h) (G : h.Ns mainGlobals mg) (hfa : mg "law" = some (.ref fa))
    {f0 : Addr} {od0 an0 : Option Addr} {sl0 : Array (Option Value)} {oc0 kV0 dc0 pm0 cd0 ct0 : Value} {f1 : Addr} {od1 an1 : Option Addr} {sl1 : Array (Option Value)} {oc1 kV1 dc1 pm1 cd1 ct1 : Value} {f2 : Addr} {od2 an2 : Option Addr} {sl2 : Array (Option Value)} {oc2 kV2 dc2 pm2 cd2 ct2 : Value} {f3 : Addr} {od3 an3 : Option Addr} {sl3 : Array (Option Value)} {oc3 kV3 dc3 pm3 cd3 ct3 : Value} {f4 : Addr} {od4 an4 : Option Addr} {sl4 : Array (Option Value)} {oc4 kV4 dc4 pm4 cd4 ct4 : Value} {f5 : Addr} {od5 an5 : Option Addr} {sl5 : Array (Option Value)} {oc5 kV5 dc5 pm5 cd5 ct5 : Value} {f6 : Addr} {od6 an6 : Option Addr} {sl6 : Array (Option Value)} {oc6 kV6 dc6 pm6 cd6 ct6 : Value} {f7 : Addr} {od7 an7 : Option Addr} {sl7 : Array (Option Value)} {oc7 kV7 dc7 pm7 cd7 ct7 : Value} {f8 : Addr} {od8 an8 : Option Addr} {sl8 : Array (Option Value)} {oc8 kV8 dc8 pm8 cd8 ct8 : Value} {f9 : Addr} {od9 an9 : Option Addr} {sl9 : Array (Option Value)} {oc9 kV9 dc9 pm9 cd9 ct9 : Value} {f10 : Addr} {od10 an10 : Option Addr} {sl10 : Array (Option Value)} {oc10 kV10 dc10 pm10 cd10 ct10 : Value} {f11 : Addr} {od11 an11 : Option Addr} {sl11 : Array (Option Value)} {oc11 kV11 dc11 pm11 cd11 ct11 : Value} {f12 : Addr} {od12 an12 : Option Addr} {sl12 : Array (Option Value)} {oc12 kV12 dc12 pm12 cd12 ct12 : Value} {f13 : Addr} {od13 an13 : Option Addr} {sl13 : Array (Option Value)} {oc13 kV13 dc13 pm13 cd13 ct13 : Value} {f14 : Addr} {od14 an14 : Option Addr} {sl14 : Array (Option Value)} {oc14 kV14 dc14 pm14 cd14 ct14 : Value} {f15 : Addr} {od15 an15 : Option Addr} {sl15 : Array (Option Value)} {oc15 dc15 pm15 cd15 ct15 : Value} {D15 : Addr} {tD15_0 : Tok} {tD15_1 : Tok} {f16 : Addr} {od16 an16 : Option Addr} {sl16 : Array (Option Value)} {oc16 kV16 dc16 pm16 cd16 ct16 : Value} {f17 : Addr} {od17 an17 : Option Addr} {sl17 : Array (Option Value)} {oc17 kV17 dc17 pm17 cd17 ct17 : Value} {f18 : Addr} {od18 an18 : Option Addr} {sl18 : Array (Option Value)} {oc18 kV18 dc18 pm18 cd18 ct18 : Value} {f19 : Addr} {od19 an19 : Option Addr} {sl19 : Array (Option Value)} {oc19 kV19 dc19 pm19 cd19 ct19 : Value} {f20 : Addr} {od20 an20 : Option Addr} {sl20 : Array (Option Value)} {oc20 kV20 dc20 pm20 cd20 ct20 : Value} {f21 : Addr} {od21 an21 : Option Addr} {sl21 : Array (Option Value)} {oc21 kV21 dc21 pm21 cd21 ct21 : Value} {f22 : Addr} {od22 an22 : Option Addr} {sl22 : Array (Option Value)} {oc22 kV22 dc22 pm22 cd22 ct22 : Value} {f23 : Addr} {od23 an23 : Option Addr} {sl23 : Array (Option Value)} {oc23 kV23 dc23 pm23 cd23 ct23 : Value} {f24 : Addr} {od24 an24 : Option Addr} {sl24 : Array (Option Value)} {oc24 kV24 dc24 pm24 cd24 ct24 : Value} {f25 : Addr} {od25 an25 : Option Addr} {sl25 : Array (Option Value)} {oc25 kV25 dc25 pm25 cd25 ct25 : Value} {f26 : Addr} {od26 an26 : Option Addr} {sl26 : Array (Option Value)} {oc26 kV26 dc26 pm26 cd26 ct26 : Value} {f27 : Addr} {od27 an27 : Option Addr} {sl27 : Array (Option Value)} {oc27 kV27 dc27 pm27 cd27 ct27 : Value} {f28 : Addr} {od28 an28 : Option Addr} {sl28 : Array (Option Value)} {oc28 kV28 dc28 pm28 cd28 ct28 : Value} {T28 : Addr} {oT28 : Option Addr} {nT28 : Nat} {sT28 : Array (Option Value)} {tT28_0 : Tok} {f29 : Addr} {od29 an29 : Option Addr} {sl29 : Array (Option Value)} {oc29 kV29 dc29 pm29 cd29 ct29 : Value} {f30 : Addr} {od30 an30 : Option Addr} {sl30 : Array (Option Value)} {oc30 kV30 dc30 pm30 cd30 ct30 : Value} {f31 : Addr} {od31 an31 : Option Addr} {sl31 : Array (Option Value)} {oc31 kV31 dc31 pm31 cd31 ct31 : Value} {f32 : Addr} {od32 an32 : Option Addr} {sl32 : Array (Option Value)} {oc32 kV32 dc32 pm32 cd32 ct32 : Value} {f33 : Addr} {od33 an33 : Option Addr} {sl33 : Array (Option Value)} {oc33 kV33 dc33 pm33 cd33 ct33 : Value} {f34 : Addr} {od34 an34 : Option Addr} {sl34 : Array (Option Value)} {oc34 kV34 dc34 pm34 cd34 ct34 : Value} {f35 : Addr} {od35 an35 : Option Addr} {sl35 : Array (Option Value)} {oc35 kV35 dc35 pm35 cd35 ct35 : Value} {f36 : Addr} {od36 an36 : Option Addr} {sl36 : Array (Option Value)} {oc36 kV36 dc36 pm36 cd36 ct36 : Value} {f37 : Addr} {od37 an37 : Option Addr} {sl37 : Array (Option Value)} {oc37 kV37 dc37 pm37 cd37 ct37 : Value} {f38 : Addr} {od38 an38 : Option Addr} {sl38 : Array (Option Value)} {oc38 kV38 dc38 pm38 cd38 ct38 : Value} {f39 : Addr} {od39 an39 : Option Addr} {sl39 : Array (Option Value)} {oc39 kV39 dc39 pm39 cd39 ct39 : Value} {f40 : Addr} {od40 an40 : Option Addr} {sl40 : Array (Option Value)} {oc40 kV40 dc40 pm40 cd40 ct40 : Value} {f41 : Addr} {od41 an41 : Option Addr} {sl41 : Array (Option Value)} {oc41 kV41 dc41 pm41 cd41 ct41 : Value} {f42 : Addr} {od42 an42 : Option Addr} {sl42 : Array (Option Value)} {oc42 kV42 dc42 pm42 cd42 ct42 : Value} {f43 : Addr} {od43 an43 : Option Addr} {sl43 : Array (Option Value)} {oc43 kV43 dc43 pm43 cd43 ct43 : Value} {f44 : Addr} {od44 an44 : Option Addr} {sl44 : Array (Option Value)} {oc44 kV44 dc44 pm44 cd44 ct44 : Value} {f45 : Addr} {od45 an45 : Option Addr} {sl45 : Array (Option Value)} {oc45 kV45 dc45 pm45 cd45 ct45 : Value} {f46 : Addr} {od46 an46 : Option Addr} {sl46 : Array (Option Value)} {oc46 kV46 dc46 pm46 cd46 ct46 : Value} {Q0_1 : Addr} {oQ0_1 : Option Addr} {nQ0_1 : Nat} {sQ0_1 : Array (Option Value)} {tQ0_2 : Tok} {tQ0_3 : Tok} {tQ0_4 : Tok} {Q1_1 : Addr} {oQ1_1 : Option Addr} {nQ1_1 : Nat} {sQ1_1 : Array (Option Value)} {tQ1_2 : Tok} {tQ1_3 : Tok} {tQ1_4 : Tok} {Q2_t : Addr} {nQ2_t : Nat} {hQ2_0 : Int} {uQ2_0 : Tok} {tQ2_1 : Tok} {hQ2_1 : Int} {uQ2_1 : Tok} {tQ2_2 : Tok} {hQ2_2 : Int} {uQ2_2 : Tok} {tQ2_3 : Tok} {hQ2_3 : Int} {uQ2_3 : Tok} {tQ2_4 : Tok} {hQ2_4 : Int} {uQ2_4 : Tok} {tQ2_5 : Tok} {hQ2_5 : Int} {uQ2_5 : Tok} {tQ2_6 : Tok} {t3 : Tok} {t4 : Tok} {t5 : Tok} {t6 : Tok} {Q7_t : Addr} {nQ7_t : Nat} {hQ7_0 : Int} {uQ7_0 : Tok} {Q7_1 : Addr} {oQ7_1 : Option Addr} {nQ7_1 : Nat} {sQ7_1 : Array (Option Value)} {tQ7_2 : Tok} {tQ7_3 : Tok} {hQ7_1 : Int} {uQ7_1 : Tok} {Q7_4 : Addr} {oQ7_4 : Option Addr} {nQ7_4 : Nat} {sQ7_4 : Array (Option Value)} {tQ7_5 : Tok} {tQ7_6 : Tok} {tQ7_7 : Tok} {tQ7_8 : Tok} {hQ7_2 : Int} {uQ7_2 : Tok} {Q7_9 : Addr} {oQ7_9 : Option Addr} {nQ7_9 : Nat} {sQ7_9 : Array (Option Value)} {tQ7_10 : Tok} {tQ7_11 : Tok} {hQ7_3 : Int} {uQ7_3 : Tok} {Q7_12 : Addr} {oQ7_12 : Option Addr} {nQ7_12 : Nat} {sQ7_12 : Array (Option Value)} {tQ7_13 : Tok} {tQ7_14 : Tok} {hQ7_4 : Int} {uQ7_4 : Tok} {Q7_15 : Addr} {oQ7_15 : Option Addr} {nQ7_15 : Nat} {sQ7_15 : Array (Option Value)} {tQ7_16 : Tok} {tQ7_17 : Tok} {hQ7_5 : Int} {uQ7_5 : Tok} {Q7_18 : Addr} {oQ7_18 : Option Addr} {nQ7_18 : Nat} {sQ7_18 : Array (Option Value)} {tQ7_19 : Tok} {tQ7_20 : Tok} {hQ7_6 : Int} {uQ7_6 : Tok} {Q7_21 : Addr} {oQ7_21 : Option Addr} {nQ7_21 : Nat} {sQ7_21 : Array (Option Value)} {tQ7_22 : Tok} {tQ7_23 : Tok} {C0 : Addr} {C1 : Addr} {C2 : Addr} {C3 : Addr} {C4 : Addr} {C5 : Addr} {C6 : Addr} {C7 : Addr} {C8 : Addr} {C9 : Addr} {nm_8 q_8 : Str} {N_8 fI_8 : Addr} {bs_8 bm_8 sub_8 : List Value} {sn_8 : List Str} {ab_8 : Bool} {col_8 : Option Bool} {dd_8 : Option Addr} {m0_8 m1_8 m2_8 m3_8 m5_8 : Option Value} {oI_8 kVI_8 dcI_8 pmI_8 cdI_8 ctI_8 : Value} {odI_8 anI_8 : Option Addr} {slI_8 : Array (Option Value)}
    (a0 : PySem.W.nsIn K mainGlobals "is_integer" = some (some (.ref f0)))
    (l0 : K.lookup f0 = some ⟨oc0, od0, .func (PySem.W.fnOf "is_integer" "is_integer" (defArgs s_is_integer) (defBody s_is_integer) (defScope s_is_integer) .none kV0 dc0 pm0 an0 cd0 ct0), sl0⟩)
    (c0 : PySem.W.codeIn K cd0 "is_integer" = true)
    (k0 : PySem.W.keepIn K (.ref f0) = true)
    (a1 : PySem.W.nsIn K mainGlobals "is_zone" = some (some (.ref f1)))
    (l1 : K.lookup f1 = some ⟨oc1, od1, .func (PySem.W.fnOf "is_zone" "is_zone" (defArgs s_is_zone) (defBody s_is_zone) (defScope s_is_zone) .none kV1 dc1 pm1 an1 cd1 ct1), sl1⟩)
    (c1 : PySem.W.codeIn K cd1 "is_zone" = true)
    (k1 : PySem.W.keepIn K (.ref f1) = true)
    (a2 : PySem.W.nsIn K mainGlobals "is_zones" = some (some (.ref f2)))
    (l2 : K.lookup f2 = some ⟨oc2, od2, .func (PySem.W.fnOf "is_zones" "is_zones" (defArgs s_is_zones) (defBody s_is_zones) (defScope s_is_zones) .none kV2 dc2 pm2 an2 cd2 ct2), sl2⟩)
    (c2 : PySem.W.codeIn K cd2 "is_zones" = true)
    (k2 : PySem.W.keepIn K (.ref f2) = true)
    (a3 : PySem.W.nsIn K mainGlobals "need_zone" = some (some (.ref f3)))
    (l3 : K.lookup f3 = some ⟨oc3, od3, .func (PySem.W.fnOf "need_zone" "need_zone" (defArgs s_need_zone) (defBody s_need_zone) (defScope s_need_zone) .none kV3 dc3 pm3 an3 cd3 ct3), sl3⟩)
    (c3 : PySem.W.codeIn K cd3 "need_zone" = true)
    (k3 : PySem.W.keepIn K (.ref f3) = true)
    (a4 : PySem.W.nsIn K mainGlobals "need_zones" = some (some (.ref f4)))
    (l4 : K.lookup f4 = some ⟨oc4, od4, .func (PySem.W.fnOf "need_zones" "need_zones" (defArgs s_need_zones) (defBody s_need_zones) (defScope s_need_zones) .none kV4 dc4 pm4 an4 cd4 ct4), sl4⟩)
    (c4 : PySem.W.codeIn K cd4 "need_zones" = true)
    (k4 : PySem.W.keepIn K (.ref f4) = true)
    (a5 : PySem.W.nsIn K mainGlobals "need_number" = some (some (.ref f5)))
    (l5 : K.lookup f5 = some ⟨oc5, od5, .func (PySem.W.fnOf "need_number" "need_number" (defArgs s_need_number) (defBody s_need_number) (defScope s_need_number) .none kV5 dc5 pm5 an5 cd5 ct5), sl5⟩)
    (c5 : PySem.W.codeIn K cd5 "need_number" = true)
    (k5 : PySem.W.keepIn K (.ref f5) = true)
    (a6 : PySem.W.nsIn K mainGlobals "is_offset" = some (some (.ref f6)))
    (l6 : K.lookup f6 = some ⟨oc6, od6, .func (PySem.W.fnOf "is_offset" "is_offset" (defArgs s_is_offset) (defBody s_is_offset) (defScope s_is_offset) .none kV6 dc6 pm6 an6 cd6 ct6), sl6⟩)
    (c6 : PySem.W.codeIn K cd6 "is_offset" = true)
    (k6 : PySem.W.keepIn K (.ref f6) = true)
    (a7 : PySem.W.nsIn K mainGlobals "need_rules" = some (some (.ref f7)))
    (l7 : K.lookup f7 = some ⟨oc7, od7, .func (PySem.W.fnOf "need_rules" "need_rules" (defArgs s_need_rules) (defBody s_need_rules) (defScope s_need_rules) .none kV7 dc7 pm7 an7 cd7 ct7), sl7⟩)
    (c7 : PySem.W.codeIn K cd7 "need_rules" = true)
    (k7 : PySem.W.keepIn K (.ref f7) = true)
    (a8 : PySem.W.nsIn K mainGlobals "is_mark" = some (some (.ref f8)))
    (l8 : K.lookup f8 = some ⟨oc8, od8, .func (PySem.W.fnOf "is_mark" "is_mark" (defArgs s_is_mark) (defBody s_is_mark) (defScope s_is_mark) .none kV8 dc8 pm8 an8 cd8 ct8), sl8⟩)
    (c8 : PySem.W.codeIn K cd8 "is_mark" = true)
    (k8 : PySem.W.keepIn K (.ref f8) = true)
    (a9 : PySem.W.nsIn K mainGlobals "is_table" = some (some (.ref f9)))
    (l9 : K.lookup f9 = some ⟨oc9, od9, .func (PySem.W.fnOf "is_table" "is_table" (defArgs s_is_table) (defBody s_is_table) (defScope s_is_table) .none kV9 dc9 pm9 an9 cd9 ct9), sl9⟩)
    (c9 : PySem.W.codeIn K cd9 "is_table" = true)
    (k9 : PySem.W.keepIn K (.ref f9) = true)
    (a10 : PySem.W.nsIn K mainGlobals "need_table" = some (some (.ref f10)))
    (l10 : K.lookup f10 = some ⟨oc10, od10, .func (PySem.W.fnOf "need_table" "need_table" (defArgs s_need_table) (defBody s_need_table) (defScope s_need_table) .none kV10 dc10 pm10 an10 cd10 ct10), sl10⟩)
    (c10 : PySem.W.codeIn K cd10 "need_table" = true)
    (k10 : PySem.W.keepIn K (.ref f10) = true)
    (a11 : PySem.W.nsIn K mainGlobals "offset_in" = some (some (.ref f11)))
    (l11 : K.lookup f11 = some ⟨oc11, od11, .func (PySem.W.fnOf "offset_in" "offset_in" (defArgs s_offset_in) (defBody s_offset_in) (defScope s_offset_in) .none kV11 dc11 pm11 an11 cd11 ct11), sl11⟩)
    (c11 : PySem.W.codeIn K cd11 "offset_in" = true)
    (k11 : PySem.W.keepIn K (.ref f11) = true)
    (a12 : PySem.W.nsIn K mainGlobals "offset_at" = some (some (.ref f12)))
    (l12 : K.lookup f12 = some ⟨oc12, od12, .func (PySem.W.fnOf "offset_at" "offset_at" (defArgs s_offset_at) (defBody s_offset_at) (defScope s_offset_at) .none kV12 dc12 pm12 an12 cd12 ct12), sl12⟩)
    (c12 : PySem.W.codeIn K cd12 "offset_at" = true)
    (k12 : PySem.W.keepIn K (.ref f12) = true)
    (a13 : PySem.W.nsIn K mainGlobals "reading_at" = some (some (.ref f13)))
    (l13 : K.lookup f13 = some ⟨oc13, od13, .func (PySem.W.fnOf "reading_at" "reading_at" (defArgs s_reading_at) (defBody s_reading_at) (defScope s_reading_at) .none kV13 dc13 pm13 an13 cd13 ct13), sl13⟩)
    (c13 : PySem.W.codeIn K cd13 "reading_at" = true)
    (k13 : PySem.W.keepIn K (.ref f13) = true)
    (a14 : PySem.W.nsIn K mainGlobals "found_by" = some (some (.ref f14)))
    (l14 : K.lookup f14 = some ⟨oc14, od14, .func (PySem.W.fnOf "found_by" "found_by" (defArgs s_found_by) (defBody s_found_by) (defScope s_found_by) .none kV14 dc14 pm14 an14 cd14 ct14), sl14⟩)
    (c14 : PySem.W.codeIn K cd14 "found_by" = true)
    (k14 : PySem.W.keepIn K (.ref f14) = true)
    (a15 : PySem.W.nsIn K mainGlobals "find_moment" = some (some (.ref f15)))
    (l15 : K.lookup f15 = some ⟨oc15, od15, .func (PySem.W.fnOf "find_moment" "find_moment" (defArgs s_find_moment) (defBody s_find_moment) (defScope s_find_moment) .none (.ref D15) dc15 pm15 an15 cd15 ct15), sl15⟩)
    (lD15_0 : PySem.W.nsIn K D15 "fold" = some (some (.str "early" tD15_0)))
    (lD15_1 : PySem.W.nsIn K D15 "gap" = some (some (.str "ahead" tD15_1)))
    (c15 : PySem.W.codeIn K cd15 "find_moment" = true)
    (k15 : PySem.W.keepIn K (.ref f15) = true)
    (a16 : PySem.W.nsIn K mainGlobals "is_part" = some (some (.ref f16)))
    (l16 : K.lookup f16 = some ⟨oc16, od16, .func (PySem.W.fnOf "is_part" "is_part" (defArgs s_is_part) (defBody s_is_part) (defScope s_is_part) .none kV16 dc16 pm16 an16 cd16 ct16), sl16⟩)
    (c16 : PySem.W.codeIn K cd16 "is_part" = true)
    (k16 : PySem.W.keepIn K (.ref f16) = true)
    (a17 : PySem.W.nsIn K mainGlobals "is_step" = some (some (.ref f17)))
    (l17 : K.lookup f17 = some ⟨oc17, od17, .func (PySem.W.fnOf "is_step" "is_step" (defArgs s_is_step) (defBody s_is_step) (defScope s_is_step) .none kV17 dc17 pm17 an17 cd17 ct17), sl17⟩)
    (c17 : PySem.W.codeIn K cd17 "is_step" = true)
    (k17 : PySem.W.keepIn K (.ref f17) = true)
    (a18 : PySem.W.nsIn K mainGlobals "kind_made" = some (some (.ref f18)))
    (l18 : K.lookup f18 = some ⟨oc18, od18, .func (PySem.W.fnOf "kind_made" "kind_made" (defArgs s_kind_made) (defBody s_kind_made) (defScope s_kind_made) .none kV18 dc18 pm18 an18 cd18 ct18), sl18⟩)
    (c18 : PySem.W.codeIn K cd18 "kind_made" = true)
    (k18 : PySem.W.keepIn K (.ref f18) = true)
    (a19 : PySem.W.nsIn K mainGlobals "kinds_of" = some (some (.ref f19)))
    (l19 : K.lookup f19 = some ⟨oc19, od19, .func (PySem.W.fnOf "kinds_of" "kinds_of" (defArgs s_kinds_of) (defBody s_kinds_of) (defScope s_kinds_of) .none kV19 dc19 pm19 an19 cd19 ct19), sl19⟩)
    (c19 : PySem.W.codeIn K cd19 "kinds_of" = true)
    (k19 : PySem.W.keepIn K (.ref f19) = true)
    (a20 : PySem.W.nsIn K mainGlobals "is_program" = some (some (.ref f20)))
    (l20 : K.lookup f20 = some ⟨oc20, od20, .func (PySem.W.fnOf "is_program" "is_program" (defArgs s_is_program) (defBody s_is_program) (defScope s_is_program) .none kV20 dc20 pm20 an20 cd20 ct20), sl20⟩)
    (c20 : PySem.W.codeIn K cd20 "is_program" = true)
    (k20 : PySem.W.keepIn K (.ref f20) = true)
    (a21 : PySem.W.nsIn K mainGlobals "need_program" = some (some (.ref f21)))
    (l21 : K.lookup f21 = some ⟨oc21, od21, .func (PySem.W.fnOf "need_program" "need_program" (defArgs s_need_program) (defBody s_need_program) (defScope s_need_program) .none kV21 dc21 pm21 an21 cd21 ct21), sl21⟩)
    (c21 : PySem.W.codeIn K cd21 "need_program" = true)
    (k21 : PySem.W.keepIn K (.ref f21) = true)
    (a22 : PySem.W.nsIn K mainGlobals "is_world" = some (some (.ref f22)))
    (l22 : K.lookup f22 = some ⟨oc22, od22, .func (PySem.W.fnOf "is_world" "is_world" (defArgs s_is_world) (defBody s_is_world) (defScope s_is_world) .none kV22 dc22 pm22 an22 cd22 ct22), sl22⟩)
    (c22 : PySem.W.codeIn K cd22 "is_world" = true)
    (k22 : PySem.W.keepIn K (.ref f22) = true)
    (a23 : PySem.W.nsIn K mainGlobals "need_world" = some (some (.ref f23)))
    (l23 : K.lookup f23 = some ⟨oc23, od23, .func (PySem.W.fnOf "need_world" "need_world" (defArgs s_need_world) (defBody s_need_world) (defScope s_need_world) .none kV23 dc23 pm23 an23 cd23 ct23), sl23⟩)
    (c23 : PySem.W.codeIn K cd23 "need_world" = true)
    (k23 : PySem.W.keepIn K (.ref f23) = true)
    (a24 : PySem.W.nsIn K mainGlobals "kinds" = some (some (.ref f24)))
    (l24 : K.lookup f24 = some ⟨oc24, od24, .func (PySem.W.fnOf "kinds" "kinds" (defArgs s_kinds) (defBody s_kinds) (defScope s_kinds) .none kV24 dc24 pm24 an24 cd24 ct24), sl24⟩)
    (c24 : PySem.W.codeIn K cd24 "kinds" = true)
    (k24 : PySem.W.keepIn K (.ref f24) = true)
    (a25 : PySem.W.nsIn K mainGlobals "asked_moments" = some (some (.ref f25)))
    (l25 : K.lookup f25 = some ⟨oc25, od25, .func (PySem.W.fnOf "asked_moments" "asked_moments" (defArgs s_asked_moments) (defBody s_asked_moments) (defScope s_asked_moments) .none kV25 dc25 pm25 an25 cd25 ct25), sl25⟩)
    (c25 : PySem.W.codeIn K cd25 "asked_moments" = true)
    (k25 : PySem.W.keepIn K (.ref f25) = true)
    (a26 : PySem.W.nsIn K mainGlobals "value_made" = some (some (.ref f26)))
    (l26 : K.lookup f26 = some ⟨oc26, od26, .func (PySem.W.fnOf "value_made" "value_made" (defArgs s_value_made) (defBody s_value_made) (defScope s_value_made) .none kV26 dc26 pm26 an26 cd26 ct26), sl26⟩)
    (c26 : PySem.W.codeIn K cd26 "value_made" = true)
    (k26 : PySem.W.keepIn K (.ref f26) = true)
    (a27 : PySem.W.nsIn K mainGlobals "table_ahead" = some (some (.ref f27)))
    (l27 : K.lookup f27 = some ⟨oc27, od27, .func (PySem.W.fnOf "table_ahead" "table_ahead" (defArgs s_table_ahead) (defBody s_table_ahead) (defScope s_table_ahead) .none kV27 dc27 pm27 an27 cd27 ct27), sl27⟩)
    (c27 : PySem.W.codeIn K cd27 "table_ahead" = true)
    (k27 : PySem.W.keepIn K (.ref f27) = true)
    (a28 : PySem.W.nsIn K mainGlobals "run" = some (some (.ref f28)))
    (l28 : K.lookup f28 = some ⟨oc28, od28, .func (PySem.W.fnOf "run" "run" (defArgs s_run) (defBody s_run) (defScope s_run) (.ref T28) kV28 dc28 pm28 an28 cd28 ct28), sl28⟩)
    (lT28 : K.lookup T28 = some ⟨.type "tuple", oT28, .seq #[(.int 0 tT28_0)] nT28, sT28⟩)
    (c28 : PySem.W.codeIn K cd28 "run" = true)
    (k28 : PySem.W.keepIn K (.ref f28) = true)
    (a29 : PySem.W.nsIn K mainGlobals "_law_digits" = some (some (.ref f29)))
    (l29 : K.lookup f29 = some ⟨oc29, od29, .func (PySem.W.fnOf "_law_digits" "_law_digits" (defArgs s__law_digits) (defBody s__law_digits) (defScope s__law_digits) .none kV29 dc29 pm29 an29 cd29 ct29), sl29⟩)
    (c29 : PySem.W.codeIn K cd29 "_law_digits" = true)
    (k29 : PySem.W.keepIn K (.ref f29) = true)
    (a30 : PySem.W.nsIn K mainGlobals "_law_draw" = some (some (.ref f30)))
    (l30 : K.lookup f30 = some ⟨oc30, od30, .func (PySem.W.fnOf "_law_draw" "_law_draw" (defArgs s__law_draw) (defBody s__law_draw) (defScope s__law_draw) .none kV30 dc30 pm30 an30 cd30 ct30), sl30⟩)
    (c30 : PySem.W.codeIn K cd30 "_law_draw" = true)
    (k30 : PySem.W.keepIn K (.ref f30) = true)
    (a31 : PySem.W.nsIn K mainGlobals "_law_any_hour" = some (some (.ref f31)))
    (l31 : K.lookup f31 = some ⟨oc31, od31, .func (PySem.W.fnOf "_law_any_hour" "_law_any_hour" (defArgs s__law_any_hour) (defBody s__law_any_hour) (defScope s__law_any_hour) .none kV31 dc31 pm31 an31 cd31 ct31), sl31⟩)
    (c31 : PySem.W.codeIn K cd31 "_law_any_hour" = true)
    (k31 : PySem.W.keepIn K (.ref f31) = true)
    (a32 : PySem.W.nsIn K mainGlobals "_law_make_region" = some (some (.ref f32)))
    (l32 : K.lookup f32 = some ⟨oc32, od32, .func (PySem.W.fnOf "_law_make_region" "_law_make_region" (defArgs s__law_make_region) (defBody s__law_make_region) (defScope s__law_make_region) .none kV32 dc32 pm32 an32 cd32 ct32), sl32⟩)
    (c32 : PySem.W.codeIn K cd32 "_law_make_region" = true)
    (k32 : PySem.W.keepIn K (.ref f32) = true)
    (a33 : PySem.W.nsIn K mainGlobals "_law_make_chart" = some (some (.ref f33)))
    (l33 : K.lookup f33 = some ⟨oc33, od33, .func (PySem.W.fnOf "_law_make_chart" "_law_make_chart" (defArgs s__law_make_chart) (defBody s__law_make_chart) (defScope s__law_make_chart) .none kV33 dc33 pm33 an33 cd33 ct33), sl33⟩)
    (c33 : PySem.W.codeIn K cd33 "_law_make_chart" = true)
    (k33 : PySem.W.keepIn K (.ref f33) = true)
    (a34 : PySem.W.nsIn K mainGlobals "_law_whole" = some (some (.ref f34)))
    (l34 : K.lookup f34 = some ⟨oc34, od34, .func (PySem.W.fnOf "_law_whole" "_law_whole" (defArgs s__law_whole) (defBody s__law_whole) (defScope s__law_whole) .none kV34 dc34 pm34 an34 cd34 ct34), sl34⟩)
    (c34 : PySem.W.codeIn K cd34 "_law_whole" = true)
    (k34 : PySem.W.keepIn K (.ref f34) = true)
    (a35 : PySem.W.nsIn K mainGlobals "_law_same" = some (some (.ref f35)))
    (l35 : K.lookup f35 = some ⟨oc35, od35, .func (PySem.W.fnOf "_law_same" "_law_same" (defArgs s__law_same) (defBody s__law_same) (defScope s__law_same) .none kV35 dc35 pm35 an35 cd35 ct35), sl35⟩)
    (c35 : PySem.W.codeIn K cd35 "_law_same" = true)
    (k35 : PySem.W.keepIn K (.ref f35) = true)
    (a36 : PySem.W.nsIn K mainGlobals "_law_cells_chart" = some (some (.ref f36)))
    (l36 : K.lookup f36 = some ⟨oc36, od36, .func (PySem.W.fnOf "_law_cells_chart" "_law_cells_chart" (defArgs s__law_cells_chart) (defBody s__law_cells_chart) (defScope s__law_cells_chart) .none kV36 dc36 pm36 an36 cd36 ct36), sl36⟩)
    (c36 : PySem.W.codeIn K cd36 "_law_cells_chart" = true)
    (k36 : PySem.W.keepIn K (.ref f36) = true)
    (a37 : PySem.W.nsIn K mainGlobals "_law_make_step" = some (some (.ref f37)))
    (l37 : K.lookup f37 = some ⟨oc37, od37, .func (PySem.W.fnOf "_law_make_step" "_law_make_step" (defArgs s__law_make_step) (defBody s__law_make_step) (defScope s__law_make_step) .none kV37 dc37 pm37 an37 cd37 ct37), sl37⟩)
    (c37 : PySem.W.codeIn K cd37 "_law_make_step" = true)
    (k37 : PySem.W.keepIn K (.ref f37) = true)
    (a38 : PySem.W.nsIn K mainGlobals "_law_sort_made" = some (some (.ref f38)))
    (l38 : K.lookup f38 = some ⟨oc38, od38, .func (PySem.W.fnOf "_law_sort_made" "_law_sort_made" (defArgs s__law_sort_made) (defBody s__law_sort_made) (defScope s__law_sort_made) .none kV38 dc38 pm38 an38 cd38 ct38), sl38⟩)
    (c38 : PySem.W.codeIn K cd38 "_law_sort_made" = true)
    (k38 : PySem.W.keepIn K (.ref f38) = true)
    (a39 : PySem.W.nsIn K mainGlobals "_law_sorts" = some (some (.ref f39)))
    (l39 : K.lookup f39 = some ⟨oc39, od39, .func (PySem.W.fnOf "_law_sorts" "_law_sorts" (defArgs s__law_sorts) (defBody s__law_sorts) (defScope s__law_sorts) .none kV39 dc39 pm39 an39 cd39 ct39), sl39⟩)
    (c39 : PySem.W.codeIn K cd39 "_law_sorts" = true)
    (k39 : PySem.W.keepIn K (.ref f39) = true)
    (a40 : PySem.W.nsIn K mainGlobals "_law_make_steps" = some (some (.ref f40)))
    (l40 : K.lookup f40 = some ⟨oc40, od40, .func (PySem.W.fnOf "_law_make_steps" "_law_make_steps" (defArgs s__law_make_steps) (defBody s__law_make_steps) (defScope s__law_make_steps) .none kV40 dc40 pm40 an40 cd40 ct40), sl40⟩)
    (c40 : PySem.W.codeIn K cd40 "_law_make_steps" = true)
    (k40 : PySem.W.keepIn K (.ref f40) = true)
    (a41 : PySem.W.nsIn K mainGlobals "_law_ran" = some (some (.ref f41)))
    (l41 : K.lookup f41 = some ⟨oc41, od41, .func (PySem.W.fnOf "_law_ran" "_law_ran" (defArgs s__law_ran) (defBody s__law_ran) (defScope s__law_ran) .none kV41 dc41 pm41 an41 cd41 ct41), sl41⟩)
    (c41 : PySem.W.codeIn K cd41 "_law_ran" = true)
    (k41 : PySem.W.keepIn K (.ref f41) = true)
    (a42 : PySem.W.nsIn K mainGlobals "_law_start_chart" = some (some (.ref f42)))
    (l42 : K.lookup f42 = some ⟨oc42, od42, .func (PySem.W.fnOf "_law_start_chart" "_law_start_chart" (defArgs s__law_start_chart) (defBody s__law_start_chart) (defScope s__law_start_chart) .none kV42 dc42 pm42 an42 cd42 ct42), sl42⟩)
    (c42 : PySem.W.codeIn K cd42 "_law_start_chart" = true)
    (k42 : PySem.W.keepIn K (.ref f42) = true)
    (a43 : PySem.W.nsIn K mainGlobals "_law_later_chart" = some (some (.ref f43)))
    (l43 : K.lookup f43 = some ⟨oc43, od43, .func (PySem.W.fnOf "_law_later_chart" "_law_later_chart" (defArgs s__law_later_chart) (defBody s__law_later_chart) (defScope s__law_later_chart) .none kV43 dc43 pm43 an43 cd43 ct43), sl43⟩)
    (c43 : PySem.W.codeIn K cd43 "_law_later_chart" = true)
    (k43 : PySem.W.keepIn K (.ref f43) = true)
    (a44 : PySem.W.nsIn K mainGlobals "_law_unlike_ahead" = some (some (.ref f44)))
    (l44 : K.lookup f44 = some ⟨oc44, od44, .func (PySem.W.fnOf "_law_unlike_ahead" "_law_unlike_ahead" (defArgs s__law_unlike_ahead) (defBody s__law_unlike_ahead) (defScope s__law_unlike_ahead) .none kV44 dc44 pm44 an44 cd44 ct44), sl44⟩)
    (c44 : PySem.W.codeIn K cd44 "_law_unlike_ahead" = true)
    (k44 : PySem.W.keepIn K (.ref f44) = true)
    (a45 : PySem.W.nsIn K mainGlobals "_law_stepped" = some (some (.ref f45)))
    (l45 : K.lookup f45 = some ⟨oc45, od45, .func (PySem.W.fnOf "_law_stepped" "_law_stepped" (defArgs s__law_stepped) (defBody s__law_stepped) (defScope s__law_stepped) .none kV45 dc45 pm45 an45 cd45 ct45), sl45⟩)
    (c45 : PySem.W.codeIn K cd45 "_law_stepped" = true)
    (k45 : PySem.W.keepIn K (.ref f45) = true)
    (a46 : PySem.W.nsIn K mainGlobals "law" = some (some (.ref f46)))
    (l46 : K.lookup f46 = some ⟨oc46, od46, .func (PySem.W.fnOf "law" "law" (defArgs s_law) (defBody s_law) (defScope s_law) .none kV46 dc46 pm46 an46 cd46 ct46), sl46⟩)
    (c46 : PySem.W.codeIn K cd46 "law" = true)
    (k46 : PySem.W.keepIn K (.ref f46) = true)
    (z0 : PySem.W.nsIn K mainGlobals "all" = some none)
    (z1 : PySem.W.nsIn K mainGlobals "bool" = some none)
    (z2 : PySem.W.nsIn K mainGlobals "enumerate" = some none)
    (z3 : PySem.W.nsIn K mainGlobals "int" = some none)
    (z4 : PySem.W.nsIn K mainGlobals "isinstance" = some none)
    (z5 : PySem.W.nsIn K mainGlobals "len" = some none)
    (z6 : PySem.W.nsIn K mainGlobals "list" = some none)
    (z7 : PySem.W.nsIn K mainGlobals "max" = some none)
    (z8 : PySem.W.nsIn K mainGlobals "min" = some none)
    (z9 : PySem.W.nsIn K mainGlobals "range" = some none)
    (z10 : PySem.W.nsIn K mainGlobals "str" = some none)
    (z11 : PySem.W.nsIn K mainGlobals "tuple" = some none)
    (v0 : PySem.W.nsIn K mainGlobals "FOLDS" = some (some (.ref Q0_1)))
    (q0_1 : K.lookup Q0_1 = some ⟨.type "tuple", oQ0_1, .seq #[(.str "early" tQ0_2), (.str "late" tQ0_3), (.str "refuse" tQ0_4)] nQ0_1, sQ0_1⟩)
    (v1 : PySem.W.nsIn K mainGlobals "GAPS" = some (some (.ref Q1_1)))
    (q1_1 : K.lookup Q1_1 = some ⟨.type "tuple", oQ1_1, .seq #[(.str "ahead" tQ1_2), (.str "behind" tQ1_3), (.str "refuse" tQ1_4)] nQ1_1, sQ1_1⟩)
    (v2 : PySem.W.nsIn K mainGlobals "MADE" = some (some (.ref Q2_t)))
    (tb2 : K.lookup Q2_t = some ⟨.type "dict", none, .dict #[⟨hQ2_0, (.str "read" uQ2_0), (.str "reading" tQ2_1)⟩, ⟨hQ2_1, (.str "find" uQ2_1), (.str "moment" tQ2_2)⟩, ⟨hQ2_2, (.str "offset" uQ2_2), (.str "span" tQ2_3)⟩, ⟨hQ2_3, (.str "edition" uQ2_3), (.str "moment" tQ2_4)⟩, ⟨hQ2_4, (.str "plus" uQ2_4), (.str "reading" tQ2_5)⟩, ⟨hQ2_5, (.str "less" uQ2_5), (.str "moment" tQ2_6)⟩] nQ2_t, #[]⟩)
    (hs2_0 : hQ2_0 = PyData.keyHash w.params "read")
    (hs2_1 : hQ2_1 = PyData.keyHash w.params "find")
    (hs2_2 : hQ2_2 = PyData.keyHash w.params "offset")
    (hs2_3 : hQ2_3 = PyData.keyHash w.params "edition")
    (hs2_4 : hQ2_4 = PyData.keyHash w.params "plus")
    (hs2_5 : hQ2_5 = PyData.keyHash w.params "less")
    (lw2 : (Q2_t == sysModules) = false)
    (v3 : PySem.W.nsIn K mainGlobals "MOST_MINUTES" = some (some (.int (100000) t3)))
    (v4 : PySem.W.nsIn K mainGlobals "MOST_OFFSET" = some (some (.int (900) t4)))
    (v5 : PySem.W.nsIn K mainGlobals "MOST_SPACING" = some (some (.int (1000000) t5)))
    (v6 : PySem.W.nsIn K mainGlobals "MOST_STEPS" = some (some (.int (8) t6)))
    (v7 : PySem.W.nsIn K mainGlobals "PARTS" = some (some (.ref Q7_t)))
    (tb7 : K.lookup Q7_t = some ⟨.type "dict", none, .dict #[⟨hQ7_0, (.str "read" uQ7_0), (.ref Q7_1)⟩, ⟨hQ7_1, (.str "find" uQ7_1), (.ref Q7_4)⟩, ⟨hQ7_2, (.str "offset" uQ7_2), (.ref Q7_9)⟩, ⟨hQ7_3, (.str "edition" uQ7_3), (.ref Q7_12)⟩, ⟨hQ7_4, (.str "plus" uQ7_4), (.ref Q7_15)⟩, ⟨hQ7_5, (.str "less" uQ7_5), (.ref Q7_18)⟩, ⟨hQ7_6, (.str "add" uQ7_6), (.ref Q7_21)⟩] nQ7_t, #[]⟩)
    (hs7_0 : hQ7_0 = PyData.keyHash w.params "read")
    (hs7_1 : hQ7_1 = PyData.keyHash w.params "find")
    (hs7_2 : hQ7_2 = PyData.keyHash w.params "offset")
    (hs7_3 : hQ7_3 = PyData.keyHash w.params "edition")
    (hs7_4 : hQ7_4 = PyData.keyHash w.params "plus")
    (hs7_5 : hQ7_5 = PyData.keyHash w.params "less")
    (hs7_6 : hQ7_6 = PyData.keyHash w.params "add")
    (lw7 : (Q7_t == sysModules) = false)
    (q7_1 : K.lookup Q7_1 = some ⟨.type "tuple", oQ7_1, .seq #[(.str "moment" tQ7_2), (.str "place" tQ7_3)] nQ7_1, sQ7_1⟩)
    (q7_4 : K.lookup Q7_4 = some ⟨.type "tuple", oQ7_4, .seq #[(.str "reading" tQ7_5), (.str "place" tQ7_6), (.str "fold" tQ7_7), (.str "gap" tQ7_8)] nQ7_4, sQ7_4⟩)
    (q7_9 : K.lookup Q7_9 = some ⟨.type "tuple", oQ7_9, .seq #[(.str "moment" tQ7_10), (.str "place" tQ7_11)] nQ7_9, sQ7_9⟩)
    (q7_12 : K.lookup Q7_12 = some ⟨.type "tuple", oQ7_12, .seq #[(.str "moment" tQ7_13), (.str "place" tQ7_14)] nQ7_12, sQ7_12⟩)
    (q7_15 : K.lookup Q7_15 = some ⟨.type "tuple", oQ7_15, .seq #[(.str "moment" tQ7_16), (.str "span" tQ7_17)] nQ7_15, sQ7_15⟩)
    (q7_18 : K.lookup Q7_18 = some ⟨.type "tuple", oQ7_18, .seq #[(.str "reading" tQ7_19), (.str "span" tQ7_20)] nQ7_18, sQ7_18⟩)
    (q7_21 : K.lookup Q7_21 = some ⟨.type "tuple", oQ7_21, .seq #[(.str "point" tQ7_22), (.str "minutes" tQ7_23)] nQ7_21, sQ7_21⟩)
    (xa0 : PySem.W.nsIn K mainGlobals "InvalidNumber" = some (some (.ref C0)))
    (xq0 : PySem.W.excIn K C0 [.type "ValueError", .type "Exception", .type "BaseException", .type "object"] "ValueError.__new__" = true)
    (xk0 : PySem.W.keepIn K (.ref C0) = true)
    (xb0 : PySem.W.subIn K (.ref C0) (.type "BaseException") = some true)
    (xt0 : PySem.W.typeIn K (.ref C0) = some (.type "type"))
    (xa1 : PySem.W.nsIn K mainGlobals "InvalidProgram" = some (some (.ref C1)))
    (xq1 : PySem.W.excIn K C1 [.type "ValueError", .type "Exception", .type "BaseException", .type "object"] "ValueError.__new__" = true)
    (xk1 : PySem.W.keepIn K (.ref C1) = true)
    (xb1 : PySem.W.subIn K (.ref C1) (.type "BaseException") = some true)
    (xt1 : PySem.W.typeIn K (.ref C1) = some (.type "type"))
    (xa2 : PySem.W.nsIn K mainGlobals "InvalidRule" = some (some (.ref C2)))
    (xq2 : PySem.W.excIn K C2 [.type "ValueError", .type "Exception", .type "BaseException", .type "object"] "ValueError.__new__" = true)
    (xk2 : PySem.W.keepIn K (.ref C2) = true)
    (xb2 : PySem.W.subIn K (.ref C2) (.type "BaseException") = some true)
    (xt2 : PySem.W.typeIn K (.ref C2) = some (.type "type"))
    (xa3 : PySem.W.nsIn K mainGlobals "InvalidTable" = some (some (.ref C3)))
    (xq3 : PySem.W.excIn K C3 [.type "ValueError", .type "Exception", .type "BaseException", .type "object"] "ValueError.__new__" = true)
    (xk3 : PySem.W.keepIn K (.ref C3) = true)
    (xb3 : PySem.W.subIn K (.ref C3) (.type "BaseException") = some true)
    (xt3 : PySem.W.typeIn K (.ref C3) = some (.type "type"))
    (xa4 : PySem.W.nsIn K mainGlobals "InvalidWorld" = some (some (.ref C4)))
    (xq4 : PySem.W.excIn K C4 [.type "ValueError", .type "Exception", .type "BaseException", .type "object"] "ValueError.__new__" = true)
    (xk4 : PySem.W.keepIn K (.ref C4) = true)
    (xb4 : PySem.W.subIn K (.ref C4) (.type "BaseException") = some true)
    (xt4 : PySem.W.typeIn K (.ref C4) = some (.type "type"))
    (xa5 : PySem.W.nsIn K mainGlobals "InvalidZone" = some (some (.ref C5)))
    (xq5 : PySem.W.excIn K C5 [.type "ValueError", .type "Exception", .type "BaseException", .type "object"] "ValueError.__new__" = true)
    (xk5 : PySem.W.keepIn K (.ref C5) = true)
    (xb5 : PySem.W.subIn K (.ref C5) (.type "BaseException") = some true)
    (xt5 : PySem.W.typeIn K (.ref C5) = some (.type "type"))
    (xa6 : PySem.W.nsIn K mainGlobals "InvalidZones" = some (some (.ref C6)))
    (xq6 : PySem.W.excIn K C6 [.type "ValueError", .type "Exception", .type "BaseException", .type "object"] "ValueError.__new__" = true)
    (xk6 : PySem.W.keepIn K (.ref C6) = true)
    (xb6 : PySem.W.subIn K (.ref C6) (.type "BaseException") = some true)
    (xt6 : PySem.W.typeIn K (.ref C6) = some (.type "type"))
    (xa7 : PySem.W.nsIn K mainGlobals "Unsuited" = some (some (.ref C7)))
    (xq7 : PySem.W.excIn K C7 [.type "ValueError", .type "Exception", .type "BaseException", .type "object"] "ValueError.__new__" = true)
    (xk7 : PySem.W.keepIn K (.ref C7) = true)
    (xb7 : PySem.W.subIn K (.ref C7) (.type "BaseException") = some true)
    (xt7 : PySem.W.typeIn K (.ref C7) = some (.type "type"))
    (xa8 : PySem.W.nsIn K mainGlobals "Refused" = some (some (.ref C8)))
    (xf0 : PySem.W.findIn K (.ref C8) "__getattribute__" = some (some (.builtin "BaseException.__getattribute__")))
    (xf1 : PySem.W.findIn K (.ref C8) "__getattr__" = some none)
    (xf2 : PySem.W.subIn K (.ref C8) (.type "BaseException") = some true)
    (xf3 : PySem.W.hasDictIn K C8 = true)
    (xf4 : PySem.W.findIn K (.ref C8) "step" = some none)
    (xf5 : PySem.W.findIn K (.ref C0) "__getattribute__" = some (some (.builtin "BaseException.__getattribute__")))
    (xf6 : PySem.W.findIn K (.ref C0) "__getattr__" = some none)
    (xf7 : PySem.W.hasDictIn K C0 = true)
    (xf8 : PySem.W.findIn K (.ref C0) "__class__" = some (some (.builtin "object.__class__")))
    (xf9 : PySem.W.specialIn K (.builtin "object.__class__") "__get__" = some (some (.builtin "getset_descriptor.__get__")))
    (xf10 : PySem.W.takesIn K (.builtin "object.__class__") = some true)
    (xf11 : PySem.W.mroIn K C0 (.type "object") = some true)
    (xf12 : PySem.W.typeIn K (.ref C8) = some (.type "type"))
    (xf13 : PySem.W.subIn K (.ref C8) (.ref C8) = some true)
    (xf14 : PySem.W.subIn K (.ref C0) (.ref C8) = some false)
    (xf15 : PySem.W.findIn K (.ref C1) "__getattribute__" = some (some (.builtin "BaseException.__getattribute__")))
    (xf16 : PySem.W.findIn K (.ref C1) "__getattr__" = some none)
    (xf17 : PySem.W.hasDictIn K C1 = true)
    (xf18 : PySem.W.findIn K (.ref C1) "__class__" = some (some (.builtin "object.__class__")))
    (xf19 : PySem.W.mroIn K C1 (.type "object") = some true)
    (xf20 : PySem.W.subIn K (.ref C1) (.ref C8) = some false)
    (xf21 : PySem.W.findIn K (.ref C4) "__getattribute__" = some (some (.builtin "BaseException.__getattribute__")))
    (xf22 : PySem.W.findIn K (.ref C4) "__getattr__" = some none)
    (xf23 : PySem.W.hasDictIn K C4 = true)
    (xf24 : PySem.W.findIn K (.ref C4) "__class__" = some (some (.builtin "object.__class__")))
    (xf25 : PySem.W.mroIn K C4 (.type "object") = some true)
    (xf26 : PySem.W.subIn K (.ref C4) (.ref C8) = some false)
    (xf27 : PySem.W.findIn K (.ref C5) "__getattribute__" = some (some (.builtin "BaseException.__getattribute__")))
    (xf28 : PySem.W.findIn K (.ref C5) "__getattr__" = some none)
    (xf29 : PySem.W.hasDictIn K C5 = true)
    (xf30 : PySem.W.findIn K (.ref C5) "__class__" = some (some (.builtin "object.__class__")))
    (xf31 : PySem.W.mroIn K C5 (.type "object") = some true)
    (xf32 : PySem.W.subIn K (.ref C5) (.ref C8) = some false)
    (xf33 : PySem.W.findIn K (.ref C6) "__getattribute__" = some (some (.builtin "BaseException.__getattribute__")))
    (xf34 : PySem.W.findIn K (.ref C6) "__getattr__" = some none)
    (xf35 : PySem.W.hasDictIn K C6 = true)
    (xf36 : PySem.W.findIn K (.ref C6) "__class__" = some (some (.builtin "object.__class__")))
    (xf37 : PySem.W.mroIn K C6 (.type "object") = some true)
    (xf38 : PySem.W.subIn K (.ref C6) (.ref C8) = some false)
    (xf39 : PySem.W.findIn K (.ref C8) "__class__" = some (some (.builtin "object.__class__")))
    (xf40 : PySem.W.mroIn K C8 (.type "object") = some true)
    (xf41 : PySem.W.findIn K (.ref C7) "__getattribute__" = some (some (.builtin "BaseException.__getattribute__")))
    (xf42 : PySem.W.findIn K (.ref C7) "__getattr__" = some none)
    (xf43 : PySem.W.hasDictIn K C7 = true)
    (xf44 : PySem.W.findIn K (.ref C7) "__class__" = some (some (.builtin "object.__class__")))
    (xf45 : PySem.W.mroIn K C7 (.type "object") = some true)
    (xf46 : PySem.W.subIn K (.ref C7) (.ref C8) = some false)
    (xf47 : PySem.W.subIn K (.ref C7) (.ref C7) = some true)
    (xf48 : PySem.W.subIn K (.ref C0) (.ref C7) = some false)
    (xf49 : PySem.W.subIn K (.ref C1) (.ref C7) = some false)
    (xf50 : PySem.W.subIn K (.ref C4) (.ref C7) = some false)
    (xf51 : PySem.W.subIn K (.ref C5) (.ref C7) = some false)
    (xf52 : PySem.W.subIn K (.ref C6) (.ref C7) = some false)
    (xf53 : PySem.W.subIn K (.ref C8) (.ref C7) = some false)
    (xf54 : PySem.W.mroIn K C0 (.type "tuple") = some false)
    (xf55 : PySem.W.mroIn K C0 (.type "list") = some false)
    (xf56 : PySem.W.mroIn K C0 (.type "int") = some false)
    (xf57 : PySem.W.mroIn K C0 (.type "str") = some false)
    (xf58 : PySem.W.mroIn K C0 (.type "bool") = some false)
    (xf59 : PySem.W.mroIn K C0 (.type "dict") = some false)
    (xf60 : PySem.W.mroIn K C1 (.type "tuple") = some false)
    (xf61 : PySem.W.mroIn K C1 (.type "list") = some false)
    (xf62 : PySem.W.mroIn K C1 (.type "int") = some false)
    (xf63 : PySem.W.mroIn K C1 (.type "str") = some false)
    (xf64 : PySem.W.mroIn K C1 (.type "bool") = some false)
    (xf65 : PySem.W.mroIn K C1 (.type "dict") = some false)
    (xf66 : PySem.W.mroIn K C4 (.type "tuple") = some false)
    (xf67 : PySem.W.mroIn K C4 (.type "list") = some false)
    (xf68 : PySem.W.mroIn K C4 (.type "int") = some false)
    (xf69 : PySem.W.mroIn K C4 (.type "str") = some false)
    (xf70 : PySem.W.mroIn K C4 (.type "bool") = some false)
    (xf71 : PySem.W.mroIn K C4 (.type "dict") = some false)
    (xf72 : PySem.W.mroIn K C5 (.type "tuple") = some false)
    (xf73 : PySem.W.mroIn K C5 (.type "list") = some false)
    (xf74 : PySem.W.mroIn K C5 (.type "int") = some false)
    (xf75 : PySem.W.mroIn K C5 (.type "str") = some false)
    (xf76 : PySem.W.mroIn K C5 (.type "bool") = some false)
    (xf77 : PySem.W.mroIn K C5 (.type "dict") = some false)
    (xf78 : PySem.W.mroIn K C6 (.type "tuple") = some false)
    (xf79 : PySem.W.mroIn K C6 (.type "list") = some false)
    (xf80 : PySem.W.mroIn K C6 (.type "int") = some false)
    (xf81 : PySem.W.mroIn K C6 (.type "str") = some false)
    (xf82 : PySem.W.mroIn K C6 (.type "bool") = some false)
    (xf83 : PySem.W.mroIn K C6 (.type "dict") = some false)
    (xf84 : PySem.W.mroIn K C8 (.type "tuple") = some false)
    (xf85 : PySem.W.mroIn K C8 (.type "list") = some false)
    (xf86 : PySem.W.mroIn K C8 (.type "int") = some false)
    (xf87 : PySem.W.mroIn K C8 (.type "str") = some false)
    (xf88 : PySem.W.mroIn K C8 (.type "bool") = some false)
    (xf89 : PySem.W.mroIn K C8 (.type "dict") = some false)
    (xf90 : PySem.W.mroIn K C7 (.type "tuple") = some false)
    (xf91 : PySem.W.mroIn K C7 (.type "list") = some false)
    (xf92 : PySem.W.mroIn K C7 (.type "int") = some false)
    (xf93 : PySem.W.mroIn K C7 (.type "str") = some false)
    (xf94 : PySem.W.mroIn K C7 (.type "bool") = some false)
    (xf95 : PySem.W.mroIn K C7 (.type "dict") = some false)
    (xa9 : PySem.W.nsIn K mainGlobals "HourError" = some (some (.ref C9)))
    (xf96 : PySem.W.subIn K (.ref C9) (.type "BaseException") = some true)
    (xf97 : PySem.W.hasDictIn K C9 = true)
    (xf98 : PySem.W.typeIn K (.ref C9) = some (.type "type"))
    (xf99 : PySem.W.subIn K (.ref C0) (.ref C9) = some true)
    (xf100 : PySem.W.subIn K (.ref C1) (.ref C9) = some true)
    (xf101 : PySem.W.subIn K (.ref C4) (.ref C9) = some true)
    (xf102 : PySem.W.subIn K (.ref C5) (.ref C9) = some true)
    (xf103 : PySem.W.subIn K (.ref C6) (.ref C9) = some true)
    (xf104 : PySem.W.subIn K (.ref C8) (.ref C9) = some true)
    (xf105 : PySem.W.subIn K (.ref C7) (.ref C9) = some true)
    (xL8 : K.lookup C8 = some (excClassObj nm_8 q_8 C8 N_8 bs_8 bm_8 true sn_8 sub_8 ab_8 col_8 dd_8 m0_8 m1_8 m2_8 m3_8 m5_8 "ValueError.__new__"))
    (rb8 : PySem.HandSPX.refsVE bm_8 = true)
    (xf106 : PySem.W.findIn K (.ref C8) "__init__" = some (some (.ref fI_8)))
    (xf107 : PySem.W.typeIn K (.ref fI_8) = some (.type "function"))
    (lI8 : K.lookup fI_8 = some ⟨oI_8, odI_8, .func (PySem.W.fnOf "__init__" "Refused.__init__" (defArgs si_Refused) (defBody si_Refused) (defScope si_Refused) .none kVI_8 dcI_8 pmI_8 anI_8 cdI_8 ctI_8), slI_8⟩)
    (cI8 : PySem.W.codeIn K cdI_8 "Refused.__init__" = true)
    (xf108 : PySem.W.keepIn K (.ref fI_8) = true)
    (xf109 : PySem.W.readsIn K C9 (.type "type") = true)
    (xf110 : PySem.W.specialIn K (.ref C9) "__getattribute__" = some (some (.builtin "type.__getattribute__")))
    (xf111 : PySem.W.findCls K (.ref C9) (.type "type") "__init__" = some (.val (.builtin "ValueError.__init__")))
    (xf112 : PySem.W.findIn K (.ref C8) "__setattr__" = some (some (.builtin "object.__setattr__")))
    (xf113 : PySem.W.keepIn K (.ref C8) = true) :
    ∃ fd : FuncData, (∀ (s : Shared) (v : Value), BindsTo s fd ⟨[v], []⟩ [("_law_script", v)]) ∧ ∀ base : Heap, K.In base → base.Ns mainGlobals mg → FnOk l.prog w K mg base (L2.CX l.prog w) 33 fa fd ["_law_script"] (spLaw K) := by
  have e := hfa.symm.trans (PySem.W.mg_of X G a46)
  cases e
  have T : Txt K mg w := ⟨PySem.W.mg_none_of X G z0, PySem.W.mg_none_of X G z1, PySem.W.mg_none_of X G z2, PySem.W.mg_none_of X G z3, PySem.W.mg_none_of X G z4, PySem.W.mg_none_of X G z5, PySem.W.mg_none_of X G z6, PySem.W.mg_none_of X G z7, PySem.W.mg_none_of X G z8, PySem.W.mg_none_of X G z9, PySem.W.mg_none_of X G z10, PySem.W.mg_none_of X G z11, ⟨_, _, PySem.W.mg_of X G v0, rvR, (.tup (kt_mk q0_1 (Nat.le_of_ble_eq_true rfl) (.cons rvS (.cons rvS (.cons rvS .nil)))) (.cons (.str _) (.cons (.str _) (.cons (.str _) .nil))))⟩, ⟨_, _, PySem.W.mg_of X G v1, rvR, (.tup (kt_mk q1_1 (Nat.le_of_ble_eq_true rfl) (.cons rvS (.cons rvS (.cons rvS .nil)))) (.cons (.str _) (.cons (.str _) (.cons (.str _) .nil))))⟩, ⟨_, _, _, PySem.W.mg_of X G v2, tb2, lw2, (.cons rfl hs2_0 rvS (.str _) (.cons rfl hs2_1 rvS (.str _) (.cons rfl hs2_2 rvS (.str _) (.cons rfl hs2_3 rvS (.str _) (.cons rfl hs2_4 rvS (.str _) (.cons rfl hs2_5 rvS (.str _) .nil))))))⟩, ⟨t3, PySem.W.mg_of X G v3⟩, ⟨t4, PySem.W.mg_of X G v4⟩, ⟨t5, PySem.W.mg_of X G v5⟩, ⟨t6, PySem.W.mg_of X G v6⟩, ⟨_, _, _, PySem.W.mg_of X G v7, tb7, lw7, (.cons rfl hs7_0 rvR (.tup (kt_mk q7_1 (Nat.le_of_ble_eq_true rfl) (.cons rvS (.cons rvS .nil))) (.cons (.str _) (.cons (.str _) .nil))) (.cons rfl hs7_1 rvR (.tup (kt_mk q7_4 (Nat.le_of_ble_eq_true rfl) (.cons rvS (.cons rvS (.cons rvS (.cons rvS .nil))))) (.cons (.str _) (.cons (.str _) (.cons (.str _) (.cons (.str _) .nil))))) (.cons rfl hs7_2 rvR (.tup (kt_mk q7_9 (Nat.le_of_ble_eq_true rfl) (.cons rvS (.cons rvS .nil))) (.cons (.str _) (.cons (.str _) .nil))) (.cons rfl hs7_3 rvR (.tup (kt_mk q7_12 (Nat.le_of_ble_eq_true rfl) (.cons rvS (.cons rvS .nil))) (.cons (.str _) (.cons (.str _) .nil))) (.cons rfl hs7_4 rvR (.tup (kt_mk q7_15 (Nat.le_of_ble_eq_true rfl) (.cons rvS (.cons rvS .nil))) (.cons (.str _) (.cons (.str _) .nil))) (.cons rfl hs7_5 rvR (.tup (kt_mk q7_18 (Nat.le_of_ble_eq_true rfl) (.cons rvS (.cons rvS .nil))) (.cons (.str _) (.cons (.str _) .nil))) (.cons rfl hs7_6 rvR (.tup (kt_mk q7_21 (Nat.le_of_ble_eq_true rfl) (.cons rvS (.cons rvS .nil))) (.cons (.str _) (.cons (.str _) .nil))) .nil)))))))⟩, ⟨C0, PySem.W.mg_of X G xa0, xq0, xk0, xb0, xt0⟩, ⟨C1, PySem.W.mg_of X G xa1, xq1, xk1, xb1, xt1⟩, ⟨C2, PySem.W.mg_of X G xa2, xq2, xk2, xb2, xt2⟩, ⟨C3, PySem.W.mg_of X G xa3, xq3, xk3, xb3, xt3⟩, ⟨C4, PySem.W.mg_of X G xa4, xq4, xk4, xb4, xt4⟩, ⟨C5, PySem.W.mg_of X G xa5, xq5, xk5, xb5, xt5⟩, ⟨C6, PySem.W.mg_of X G xa6, xq6, xk6, xb6, xt6⟩, ⟨C7, PySem.W.mg_of X G xa7, xq7, xk7, xb7, xt7⟩, ⟨C8, (PySem.W.mg_of X G xa8), ⟨xf0, xf1, xf2, xf3⟩, xf4⟩, ⟨_, ⟨(PySem.W.mg_of X G xa8), _, rfl⟩, (List.forall_mem_cons.mpr ⟨⟨_, (PySem.W.mg_of X G xa0), ⟨xf5, xf6, xb0, xf7, xf8, xf9, xf10, xf11⟩, ((kit_own xf3 xf12 xf13 xf14)).trans (by decide +kernel)⟩, (List.forall_mem_cons.mpr ⟨⟨_, (PySem.W.mg_of X G xa1), ⟨xf15, xf16, xb1, xf17, xf18, xf9, xf10, xf19⟩, ((kit_own xf3 xf12 xf13 xf20)).trans (by decide +kernel)⟩, (List.forall_mem_cons.mpr ⟨⟨_, (PySem.W.mg_of X G xa4), ⟨xf21, xf22, xb4, xf23, xf24, xf9, xf10, xf25⟩, ((kit_own xf3 xf12 xf13 xf26)).trans (by decide +kernel)⟩, (List.forall_mem_cons.mpr ⟨⟨_, (PySem.W.mg_of X G xa5), ⟨xf27, xf28, xb5, xf29, xf30, xf9, xf10, xf31⟩, ((kit_own xf3 xf12 xf13 xf32)).trans (by decide +kernel)⟩, (List.forall_mem_cons.mpr ⟨⟨_, (PySem.W.mg_of X G xa6), ⟨xf33, xf34, xb6, xf35, xf36, xf9, xf10, xf37⟩, ((kit_own xf3 xf12 xf13 xf38)).trans (by decide +kernel)⟩, (List.forall_mem_cons.mpr ⟨⟨_, (PySem.W.mg_of X G xa8), ⟨xf0, xf1, xf2, xf3, xf39, xf9, xf10, xf40⟩, (kit_self).trans (by decide +kernel)⟩, (List.forall_mem_cons.mpr ⟨⟨_, (PySem.W.mg_of X G xa7), ⟨xf41, xf42, xb7, xf43, xf44, xf9, xf10, xf45⟩, ((kit_own xf3 xf12 xf13 xf46)).trans (by decide +kernel)⟩, (fun _ z => absurd z List.not_mem_nil)⟩)⟩)⟩)⟩)⟩)⟩)⟩)⟩, ⟨_, ⟨(PySem.W.mg_of X G xa7), _, rfl⟩, (List.forall_mem_cons.mpr ⟨⟨_, (PySem.W.mg_of X G xa0), ⟨xf5, xf6, xb0, xf7, xf8, xf9, xf10, xf11⟩, ((kit_own xf43 xt7 xf47 xf48)).trans (by decide +kernel)⟩, (List.forall_mem_cons.mpr ⟨⟨_, (PySem.W.mg_of X G xa1), ⟨xf15, xf16, xb1, xf17, xf18, xf9, xf10, xf19⟩, ((kit_own xf43 xt7 xf47 xf49)).trans (by decide +kernel)⟩, (List.forall_mem_cons.mpr ⟨⟨_, (PySem.W.mg_of X G xa4), ⟨xf21, xf22, xb4, xf23, xf24, xf9, xf10, xf25⟩, ((kit_own xf43 xt7 xf47 xf50)).trans (by decide +kernel)⟩, (List.forall_mem_cons.mpr ⟨⟨_, (PySem.W.mg_of X G xa5), ⟨xf27, xf28, xb5, xf29, xf30, xf9, xf10, xf31⟩, ((kit_own xf43 xt7 xf47 xf51)).trans (by decide +kernel)⟩, (List.forall_mem_cons.mpr ⟨⟨_, (PySem.W.mg_of X G xa6), ⟨xf33, xf34, xb6, xf35, xf36, xf9, xf10, xf37⟩, ((kit_own xf43 xt7 xf47 xf52)).trans (by decide +kernel)⟩, (List.forall_mem_cons.mpr ⟨⟨_, (PySem.W.mg_of X G xa8), ⟨xf0, xf1, xf2, xf3, xf39, xf9, xf10, xf40⟩, ((kit_own xf43 xt7 xf47 xf53)).trans (by decide +kernel)⟩, (List.forall_mem_cons.mpr ⟨⟨_, (PySem.W.mg_of X G xa7), ⟨xf41, xf42, xb7, xf43, xf44, xf9, xf10, xf45⟩, (kit_self).trans (by decide +kernel)⟩, (fun _ z => absurd z List.not_mem_nil)⟩)⟩)⟩)⟩)⟩)⟩)⟩)⟩, ⟨(List.forall_mem_cons.mpr ⟨⟨_, (PySem.W.mg_of X G xa0), C0, rfl, ⟨xf5, xf6, xb0, xf7, xf8, xf9, xf10, xf11⟩, (List.forall_mem_cons.mpr ⟨(kit_plain (by decide +kernel) xf54), (List.forall_mem_cons.mpr ⟨(kit_plain (by decide +kernel) xf55), (List.forall_mem_cons.mpr ⟨(kit_plain (by decide +kernel) xf56), (List.forall_mem_cons.mpr ⟨(kit_plain (by decide +kernel) xf57), (List.forall_mem_cons.mpr ⟨(kit_plain (by decide +kernel) xf58), (List.forall_mem_cons.mpr ⟨(kit_plain (by decide +kernel) xf59), (fun _ z => absurd z List.not_mem_nil)⟩)⟩)⟩)⟩)⟩)⟩)⟩, (List.forall_mem_cons.mpr ⟨⟨_, (PySem.W.mg_of X G xa1), C1, rfl, ⟨xf15, xf16, xb1, xf17, xf18, xf9, xf10, xf19⟩, (List.forall_mem_cons.mpr ⟨(kit_plain (by decide +kernel) xf60), (List.forall_mem_cons.mpr ⟨(kit_plain (by decide +kernel) xf61), (List.forall_mem_cons.mpr ⟨(kit_plain (by decide +kernel) xf62), (List.forall_mem_cons.mpr ⟨(kit_plain (by decide +kernel) xf63), (List.forall_mem_cons.mpr ⟨(kit_plain (by decide +kernel) xf64), (List.forall_mem_cons.mpr ⟨(kit_plain (by decide +kernel) xf65), (fun _ z => absurd z List.not_mem_nil)⟩)⟩)⟩)⟩)⟩)⟩)⟩, (List.forall_mem_cons.mpr ⟨⟨_, (PySem.W.mg_of X G xa4), C4, rfl, ⟨xf21, xf22, xb4, xf23, xf24, xf9, xf10, xf25⟩, (List.forall_mem_cons.mpr ⟨(kit_plain (by decide +kernel) xf66), (List.forall_mem_cons.mpr ⟨(kit_plain (by decide +kernel) xf67), (List.forall_mem_cons.mpr ⟨(kit_plain (by decide +kernel) xf68), (List.forall_mem_cons.mpr ⟨(kit_plain (by decide +kernel) xf69), (List.forall_mem_cons.mpr ⟨(kit_plain (by decide +kernel) xf70), (List.forall_mem_cons.mpr ⟨(kit_plain (by decide +kernel) xf71), (fun _ z => absurd z List.not_mem_nil)⟩)⟩)⟩)⟩)⟩)⟩)⟩, (List.forall_mem_cons.mpr ⟨⟨_, (PySem.W.mg_of X G xa5), C5, rfl, ⟨xf27, xf28, xb5, xf29, xf30, xf9, xf10, xf31⟩, (List.forall_mem_cons.mpr ⟨(kit_plain (by decide +kernel) xf72), (List.forall_mem_cons.mpr ⟨(kit_plain (by decide +kernel) xf73), (List.forall_mem_cons.mpr ⟨(kit_plain (by decide +kernel) xf74), (List.forall_mem_cons.mpr ⟨(kit_plain (by decide +kernel) xf75), (List.forall_mem_cons.mpr ⟨(kit_plain (by decide +kernel) xf76), (List.forall_mem_cons.mpr ⟨(kit_plain (by decide +kernel) xf77), (fun _ z => absurd z List.not_mem_nil)⟩)⟩)⟩)⟩)⟩)⟩)⟩, (List.forall_mem_cons.mpr ⟨⟨_, (PySem.W.mg_of X G xa6), C6, rfl, ⟨xf33, xf34, xb6, xf35, xf36, xf9, xf10, xf37⟩, (List.forall_mem_cons.mpr ⟨(kit_plain (by decide +kernel) xf78), (List.forall_mem_cons.mpr ⟨(kit_plain (by decide +kernel) xf79), (List.forall_mem_cons.mpr ⟨(kit_plain (by decide +kernel) xf80), (List.forall_mem_cons.mpr ⟨(kit_plain (by decide +kernel) xf81), (List.forall_mem_cons.mpr ⟨(kit_plain (by decide +kernel) xf82), (List.forall_mem_cons.mpr ⟨(kit_plain (by decide +kernel) xf83), (fun _ z => absurd z List.not_mem_nil)⟩)⟩)⟩)⟩)⟩)⟩)⟩, (List.forall_mem_cons.mpr ⟨⟨_, (PySem.W.mg_of X G xa8), C8, rfl, ⟨xf0, xf1, xf2, xf3, xf39, xf9, xf10, xf40⟩, (List.forall_mem_cons.mpr ⟨(kit_plain (by decide +kernel) xf84), (List.forall_mem_cons.mpr ⟨(kit_plain (by decide +kernel) xf85), (List.forall_mem_cons.mpr ⟨(kit_plain (by decide +kernel) xf86), (List.forall_mem_cons.mpr ⟨(kit_plain (by decide +kernel) xf87), (List.forall_mem_cons.mpr ⟨(kit_plain (by decide +kernel) xf88), (List.forall_mem_cons.mpr ⟨(kit_plain (by decide +kernel) xf89), (fun _ z => absurd z List.not_mem_nil)⟩)⟩)⟩)⟩)⟩)⟩)⟩, (List.forall_mem_cons.mpr ⟨⟨_, (PySem.W.mg_of X G xa7), C7, rfl, ⟨xf41, xf42, xb7, xf43, xf44, xf9, xf10, xf45⟩, (List.forall_mem_cons.mpr ⟨(kit_plain (by decide +kernel) xf90), (List.forall_mem_cons.mpr ⟨(kit_plain (by decide +kernel) xf91), (List.forall_mem_cons.mpr ⟨(kit_plain (by decide +kernel) xf92), (List.forall_mem_cons.mpr ⟨(kit_plain (by decide +kernel) xf93), (List.forall_mem_cons.mpr ⟨(kit_plain (by decide +kernel) xf94), (List.forall_mem_cons.mpr ⟨(kit_plain (by decide +kernel) xf95), (fun _ z => absurd z List.not_mem_nil)⟩)⟩)⟩)⟩)⟩)⟩)⟩, (fun _ z => absurd z List.not_mem_nil)⟩)⟩)⟩)⟩)⟩)⟩)⟩)⟩, ⟨_, (PySem.W.mg_of X G xa9), (List.forall_mem_cons.mpr ⟨⟨_, (PySem.W.mg_of X G xa0), (PySem.W.exm_ref xf96 xf97 xf98 xf99).trans (by decide +kernel)⟩, (List.forall_mem_cons.mpr ⟨⟨_, (PySem.W.mg_of X G xa1), (PySem.W.exm_ref xf96 xf97 xf98 xf100).trans (by decide +kernel)⟩, (List.forall_mem_cons.mpr ⟨⟨_, (PySem.W.mg_of X G xa4), (PySem.W.exm_ref xf96 xf97 xf98 xf101).trans (by decide +kernel)⟩, (List.forall_mem_cons.mpr ⟨⟨_, (PySem.W.mg_of X G xa5), (PySem.W.exm_ref xf96 xf97 xf98 xf102).trans (by decide +kernel)⟩, (List.forall_mem_cons.mpr ⟨⟨_, (PySem.W.mg_of X G xa6), (PySem.W.exm_ref xf96 xf97 xf98 xf103).trans (by decide +kernel)⟩, (List.forall_mem_cons.mpr ⟨⟨_, (PySem.W.mg_of X G xa8), (PySem.W.exm_ref xf96 xf97 xf98 xf104).trans (by decide +kernel)⟩, (List.forall_mem_cons.mpr ⟨⟨_, (PySem.W.mg_of X G xa7), (PySem.W.exm_ref xf96 xf97 xf98 xf105).trans (by decide +kernel)⟩, (fun _ z => absurd z List.not_mem_nil)⟩)⟩)⟩)⟩)⟩)⟩)⟩)⟩⟩
  have F0 := fun_mk (st := s_is_integer) l0 c0 k0
  have F1 := fun_mk (st := s_is_zone) l1 c1 k1
  have F2 := fun_mk (st := s_is_zones) l2 c2 k2
  have F3 := fun_mk (st := s_need_zone) l3 c3 k3
  have F4 := fun_mk (st := s_need_zones) l4 c4 k4
  have F5 := fun_mk (st := s_need_number) l5 c5 k5
  have F6 := fun_mk (st := s_is_offset) l6 c6 k6
  have F7 := fun_mk (st := s_need_rules) l7 c7 k7
  have F8 := fun_mk (st := s_is_mark) l8 c8 k8
  have F9 := fun_mk (st := s_is_table) l9 c9 k9
  have F10 := fun_mk (st := s_need_table) l10 c10 k10
  have F11 := fun_mk (st := s_offset_in) l11 c11 k11
  have F12 := fun_mk (st := s_offset_at) l12 c12 k12
  have F13 := fun_mk (st := s_reading_at) l13 c13 k13
  have F14 := fun_mk (st := s_found_by) l14 c14 k14
  have F15 : FunD K "find_moment" "find_moment" (defArgs s_find_moment) (defBody s_find_moment) (defScope s_find_moment) [] [("fold", (V.str "early")), ("gap", (V.str "ahead"))] f15 _ := ⟨⟨_, _, _, _, _, _, _, _, _, _, rfl, l15, c15, .inl ⟨rfl, rfl⟩, .inr ⟨D15, rfl, (List.forall_mem_cons.mpr ⟨⟨_, lD15_0, rvS⟩, (List.forall_mem_cons.mpr ⟨⟨_, lD15_1, rvS⟩, (fun _ z => absurd z List.not_mem_nil)⟩)⟩)⟩⟩, k15⟩
  have F16 := fun_mk (st := s_is_part) l16 c16 k16
  have F17 := fun_mk (st := s_is_step) l17 c17 k17
  have F18 := fun_mk (st := s_kind_made) l18 c18 k18
  have F19 := fun_mk (st := s_kinds_of) l19 c19 k19
  have F20 := fun_mk (st := s_is_program) l20 c20 k20
  have F21 := fun_mk (st := s_need_program) l21 c21 k21
  have F22 := fun_mk (st := s_is_world) l22 c22 k22
  have F23 := fun_mk (st := s_need_world) l23 c23 k23
  have F24 := fun_mk (st := s_kinds) l24 c24 k24
  have F25 := fun_mk (st := s_asked_moments) l25 c25 k25
  have F26 := fun_mk (st := s_value_made) l26 c26 k26
  have F27 := fun_mk (st := s_table_ahead) l27 c27 k27
  have F28 : FunD K "run" "run" (defArgs s_run) (defBody s_run) (defScope s_run) [(V.int 0)] [] f28 _ := ⟨⟨_, _, _, _, _, _, _, _, _, _, rfl, l28, c28, .inr ⟨List.cons_ne_nil _ _, T28, _, _, _, rfl, lT28, rfl, (.cons rvI .nil)⟩, .inl rfl⟩, k28⟩
  have F29 := fun_mk (st := s__law_digits) l29 c29 k29
  have F30 := fun_mk (st := s__law_draw) l30 c30 k30
  have F31 := fun_mk (st := s__law_any_hour) l31 c31 k31
  have F32 := fun_mk (st := s__law_make_region) l32 c32 k32
  have F33 := fun_mk (st := s__law_make_chart) l33 c33 k33
  have F34 := fun_mk (st := s__law_whole) l34 c34 k34
  have F35 := fun_mk (st := s__law_same) l35 c35 k35
  have F36 := fun_mk (st := s__law_cells_chart) l36 c36 k36
  have F37 := fun_mk (st := s__law_make_step) l37 c37 k37
  have F38 := fun_mk (st := s__law_sort_made) l38 c38 k38
  have F39 := fun_mk (st := s__law_sorts) l39 c39 k39
  have F40 := fun_mk (st := s__law_make_steps) l40 c40 k40
  have F41 := fun_mk (st := s__law_ran) l41 c41 k41
  have F42 := fun_mk (st := s__law_start_chart) l42 c42 k42
  have F43 := fun_mk (st := s__law_later_chart) l43 c43 k43
  have F44 := fun_mk (st := s__law_unlike_ahead) l44 c44 k44
  have F45 := fun_mk (st := s__law_stepped) l45 c45 k45
  have F46 := fun_mk (st := s_law) l46 c46 k46
  refine ⟨PySem.W.fnOf "law" "law" (defArgs s_law) (defBody s_law) (defScope s_law) .none kV46 dc46 pm46 an46 cd46 ct46, fun s v => .of_eq rfl, fun base _ _ => ?_⟩
  have HI_Refused : HiOk K mg "HourError" := ⟨C9, .type "type", (PySem.W.mg_of X G xa9), xf109, xf110, xf111⟩
  have FI_Refused := fun_mk (st := si_Refused) lI8 cI8 xf108
  have GI_Refused : XiOk l.prog w K mg base 1 "Refused" ["step"] := xi_mk1 (msg := "a find is refused") (PySem.W.mg_of X G xa8) ⟨⟨_, _, _, _, _, _, _, _, _, _, _, _, _, _, _, xL8, rb8⟩, xf112, xf2, xf12, xf113⟩ xf106 xf107 FI_Refused (FI_Refused.binds fun _ _ _ _ _ _ us hl => match us, hl with | [_, _], _ => rfl) sci_Refused xf4 (fun cdv A outer s H E => pss_cons (ps_expr (pe_hinit rfl HI_Refused (pa_cons (pv 0) (pa_cons pe_str pa_nil)))) (pss_one (ps_ost (pv 0) (pv 1))))
  have G_is_integer := fn_is_integer (P := l.prog) (w := w) (base := base) T (PySem.W.mg_of X G a0) F0 
  have G_is_zone := fn_is_zone (P := l.prog) (w := w) (base := base) T (PySem.W.mg_of X G a1) F1 G_is_integer
  have G_is_zones := fn_is_zones (P := l.prog) (w := w) (base := base) T (PySem.W.mg_of X G a2) F2 G_is_zone
  have G_need_zone := fn_need_zone (P := l.prog) (w := w) (base := base) T (PySem.W.mg_of X G a3) F3 G_is_zone
  have G_need_zones := fn_need_zones (P := l.prog) (w := w) (base := base) T (PySem.W.mg_of X G a4) F4 G_is_zones
  have G_need_number := fn_need_number (P := l.prog) (w := w) (base := base) T (PySem.W.mg_of X G a5) F5 G_is_integer
  have G_is_offset := fn_is_offset (P := l.prog) (w := w) (base := base) T (PySem.W.mg_of X G a6) F6 G_is_integer
  have G_need_rules := fn_need_rules (P := l.prog) (w := w) (base := base) T (PySem.W.mg_of X G a7) F7 
  have G_is_mark := fn_is_mark (P := l.prog) (w := w) (base := base) T (PySem.W.mg_of X G a8) F8 G_is_integer G_is_offset
  have G_is_table := fn_is_table (P := l.prog) (w := w) (base := base) T (PySem.W.mg_of X G a9) F9 G_is_mark G_is_offset G_need_zone
  have G_need_table := fn_need_table (P := l.prog) (w := w) (base := base) T (PySem.W.mg_of X G a10) F10 G_is_table
  have G_offset_in := fn_offset_in (P := l.prog) (w := w) (base := base) T (PySem.W.mg_of X G a11) F11 
  have G_offset_at := fn_offset_at (P := l.prog) (w := w) (base := base) T (PySem.W.mg_of X G a12) F12 G_offset_in G_need_number G_need_table G_need_zone
  have G_reading_at := fn_reading_at (P := l.prog) (w := w) (base := base) T (PySem.W.mg_of X G a13) F13 G_offset_at
  have G_found_by := fn_found_by (P := l.prog) (w := w) (base := base) T (PySem.W.mg_of X G a14) F14 
  have G_find_moment := fn_find_moment (P := l.prog) (w := w) (base := base) T (PySem.W.mg_of X G a15) F15 G_found_by G_offset_in G_need_rules G_need_number G_need_table G_need_zone
  have G_is_part := fn_is_part (P := l.prog) (w := w) (base := base) T (PySem.W.mg_of X G a16) F16 G_is_integer
  have G_is_step := fn_is_step (P := l.prog) (w := w) (base := base) T (PySem.W.mg_of X G a17) F17 G_is_part
  have G_kind_made := fn_kind_made (P := l.prog) (w := w) (base := base) T (PySem.W.mg_of X G a18) F18 
  have G_kinds_of := fn_kinds_of (P := l.prog) (w := w) (base := base) T (PySem.W.mg_of X G a19) F19 G_kind_made
  have G_is_program := fn_is_program (P := l.prog) (w := w) (base := base) T (PySem.W.mg_of X G a20) F20 G_kind_made G_is_step G_need_zones
  have G_need_program := fn_need_program (P := l.prog) (w := w) (base := base) T (PySem.W.mg_of X G a21) F21 G_is_program
  have G_is_world := fn_is_world (P := l.prog) (w := w) (base := base) T (PySem.W.mg_of X G a22) F22 G_is_table G_need_zones
  have G_need_world := fn_need_world (P := l.prog) (w := w) (base := base) T (PySem.W.mg_of X G a23) F23 G_is_world
  have G_kinds := fn_kinds (P := l.prog) (w := w) (base := base) T (PySem.W.mg_of X G a24) F24 G_kinds_of G_need_program G_need_zones
  have G_asked_moments := fn_asked_moments (P := l.prog) (w := w) (base := base) T (PySem.W.mg_of X G a25) F25 
  have G_value_made := fn_value_made (P := l.prog) (w := w) (base := base) T (PySem.W.mg_of X G a26) F26 G_found_by
  have G_table_ahead := fn_table_ahead (P := l.prog) (w := w) (base := base) T (PySem.W.mg_of X G a27) F27 
  have G_run := fn_run (P := l.prog) (w := w) (base := base) T (PySem.W.mg_of X G a28) F28 G_value_made G_offset_in G_asked_moments G_table_ahead G_need_number G_need_world G_need_program G_need_zones GI_Refused
  have G__law_digits := fn__law_digits (P := l.prog) (w := w) (base := base) T (PySem.W.mg_of X G a29) F29 
  have G__law_draw := fn__law_draw (P := l.prog) (w := w) (base := base) T (PySem.W.mg_of X G a30) F30 
  have G__law_any_hour := fn__law_any_hour (P := l.prog) (w := w) (base := base) T (PySem.W.mg_of X G a31) F31 G__law_draw
  have G__law_make_region := fn__law_make_region (P := l.prog) (w := w) (base := base) T (PySem.W.mg_of X G a32) F32 G__law_draw
  have G__law_make_chart := fn__law_make_chart (P := l.prog) (w := w) (base := base) T (PySem.W.mg_of X G a33) F33 G__law_draw G__law_any_hour
  have G__law_whole := fn__law_whole (P := l.prog) (w := w) (base := base) T (PySem.W.mg_of X G a34) F34 
  have G__law_same := fn__law_same (P := l.prog) (w := w) (base := base) T (PySem.W.mg_of X G a35) F35 G__law_whole 30
  have G__law_cells_chart := fn__law_cells_chart (P := l.prog) (w := w) (base := base) T (PySem.W.mg_of X G a36) F36 G__law_draw G__law_digits G__law_any_hour
  have G__law_make_step := fn__law_make_step (P := l.prog) (w := w) (base := base) T (PySem.W.mg_of X G a37) F37 G__law_draw
  have G__law_sort_made := fn__law_sort_made (P := l.prog) (w := w) (base := base) T (PySem.W.mg_of X G a38) F38 
  have G__law_sorts := fn__law_sorts (P := l.prog) (w := w) (base := base) T (PySem.W.mg_of X G a39) F39 G__law_sort_made
  have G__law_make_steps := fn__law_make_steps (P := l.prog) (w := w) (base := base) T (PySem.W.mg_of X G a40) F40 G__law_sorts G__law_draw G__law_make_step
  have G__law_ran := fn__law_ran (P := l.prog) (w := w) (base := base) T (PySem.W.mg_of X G a41) F41 G_run
  have G__law_start_chart := fn__law_start_chart (P := l.prog) (w := w) (base := base) T (PySem.W.mg_of X G a42) F42 G__law_draw G__law_make_chart
  have G__law_later_chart := fn__law_later_chart (P := l.prog) (w := w) (base := base) T (PySem.W.mg_of X G a43) F43 G__law_draw G__law_start_chart
  have G__law_unlike_ahead := fn__law_unlike_ahead (P := l.prog) (w := w) (base := base) T (PySem.W.mg_of X G a44) F44 
  have G__law_stepped := fn__law_stepped (P := l.prog) (w := w) (base := base) T (PySem.W.mg_of X G a45) F45 G__law_unlike_ahead G_reading_at G_offset_at G_find_moment
  have G_law := fn_law (P := l.prog) (w := w) (base := base) T (PySem.W.mg_of X G a46) F46 G__law_ran G__law_same G__law_stepped G_run G__law_sorts G_kinds G__law_later_chart G__law_draw G__law_cells_chart G__law_any_hour G__law_make_steps G__law_make_region G__law_digits
  exact law_ok (PySem.W.mg_of X G a46) F46 G_law hlaw
theorem walk {l : PySem.W.OpenLaw} {q : Program} {loose : List Str} {XP : (Str → Option Value) → Heap → Prop} {YP : World → Heap → Prop} {d : DefRec} {K : Params → Frag} (hn : l.most = some 63) (hdf : d.params.defaults = [])
    (hY : ∀ (w : World) (h : Heap), YP w h → (K w.params).In h)
    (F : ∀ (w : World) (mg : Str → Option Value) (fa : Addr) (h : Heap), (K w.params).In h → h.Ns mainGlobals mg → mg d.name = some (.ref fa) →
      ∃ fd : FuncData, (∀ (s : Shared) (u : Value), BindsTo s fd ⟨[u], []⟩ [("_law_script", u)]) ∧ ∀ base : Heap, (K w.params).In base → base.Ns mainGlobals mg → FnOk l.prog w (K w.params) mg base (L2.CX l.prog w) 33 fa fd ["_law_script"] (spLaw (K w.params))) :
    PySem.W.WalkO q loose XP YP l.row.toRowW d [] (fun f vs => PySem.call f vs) :=
  L2.walk_of (n := 63) (k := 33) (x := "_law_script") (CX := fun w => L2.CX l.prog w) (sp := fun w => spLaw (K w.params)) hn (by decide) hdf ⟨rfl, by decide, by decide⟩ hY F (fun _ _ a ns hl _ hS => ⟨a, ns, rfl, hS, hl, fun _ => rfl⟩) fun _ _ _ _ _ z => cx_no z
end V
-- text HmBase
namespace Dm
open PySem L2
/-- a pot of digits stands at p -/
def Pot (p : Nat) (S : Sto) : Prop := ∃ k : Int, S[p]? = some (.lst [.int k])
/-- from S to S': the pot at p has turned, cells have come, all else is as it was -/
structure Go (p : Nat) (S S' : Sto) : Prop where
  len : S.length ≤ S'.length
  same : ∀ n, n < S.length → n ≠ p → S'[n]? = S[n]?
  pot : Pot p S'
theorem Pot.lt {p : Nat} {S : Sto} (h : Pot p S) : p < S.length := by
  obtain ⟨k, e⟩ := h
  exact (List.getElem?_eq_some_iff.mp e).1
theorem Go.refl {p : Nat} {S : Sto} (h : Pot p S) : Go p S S := ⟨Nat.le_refl _, fun _ _ _ => rfl, h⟩
theorem Go.trans {p : Nat} {S S1 S2 : Sto} (a : Go p S S1) (b : Go p S1 S2) : Go p S S2 :=
  ⟨Nat.le_trans a.len b.len, fun n h hn => (b.same n (Nat.lt_of_lt_of_le h a.len) hn).trans (a.same n h hn), b.pot⟩
theorem Go.push {p : Nat} {S S1 : Sto} (a : Go p S S1) (c : Cell) : Go p S (S1 ++ [c]) :=
  ⟨by rw [List.length_append]; exact Nat.le_trans a.len (Nat.le_add_right _ _), fun n h hn => by
    rw [List.getElem?_append_left (Nat.lt_of_lt_of_le h a.len)]
    exact a.same n h hn, by
    obtain ⟨k, e⟩ := a.pot
    exact ⟨k, by rw [List.getElem?_append_left (List.getElem?_eq_some_iff.mp e).1]; exact e⟩⟩
/-- a cell that is younger than S is written -/
theorem Go.setNew {p n : Nat} {S S1 : Sto} (hp : Pot p S) (a : Go p S S1) (hn : S.length ≤ n) (c : Cell) : Go p S (S1.set n c) :=
  ⟨by rw [List.length_set]; exact a.len, fun m h hm => by
    rw [List.getElem?_set_ne (by omega)]
    exact a.same m h hm, by
    obtain ⟨k, e⟩ := a.pot
    have := hp.lt
    exact ⟨k, by rw [List.getElem?_set_ne (by omega)]; exact e⟩⟩
theorem Go.get {p n : Nat} {S S1 : Sto} {c : Cell} (a : Go p S S1) (h : S[n]? = some c) (hn : n ≠ p) : S1[n]? = some c := by
  rw [a.same n (List.getElem?_eq_some_iff.mp h).1 hn]
  exact h
theorem draw_does {S : Sto} {p : Nat} {u : Int} {Q : D → Sto → Prop} (hp : Pot p S) (h0 : 0 < u) (hb : u < 18446744073709551616)
    (q : ∀ r S', Go p S S' → 0 ≤ r → r < u → Q (.int r) S') : (m_law_draw [.cell p, .int u] S).Does Q := by
  obtain ⟨k, e⟩ := id hp
  refine does_def rfl ?_
  have hl := hp.lt
  have hc : CDivW k u := cdivw h0 hb
  simp [gIx_cell e, h0, hc]
  refine ⟨[.int k], e, 0, rfl, ?_⟩
  refine q (k % u) _ ⟨by rw [List.length_set]; exact Nat.le_refl _, fun n h hn => List.getElem?_set_ne (Ne.symm hn), ⟨k / u, ?_⟩⟩ (Int.emod_nonneg _ (by omega)) (Int.emod_lt_of_pos _ h0)
  rw [List.getElem?_set_self hl] <;> rfl
theorem any_hour_does {S : Sto} {p : Nat} {Q : D → Sto → Prop} (hp : Pot p S) (q : ∀ h S', Go p S S' → -1000000000000 < h → h < 1000000000000 → Q (.int h) S') : (m_law_any_hour [.cell p] S).Does Q := by
  refine does_def rfl ?_
  simp
  refine draw_does hp (by decide) (by decide) fun r S1 g1 h0 h1 => ?_
  simp
  by_cases c1 : r < 2
  · simp [c1]
    refine draw_does g1.pot (by decide) (by decide) fun r2 S2 g2 a0 a1 => ?_
    simp
    exact q _ _ (g1.trans g2) (by omega) (by omega)
  · simp [c1]
    by_cases c2 : r = 2
    · simp [c2]
      refine draw_does g1.pot (by decide) (by decide) fun r2 S2 g2 a0 a1 => ?_
      simp
      exact q _ _ (g1.trans g2) (by omega) (by omega)
    · simp [c2]
      refine draw_does g1.pot (by decide) (by decide) fun r2 S2 g2 a0 a1 => ?_
      have g := g1.trans g2
      have e : r2 = 0 ∨ r2 = 1 ∨ r2 = 2 ∨ r2 = 3 ∨ r2 = 4 ∨ r2 = 5 ∨ r2 = 6 := by omega
      rcases e with e | e | e | e | e | e | e <;> subst e <;> simp [atI, ixN] <;> exact q _ _ g (by decide) (by decide)
end Dm
-- text HmDig
namespace Dm
open PySem L2
theorem rngD_nil {lo : Int} : rngD lo 0 = [] := rfl
theorem rngD_cons {lo : Int} {n : Nat} : rngD lo (n + 1) = .int lo :: rngD (lo + 1) n := by
  unfold rngD
  rw [List.range_succ_eq_map, List.map_cons, List.map_map]
  congr 1
  · simp
  · refine List.map_congr_left fun i _ => ?_
    simp only [Function.comp]
    congr 1
    omega
theorem mul_bits {i j : Int} {n m : Nat} (h : i.natAbs < 2 ^ n) (h' : j.natAbs < 2 ^ m) : (i * j).natAbs < 2 ^ (n + m) := by
  rw [Int.natAbs_mul, Nat.pow_add]
  exact Nat.mul_lt_mul'' h h'
theorem add_bits {i j : Int} {n m : Nat} (h : i.natAbs < 2 ^ n) (h' : j.natAbs < 2 ^ n) (hm : n + 1 ≤ m) : (i + j).natAbs < 2 ^ m := by
  have a := Int.natAbs_add_le i j
  have b : 2 ^ (n + 1) ≤ 2 ^ m := Nat.pow_le_pow_right (by decide) hm
  have c : (2:Nat) ^ (n + 1) = 2 ^ n * 2 := Nat.pow_succ 2 n
  omega
theorem up_bits {i : Int} {n m : Nat} (h : i.natAbs < 2 ^ n) (hm : n ≤ m) : i.natAbs < 2 ^ m :=
  Nat.lt_of_lt_of_le h (Nat.pow_le_pow_right (by decide) hm)
theorem bits_mono {i : Int} (n : Nat) {b : Int} (h0 : 0 ≤ i) (h : i < b) (hb : b ≤ ((2 ^ n : Nat) : Int)) : i.natAbs < 2 ^ n := by
  omega
theorem digits_does {S : Sto} {c : Int} {Q : D → Sto → Prop} (q : ∀ k, Q (.cell S.length) (S ++ [.lst [.int k]])) : (m_law_digits [.int c] S).Does Q := by
  refine does_def rfl ?_
  simp
  by_cases h : 1000000000000000000 ≤ c
  · simp [h]
    exact q _
  · simp [h]
    refine forL_does (fun ds ρ S' => S' = S ∧ ∃ (t n : Nat) (m full : Int) (x : Option D), ρ = [some (.int c), some (.int m), some (.int full), x] ∧ ds = rngD t n ∧ t ≤ 19 ∧ t + n = 19 ∧ m.natAbs < 2 ^ 140 ∧ full.natAbs < 2 ^ (300 * t + 2)) ?_ ?_ _ _ _ ?_
    · rintro d r ρ S' ⟨rfl, t, n, m, full, x, rfl, e, ht, hn, hm, hf⟩
      cases n with
      | zero => rw [rngD_nil] at e; cases e
      | succ n =>
        rw [rngD_cons] at e
        injection e with e1 e2
        subst e1
        refine ⟨_, rfl, ?_⟩
        simp
        have ht' : (t : Int).natAbs < 2 ^ 140 := Nat.lt_of_le_of_lt (show t ≤ 19 by omega) (by decide)
        have hr0 := Int.emod_nonneg (m * m + 31415926535 * m + 271829 * t + 17) (b := 100000000000000000000000000000000000000009) (by decide)
        have hr1 := Int.emod_lt_of_pos (m * m + 31415926535 * m + 271829 * t + 17) (b := 100000000000000000000000000000000000000009) (by decide)
        generalize (m * m + 31415926535 * m + 271829 * t + 17) % 100000000000000000000000000000000000000009 = r1 at hr0 hr1
        have hr : r1.natAbs < 2 ^ 140 := bits_mono 140 hr0 hr1 (by decide +kernel)
        refine ⟨cmulw 140 140 hm hm (by decide), cmulw 140 140 (by decide) hm (by decide), cmulw 140 140 (by decide) ht' (by decide), ?_⟩
        have h300 : 300 * (t + 1) + 2 = (300 * t + 301) + 1 := by omega
        by_cases c3 : (2 : Int) < t
        · simp [c3]
          refine ⟨cmulw (300 * t + 2) 140 hf (by decide +kernel) (by omega), t + 1, n, _, _, ⟨rfl, rfl⟩, by rw [e2] <;> rfl, by omega, by omega, hr, ?_⟩
          refine add_bits (n := 300 * t + 301) (up_bits (mul_bits hf (m := 140) (by decide +kernel)) (by omega)) (up_bits hr (by omega)) (by omega)
        · simp [c3]
          exact ⟨t + 1, n, _, _, ⟨rfl, rfl⟩, by rw [e2] <;> rfl, by omega, by omega, hr, up_bits hf (by omega)⟩
    · rintro ρ S' ⟨rfl, t, n, m, full, x, rfl, _⟩
      simp
      exact q _
    · have hr0 := Int.emod_nonneg c (b := 100000000000000000000000000000000000133) (by decide)
      have hr1 := Int.emod_lt_of_pos c (b := 100000000000000000000000000000000000133) (by decide)
      exact ⟨rfl, 0, 19, _, 1, none, rfl, rfl, by decide, by decide, bits_mono 140 (b := 200000000000000000000000000000000000133) (by omega) (by omega) (by decide +kernel), by decide⟩
end Dm
-- text HmZone
namespace Dm
open PySem L2
theorem seq_cut {ρ : Rho} {S : Sto} {N B C : Rho → Sto → Prop} {R : D → Sto → Prop} {EO : EXO} {a b : MS} (M : Rho → Sto → Prop) (h : ∀ M' : Rho → Sto → Prop, (∀ ρ S, M ρ S → M' ρ S) → (a ρ S).DoesE EO M' R B C) (k : ∀ ρ S, M ρ S → (b ρ S).DoesE EO N R B C) : (mSeq a b ρ S).DoesE EO N R B C := by
  rw [does_seq]
  exact (h M fun _ _ h => h).mono k (fun _ _ h => h) (fun _ _ h => h) (fun _ _ h => h)
/-- a zone of one, two or three offsets -/
inductive ZoneOK : List Int → Int → Prop
  | one (a s : Int) : -900 ≤ a → a ≤ 900 → 0 < s → s ≤ 1000000 → ZoneOK [a] s
  | two (a b s : Int) : -900 ≤ a → a < b → b ≤ 900 → b - a < s → s ≤ 1000000 → ZoneOK [a, b] s
  | three (a b c s : Int) : -900 ≤ a → a < b → b < c → c ≤ 900 → c - a < s → s ≤ 1000000 → ZoneOK [a, b, c] s
def zoneD (os : List Int) (s : Int) : D := .tup [.tup (os.map .int), .int s]
@[simp] theorem atI_last1 {α : Type} {x : α} : atI [x] (-1) = some x := rfl
@[simp] theorem atI_last2 {α : Type} {x y : α} : atI [x, y] (-1) = some y := rfl
@[simp] theorem atI_last3 {α : Type} {x y z : α} : atI [x, y, z] (-1) = some z := rfl
theorem make_region_does {S : Sto} {p : Nat} {Q : D → Sto → Prop} (hp : Pot p S) (q : ∀ os s S', Go p S S' → ZoneOK os s → Q (zoneD os s) S') : (m_law_make_region [.cell p] S).Does Q := by
  refine does_def rfl ?_
  -- the kind
  refine seq_cut (fun ρ S' => ∃ k : Int, ρ = [some (.cell p), some (.int k), none, none, none, none, none, none, none, none, none] ∧ Go p S S' ∧ 0 ≤ k ∧ k < 6) (fun M hM => ?_) ?_
  · simp
    refine draw_does hp (by decide) (by decide) fun r S1 g1 h0 h1 => ?_
    exact hM _ _ ⟨r, rfl, g1, h0, h1⟩
  rintro ρ S1 ⟨k, rfl, g1, k0, k1⟩
  refine seq_cut (fun ρ S' => S' = S1 ∧ ρ = [some (.cell p), some (.int k), some (.int (-900)), none, none, none, none, none, none, none, none]) (fun M hM => ?_) ?_
  · simp
    exact hM _ _ ⟨rfl, by first | rfl | exact ⟨_, rfl, rfl⟩⟩
  rintro ρ _ ⟨rfl, rfl⟩
  refine seq_cut (fun ρ S' => ∃ low : Int, ρ = [some (.cell p), some (.int k), some (.int low), none, none, none, none, none, none, none, none] ∧ Go p S S' ∧ -900 ≤ low ∧ (k = 0 → low ≤ 3) ∧ (k = 1 → low ≤ 3) ∧ (k = 2 → low ≤ 660) ∧ (k = 3 → low = -900) ∧ (k = 4 → low ≤ 300) ∧ (k = 5 → low = -900)) (fun M hM => ?_) ?_
  · simp
    by_cases c1 : k < 2
    · simp [c1]
      refine draw_does g1.pot (by decide) (by decide) fun r S2 g2 a0 a1 => ?_
      simp
      exact hM _ _ ⟨_, rfl, g1.trans g2, by omega, by omega, by omega, by omega, by omega, by omega, by omega⟩
    · simp [c1]
      by_cases c2 : k = 2
      · subst c2
        simp
        refine draw_does g1.pot (by decide) (by decide) fun r S2 g2 a0 a1 => ?_
        simp
        exact ⟨cmulw64 (by omega) (by omega), hM _ _ ⟨_, rfl, g1.trans g2, by omega, by omega, by omega, by omega, by omega, by omega, by omega⟩⟩
      · simp [c2]
        by_cases c4 : k = 4
        · subst c4
          simp
          refine draw_does g1.pot (by decide) (by decide) fun r S2 g2 a0 a1 => ?_
          simp
          exact hM _ _ ⟨_, rfl, g1.trans g2, by omega, by omega, by omega, by omega, by omega, by omega, by omega⟩
        · simp [c4]
          exact hM _ _ ⟨_, rfl, g1, by omega, by omega, by omega, by omega, by omega, by omega, by omega⟩
  rintro ρ S2 ⟨low, rfl, g2, l0, l1⟩
  refine seq_cut (fun ρ S' => ∃ low u w: Int, ρ = [some (.cell p), some (.int k), some (.int low), some (.int u), some (.int w), none, none, none, none, none, none] ∧ Go p S S' ∧ -900 ≤ low ∧ ((u = 1 ∧ (w = 4 ∨ w = 900 ∨ w = 300)) ∨ (u = 30 ∧ w = 4) ∨ (u = 900 ∧ w = 1)) ∧ low + 2 * u * w ≤ 900) (fun M hM => ?_) ?_
  · have e : k = 0 ∨ k = 1 ∨ k = 2 ∨ k = 3 ∨ k = 4 ∨ k = 5 := by omega
    rcases e with e | e | e | e | e | e <;> subst e <;> simp [atI, ixN] <;> exact hM _ _ ⟨_, _, _, rfl, g2, by omega, by omega, by omega⟩
  rintro ρ S3 ⟨low, u, w, rfl, g3, l0, uw, l1⟩
  have hw : 0 < w := by omega
  have hw' : w < 1000 := by omega
  have hu : 0 < u ∧ u < 1000 := by omega
  refine seq_cut (fun ρ S' => ∃ mid : Int, ρ = [some (.cell p), some (.int k), some (.int low), some (.int u), some (.int w), some (.int mid), none, none, none, none, none] ∧ Go p S S' ∧ low < mid ∧ mid ≤ low + u * w) (fun M hM => ?_) ?_
  · simp
    refine draw_does g3.pot hw (by omega) fun r S4 g4 a0 a1 => ?_
    simp
    refine ⟨cmulw64 (by omega) (by omega), ?_⟩
    refine hM _ _ ⟨_, rfl, g3.trans g4, ?_⟩
    rcases uw with ⟨rfl, rfl | rfl | rfl⟩ | ⟨rfl, rfl⟩ | ⟨rfl, rfl⟩ <;> constructor <;> omega
  rintro ρ S4 ⟨mid, rfl, g4, m0, m1⟩
  refine seq_cut (fun ρ S' => ∃ top : Int, ρ = [some (.cell p), some (.int k), some (.int low), some (.int u), some (.int w), some (.int mid), some (.int top), none, none, none, none] ∧ Go p S S' ∧ mid < top ∧ top ≤ 900) (fun M hM => ?_) ?_
  · simp
    refine draw_does g4.pot hw (by omega) fun r S5 g5 a0 a1 => ?_
    simp
    refine ⟨cmulw64 (by omega) (by omega), ?_⟩
    refine hM _ _ ⟨_, rfl, g4.trans g5, ?_⟩
    rcases uw with ⟨rfl, rfl | rfl | rfl⟩ | ⟨rfl, rfl⟩ | ⟨rfl, rfl⟩ <;> constructor <;> omega
  rintro ρ S5 ⟨top, rfl, g5, t0, t1⟩
  clear l1 m1
  refine seq_cut (fun ρ S' => S' = S5 ∧ ∃ d, ρ = [some (.cell p), some (.int k), some (.int low), some (.int u), some (.int w), some (.int mid), some (.int top), some d, none, none, none] ∧ d = .lst [.tup [.int low, .int mid], .tup [.int low, .int mid, .int top], .tup [.int low, .int top], .tup [.int low, .int mid, .int top], .tup [.int top]]) (fun M hM => ?_) ?_
  · simp
    exact hM _ _ ⟨rfl, by first | rfl | exact ⟨_, rfl, rfl⟩⟩
  rintro ρ _ ⟨rfl, d, rfl, rfl⟩
  refine seq_cut (fun ρ S' => ∃ os x, ρ = [some (.cell p), some (.int k), some (.int low), some (.int u), some (.int w), some (.int mid), some (.int top), some (.tup (os.map .int)), none, none, x] ∧ Go p S S' ∧ ZoneOK os 1000000) (fun M hM => ?_) ?_
  · simp
    refine draw_does g5.pot (by decide) (by decide) fun r S6 g6 a0 a1 => ?_
    have g := g5.trans g6
    have e : r / 2 = 0 ∨ r / 2 = 1 ∨ r / 2 = 2 ∨ r / 2 = 3 ∨ r / 2 = 4 := by omega
    simp
    rcases e with e | e | e | e | e <;> rw [e] <;> simp [atI, ixN]
    · exact ⟨cdivw (by decide) (by decide), hM _ _ ⟨[low, mid], _, rfl, g, .two _ _ _ (by omega) (by omega) (by omega) (by omega) (by omega)⟩⟩
    · exact ⟨cdivw (by decide) (by decide), hM _ _ ⟨[low, mid, top], _, rfl, g, .three _ _ _ _ (by omega) (by omega) (by omega) (by omega) (by omega) (by omega)⟩⟩
    · exact ⟨cdivw (by decide) (by decide), hM _ _ ⟨[low, top], _, rfl, g, .two _ _ _ (by omega) (by omega) (by omega) (by omega) (by omega)⟩⟩
    · exact ⟨cdivw (by decide) (by decide), hM _ _ ⟨[low, mid, top], _, rfl, g, .three _ _ _ _ (by omega) (by omega) (by omega) (by omega) (by omega) (by omega)⟩⟩
    · exact ⟨cdivw (by decide) (by decide), hM _ _ ⟨[top], _, rfl, g, .one _ _ (by omega) (by omega) (by omega) (by omega)⟩⟩
  rintro ρ S6 ⟨os, x, rfl, g6, z6⟩
  refine seq_cut (fun ρ S' => ∃ os x, ρ = [some (.cell p), some (.int k), some (.int low), some (.int u), some (.int w), some (.int mid), some (.int top), some (.tup (os.map .int)), none, none, x] ∧ Go p S S' ∧ ZoneOK os 1000000) (fun M hM => ?_) ?_
  · simp
    refine draw_does g6.pot (by decide) (by decide) fun r S7 g7 a0 a1 => ?_
    have g := g6.trans g7
    by_cases c : r = 1
    · subst c
      cases z6 with
      | one a s h1 h2 h3 h4 =>
        simp [wipeD]
        exact hM _ _ ⟨[-a], _, rfl, g, .one _ _ (by omega) (by omega) (by omega) (by omega)⟩
      | two a b s h1 h2 h3 h4 h5 =>
        simp [wipeD]
        exact hM _ _ ⟨[-b, -a], _, rfl, g, .two _ _ _ (by omega) (by omega) (by omega) (by omega) (by omega)⟩
      | three a b c s h1 h2 h3 h4 h5 h6 =>
        simp [wipeD]
        exact hM _ _ ⟨[-c, -b, -a], _, rfl, g, .three _ _ _ _ (by omega) (by omega) (by omega) (by omega) (by omega) (by omega)⟩
    · simp [c]
      exact hM _ _ ⟨os, _, rfl, g, z6⟩
  rintro ρ S7 ⟨os, x, rfl, g7, z7⟩
  refine seq_cut (fun ρ S' => S' = S7 ∧ ∃ w' : Int, ρ = [some (.cell p), some (.int k), some (.int low), some (.int u), some (.int w), some (.int mid), some (.int top), some (.tup (os.map .int)), some (.int w'), none, x] ∧ 0 ≤ w' ∧ w' ≤ 1800 ∧ ∀ s, w' < s → s ≤ 1000000 → ZoneOK os s) (fun M hM => ?_) ?_
  · cases z7 with
      | one a s h1 h2 h3 h4 =>
        simp
        exact hM _ _ ⟨rfl, _, rfl, by omega, by omega, fun s k1 k2 => .one _ _ h1 h2 (by omega) k2⟩
      | two a b s h1 h2 h3 h4 h5 =>
        simp
        exact hM _ _ ⟨rfl, _, rfl, by omega, by omega, fun s k1 k2 => .two _ _ _ h1 h2 h3 (by omega) k2⟩
      | three a b c s h1 h2 h3 h4 h5 h6 =>
        simp
        exact hM _ _ ⟨rfl, _, rfl, by omega, by omega, fun s k1 k2 => .three _ _ _ _ h1 h2 h3 h4 (by omega) k2⟩
  rintro ρ _ ⟨rfl, w', rfl, w0, w1, zz⟩
  refine seq_cut (fun ρ S' => ∃ m1 m2 : Int, ρ = [some (.cell p), some (.int k), some (.int low), some (.int u), some (.int w), some (.int mid), some (.int top), some (.tup (os.map .int)), some (.int w'), some (.lst [.int 0, .int 0, .int 1, .int m1, .int m2, .int (999999 - w')]), x] ∧ Go p S S' ∧ 0 ≤ m1 ∧ m1 < 1000 ∧ 0 ≤ m2 ∧ m2 < 1000000 - w') (fun M hM => ?_) ?_
  · simp
    refine draw_does g7.pot (by decide) (by decide) fun r S8 g8 a0 a1 => ?_
    refine draw_does g8.pot (by omega) (by omega) fun r' S9 g9 b0 b1 => ?_
    exact hM _ _ ⟨_, _, rfl, g7.trans (g8.trans g9), a0, a1, b0, b1⟩
  rintro ρ S9 ⟨m1, m2, rfl, g9, a0, a1, b0, b1⟩
  simp
  refine draw_does g9.pot (by decide) (by decide) fun r S10 g10 r0 r1 => ?_
  have g := g9.trans g10
  have e : r = 0 ∨ r = 1 ∨ r = 2 ∨ r = 3 ∨ r = 4 ∨ r = 5 := by omega
  rcases e with e | e | e | e | e | e <;> subst e <;> simp [atI, ixN] <;> exact q os _ _ g (zz _ (by omega) (by omega))
end Dm
-- text HmBag
namespace Dm
open PySem L2
/-- a bag of draws stands at p, n more can be drawn -/
def Bag (p n : Nat) (S : Sto) : Prop := ∃ a b c : Int, S[p]? = some (.lst [.int a, .int b, .int c]) ∧ 0 ≤ b ∧ b < 2305843009213693951 ∧ 0 ≤ c ∧ c + n ≤ 9223372036854775808
/-- from S to S': cells have come, all but p is as it was -/
structure GoB (p : Nat) (S S' : Sto) : Prop where
  len : S.length ≤ S'.length
  same : ∀ n, n < S.length → n ≠ p → S'[n]? = S[n]?
theorem Bag.lt {p n : Nat} {S : Sto} (h : Bag p n S) : p < S.length := by
  obtain ⟨a, b, c, e, _⟩ := h
  exact (List.getElem?_eq_some_iff.mp e).1
theorem Bag.mono {p n m : Nat} {S : Sto} (h : Bag p n S) (hm : m ≤ n) : Bag p m S := by
  obtain ⟨a, b, c, e, h1, h2, h3, h4⟩ := h
  exact ⟨a, b, c, e, h1, h2, h3, by omega⟩
theorem Bag.push {p n : Nat} {S : Sto} (h : Bag p n S) (c : Cell) : Bag p n (S ++ [c]) := by
  have hl := h.lt
  obtain ⟨a, b, c, e, r⟩ := h
  exact ⟨a, b, c, by rw [List.getElem?_append_left hl]; exact e, r⟩
theorem Bag.set {p n q : Nat} {S : Sto} (h : Bag p n S) (hq : q ≠ p) (c : Cell) : Bag p n (S.set q c) := by
  obtain ⟨a, b, c, e, r⟩ := h
  exact ⟨a, b, c, by rw [List.getElem?_set_ne hq]; exact e, r⟩
theorem GoB.refl {p : Nat} {S : Sto} : GoB p S S := ⟨Nat.le_refl _, fun _ _ _ => rfl⟩
theorem GoB.trans {p : Nat} {S S1 S2 : Sto} (a : GoB p S S1) (b : GoB p S1 S2) : GoB p S S2 :=
  ⟨Nat.le_trans a.len b.len, fun n h hn => (b.same n (Nat.lt_of_lt_of_le h a.len) hn).trans (a.same n h hn)⟩
theorem GoB.push {p : Nat} {S : Sto} (c : Cell) : GoB p S (S ++ [c]) := ⟨by rw [List.length_append]; omega, fun n h _ => List.getElem?_append_left h⟩
theorem GoB.setNew {p n : Nat} {S S1 : Sto} (a : GoB p S S1) (hn : S.length ≤ n) (c : Cell) : GoB p S (S1.set n c) :=
  ⟨by rw [List.length_set]; exact a.len, fun m h hm => by
    rw [List.getElem?_set_ne (by omega)]
    exact a.same m h hm⟩
theorem GoB.get {p n : Nat} {S S1 : Sto} {c : Cell} (a : GoB p S S1) (h : S[n]? = some c) (hn : n ≠ p) : S1[n]? = some c := by
  rw [a.same n (List.getElem?_eq_some_iff.mp h).1 hn]
  exact h
end Dm
-- text HmBelt
namespace Dm
open PySem L2
end Dm
-- text HmTab
namespace Dm
open PySem L2
theorem pure_of {α : Type} {r : Res α} {a : α} {S : Sto} (h : ∀ Q : α → Sto → Prop, Q a S → r.Does Q) : r = .ok a S := by
  obtain ⟨a', S', e, h1, h2⟩ := (h (fun x T => x = a ∧ T = S) ⟨rfl, rfl⟩).eq
  rw [e, h1, h2]
section
variable {S : Sto} {os : List Int} {s h m : Int} {js : List (Int × Int)}
theorem ZoneOK.len {os : List Int} {s : Int} (z : ZoneOK os s) : 1 ≤ os.length ∧ os.length ≤ 3 := by cases z <;> simp
theorem ZoneOK.sp (z : ZoneOK os s) : 0 < s ∧ s ≤ 1000000 := by cases z <;> constructor <;> omega
theorem ZoneOK.nodup (z : ZoneOK os s) : os.Nodup := by cases z <;> simp <;> omega
@[simp] theorem is_integer_int {i : Int} : m_is_integer [.int i] S = .ok (.bl true) S := by
  refine pure_of fun Q q => ?_
  refine does_def rfl ?_
  simpa [isTn] using q
theorem is_zone_ok (z : ZoneOK os s) : m_is_zone [zoneD os s] S = .ok (.bl true) S := by
  refine pure_of fun Q q => ?_
  refine does_def rfl ?_
  cases z with
  | one a s h1 h2 h3 h4 => simp [zoneD, isTn, rngD_cons, rngD_nil, h1, h2, h3, h4, q]
  | two a b s h1 h2 h3 h4 h5 =>
    have e1 : a ≤ 900 := by omega
    have e2 : -900 ≤ b := by omega
    have e3 : ¬ b ≤ a := by omega
    simp [zoneD, isTn, rngD_cons, rngD_nil, h1, h2, h3, h4, h5, e1, e2, e3, q]
  | three a b c s h1 h2 h3 h4 h5 h6 => 
    have e1 : a ≤ 900 := by omega
    have e2 : -900 ≤ b := by omega
    have e3 : ¬ b ≤ a := by omega
    have e4 : b ≤ 900 := by omega
    have e5 : -900 ≤ c := by omega
    have e6 : ¬ c ≤ b := by omega
    simp [zoneD, isTn, rngD_cons, rngD_nil, h1, h2, h3, h4, h5, h6, e1, e2, e3, e4, e5, e6, q]
@[simp] theorem need_zone_ok (z : ZoneOK os s) : m_need_zone [zoneD os s] S = .ok .non S := by
  refine pure_of fun Q q => ?_
  refine does_def rfl ?_
  simp [is_zone_ok z, q]
@[simp] theorem need_number_int {i : Int} : m_need_number [.int i] S = .ok .non S := by
  refine pure_of fun Q q => ?_
  refine does_def rfl ?_
  simp [q]
/-- a jump and a table, as data -/
def jmpD (j : Int × Int) : D := .tup [.int j.1, .int j.2]
def tabD (h : Int) (js : List (Int × Int)) : D := .tup [.int h, .tup (js.map jmpD)]
section
variable {j : Int × Int} {ρ : Rho} {f : List D → Rho → Option Rho}
@[simp] theorem ix_jmp0 : gIx S (jmpD j) (.int 0) = some (.int j.1) := by simp [jmpD]
@[simp] theorem ix_jmp1 : gIx S (jmpD j) (.int 1) = some (.int j.2) := by simp [jmpD]
@[simp] theorem ix_tab0 : gIx S (tabD h js) (.int 0) = some (.int h) := by simp [tabD]
@[simp] theorem ix_tab1 : gIx S (tabD h js) (.int 1) = some (.tup (js.map jmpD)) := by simp [tabD]
@[simp] theorem ix_zone0 : gIx S (zoneD os s) (.int 0) = some (.tup (os.map .int)) := by simp [zoneD]
@[simp] theorem ix_zone1 : gIx S (zoneD os s) (.int 1) = some (.int s) := by simp [zoneD]
@[simp] theorem len_jmp : gLen S [jmpD j] = some (.int 2) := rfl
@[simp] theorem len_tab : gLen S [tabD h js] = some (.int 2) := rfl
@[simp] theorem len_zone : gLen S [zoneD os s] = some (.int 2) := rfl
@[simp] theorem ty_jmp : tyOf S (jmpD j) = some .tup := rfl
@[simp] theorem ty_tab : tyOf S (tabD h js) = some .tup := rfl
@[simp] theorem ty_zone : tyOf S (zoneD os s) = some .tup := rfl
@[simp] theorem tg_jmp : tgT 2 f (jmpD j) ρ = f [.int j.1, .int j.2] ρ := rfl
@[simp] theorem tg_tab : tgT 2 f (tabD h js) ρ = f [.int h, .tup (js.map jmpD)] ρ := rfl
@[simp] theorem tg_zone : tgT 2 f (zoneD os s) ρ = f [.tup (os.map .int), .int s] ρ := rfl
end
/-- the jumps that may follow: the offset held, the moment of the jump before -/
def Chain (os : List Int) (s : Int) : Int → Option Int → List (Int × Int) → Prop
  | _, _, [] => True
  | h, p, (m, o) :: r => o ∈ os ∧ o ≠ h ∧ (∀ q, p = some q → q + s ≤ m) ∧ Chain os s o (some m) r
def endH : Int → List (Int × Int) → Int
  | h, [] => h
  | _, (_, o) :: r => endH o r
def endP : Option Int → List (Int × Int) → Option Int
  | p, [] => p
  | _, (m, _) :: r => endP (some m) r
theorem endH_snoc {m o : Int} : ∀ {h : Int} {js : List (Int × Int)}, endH h (js ++ [(m, o)]) = o
  | _, [] => rfl
  | _, (m', o') :: r => endH_snoc (h := o') (js := r)
theorem endP_snoc {m o : Int} : ∀ {p : Option Int} {js : List (Int × Int)}, endP p (js ++ [(m, o)]) = some m
  | _, [] => rfl
  | _, (m', o') :: r => endP_snoc (p := some m') (js := r)
theorem chain_snoc {m o : Int} : ∀ {h : Int} {p : Option Int} {js : List (Int × Int)}, Chain os s h p js → o ∈ os → o ≠ endH h js → (∀ q, endP p js = some q → q + s ≤ m) → Chain os s h p (js ++ [(m, o)])
  | _, _, [], _, a, b, c => ⟨a, b, c, trivial⟩
  | _, _, (m', o') :: r, ⟨x, y, z, w⟩, a, b, c => ⟨x, y, z, chain_snoc w a b c⟩
structure TabOK (os : List Int) (s h : Int) (js : List (Int × Int)) : Prop where
  held : h ∈ os
  chain : Chain os s h none js
theorem flat_ints (os : List Int) : (os.map D.int).all flatD = true := by
  rw [List.all_map]
  exact List.all_eq_true.mpr fun _ _ => rfl
theorem any_ints (os : List Int) (o : Int) : (os.map D.int).any (eqF · (.int o)) = decide (o ∈ os) := by
  induction os with
  | nil => simp
  | cons a r ih =>
    rw [List.map_cons, List.any_cons, ih, eqF_int]
    have e : (a == o) = decide (o = a) := by
      by_cases h : o = a
      · subst h; simp
      · have h' : ¬ a = o := fun x => h x.symm
        simp [h, h']
    rw [e]
    simp
theorem gIn_ints {o : Int} : gIn false S (.int o) (.tup (os.map .int)) = some (.bl (decide (o ∈ os))) := by
  unfold gIn
  rw [seqOf_tup]
  simp only
  rw [if_pos ⟨rfl, flat_ints os⟩, any_ints]
  simp
theorem is_offset_int {o : Int} : m_is_offset [zoneD os s, .int o] S = .ok (.bl (decide (o ∈ os))) S := by
  refine pure_of fun Q q => ?_
  refine does_def rfl ?_
  simp [gIn_ints, q]
theorem is_mark_jmp {j : Int × Int} : m_is_mark [zoneD os s, jmpD j] S = .ok (.bl (decide (j.2 ∈ os))) S := by
  refine pure_of fun Q q => ?_
  refine does_def rfl ?_
  simp [isTn, is_offset_int, q]
def enumF (k : Nat) (ds : List D) : List D := (ds.zipIdx k).map fun p => .tup [.int (p.2 : Nat), p.1]
theorem enumD_eq {ds : List D} : enumD ds = enumF 0 ds := rfl
theorem enumF_cons {k : Nat} {d : D} {r : List D} : enumF k (d :: r) = .tup [.int k, d] :: enumF (k + 1) r := rfl
theorem is_table_ok (z : ZoneOK os s) (t : TabOK os s h js) : m_is_table [zoneD os s, tabD h js] S = .ok (.bl true) S := by
  refine pure_of fun Q q => ?_
  refine does_def rfl ?_
  simp [isTn, need_zone_ok z, is_offset_int, t.held, enumD_eq]
  refine forL_cut (fun ds ρ S' => S' = S ∧ ∃ (pre suf : List (Int × Int)) (h' : Int) (pm : Option Int) (x4 x5 : Option D), ρ = [some (zoneD os s), some (tabD h js), some (.int h'), some (.tup (js.map jmpD)), x4, x5]
    ∧ js = pre ++ suf ∧ ds = enumF pre.length (suf.map jmpD) ∧ Chain os s h' pm suf ∧ (pre ≠ [] → ∃ m o, pm = some m ∧ atI (js.map jmpD) ((pre.length : Int) - 1) = some (jmpD (m, o)))) _ ⟨rfl, [], js, h, none, none, none, rfl, rfl, rfl, t.chain, fun h => (h rfl).elim⟩ ?_ ?_
  · rintro d r ρ S' ⟨rfl, pre, suf, h', pm, x4, x5, rfl, ej, e, c, l⟩
    cases suf with
    | nil => cases e
    | cons j suf =>
      rw [List.map_cons, enumF_cons] at e
      injection e with e1 e2
      subst e1
      obtain ⟨c1, c2, c3, c4⟩ := c
      refine ⟨[some (zoneD os s), some (tabD h js), some (.int h'), some (.tup (js.map jmpD)), some (.int pre.length), some (jmpD j)], by simp, fun M hM => ?_⟩
      have last : some (jmpD j) = atI (js.map jmpD) (((pre ++ [j]).length : Int) - 1) := by
        rw [ej, atI_of (by simp) (by simp; omega)]
        simp
      have fin : M [some (zoneD os s), some (tabD h js), some (.int j.2), some (.tup (js.map jmpD)), some (.int pre.length), some (jmpD j)] S' :=
        hM _ _ ⟨rfl, pre ++ [j], suf, _, _, _, _, rfl, by rw [ej, List.append_assoc] <;> rfl, by rw [e2, List.length_append] <;> rfl, c4, fun _ => ⟨_, _, rfl, last.symm⟩⟩
      simp [is_mark_jmp, c1, c2]
      by_cases hp : pre = []
      · subst hp
        simpa using fin
      · obtain ⟨m, o, e3, e4⟩ := l hp
        have c5 := c3 m e3
        rw [e4]
        have c6 : ¬ j.1 - m < s := by omega
        simp [List.length_pos_iff, hp, c6]
        exact fin
  · rintro ρ S' ⟨rfl, pre, suf, h', pm, x4, x5, rfl, ej, e, c, l⟩
    simpa using q
end
end Dm
-- text HmChart
namespace Dm
open PySem L2
section
variable {S : Sto} {os : List Int} {s h m : Int} {js : List (Int × Int)} {p : Nat}
@[simp] theorem need_table_ok (z : ZoneOK os s) (t : TabOK os s h js) : m_need_table [zoneD os s, tabD h js] S = .ok .non S := by
  refine pure_of fun Q q => ?_
  refine does_def rfl ?_
  simp [is_table_ok z t, q]
/-- the offset at a moment: up to the first jump after it -/
def offAt : Int → List (Int × Int) → Int → Int
  | h, [], _ => h
  | h, (a, o) :: r, m => if m < a then h else offAt o r m
theorem offset_in_ok : m_offset_in [tabD h js, .int m] S = .ok (.int (offAt h js m)) S := by
  refine pure_of fun Q q => ?_
  refine does_def rfl ?_
  simp
  refine forL_cut (fun ds ρ S' => S' = S ∧ ∃ (suf : List (Int × Int)) (h' : Int) (x3 x4 : Option D), ρ = [some (tabD h js), some (.int m), some (.int h'), x3, x4] ∧ ds = suf.map jmpD ∧ offAt h js m = offAt h' suf m) _ ⟨rfl, js, h, none, none, rfl, rfl, rfl⟩ ?_ ?_
  · rintro d r ρ S' ⟨rfl, suf, h', x3, x4, rfl, e, eo⟩
    cases suf with
    | nil => cases e
    | cons j suf =>
      obtain ⟨a, o⟩ := j
      injection e with e1 e2
      subst e1
      refine ⟨_, rfl, fun M hM => ?_⟩
      simp
      by_cases g : m < a
      · simp [g]
        rw [offAt, if_pos g] at eo
        rw [← eo]; exact q
      · simp [g]
        rw [offAt, if_neg g] at eo
        exact hM _ _ ⟨rfl, suf, o, _, _, rfl, e2, eo⟩
  · rintro ρ S' ⟨rfl, suf, h', x3, x4, rfl, e, eo⟩
    cases suf with
    | cons j suf => cases e
    | nil =>
      simp
      rw [show h' = offAt h js m from eo.symm]
      exact q
theorem offset_at_ok (z : ZoneOK os s) (t : TabOK os s h js) : m_offset_at [zoneD os s, tabD h js, .int m] S = .ok (.int (offAt h js m)) S := by
  refine pure_of fun Q q => ?_
  refine does_def rfl ?_
  simp [need_zone_ok z, need_table_ok z t, offset_in_ok, q]
theorem reading_at_ok (z : ZoneOK os s) (t : TabOK os s h js) : m_reading_at [zoneD os s, tabD h js, .int m] S = .ok (.int (m + offAt h js m)) S := by
  refine pure_of fun Q q => ?_
  refine does_def rfl ?_
  simp [offset_at_ok z t, q]
@[simp] theorem whole_int {i : Int} : m_law_whole [.int i] S = .ok (.bl true) S := by
  refine pure_of fun Q q => ?_
  refine does_def rfl ?_
  simpa [isTn] using q
theorem same_int {n : Nat} {i j : Int} : m_law_same (n + 1) [.int i, .int j] S = .ok (.bl (i == j)) S := by
  refine pure_of fun Q q => ?_
  unfold m_law_same
  refine does_def rfl ?_
  simpa [isTn] using q
@[simp] theorem same_int30 {i j : Int} : m_law_same 30 [.int i, .int j] S = .ok (.bl (i == j)) S := same_int
theorem ZoneOK.at (z : ZoneOK os s) {i : Int} (h0 : 0 ≤ i) (h1 : i < os.length) : ∃ o, atI (os.map D.int) i = some (.int o) ∧ o ∈ os ∧ os[i.toNat]? = some o := by
  have l : i.toNat < os.length := by omega
  refine ⟨os[i.toNat], ?_, List.getElem_mem l, List.getElem?_eq_getElem l⟩
  rw [atI_of h0 (by rw [List.length_map]; exact h1), List.getElem?_map, List.getElem?_eq_getElem l] <;> rfl
theorem nodup_ne {os : List Int} {i j : Nat} {a b : Int} (n : os.Nodup) (h : os[i]? = some a) (h' : os[j]? = some b) (ne : i ≠ j) : a ≠ b := by
  obtain ⟨l, e⟩ := List.getElem?_eq_some_iff.mp h
  obtain ⟨l', e'⟩ := List.getElem?_eq_some_iff.mp h'
  intro c
  subst e e'
  rcases Nat.lt_or_gt_of_ne ne with w | w
  · exact List.pairwise_iff_getElem.mp n i j l l' w c
  · exact List.pairwise_iff_getElem.mp n j i l' l w c.symm
/-- the bounds of a drawn chart -/
def Near (js : List (Int × Int)) : Prop := js.length ≤ 60 ∧ ∀ j, j ∈ js → -2000000000000 < j.1 ∧ j.1 < 2000000000000
theorem make_chart_does {u : Int} {Q : D → Sto → Prop} (hp : Pot p S) (z : ZoneOK os s) (u0 : 0 ≤ u) (u1 : u ≤ 60) (q : ∀ h js S', Go p S S' → TabOK os s h js → Near js → Q (tabD h js) S') : (m_law_make_chart [.cell p, zoneD os s, .int u] S).Does Q := by
  have hl := z.len
  have hs := z.sp
  refine does_def rfl ?_
  refine seq_cut (fun ρ S' => S = S' ∧ ρ = [some (.cell p), some (zoneD os s), some (.int u), some (.tup (os.map .int)), some (.int s), none, none, none, none, none, none]) (fun M hM => ?_) ?_
  · simp
    exact hM _ _ ⟨rfl, rfl⟩
  rintro ρ _ ⟨rfl, rfl⟩
  refine seq_cut (fun ρ S' => ∃ a : Int, ρ = [some (.cell p), some (zoneD os s), some (.int u), some (.tup (os.map .int)), some (.int s), some (.int a), none, none, none, none, none] ∧ Go p S S' ∧ 0 ≤ a ∧ a < os.length) (fun M hM => ?_) ?_
  · simp
    refine draw_does hp (by omega) (by omega) fun r S1 g1 a0 a1 => ?_
    exact hM _ _ ⟨_, rfl, g1, a0, a1⟩
  rintro ρ S1 ⟨a, rfl, g1, a0, a1⟩
  obtain ⟨o, ao, om, oi⟩ := z.at a0 a1
  refine seq_cut (fun ρ S' => S1 = S' ∧ ρ = [some (.cell p), some (zoneD os s), some (.int u), some (.tup (os.map .int)), some (.int s), some (.int a), some (.int o), none, none, none, none]) (fun M hM => ?_) ?_
  · simp [ao]
    exact hM _ _ ⟨rfl, rfl⟩
  rintro ρ _ ⟨rfl, rfl⟩
  refine seq_cut (fun ρ S' => ∃ hr : Int, ρ = [some (.cell p), some (zoneD os s), some (.int u), some (.tup (os.map .int)), some (.int s), some (.int a), some (.int o), some (.int hr), none, none, none] ∧ Go p S S' ∧ -1000000000000 < hr ∧ hr < 1000000000000) (fun M hM => ?_) ?_
  · simp
    refine any_hour_does g1.pot fun r S2 g2 b0 b1 => ?_
    exact hM _ _ ⟨_, rfl, g1.trans g2, b0, b1⟩
  rintro ρ S2 ⟨hr, rfl, g2, b0, b1⟩
  refine seq_cut (fun ρ S' => ρ = [some (.cell p), some (zoneD os s), some (.int u), some (.tup (os.map .int)), some (.int s), some (.int a), some (.int o), some (.int hr), some (.cell S2.length), none, none] ∧ S' = S2 ++ [.lst []]) (fun M hM => ?_) ?_
  · simp
    exact hM _ _ ⟨rfl, rfl⟩
  rintro ρ _ ⟨rfl, rfl⟩
  have g3 := g2.push (.lst [])
  have hn : p ≠ S2.length := by have := g2.pot.lt; omega
  have hn2 : S.length ≤ S2.length := g2.len
  generalize hN : S2.length = N at hn hn2
  have c3 : (S2 ++ [.lst []])[N]? = some (.lst []) := by subst hN; simp
  generalize S2 ++ [.lst []] = S3 at g3 c3
  refine seq_cut (fun ρ S' => ∃ (js : List (Int × Int)) (a' hr' : Int) (x9 x10 : Option D), ρ = [some (.cell p), some (zoneD os s), some (.int u), some (.tup (os.map .int)), some (.int s), some (.int a'), some (.int o), some (.int hr'), some (.cell N), x9, x10] ∧ Go p S S' ∧ S'[N]? = some (.lst (js.map jmpD)) ∧ TabOK os s o js ∧ Near js) (fun M hM => ?_) ?_
  · simp
    refine draw_does g3.pot (by omega) (by omega) fun c S4 g4 d0 d1 => ?_
    simp
    have c4 := g4.get c3 (Ne.symm hn)
    refine ⟨cmulw64 (by omega) (by split <;> omega), ?_, ?_⟩
    · split <;> omega
    generalize hC : c * (if (1 : Int) < (os.length : Int) then (1 : Int) else 0) = k
    have hk : 0 ≤ k ∧ k ≤ 60 ∧ (os.length = 1 → k = 0) := by
      subst hC
      split <;> omega
    refine forL_cut (fun ds ρ S' => ∃ (js : List (Int × Int)) (n : Nat) (t a' hr' : Int) (x9 x10 : Option D), ds = rngD t n ∧ ρ = [some (.cell p), some (zoneD os s), some (.int u), some (.tup (os.map .int)), some (.int s), some (.int a'), some (.int o), some (.int hr'), some (.cell N), x9, x10] ∧ Go p S S' ∧ S'[N]? = some (.lst (js.map jmpD)) ∧
      0 ≤ a' ∧ a' < os.length ∧ os[a'.toNat]? = some (endH o js) ∧ Chain os s o none js ∧ (∀ j, j ∈ js → -2000000000000 < j.1 ∧ j.1 < 2000000000000) ∧ (∀ pm, endP none js = some pm → pm + s ≤ hr') ∧ js.length + n ≤ 60 ∧ -1000000000000 < hr' ∧ hr' < 1000000000000 + 3000000 * js.length ∧ (os.length = 1 → n = 0)) _
      ⟨[], k.toNat, 0, a, hr, none, none, rfl, rfl, g3.trans g4, c4, a0, a1, oi, trivial, (fun _ h => nomatch h), (fun _ h => nomatch h), by simp; omega, b0, by simpa using b1, fun h => by omega⟩ ?_ ?_
    · rintro d r ρ S5 ⟨js, n, t, a', hr', x9, x10, e, rfl, g5, c5, q0, q1, qi, ch, bd, pr, ln, r0, r1, one⟩
      cases n with
      | zero => cases e
      | succ n =>
        rw [rngD_cons] at e
        injection e with e1 e2
        subst e1
        refine ⟨_, rfl, fun M2 hM2 => ?_⟩
        have two : 1 < os.length := by
          have := fun h => one h
          omega
        simp
        refine draw_does g5.pot (by omega) (by omega) fun c2 S6 g6 f0 f1 => ?_
        simp
        refine ⟨by omega, ?_⟩
        have w0 := Int.emod_nonneg (a' + 1 + c2) (b := (os.length : Int)) (by omega)
        have w1 := Int.emod_lt_of_pos (a' + 1 + c2) (b := (os.length : Int)) (by omega)
        have w2 : (a' + 1 + c2) % (os.length : Int) ≠ a' := by
          intro w
          have l3 : (os.length : Int) = 2 ∨ (os.length : Int) = 3 := by omega
          rcases l3 with l3 | l3 <;> rw [l3] at w f1 q1 <;> omega
        generalize (a' + 1 + c2) % (os.length : Int) = a2 at w0 w1 w2
        obtain ⟨o2, ao2, om2, oi2⟩ := z.at w0 w1
        have ne2 : o2 ≠ endH o js := nodup_ne z.nodup oi2 qi (by omega)
        have c6 := g6.get c5 (Ne.symm hn)
        rw [c6]
        simp only [Option.some.injEq, Cell.lst.injEq, exists_eq_left', ao2, optQ_some]
        refine ⟨⟨_, rfl⟩, by rw [List.length_map]; omega, ?_⟩
        have g7 : Go p S (S6.set N (.lst (js.map jmpD ++ [.tup [.int hr', .int o2]]))) := (g5.trans g6).setNew hp hn2 _
        have c7 : (S6.set N (.lst (js.map jmpD ++ [.tup [.int hr', .int o2]])))[N]? = some (.lst ((js ++ [(hr', o2)]).map jmpD)) := by
          rw [List.getElem?_set_self (List.getElem?_eq_some_iff.mp c6).1, List.map_append] <;> rfl
        generalize S6.set N (.lst (js.map jmpD ++ [.tup [.int hr', .int o2]])) = S7 at g7 c7
        have ch2 := chain_snoc ch om2 ne2 pr
        have bd2 : ∀ j, j ∈ js ++ [(hr', o2)] → -2000000000000 < j.1 ∧ j.1 < 2000000000000 := by
          intro j hj
          rcases List.mem_append.mp hj with hj | hj
          · exact bd j hj
          · cases List.mem_singleton.mp hj
            constructor <;> simp only <;> omega
        have fin : ∀ (z : Int) (x : Option D) (S8 : Sto), hr' + s ≤ z → z < hr' + 3000000 → Go p S7 S8 → M2 [some (.cell p), some (zoneD os s), some (.int u), some (.tup (os.map .int)), some (.int s), some (.int a2), some (.int o), some (.int z), some (.cell N), some (.int t), x] S8 := by
          intro zz x S8 z0 z1 g8
          refine hM2 _ _ ⟨js ++ [(hr', o2)], n, t + 1, a2, zz, _, _, e2, rfl, g7.trans g8, g8.get c7 (Ne.symm hn), w0, w1, ?_, ch2, bd2, ?_, ?_, ?_, ?_, ?_⟩
          · rw [endH_snoc]; exact oi2
          · intro pm hpm
            rw [endP_snoc] at hpm
            cases hpm
            exact z0
          · rw [List.length_append, List.length_singleton]; omega
          · omega
          · rw [List.length_append, List.length_singleton]; omega
          · intro h; omega
        refine draw_does g7.pot (by decide) (by decide) fun c3 S8 g8 k0 k1 => ?_
        simp
        by_cases cc : 2 < c3
        · have e5 : c3 = 3 ∨ c3 = 4 := by omega
          rcases e5 with e5 | e5 <;> subst e5 <;> simp [atI, ixN]
          · refine ⟨cmulw64 (by decide) (by omega), ?_⟩
            refine draw_does g8.pot (by decide) (by decide) fun c4 S9 g9 k2 k3 => ?_
            simp
            exact fin _ _ _ (by omega) (by omega) (g8.trans g9)
          · refine ⟨cmulw64 (by decide) (by omega), ?_⟩
            refine draw_does g8.pot (by omega) (by omega) fun c4 S9 g9 k2 k3 => ?_
            simp
            exact fin _ _ _ (by omega) (by omega) (g8.trans g9)
        · simp [cc]
          exact fin _ _ _ (by omega) (by omega) g8
    · rintro ρ S5 ⟨js, n, t, a', hr', x9, x10, e, rfl, g5, c5, q0, q1, qi, ch, bd, pr, ln, r0, r1, one⟩
      exact hM _ _ ⟨js, a', hr', _, _, rfl, g5, c5, ⟨om, ch⟩, by omega, bd⟩
  rintro ρ S5 ⟨js, a', hr', x9, x10, rfl, g5, c5, t, nr⟩
  simp [gTuple_cell c5]
  exact q _ _ _ g5 t nr
end
end Dm
-- text HmNear
namespace Dm
open PySem L2
section
variable {S : Sto} {os : List Int} {s h m : Int} {js : List (Int × Int)} {p : Nat}
theorem Pot.set {n : Nat} {c : Cell} (h : Pot p S) (hn : p ≠ n) : Pot p (S.set n c) := by
  obtain ⟨k, e⟩ := h
  exact ⟨k, by rw [List.getElem?_set_ne (Ne.symm hn)]; exact e⟩
end
end Dm
-- text HmSame
namespace Dm
open PySem L2
/-- data that the law calls the same, of a depth -/
inductive Eqv (S : Sto) : Nat → D → D → Prop
  | non {n : Nat} : Eqv S n .non .non
  | int {n : Nat} {i : Int} : Eqv S n (.int i) (.int i)
  | bl {n : Nat} {b : Bool} : Eqv S n (.bl b) (.bl b)
  | str {n : Nat} {x : Str} : Eqv S n (.str x) (.str x)
  | tup {n : Nat} {ds es : List D} : ds.length = es.length → es.length ≤ 16777216 → (∀ (i : Nat) (d e : D), ds[i]? = some d → es[i]? = some e → Eqv S n d e) → Eqv S (n + 1) (.tup ds) (.tup es)
  | lst {n : Nat} {d e : D} {ds es : List D} : lstOf S d = some ds → lstOf S e = some es → ds.length = es.length → es.length ≤ 16777216 → (∀ (i : Nat) (d e : D), ds[i]? = some d → es[i]? = some e → Eqv S n d e) → Eqv S (n + 1) d e
section
variable {S : Sto}
theorem lstOf_ty {d : D} {ds : List D} (h : lstOf S d = some ds) : tyOf S d = some .lst := by
  cases d with
  | lst xs => rfl
  | cell n =>
    simp only [lstOf] at h
    cases e : S[n]? with
    | none => rw [e] at h; exact nomatch h
    | some c =>
      rw [e] at h
      cases c with
      | lst es => exact tyOf_cell e
      | _ => exact nomatch h
  | _ => exact nomatch h
theorem lstOf_len {d : D} {ds : List D} (h : lstOf S d = some ds) : gLen S [d] = some (.int ds.length) := by
  cases d with
  | lst xs => cases h; rfl
  | cell n =>
    show (lstOf S (.cell n)).map _ = _
    rw [h] <;> rfl
  | _ => exact nomatch h
theorem lstOf_ix {d : D} {ds : List D} {i : Int} (h : lstOf S d = some ds) : gIx S d (.int i) = atI ds i := by
  cases d with
  | lst xs => cases h; rfl
  | cell n =>
    show (lstOf S (.cell n)).bind _ = _
    rw [h] <;> rfl
  | _ => exact nomatch h
theorem bls_true {α : Type} : ∀ {l : List α}, blsOf (l.map fun _ => D.bl true) = some (l.map fun _ => true)
  | [] => rfl
  | a :: l => by
    rw [List.map_cons, blsOf, bls_true] <;> rfl
theorem all_true {α : Type} : ∀ {l : List α}, (l.map fun _ => true).all id = true
  | [] => rfl
  | a :: l => by rw [List.map_cons, List.all_cons, all_true] <;> rfl
theorem gAll_true {α : Type} {l : List α} : gAll S [.lst (l.map fun _ => D.bl true)] = some (.bl true) := by
  unfold gAll
  simp only [lstOf_lst, Option.bind_some, bls_true, Option.map_some, all_true]
theorem mem_rngD {n : Nat} {d : D} (h : d ∈ rngD 0 n) : ∃ i : Nat, d = .int i ∧ i < n := by
  unfold rngD at h
  obtain ⟨i, hi, rfl⟩ := List.mem_map.mp h
  exact ⟨i, by simp, List.mem_range.mp hi⟩
theorem same_pairs {n : Nat} {d e : D} {ds es : List D} {Q : D → Sto → Prop} (hl : ds.length = es.length) (h16 : es.length ≤ 16777216) (h1 : ∀ i, gIx S d (.int i) = atI ds i) (h2 : ∀ i, gIx S e (.int i) = atI es i) (l2 : gLen S [e] = some (.int es.length))
    (ih : ∀ (i : Nat) (d e : D), ds[i]? = some d → es[i]? = some e → m_law_same n [d, e] S = .ok (.bl true) S) (q : Q (.bl true) S) :
    (mCallB gAll (mCons (mFz (mLc (iRange1 (mCons (mCallB gLen (mCons (mVar 1) mNil)) mNil)) (tgN 2) mYes (mCall (m_law_same n) (mCons (mOp gIx (mVar 0) (mVar 2)) (mCons (mOp gIx (mVar 1) (mVar 2)) mNil))) [2])) mNil) [some d, some e, none] S).Does Q := by
  simp [l2]
  refine ⟨by omega, ?_⟩
  refine lcQ_map (fun _ => .bl true) ?_ ?_
  · intro x hx
    obtain ⟨i, rfl, hi⟩ := mem_rngD hx
    refine ⟨_, rfl, fun Q q => ?_⟩
    have w1 : i < ds.length := by omega
    have e1 : atI ds (i : Int) = some ds[i] := by
      rw [atI_of (by omega) (by omega)]
      exact List.getElem?_eq_getElem w1
    have e2 : atI es (i : Int) = some es[i] := by
      rw [atI_of (by omega) (by omega)]
      exact List.getElem?_eq_getElem hi
    simp [wipeD, h1, h2, e1, e2]
    rw [ih i _ _ (List.getElem?_eq_getElem w1) (List.getElem?_eq_getElem hi)]
    exact q
  · rw [gAll_true]
    exact q
theorem same_eqv : ∀ {n : Nat} {d e : D}, Eqv S n d e → m_law_same (n + 1) [d, e] S = .ok (.bl true) S := by
  intro n d e h
  refine pure_of fun Q q => ?_
  induction h generalizing Q with
  | non => unfold m_law_same; refine does_def rfl ?_; simpa [isTn] using q
  | int => rw [same_int]; simpa using q
  | bl => unfold m_law_same; refine does_def rfl ?_; simpa [isTn] using q
  | str => unfold m_law_same; refine does_def rfl ?_; simpa [isTn] using q
  | @tup n ds es hl h16 _ ih =>
    unfold m_law_same
    refine does_def rfl ?_
    rw [does_seq]
    rw [does_ifS]
    have go := same_pairs (n := n + 1) (Q := Q) (d := .tup ds) (e := .tup es) hl h16 (fun _ => rfl) (fun _ => rfl) rfl (fun i d e h1 h2 => pure_of fun Q q => ih i d e h1 h2 Q q) q
    simp [isTn, hl]
    simpa [isTn] using go
  | @lst n d e ds es hd he hl h16 _ ih =>
    unfold m_law_same
    refine does_def rfl ?_
    have go := same_pairs (n := n + 1) (Q := Q) hl h16 (fun _ => lstOf_ix hd) (fun _ => lstOf_ix he) (lstOf_len he) (fun i d e h1 h2 => pure_of fun Q q => ih i d e h1 h2 Q q) q
    simp [isTn, hl, lstOf_ty hd, lstOf_ty he, lstOf_len hd, lstOf_len he]
    simpa [isTn, lstOf_len he] using go
theorem Eqv.up {n m : Nat} {d e : D} (h : Eqv S n d e) (hm : n ≤ m) : Eqv S m d e := by
  induction h generalizing m with
  | non => exact .non
  | int => exact .int
  | bl => exact .bl
  | str => exact .str
  | tup hl h16 _ ih =>
    obtain ⟨k, rfl⟩ : ∃ k, m = k + 1 := ⟨m - 1, by omega⟩
    exact .tup hl h16 fun i d e a b => ih i d e a b (by omega)
  | lst hd he hl h16 _ ih =>
    obtain ⟨k, rfl⟩ : ∃ k, m = k + 1 := ⟨m - 1, by omega⟩
    exact .lst hd he hl h16 fun i d e a b => ih i d e a b (by omega)
end
end Dm
-- text HmHours
namespace Dm
open PySem L2
section
variable {S : Sto} {os : List Int} {s h m r : Int} {js : List (Int × Int)} {p : Nat}
theorem ZoneOK.asc (z : ZoneOK os s) : os.Pairwise (· < ·) := by cases z <;> simp <;> omega
/-- the moments of a reading, by the offsets -/
def momsOf (os : List Int) (h : Int) (js : List (Int × Int)) (r : Int) : List Int := (os.reverse.filter fun o => offAt h js (r - o) == o).map fun o => r - o
theorem lcQ_filter {f : D → Rho → Option Rho} {mt me : ME} {ρ : Rho} {α : Type} {as : List α} {i : α → D} {S : Sto} {Q : List D → Sto → Prop} (t : α → Bool) (g : α → D) (h : ∀ a, a ∈ as → ∃ ρ1, f (i a) ρ = some ρ1 ∧ (∀ Q : D → Sto → Prop, Q (.bl (t a)) S → (mt ρ1 S).Does Q) ∧ ∀ Q : D → Sto → Prop, t a = true → Q (g a) S → (me ρ1 S).Does Q) (q : Q ((as.filter t).map g) S) : LcQ f mt me ρ (as.map i) S Q := by
  induction as generalizing Q with
  | nil => rw [List.map_nil, lcQ_nil]; exact q
  | cons a r ih =>
    obtain ⟨ρ1, e, k1, k2⟩ := h a List.mem_cons_self
    rw [List.map_cons, lcQ_cons, e]
    refine k1 _ ?_
    rw [blQ_bl]
    cases c : t a with
    | true =>
      rw [if_pos rfl]
      refine k2 _ c (ih (fun d hd => h d (List.mem_cons_of_mem _ hd)) ?_)
      rw [List.filter_cons, if_pos c] at q
      exact q
    | false =>
      rw [if_neg (by decide)]
      refine ih (fun d hd => h d (List.mem_cons_of_mem _ hd)) ?_
      rw [List.filter_cons, if_neg (by rw [c]; decide)] at q
      exact q
end
end Dm
-- text HmLooks
namespace Dm
open PySem L2
/-- from S to S': the pots of P have turned, all else is as it was -/
structure GoS (P : Nat → Prop) (S S' : Sto) : Prop where
  len : S.length ≤ S'.length
  same : ∀ n, n < S.length → ¬ P n → S'[n]? = S[n]?
  pot : ∀ n, P n → Pot n S'
section
variable {P : Nat → Prop} {S S1 S2 : Sto} {p q n : Nat} {os : List Int} {s : Int}
theorem GoS.refl (h : ∀ n, P n → Pot n S) : GoS P S S := ⟨Nat.le_refl _, fun _ _ _ => rfl, h⟩
theorem GoS.trans (a : GoS P S S1) (b : GoS P S1 S2) : GoS P S S2 :=
  ⟨Nat.le_trans a.len b.len, fun n h hn => (b.same n (Nat.lt_of_lt_of_le h a.len) hn).trans (a.same n h hn), b.pot⟩
theorem Pot.push {c : Cell} (h : Pot p S) : Pot p (S ++ [c]) := by
  obtain ⟨k, e⟩ := h
  exact ⟨k, by rw [List.getElem?_append_left (List.getElem?_eq_some_iff.mp e).1]; exact e⟩
theorem GoS.push (a : GoS P S S1) (c : Cell) : GoS P S (S1 ++ [c]) :=
  ⟨by rw [List.length_append]; exact Nat.le_trans a.len (Nat.le_add_right _ _), fun n h hn => by
    rw [List.getElem?_append_left (Nat.lt_of_lt_of_le h a.len)]
    exact a.same n h hn, fun n hn => (a.pot n hn).push⟩
theorem GoS.setNew (h : ∀ n, P n → Pot n S) (a : GoS P S S1) (hn : S.length ≤ n) (c : Cell) : GoS P S (S1.set n c) :=
  ⟨by rw [List.length_set]; exact a.len, fun m hm hp => by
    rw [List.getElem?_set_ne (by omega)]
    exact a.same m hm hp, fun m hm => by
    have := (h m hm).lt
    exact (a.pot m hm).set (by omega)⟩
theorem GoS.get {c : Cell} (a : GoS P S S1) (h : S[n]? = some c) (hn : ¬ P n) : S1[n]? = some c := by
  rw [a.same n (List.getElem?_eq_some_iff.mp h).1 hn]
  exact h
theorem Go.all (g : Go q S S1) (hq : P q) (h : ∀ n, P n → Pot n S) : GoS P S S1 :=
  ⟨g.len, fun n hn hp => g.same n hn fun e => hp (e ▸ hq), fun n hn => by
    by_cases e : n = q
    · subst e; exact g.pot
    · obtain ⟨k, z⟩ := h n hn
      exact ⟨k, g.get z e⟩⟩
theorem GoS.one (g : GoS (· = p) S S1) : Go p S S1 := ⟨g.len, fun n hn e => g.same n hn e, g.pot p rfl⟩
structure LooksOK (os : List Int) (ls : List (Int × Int)) : Prop where
  mem : ∀ l, l ∈ ls → l.2 ∈ os
  asc : ls.Pairwise fun a b => a.1 < b.1
def looksD (ls : List (Int × Int)) : D := .tup (ls.map jmpD)
theorem at_some {α : Type} {xs : List α} {i : Int} (h0 : 0 ≤ i) (h : i < xs.length) : ∃ x, atI xs i = some x ∧ x ∈ xs := by
  have l : i.toNat < xs.length := by omega
  exact ⟨xs[i.toNat], by rw [atI_of h0 h]; exact List.getElem?_eq_getElem l, List.getElem_mem l⟩
theorem at_int {xs : List Int} {i : Int} (h0 : 0 ≤ i) (h : i < xs.length) : ∃ x, atI (xs.map D.int) i = some (.int x) := by
  obtain ⟨d, e, m⟩ := at_some (xs := xs.map D.int) h0 (by rw [List.length_map]; exact h)
  obtain ⟨x, _, rfl⟩ := List.mem_map.mp m
  exact ⟨x, e⟩
end
end Dm
-- text HmCrowd
namespace Dm
open PySem L2
/-! ### looks by their places -/
def Hh (ls : List (Int × Int)) (i : Nat) : Int := (ls.getD i (0, 0)).1
def Oo (ls : List (Int × Int)) (i : Nat) : Int := (ls.getD i (0, 0)).2
def chg (ls : List (Int × Int)) (i : Nat) : Int := if Oo ls (i + 1) = Oo ls i then 0 else 1
def tal (ls : List (Int × Int)) : Nat → Int
  | 0 => 0
  | k + 1 => tal ls k + chg ls k
def cond (s : Int) (ls : List (Int × Int)) (i j : Nat) : Bool := decide (Hh ls j - Hh ls i - 1 < (tal ls j - tal ls i - 1) * s)
def crowAt (s : Int) (ls : List (Int × Int)) (j : Nat) : Option (Nat × Nat) := (List.range' 0 j).findSome? fun b => if cond s ls (j - 1 - b) j then some (j - 1 - b, j) else none
def crow (s : Int) (ls : List (Int × Int)) : Option (Nat × Nat) := (List.range' 0 ls.length).findSome? fun j => crowAt s ls j
section
variable {S : Sto} {os : List Int} {s : Int} {ls : List (Int × Int)} {n p : Nat}
theorem asc_get (h : ls.Pairwise fun a b => a.1 < b.1) {i j : Nat} (hij : i < j) (hj : j < ls.length) : Hh ls i < Hh ls j := by
  have q := List.pairwise_iff_getElem.mp h i j (by omega) hj hij
  unfold Hh
  simpa [List.getD, List.getElem?_eq_getElem hj, List.getElem?_eq_getElem (show i < ls.length by omega)] using q
@[simp] theorem ty_looks : tyOf S (looksD ls) = some .tup := rfl
@[simp] theorem len_looks : gLen S [looksD ls] = some (.int ls.length) := by simp [looksD]
@[simp] theorem ix_looks {i : Int} : gIx S (looksD ls) (.int i) = atI (ls.map jmpD) i := rfl
end
end Dm
-- text HmEarly
namespace Dm
open PySem L2
end Dm
-- text HmFit
namespace Dm
open PySem L2
/-- the earliest moment of the next jump -/
def bar (s : Int) (p : Option Int) (h : Int) : Int := match p with
  | none => h + 1
  | some q => if q + s > h + 1 then q + s else h + 1
def early (s : Int) : Option Int → Int × Int → List (Int × Int) → Option (List (Int × Int))
  | _, _, [] => some []
  | p, (h, o), (h', o') :: r => if o' = o then early s p (h', o') r else if bar s p h > h' then none else (early s (some (bar s p h)) (h', o') r).map ((bar s p h, o') :: ·)
def earlyT (os : List Int) (s : Int) : List (Int × Int) → Option (Int × List (Int × Int))
  | [] => some (os.headD 0, [])
  | l :: r => (early s none l r).map (l.2, ·)
section
variable {S : Sto} {os : List Int} {s : Int} {ls : List (Int × Int)} {n p : Nat}
/-! ### the bar by the places -/
def Bf (s : Int) (ls : List (Int × Int)) : Nat → Int
  | 0 => Hh ls 0 + 1
  | j + 1 => if Bf s ls j + chg ls j * s > Hh ls (j + 1) + 1 then Bf s ls j + chg ls j * s else Hh ls (j + 1) + 1
theorem tal_self (i : Nat) : (tal ls i - tal ls i) * s = 0 := by rw [Int.sub_self, Int.zero_mul]
theorem bf_max {x : Int} : ∀ {j : Nat}, x < Bf s ls j ↔ ∃ i, i ≤ j ∧ x < Hh ls i + 1 + (tal ls j - tal ls i) * s
  | 0 => by
    rw [Bf]
    constructor
    · intro h
      exact ⟨0, Nat.le_refl _, by rw [tal_self]; omega⟩
    · rintro ⟨i, hi, h⟩
      have e : i = 0 := by omega
      subst e
      rw [tal_self] at h
      omega
  | j + 1 => by
    have ih := bf_max (x := x - chg ls j * s) (j := j)
    have e : ∀ i, (tal ls (j + 1) - tal ls i) * s = (tal ls j - tal ls i) * s + chg ls j * s := fun i => by
      rw [tal, ← Int.add_mul]
      congr 1
      omega
    rw [Bf]
    constructor
    · intro h
      by_cases c : x < Bf s ls j + chg ls j * s
      · obtain ⟨i, hi, k⟩ := ih.mp (by omega)
        exact ⟨i, by omega, by rw [e]; omega⟩
      · refine ⟨j + 1, Nat.le_refl _, ?_⟩
        rw [tal_self]
        split at h <;> omega
    · rintro ⟨i, hi, k⟩
      by_cases c : i = j + 1
      · subst c
        rw [tal_self] at k
        split <;> omega
      · rw [e] at k
        have := ih.mpr ⟨i, by omega, by omega⟩
        split <;> omega
/-- no stretch that ends at place j + 1 is crowded -/
theorem free_at {j : Nat} : (∀ i, i < j + 1 → ¬ cond s ls i (j + 1) = true) ↔ Bf s ls j + (chg ls j - 1) * s ≤ Hh ls (j + 1) := by
  have key : ∀ i, cond s ls i (j + 1) = true ↔ Hh ls (j + 1) - (chg ls j - 1) * s < Hh ls i + 1 + (tal ls j - tal ls i) * s := fun i => by
    unfold cond
    rw [decide_eq_true_eq]
    have e : (tal ls (j + 1) - tal ls i - 1) * s = (tal ls j - tal ls i) * s + (chg ls j - 1) * s := by
      rw [tal, ← Int.add_mul]
      congr 1
      omega
    rw [e]
    omega
  have m := bf_max (s := s) (ls := ls) (x := Hh ls (j + 1) - (chg ls j - 1) * s) (j := j)
  constructor
  · intro h
    refine Int.not_lt.mp fun c => ?_
    obtain ⟨i, hi, k⟩ := m.mp (by omega)
    exact h i (by omega) ((key i).mpr k)
  · intro h i hi k
    have := m.mpr ⟨i, by omega, (key i).mp k⟩
    omega
theorem crowAt_none {j : Nat} : crowAt s ls j = none ↔ ∀ i, i < j → ¬ cond s ls i j = true := by
  unfold crowAt
  rw [List.findSome?_eq_none_iff]
  constructor
  · intro h i hi k
    have := h (j - 1 - i) (by rw [List.mem_range'_1]; omega)
    rw [show j - 1 - (j - 1 - i) = i by omega, if_pos k] at this
    cases this
  · intro h b hb
    rw [List.mem_range'_1] at hb
    rw [if_neg (h _ (by omega))]
theorem crow_none : crow s ls = none ↔ ∀ j, j + 1 < ls.length → Bf s ls j + (chg ls j - 1) * s ≤ Hh ls (j + 1) := by
  unfold crow
  rw [List.findSome?_eq_none_iff]
  constructor
  · intro h j hj
    exact free_at.mp (crowAt_none.mp (h (j + 1) (by rw [List.mem_range'_1]; omega)))
  · intro h j hj
    rw [List.mem_range'_1] at hj
    refine crowAt_none.mpr ?_
    cases j with
    | zero => exact fun i hi => by omega
    | succ j => exact free_at.mpr (h j (by omega))
theorem get_mid {pre suf : List (Int × Int)} {l : Int × Int} (e : ls = pre ++ l :: suf) : Hh ls pre.length = l.1 ∧ Oo ls pre.length = l.2 := by
  unfold Hh Oo
  rw [e]
  simp [List.getD]
theorem early_some (hs : 0 < s) (asc : ls.Pairwise fun a b => a.1 < b.1) : ∀ (suf : List (Int × Int)) (pre : List (Int × Int)) (p : Option Int) (l : Int × Int), ls = pre ++ l :: suf → Bf s ls pre.length = bar s p l.1 → (∀ q, p = some q → q ≤ l.1) →
    ((∃ js, early s p l suf = some js) ↔ ∀ i, pre.length ≤ i → i + 1 < ls.length → Bf s ls i + (chg ls i - 1) * s ≤ Hh ls (i + 1))
  | [], pre, p, l, e, hb, hq => by
    refine ⟨(fun _ i h1 h2 => ?_), (fun _ => ⟨[], rfl⟩)⟩
    rw [e] at h2
    simp at h2
    omega
  | (h', o') :: r, pre, p, (h, o), e, hb, hq => by
    obtain ⟨e1, e2⟩ := get_mid e
    have e' : ls = (pre ++ [(h, o)]) ++ (h', o') :: r := by rw [e, List.append_assoc] <;> rfl
    obtain ⟨e3, e4⟩ := get_mid e'
    rw [List.length_append, List.length_singleton] at e3 e4
    have len : pre.length + 1 < ls.length := by rw [e]; simp
    have lt : h < h' := by
      have := asc_get asc (show pre.length < pre.length + 1 by omega) len
      rw [e1, e3] at this
      exact this
    simp only at e1 e2 e3 e4 hb hq
    rw [early]
    by_cases c : o' = o
    · have d0 : chg ls pre.length = 0 := by rw [chg, e4, e2, if_pos c]
      have nb : Bf s ls (pre.length + 1) = bar s p h' := by
        rw [Bf, d0, hb, Int.zero_mul, Int.add_zero, e3]
        unfold bar
        cases p with
        | none => simp only; split <;> omega
        | some q => simp only; (repeat' split) <;> omega
      have ih := early_some hs asc r (pre ++ [(h, o)]) p (h', o') e' (by rw [List.length_append, List.length_singleton]; exact nb) (fun q z => by have := hq q z; simp only; omega)
      rw [if_pos c, ih, List.length_append, List.length_singleton]
      refine ⟨fun k i h1 h2 => ?_, fun k i h1 h2 => k i (by omega) h2⟩
      by_cases ci : i = pre.length
      · subst ci
        rw [d0, hb, e3, Int.zero_sub]
        unfold bar
        cases p with
        | none => simp only; omega
        | some q =>
          have := hq q rfl
          simp only
          split <;> omega
      · exact k i (by omega) h2
    · have d1 : chg ls pre.length = 1 := by rw [chg, e4, e2, if_neg c]
      rw [if_neg c]
      by_cases g : bar s p h > h'
      · rw [if_pos g]
        refine ⟨(fun ⟨js, z⟩ => nomatch z), (fun k => ?_)⟩
        have := k pre.length (Nat.le_refl _) len
        rw [d1, hb, e3, Int.sub_self, Int.zero_mul] at this
        omega
      · rw [if_neg g]
        have nb : Bf s ls (pre.length + 1) = bar s (some (bar s p h)) h' := by
          rw [Bf, d1, hb, Int.one_mul, e3]
          rfl
        have ih := early_some hs asc r (pre ++ [(h, o)]) (some (bar s p h)) (h', o') e' (by rw [List.length_append, List.length_singleton]; exact nb) (fun q z => by cases z; simp only; omega)
        rw [List.length_append, List.length_singleton] at ih
        have em : (∃ js, (early s (some (bar s p h)) (h', o') r).map ((bar s p h, o') :: ·) = some js) ↔ ∃ js, early s (some (bar s p h)) (h', o') r = some js := by
          cases early s (some (bar s p h)) (h', o') r <;> simp
        rw [em, ih]
        refine ⟨fun k i h1 h2 => ?_, fun k i h1 h2 => k i (by omega) h2⟩
        by_cases ci : i = pre.length
        · subst ci
          rw [d1, hb, e3, Int.sub_self, Int.zero_mul]
          omega
        · exact k i (by omega) h2
theorem fit_iff (hs : 0 < s) (asc : ls.Pairwise fun a b => a.1 < b.1) : (∃ t, earlyT os s ls = some t) ↔ crow s ls = none := by
  rw [crow_none]
  cases ls with
  | nil => exact ⟨(fun _ j hj => by simp at hj), (fun _ => ⟨_, rfl⟩)⟩
  | cons l r =>
    have k := early_some (ls := l :: r) hs asc r [] none l rfl (by rw [List.length_nil, Bf]; rfl) (fun _ h => nomatch h)
    rw [earlyT]
    have em : (∃ t, (early s none l r).map (l.2, ·) = some t) ↔ ∃ js, early s none l r = some js := by
      cases early s none l r <;> simp
    rw [em, k]
    exact ⟨fun k i h => k i (Nat.zero_le _) h, fun k i _ h => k i h⟩
end
end Dm
namespace Dm
open PySem L2
/-- data without cells -/
inductive Plain : Nat → D → Prop
  | non {n : Nat} : Plain n .non
  | int {n : Nat} {i : Int} : Plain n (.int i)
  | bl {n : Nat} {b : Bool} : Plain n (.bl b)
  | str {n : Nat} {x : Str} : Plain n (.str x)
  | tup {n : Nat} {ds : List D} : ds.length ≤ 16777216 → (∀ d, d ∈ ds → Plain n d) → Plain (n + 1) (.tup ds)
theorem Plain.eqv {S : Sto} {n : Nat} {d : D} (h : Plain n d) : Eqv S n d d := by
  induction h with
  | non => exact .non
  | int => exact .int
  | bl => exact .bl
  | str => exact .str
  | tup hl _ ih => exact .tup rfl hl fun i d e a b => by rw [a] at b; cases b; exact ih d (List.mem_of_getElem? a)
theorem Plain.up {n m : Nat} {d : D} (h : Plain n d) (hm : n ≤ m) : Plain m d := by
  induction h generalizing m with
  | non => exact .non
  | int => exact .int
  | bl => exact .bl
  | str => exact .str
  | tup hl _ ih =>
    obtain ⟨k, rfl⟩ : ∃ k, m = k + 1 := ⟨m - 1, by omega⟩
    exact .tup hl fun d hd => ih d hd (by omega)
end Dm
-- text HmEtab
namespace Dm
open PySem L2
section
variable {S : Sto} {os : List Int} {s h : Int} {ls js : List (Int × Int)} {n p : Nat}
theorem bar_gt {q : Option Int} {x : Int} : x < bar s q x := by
  unfold bar
  cases q with
  | none => simp only; omega
  | some q => simp only; split <;> omega
theorem bar_ge {q x : Int} : q + s ≤ bar s (some q) x := by
  unfold bar
  simp only
  split <;> omega
theorem early_chain : ∀ {suf : List (Int × Int)} {p : Option Int} {l : Int × Int} {js : List (Int × Int)}, early s p l suf = some js → (∀ x, x ∈ suf → x.2 ∈ os) → Chain os s l.2 p js
  | [], p, l, js, e, _ => by cases e; trivial
  | (h', o') :: r, p, (h, o), js, e, m => by
    rw [early] at e
    by_cases c : o' = o
    · rw [if_pos c] at e
      have ih := early_chain e fun x hx => m x (List.mem_cons_of_mem _ hx)
      simp only at ih ⊢
      rw [← c]; exact ih
    · rw [if_neg c] at e
      by_cases g : bar s p h > h'
      · rw [if_pos g] at e; cases e
      · rw [if_neg g] at e
        cases w : early s (some (bar s p h)) (h', o') r with
        | none => rw [w] at e; cases e
        | some js' =>
          rw [w] at e
          cases e
          refine ⟨m _ List.mem_cons_self, c, fun q hq => ?_, early_chain w fun x hx => m x (List.mem_cons_of_mem _ hx)⟩
          subst hq
          exact bar_ge
theorem early_head : ∀ {suf : List (Int × Int)} {p : Option Int} {l : Int × Int} {js : List (Int × Int)}, early s p l suf = some js → (l :: suf).Pairwise (fun a b => a.1 < b.1) → ∀ j, js.head? = some j → l.1 < j.1
  | [], p, l, js, e, _, j, hj => by cases e; cases hj
  | (h', o') :: r, p, (h, o), js, e, asc, j, hj => by
    rw [early] at e
    obtain ⟨a1, a2⟩ := List.pairwise_cons.mp asc
    by_cases c : o' = o
    · rw [if_pos c] at e
      have := early_head e a2 j hj
      have := a1 _ List.mem_cons_self
      simp only at *
      omega
    · rw [if_neg c] at e
      by_cases g : bar s p h > h'
      · rw [if_pos g] at e; cases e
      · rw [if_neg g] at e
        cases w : early s (some (bar s p h)) (h', o') r with
        | none => rw [w] at e; cases e
        | some js' =>
          rw [w] at e
          cases e
          cases hj
          exact bar_gt
theorem early_holds : ∀ {suf : List (Int × Int)} {p : Option Int} {l : Int × Int} {js : List (Int × Int)}, early s p l suf = some js → (l :: suf).Pairwise (fun a b => a.1 < b.1) → ∀ x, x ∈ l :: suf → offAt l.2 js x.1 = x.2
  | suf, p, l, js, e, asc, x, hx => by
    have hd := early_head e asc
    rcases List.mem_cons.mp hx with rfl | hy
    · cases js with
      | nil => rfl
      | cons j t =>
        obtain ⟨a, o⟩ := j
        rw [offAt, if_pos (hd _ rfl)]
    · cases suf with
      | nil => cases hy
      | cons l' r =>
        obtain ⟨h', o'⟩ := l'
        obtain ⟨h, o⟩ := l
        rw [early] at e
        obtain ⟨a1, a2⟩ := List.pairwise_cons.mp asc
        by_cases c : o' = o
        · rw [if_pos c] at e
          have ih := early_holds e a2 x hy
          simp only at ih ⊢
          rw [← c]; exact ih
        · rw [if_neg c] at e
          by_cases g : bar s p h > h'
          · rw [if_pos g] at e; cases e
          · rw [if_neg g] at e
            cases w : early s (some (bar s p h)) (h', o') r with
            | none => rw [w] at e; cases e
            | some js' =>
              rw [w] at e
              cases e
              have hx' : h' ≤ x.1 := by
                rcases List.mem_cons.mp hy with rfl | hw
                · exact Int.le_refl _
                · have := (List.pairwise_cons.mp a2).1 x hw
                  simp only at this
                  omega
              show offAt o ((bar s p h, o') :: js') x.1 = x.2
              rw [offAt, if_neg (by omega)]
              exact early_holds w a2 x hy
theorem earlyT_tab (z : ZoneOK os s) (l : LooksOK os ls) (e : earlyT os s ls = some (h, js)) : TabOK os s h js := by
  cases ls with
  | nil => cases z <;> cases e <;> exact ⟨by simp, trivial⟩
  | cons a r =>
    rw [earlyT] at e
    cases w : early s none a r with
    | none => rw [w] at e; cases e
    | some js' =>
      rw [w] at e
      cases e
      exact ⟨l.mem _ List.mem_cons_self, early_chain w fun x hx => l.mem x (List.mem_cons_of_mem _ hx)⟩
theorem earlyT_holds (l : LooksOK os ls) (e : earlyT os s ls = some (h, js)) : ∀ x, x ∈ ls → offAt h js x.1 = x.2 := by
  cases ls with
  | nil => exact fun x hx => nomatch hx
  | cons a r =>
    rw [earlyT] at e
    cases w : early s none a r with
    | none => rw [w] at e; cases e
    | some js' =>
      rw [w] at e
      cases e
      exact early_holds w l.asc
end
end Dm
-- text HmHold
namespace Dm
open PySem L2
/-! ### looks that some table has are not crowded -/
def aft : Int → List (Int × Int) → Int → Int × List (Int × Int)
  | o, [], _ => (o, [])
  | o, (a, b) :: r, t => if t < a then (o, (a, b) :: r) else aft b r t
section
variable {os : List Int} {s h : Int} {ls js : List (Int × Int)}
theorem aft_off {t x : Int} (hx : t ≤ x) : ∀ {o : Int} {jr : List (Int × Int)}, offAt (aft o jr t).1 (aft o jr t).2 x = offAt o jr x
  | o, [] => rfl
  | o, (a, b) :: r => by
    rw [aft]
    by_cases c : t < a
    · rw [if_pos c]
    · rw [if_neg c, aft_off hx, offAt, if_neg (by omega)]
theorem aft_held {t : Int} : ∀ {o : Int} {jr : List (Int × Int)}, (aft o jr t).1 = offAt o jr t
  | o, [] => rfl
  | o, (a, b) :: r => by
    rw [aft, offAt]
    by_cases c : t < a
    · rw [if_pos c, if_pos c]
    · rw [if_neg c, if_neg c, aft_held]
theorem aft_late {t : Int} : ∀ {o : Int} {jr : List (Int × Int)}, ∀ j, (aft o jr t).2.head? = some j → t < j.1
  | o, [], j, h => nomatch h
  | o, (a, b) :: r, j, h => by
    rw [aft] at h
    by_cases c : t < a
    · rw [if_pos c] at h; cases h; exact c
    · rw [if_neg c] at h; exact aft_late j h
theorem aft_chain {t : Int} (hs : 0 < s) : ∀ {o : Int} {p : Option Int} {jr : List (Int × Int)}, Chain os s o p jr → ∃ p', Chain os s (aft o jr t).1 p' (aft o jr t).2
  | o, p, [], h => ⟨p, h⟩
  | o, p, (a, b) :: r, h => by
    rw [aft]
    by_cases c : t < a
    · rw [if_pos c]; exact ⟨p, h⟩
    · rw [if_neg c]; exact aft_chain hs h.2.2.2
/-- the jump behind comes a spacing later -/
theorem aft_gap {t : Int} (hs : 0 < s) : ∀ {jr : List (Int × Int)} {o p : Int}, Chain os s o (some p) jr → ∀ j, (aft o jr t).2.head? = some j → p + s ≤ j.1
  | [], o, p, h, j, hj => nomatch hj
  | (a, b) :: r, o, p, h, j, hj => by
    have e := h.2.2.1 p rfl
    rw [aft] at hj
    by_cases c : t < a
    · rw [if_pos c] at hj; cases hj; exact e
    · rw [if_neg c] at hj
      have := aft_gap hs h.2.2.2 j hj
      omega
theorem held_early (hs : 0 < s) : ∀ {suf : List (Int × Int)} {p pr : Option Int} {l : Int × Int} {jr : List (Int × Int)}, (l :: suf).Pairwise (fun a b => a.1 < b.1) → Chain os s l.2 pr jr → (∀ j, jr.head? = some j → bar s p l.1 ≤ j.1) → (∀ x, x ∈ suf → offAt l.2 jr x.1 = x.2) → ∃ js, early s p l suf = some js
  | [], p, pr, l, jr, _, _, _, _ => ⟨[], rfl⟩
  | (h', o') :: r, p, pr, (h, o), jr, asc, ch, hb, hx => by
    obtain ⟨a1, a2⟩ := List.pairwise_cons.mp asc
    have lt : h < h' := a1 _ List.mem_cons_self
    have ho : offAt o jr h' = o' := hx _ List.mem_cons_self
    obtain ⟨p', ch'⟩ := aft_chain (t := h') hs ch
    have held : (aft o jr h').1 = o' := by rw [aft_held]; exact ho
    rw [held] at ch'
    have hx' : ∀ x, x ∈ r → offAt o' (aft o jr h').2 x.1 = x.2 := fun x hm => by
      have lx : h' ≤ x.1 := Int.le_of_lt ((List.pairwise_cons.mp a2).1 x hm)
      have := aft_off lx (o := o) (jr := jr)
      rw [held] at this
      rw [this]
      exact hx x (List.mem_cons_of_mem _ hm)
    have late := aft_late (t := h') (o := o) (jr := jr)
    rw [early]
    by_cases c : o' = o
    · rw [if_pos c]
      refine held_early hs (p := p) a2 ch' (fun j hj => ?_) hx'
      have l1 := late j hj
      simp only
      cases p with
      | none => unfold bar; simp only; omega
      | some pv =>
        have : pv + s ≤ j.1 := by
          cases jr with
          | nil => cases hj
          | cons q t =>
            obtain ⟨a, b⟩ := q
            have b1 := hb _ rfl
            have b2 : pv + s ≤ bar s (some pv) h := bar_ge
            rw [aft] at hj
            by_cases g : h' < a
            · rw [if_pos g] at hj; cases hj
              simp only at b1 ⊢
              omega
            · rw [if_neg g] at hj
              have := aft_gap hs ch.2.2.2 j hj
              simp only at b1
              omega
        unfold bar
        simp only
        split <;> omega
    · rw [if_neg c]
      cases jr with
      | nil => exact absurd ho.symm c
      | cons q t =>
        obtain ⟨a, b⟩ := q
        have b1 := hb _ rfl
        simp only at b1
        have g : ¬ h' < a := fun g => by
          rw [offAt, if_pos g] at ho
          exact c ho.symm
        rw [if_neg (by omega)]
        obtain ⟨js, e⟩ := held_early hs (p := some (bar s p h)) a2 ch' (fun j hj => by
          have l1 := late j hj
          have : bar s p h + s ≤ j.1 := by
            rw [aft, if_neg g] at hj
            have := aft_gap hs ch.2.2.2 j hj
            omega
          simp only
          generalize bar s p h = v at this
          unfold bar
          simp only
          split <;> omega) hx'
        exact ⟨_, by rw [e] <;> rfl⟩
theorem held_fit (hs : 0 < s) (asc : ls.Pairwise fun a b => a.1 < b.1) (t : TabOK os s h js) (hx : ∀ x, x ∈ ls → offAt h js x.1 = x.2) : ∃ t, earlyT os s ls = some t := by
  cases ls with
  | nil => exact ⟨_, rfl⟩
  | cons l r =>
    obtain ⟨p', ch⟩ := aft_chain (t := l.1) hs t.chain
    have held : (aft h js l.1).1 = l.2 := by rw [aft_held]; exact hx _ List.mem_cons_self
    rw [held] at ch
    obtain ⟨js', e⟩ := held_early hs (p := none) (jr := (aft h js l.1).2) asc ch (fun j hj => by
      have := aft_late j hj
      unfold bar
      simp only
      omega) fun x hm => by
      have lx : l.1 ≤ x.1 := Int.le_of_lt ((List.pairwise_cons.mp asc).1 x hm)
      have := aft_off lx (o := h) (jr := js)
      rw [held] at this
      rw [this]
      exact hx x (List.mem_cons_of_mem _ hm)
    exact ⟨_, by rw [earlyT, e] <;> rfl⟩
/-- looks among looks that can be can be -/
theorem crow_sub {ls' : List (Int × Int)} (z : ZoneOK os s) (l : LooksOK os ls) (asc : ls'.Pairwise fun a b => a.1 < b.1) (sub : ∀ x, x ∈ ls' → x ∈ ls) (h : crow s ls = none) : crow s ls' = none := by
  obtain ⟨⟨h0, js⟩, e⟩ := (fit_iff (os := os) z.sp.1 l.asc).mpr h
  refine (fit_iff (os := os) z.sp.1 asc).mp ?_
  exact held_fit z.sp.1 asc (earlyT_tab z l e) fun x hx => earlyT_holds l e x (sub x hx)
/-! ### the first crowded stretch -/
/-! ### parts of looks -/
end
end Dm
-- text HmLeft
namespace Dm
open PySem L2
theorem cut_take {ds : List D} {k : Int} (h : 0 ≤ k) : cutD ds none (some k) = ds.take k.toNat := by
  unfold cutD
  have e : k = (k.toNat : Int) := by omega
  rw [e, HT.sIx_nat, HT.sIx_none, List.drop_zero, Nat.sub_zero, Int.toNat_natCast]
  by_cases c : k.toNat ≤ ds.length
  · rw [Nat.min_eq_left c]
  · rw [Nat.min_eq_right (by omega), List.take_length, List.take_of_length_le (by omega)]
/-! ### looks with one more -/
section
variable {S : Sto} {os : List Int} {s m o : Int} {ls : List (Int × Int)} {n p : Nat}
/-- cells have come -/
def Grow (S S' : Sto) : Prop := ∃ cs, S' = S ++ cs
theorem Grow.refl : Grow S S := ⟨[], (List.append_nil _).symm⟩
theorem Grow.push {S' : Sto} (h : Grow S S') (c : Cell) : Grow S (S' ++ [c]) := by
  obtain ⟨cs, rfl⟩ := h
  exact ⟨cs ++ [c], by rw [List.append_assoc]⟩
theorem Grow.trans {S1 S2 : Sto} (h : Grow S S1) (h2 : Grow S1 S2) : Grow S S2 := by
  obtain ⟨cs, rfl⟩ := h
  obtain ⟨ds, rfl⟩ := h2
  exact ⟨cs ++ ds, by rw [List.append_assoc]⟩
theorem Grow.get {S' : Sto} {c : Cell} (h : Grow S S') (e : S[n]? = some c) : S'[n]? = some c := by
  obtain ⟨cs, rfl⟩ := h
  rw [List.getElem?_append_left (List.getElem?_eq_some_iff.mp e).1]
  exact e
theorem Grow.len {S' : Sto} (h : Grow S S') : S.length ≤ S'.length := by
  obtain ⟨cs, rfl⟩ := h
  rw [List.length_append]; omega
theorem Grow.go {S' : Sto} (h : Grow S S') (hp : Pot p S) : Go p S S' := by
  refine ⟨h.len, fun n hn _ => ?_, ?_⟩
  · obtain ⟨cs, rfl⟩ := h
    rw [List.getElem?_append_left hn]
  · obtain ⟨k, e⟩ := hp
    exact ⟨k, h.get e⟩
end
end Dm
-- text HmFind
namespace Dm
open PySem L2
section
variable {S : Sto} {os : List Int} {s h r : Int} {js : List (Int × Int)} {fold gap : Str}
/-! ### the law's gap -/
/-- the widest offsets -/
structure Ends2 (os : List Int) (s a b : Int) : Prop where
  lo : atI (os.map D.int) 0 = some (.int a)
  hi : atI (os.map D.int) (-1) = some (.int b)
  w : b - a < s
  mem : ∀ o, o ∈ os → a ≤ o ∧ o ≤ b
  ma : a ∈ os
  mb : b ∈ os
/-! ### what is found -/
@[simp] theorem gDIx_new {kvs : List (Key × D)} {y : D} : gDIx (S ++ [.dic kvs]) (.cell S.length) y = (keyD y).bind fun k => valD kvs k := gDIx_cell (by simp)
def RuleF (x : Str) : Prop := x = "early" ∨ x = "late" ∨ x = "refuse"
def RuleG (x : Str) : Prop := x = "ahead" ∨ x = "behind" ∨ x = "refuse"
def findO (ms : List Int) (g : Int × Int) (r : Int) (fold gap : Str) : D := match ms with
  | [m] => .int m
  | [m, m'] => if fold = "refuse" then .non else if fold = "early" then .int m else .int m'
  | _ => if gap = "refuse" then .non else if gap = "ahead" then .int (r - g.1) else .int (r - g.2)
theorem valD_put_same {kvs : List (Key × D)} {k : Key} {v : D} : valD (putD kvs k v) k = some v := by
  unfold putD
  split
  · next c =>
    unfold valD
    induction kvs with
    | nil => simp at c
    | cons p kvs ih =>
      rw [List.map_cons, List.find?_cons]
      by_cases e : p.1 = k
      · simp [e]
      · have c2 : (kvs.any fun kv => decide (kv.1 = k)) = true := by
          rw [List.any_cons] at c
          simpa [e] using c
        simp only [if_neg e, decide_eq_false e]
        exact ih c2
  · next c =>
    unfold valD
    have : kvs.find? (fun kv => decide (kv.1 = k)) = none := by
      rw [List.find?_eq_none]
      intro x hx hq
      exact c (List.any_eq_true.mpr ⟨x, hx, hq⟩)
    rw [List.find?_append, this]
    simp
theorem valD_put_other {kvs : List (Key × D)} {k k' : Key} {v : D} (hn : k' ≠ k) : valD (putD kvs k v) k' = valD kvs k' := by
  unfold putD
  split
  · next c =>
    clear c
    unfold valD
    induction kvs with
    | nil => rfl
    | cons p kvs ih =>
      rw [List.map_cons, List.find?_cons, List.find?_cons]
      by_cases e : p.1 = k
      · have e2 : ¬ p.1 = k' := fun q => hn (q.symm.trans e)
        simp only [if_pos e, decide_eq_false e2]
        exact ih
      · simp only [if_neg e]
        by_cases e2 : p.1 = k'
        · simp [e2]
        · simp only [decide_eq_false e2]
          exact ih
  · unfold valD
    rw [List.find?_append]
    have : ¬ k = k' := fun q => hn q.symm
    simp [this]
theorem valD_foldl {α : Type} {k : α → Key} {g : α → D} {a : α} : ∀ {as : List α} {acc : List (Key × D)}, (a ∈ as ∨ valD acc (k a) = some (g a)) → (∀ b, b ∈ as → k b = k a → g b = g a) → valD (as.foldl (fun acc a => putD acc (k a) (g a)) acc) (k a) = some (g a)
  | [], acc, h, _ => by
    rcases h with h | h
    · exact nomatch h
    · exact h
  | b :: as, acc, h, hk => by
    rw [List.foldl_cons]
    refine valD_foldl ?_ fun c hc => hk c (List.mem_cons_of_mem _ hc)
    by_cases e : k b = k a
    · refine .inr ?_
      rw [← e, valD_put_same, hk b List.mem_cons_self e]
    · rcases h with h | h
      · rcases List.mem_cons.mp h with rfl | h
        · exact absurd rfl e
        · exact .inl h
      · refine .inr ?_
        rw [valD_put_other (fun q => e q.symm)]
        exact h
@[simp] theorem flatD_str {x : Str} : flatD (.str x) = true := rfl
/-- by the rules -/
theorem need_rules_ok (hf : RuleF fold) (hg : RuleG gap) : m_need_rules [.str fold, .str gap] S = .ok .non S := by
  refine pure_of fun Q q => ?_
  refine does_def rfl ?_
  rcases hf with rfl | rfl | rfl <;> rcases hg with rfl | rfl | rfl <;> (simp [isTn, gIn, eqF]; exact q)
theorem held_dict {Q : D → Sto → Prop} (q : ∀ kvs, (∀ o, o ∈ os → valD kvs (.inl (r - o)) = some (.int (offAt h js (r - o)))) → Q (.cell S.length) (S ++ [.dic kvs])) {x3 x4 x5 x6 : Option D} :
    (mDcA (mOp gIx (mVar 0) (mK (.int 0))) (tgN 6) mYes (mOp gSub (mVar 2) (mVar 6)) (mCall m_offset_in (mCons (mVar 1) (mCons (mOp gSub (mVar 2) (mVar 6)) mNil))) [6] [some (zoneD os s), some (tabD h js), some (.int r), x3, x4, x5, x6] S).Does Q := by
  refine does_dcA (d := .tup (os.map .int)) (S1 := S) (S2 := S) (ds := os.map .int) (kvs := os.foldl (fun acc o => putD acc (.inl (r - o)) (.int (offAt h js (r - o)))) []) ?_ rfl ?_ ?_
  · rfl
  · rw [List.length_map]
    refine dcA_map (i := D.int) (k := fun o => .inl (r - o)) (g := fun o => .int (offAt h js (r - o))) (as := os) (pre := []) rfl ?_ rfl
    intro o ho
    refine ⟨_, .int (r - o), rfl, ?_, rfl, ?_⟩
    · simp [wipeD, mOp, Res.bind]
    · refine pure_of fun Q q => ?_
      simp [wipeD, offset_in_ok]
      exact q
  · refine q _ fun o ho => ?_
    refine valD_foldl (k := fun o : Int => Sum.inl (r - o)) (g := fun o => .int (offAt h js (r - o))) (.inl ho) fun b hb e => ?_
    have : r - b = r - o := by injection e
    rw [this]
theorem found_by_does {Q : D → Sto → Prop} {n : Nat} {kvs : List (Key × D)} (z : ZoneOK os s) (hn : S[n]? = some (.dic kvs)) (hk : ∀ o, o ∈ os → valD kvs (.inl (r - o)) = some (.int (offAt h js (r - o))))
    {a b : Int} (E : Ends2 os s a b) (hf : RuleF fold) (hg : RuleG gap) (q : Q (findO (momsOf os h js r) (offAt h js (r - b), offAt h js (r - a)) r fold gap) S) : (m_found_by [.tup (os.map .int), .cell n, .int r, .str fold, .str gap] S).Does Q := by
  refine does_def rfl ?_
  refine seq_cut (fun ρ S' => S = S' ∧ ∃ x6, ρ = [some (.tup (os.map .int)), some (.cell n), some (.int r), some (.str fold), some (.str gap), some (.lst ((momsOf os h js r).map .int)), x6]) (fun M hM => ?_) ?_
  · simp [wipeD]
    rw [← List.map_reverse, lcAQ_fix (.inl rfl) (by rw [List.length_map, List.length_reverse])]
    refine lcQ_filter (fun o : Int => offAt h js (r - o) == o) (fun o => .int (r - o)) ?_ ?_
    · intro o ho
      have ho' : o ∈ os := List.mem_reverse.mp ho
      refine ⟨_, rfl, fun Q q => ?_, fun Q e q => ?_⟩
      · simp [gDIx_cell hn, hk o ho']
        exact q
      · simp
        exact q
    · have := hM [some (.tup (os.map .int)), some (.cell n), some (.int r), some (.str fold), some (.str gap), some (.lst ((momsOf os h js r).map .int)), none] S ⟨rfl, _, rfl⟩
      have e : (momsOf os h js r).map D.int = (os.reverse.filter fun o => offAt h js (r - o) == o).map fun o => D.int (r - o) := by
        unfold momsOf
        rw [List.map_map] <;> rfl
      rw [e] at this
      exact this
  rintro ρ _ ⟨rfl, x6, rfl⟩
  have ha := hk a E.ma
  have hb := hk b E.mb
  simp [E.lo, E.hi, gDIx_cell hn, ha, hb]
  unfold findO at q
  match e : momsOf os h js r with
  | [] =>
    rw [e] at q
    rcases hg with rfl | rfl | rfl <;> (simp at q ⊢; exact q)
  | [m] =>
    rw [e] at q
    simp at q ⊢
    exact q
  | [m1, m2] =>
    rw [e] at q
    rcases hf with rfl | rfl | rfl <;> (simp at q ⊢; exact q)
  | m1 :: m2 :: m3 :: l =>
    rw [e] at q
    have n1 : ¬ ((l.length : Int) + 1 + 1 + 1 = 1) := by omega
    have n2 : ¬ ((l.length : Int) + 1 + 1 + 1 = 2) := by omega
    rcases hg with rfl | rfl | rfl <;> (simp [n1, n2] at q ⊢; exact q)
theorem find_moment_does {Q : D → Sto → Prop} (z : ZoneOK os s) (t : TabOK os s h js) {a b : Int} (E : Ends2 os s a b) (hf : RuleF fold) (hg : RuleG gap) (q : ∀ c, Q (findO (momsOf os h js r) (offAt h js (r - b), offAt h js (r - a)) r fold gap) (S ++ [c])) :
    (m_find_moment [zoneD os s, tabD h js, .int r, .str fold, .str gap] S).Does Q := by
  refine does_def rfl ?_
  simp [need_zone_ok z, need_table_ok z t, need_rules_ok hf hg]
  refine held_dict fun kvs hk => ?_
  exact found_by_does z (by simp) hk E hf hg (q _)
end
end Dm
-- text HmProg
namespace Dm
open PySem L2
/-! ### programs of steps -/
inductive Kd where
  | mom | rdg | spn
  deriving DecidableEq
def Kd.s : Kd → Str
  | .mom => "moment"
  | .rdg => "reading"
  | .spn => "span"
def Kd.d (k : Kd) : D := .str k.s
inductive Stp where
  | read (i p : Nat) | find (i p : Nat) (f g : Str) | offset (i p : Nat) | edition (i p : Nat)
  | plus (i j : Nat) | less (i j : Nat) | add (i : Nat) (m : Int)
def Stp.d : Stp → D
  | .read i p => .tup [.str "read", .int i, .int p]
  | .find i p f g => .tup [.str "find", .int i, .int p, .str f, .str g]
  | .offset i p => .tup [.str "offset", .int i, .int p]
  | .edition i p => .tup [.str "edition", .int i, .int p]
  | .plus i j => .tup [.str "plus", .int i, .int j]
  | .less i j => .tup [.str "less", .int i, .int j]
  | .add i m => .tup [.str "add", .int i, .int m]
def Stp.kind (row : List Kd) : Stp → Kd
  | .read _ _ => .rdg
  | .find _ _ _ _ => .mom
  | .offset _ _ => .spn
  | .edition _ _ => .mom
  | .plus _ _ => .rdg
  | .less _ _ => .mom
  | .add i _ => row.getD i .mom
/-- a step behind values of these kinds, beside nz zones -/
def Stp.OK (nz : Nat) (row : List Kd) : Stp → Prop
  | .read i p => row[i]? = some .mom ∧ p < nz
  | .find i p f g => row[i]? = some .rdg ∧ p < nz ∧ RuleF f ∧ RuleG g
  | .offset i p => row[i]? = some .mom ∧ p < nz
  | .edition i p => row[i]? = some .mom ∧ p < nz
  | .plus i j => row[i]? = some .mom ∧ row[j]? = some .spn
  | .less i j => row[i]? = some .rdg ∧ row[j]? = some .spn
  | .add i m => (row[i]? = some .mom ∨ row[i]? = some .rdg) ∧ -100000 ≤ m ∧ m ≤ 100000
def Stp.isEd : Stp → Bool
  | .edition _ _ => true
  | _ => false
def kindsFrom (row : List Kd) : List Stp → List Kd
  | [] => row
  | t :: ts => kindsFrom (row ++ [t.kind row]) ts
def ProgFrom (nz : Nat) (row : List Kd) : List Stp → Prop
  | [] => True
  | t :: ts => t.OK nz row ∧ ProgFrom nz (row ++ [t.kind row]) ts
def progD (ts : List Stp) : D := .tup (ts.map Stp.d)
/-- a program beside nz zones -/
structure ProgOK (nz : Nat) (ts : List Stp) : Prop where
  len : ts.length ≤ 8
  steps : ProgFrom nz [.mom] ts
  eds : (ts.filter Stp.isEd).length < 2
theorem progFrom_snoc {nz : Nat} : ∀ {ts : List Stp} {row : List Kd} {t : Stp}, ProgFrom nz row ts → t.OK nz (kindsFrom row ts) → ProgFrom nz row (ts ++ [t])
  | [], _, _, _, h => ⟨h, trivial⟩
  | u :: ts, _, _, ⟨a, b⟩, h => ⟨a, progFrom_snoc b h⟩
theorem kindsFrom_length (row : List Kd) : ∀ ts : List Stp, (kindsFrom row ts).length = row.length + ts.length
  | [] => rfl
  | t :: ts => by
    show (kindsFrom (row ++ [t.kind row]) ts).length = _
    rw [kindsFrom_length]
    simp
    omega
/-! ### the parts of a step -/
section
variable {S : Sto} {zs : List D} {n m : Nat} {row : List Kd}
theorem row_at {i : Nat} {k : Kd} (hn : S[n]? = some (.lst (row.map Kd.d))) (h : row[i]? = some k) : gIx S (.cell n) (.int i) = some (.str k.s) ∧ gLen S [.cell n] = some (.int row.length) ∧ (i : Int) < row.length := by
  have hi := (List.getElem?_eq_some_iff.mp h).1
  refine ⟨?_, by rw [gLen_cell hn, List.length_map], by omega⟩
  rw [gIx_cell hn, atI_of (by omega) (by rw [List.length_map]; omega)]
  simp [h, Kd.d]
theorem part_kind {i : Nat} {k : Kd} (hn : S[n]? = some (.lst (row.map Kd.d))) (h : row[i]? = some k) : m_is_part [.tup zs, .cell n, .str k.s, .int i] S = .ok (.bl true) S := by
  refine pure_of fun Q q => ?_
  refine does_def rfl ?_
  obtain ⟨h1, h2, h3⟩ := row_at hn h
  cases k <;> (simp [h1, h2, h3, Kd.s]; exact q)
theorem part_point {i : Nat} {k : Kd} (hn : S[n]? = some (.lst (row.map Kd.d))) (h : row[i]? = some k) (hk : k ≠ .spn) : m_is_part [.tup zs, .cell n, .str "point", .int i] S = .ok (.bl true) S := by
  refine pure_of fun Q q => ?_
  refine does_def rfl ?_
  obtain ⟨h1, h2, h3⟩ := row_at hn h
  cases k with
  | spn => exact absurd rfl hk
  | mom => simp [h1, h2, h3, Kd.s]; exact q
  | rdg => simp [h1, h2, h3, Kd.s]; exact q
theorem part_place {p : Nat} (h : p < zs.length) : m_is_part [.tup zs, .cell n, .str "place", .int p] S = .ok (.bl true) S := by
  refine pure_of fun Q q => ?_
  refine does_def rfl ?_
  simp [h]; exact q
theorem part_minutes {m : Int} (h : -100000 ≤ m ∧ m ≤ 100000) : m_is_part [.tup zs, .cell n, .str "minutes", .int m] S = .ok (.bl true) S := by
  refine pure_of fun Q q => ?_
  refine does_def rfl ?_
  simp [h]; exact q
theorem part_fold {f : Str} (h : RuleF f) : m_is_part [.tup zs, .cell n, .str "fold", .str f] S = .ok (.bl true) S := by
  refine pure_of fun Q q => ?_
  refine does_def rfl ?_
  rcases h with rfl | rfl | rfl <;> (simp [isTn, gIn, eqF]; exact q)
theorem part_gap {f : Str} (h : RuleG f) : m_is_part [.tup zs, .cell n, .str "gap", .str f] S = .ok (.bl true) S := by
  refine pure_of fun Q q => ?_
  refine does_def rfl ?_
  rcases h with rfl | rfl | rfl <;> (simp [isTn, gIn, eqF]; exact q)
/-! ### steps -/
theorem is_step_ok {t : Stp} (hn : S[n]? = some (.lst (row.map Kd.d))) (h : t.OK zs.length row) : m_is_step [.tup zs, .cell n, t.d] S = .ok (.bl true) S := by
  refine pure_of fun Q q => ?_
  refine does_def rfl ?_
  cases t with
  | read i p =>
    have e1 := part_kind (zs := zs) hn h.1
    have e2 := part_place (S := S) (n := n) h.2
    simp only [Kd.s] at e1
    simp (decide := true) [Stp.d, isTn, tbLook, enumD, wipeD, e1, e2, gAll, lstOf, blsOf]
    exact q
  | offset i p =>
    have e1 := part_kind (zs := zs) hn h.1
    have e2 := part_place (S := S) (n := n) h.2
    simp only [Kd.s] at e1
    simp (decide := true) [Stp.d, isTn, tbLook, enumD, wipeD, e1, e2, gAll, lstOf, blsOf]
    exact q
  | edition i p =>
    have e1 := part_kind (zs := zs) hn h.1
    have e2 := part_place (S := S) (n := n) h.2
    simp only [Kd.s] at e1
    simp (decide := true) [Stp.d, isTn, tbLook, enumD, wipeD, e1, e2, gAll, lstOf, blsOf]
    exact q
  | find i p f g =>
    have e1 := part_kind (zs := zs) hn h.1
    have e2 := part_place (S := S) (n := n) h.2.1
    have e3 := part_fold (S := S) (n := n) (zs := zs) h.2.2.1
    have e4 := part_gap (S := S) (n := n) (zs := zs) h.2.2.2
    simp only [Kd.s] at e1
    simp (decide := true) [Stp.d, isTn, tbLook, enumD, wipeD, atI, ixN, e1, e2, e3, e4, gAll, lstOf, blsOf]
    exact q
  | plus i j =>
    have e1 := part_kind (zs := zs) hn h.1
    have e2 := part_kind (zs := zs) hn h.2
    simp only [Kd.s] at e1 e2
    simp (decide := true) [Stp.d, isTn, tbLook, enumD, wipeD, e1, e2, gAll, lstOf, blsOf]
    exact q
  | less i j =>
    have e1 := part_kind (zs := zs) hn h.1
    have e2 := part_kind (zs := zs) hn h.2
    simp only [Kd.s] at e1 e2
    simp (decide := true) [Stp.d, isTn, tbLook, enumD, wipeD, e1, e2, gAll, lstOf, blsOf]
    exact q
  | add i m =>
    have e2 := part_minutes (S := S) (n := n) (zs := zs) h.2
    have e1 : m_is_part [.tup zs, .cell n, .str "point", .int i] S = .ok (.bl true) S := by
      rcases h.1 with h | h
      · exact part_point hn h (by decide)
      · exact part_point hn h (by decide)
    simp (decide := true) [Stp.d, isTn, tbLook, enumD, wipeD, e1, e2, gAll, lstOf, blsOf]
    exact q
theorem kind_made_ok {t : Stp} (hn : S[n]? = some (.lst (row.map Kd.d))) (h : t.OK m row) : m_kind_made [.cell n, t.d] S = .ok (t.kind row).d S := by
  refine pure_of fun Q q => ?_
  refine does_def rfl ?_
  cases t with
  | add i m =>
    have e : ∃ k, row[i]? = some k := by rcases h.1 with h | h <;> exact ⟨_, h⟩
    obtain ⟨k, e⟩ := e
    obtain ⟨h1, h2, h3⟩ := row_at hn e
    simp [Stp.d, h1]
    simp [Stp.kind, e, Kd.d] at q
    exact q
  | _ => simp (decide := true) [Stp.d, tbLook]; exact q
theorem kinds_of_does {ts : List Stp} {Q : D → Sto → Prop} (h : ProgFrom m [.mom] ts) (hl : ts.length ≤ 60) (q : Q (.cell S.length) (S ++ [.lst ((kindsFrom [.mom] ts).map Kd.d)])) : (m_kinds_of [progD ts] S).Does Q := by
  refine does_def rfl ?_
  simp [progD]
  refine forL_cut (fun ds ρ S' => ∃ us row x2, ds = (us : List Stp).map Stp.d ∧ ρ = [some (.tup (ts.map Stp.d)), some (.cell S.length), x2] ∧ S' = S ++ [.lst (row.map Kd.d)] ∧ ProgFrom m row us ∧ kindsFrom row us = kindsFrom [.mom] ts ∧ row.length + us.length ≤ 61) _
    ⟨ts, [.mom], _, rfl, rfl, rfl, h, rfl, by simp; omega⟩ ?_ ?_
  · rintro d r ρ S1 ⟨us, row, x2, e, rfl, rfl, hp, hk, hl⟩
    cases us with
    | nil => cases e
    | cons u us =>
      simp at e
      obtain ⟨rfl, rfl⟩ := e
      refine ⟨_, rfl, fun M hM => ?_⟩
      have hn : (S ++ [.lst (row.map Kd.d)])[S.length]? = some (.lst (row.map Kd.d)) := by simp
      simp at hl
      simp [kind_made_ok hn hp.1]
      refine ⟨by omega, hM _ _ ⟨us, row ++ [u.kind row], _, rfl, rfl, by simp, hp.2, hk, by simp; omega⟩⟩
  · rintro ρ S1 ⟨us, row, x2, e, rfl, rfl, hp, hk, hl⟩
    cases us with
    | nil =>
      simp
      rw [← hk] at q
      exact q
    | cons u us => cases e
end
end Dm
-- text HmProg2
namespace Dm
open PySem L2
abbrev Zs := List (List Int × Int)
def zonesD (zs : Zs) : D := .tup (zs.map fun z => zoneD z.1 z.2)
/-- one or two zones -/
structure ZsOK (zs : Zs) : Prop where
  all : ∀ z, z ∈ zs → ZoneOK z.1 z.2
  len : zs.length = 1 ∨ zs.length = 2
section
variable {S : Sto} {zs : Zs} {ts : List Stp}
theorem is_zones_ok (z : ZsOK zs) : m_is_zones [zonesD zs] S = .ok (.bl true) S := by
  refine pure_of fun Q q => ?_
  refine does_def rfl ?_
  obtain ⟨h, l⟩ := z
  match zs, h, l with
  | [], _, l => simp at l
  | [a], h, _ =>
    have h1 := h a (by simp)
    simp [zonesD, isTn, wipeD]
    rw [lcAQ_fix (n := 1) (ds := [zoneD a.1 a.2]) (.inl rfl) rfl]
    simp [is_zone_ok h1, gAll, lstOf, blsOf]
    exact q
  | [a, b], h, _ =>
    have h1 := h a (by simp)
    have h2 := h b (by simp)
    simp [zonesD, isTn, wipeD]
    rw [lcAQ_fix (n := 2) (ds := [zoneD a.1 a.2, zoneD b.1 b.2]) (.inl rfl) rfl]
    simp [is_zone_ok h1, is_zone_ok h2, gAll, lstOf, blsOf]
    exact q
  | _ :: _ :: _ :: _, _, l => simp at l
theorem need_zones_ok (z : ZsOK zs) : m_need_zones [zonesD zs] S = .ok .non S := by
  refine pure_of fun Q q => ?_
  refine does_def rfl ?_
  simp [is_zones_ok z]
  exact q
theorem isEd_does {t : Stp} {ρ : Rho} {i : Nat} (hi : ρ[i]? = some (some t.d)) : ∀ Q : D → Sto → Prop, Q (.bl t.isEd) S → (mOp gEq (mOp gIx (mVar i) (mK (.int 0))) (mK (.str "edition")) ρ S).Does Q := by
  intro Q q
  cases t <;> (simp (decide := true) [hi, Stp.d]; exact q)
theorem is_program_does {Q : D → Sto → Prop} (z : ZsOK zs) (h : ProgOK zs.length ts) (q : Q (.bl true) (S ++ [.lst ((kindsFrom [.mom] ts).map Kd.d)])) : (m_is_program [zonesD zs, progD ts] S).Does Q := by
  have hl := h.len
  have he := h.eds
  refine does_def rfl ?_
  simp [need_zones_ok z, progD, isTn, hl]
  have hl' : ¬ (8 : Int) < ts.length := by omega
  simp [hl']
  refine forL_cut (fun ds ρ S' => ∃ us row x3, ds = (us : List Stp).map Stp.d ∧ ρ = [some (zonesD zs), some (.tup (ts.map Stp.d)), some (.cell S.length), x3] ∧ S' = S ++ [.lst (row.map Kd.d)] ∧ ProgFrom zs.length row us ∧ kindsFrom row us = kindsFrom [.mom] ts ∧ row.length + us.length ≤ 61) _
    ⟨ts, [.mom], _, rfl, rfl, rfl, h.steps, rfl, by simp; omega⟩ ?_ ?_
  · rintro d r ρ S1 ⟨us, row, x2, e, rfl, rfl, hp, hk, hl⟩
    cases us with
    | nil => cases e
    | cons u us =>
      simp at e
      obtain ⟨rfl, rfl⟩ := e
      refine ⟨_, rfl, fun M hM => ?_⟩
      have hn : (S ++ [.lst (row.map Kd.d)])[S.length]? = some (.lst (row.map Kd.d)) := by simp
      have hs := is_step_ok (zs := zs.map fun z => zoneD z.1 z.2) hn (t := u) (by rw [List.length_map]; exact hp.1)
      simp at hl
      simp [zonesD, hs, kind_made_ok hn hp.1]
      refine ⟨by omega, hM _ _ ⟨us, row ++ [u.kind row], _, rfl, rfl, by simp, hp.2, hk, by simp; omega⟩⟩
  · rintro ρ S1 ⟨us, row, x2, e, rfl, rfl, hp, hk, hl⟩
    cases us with
    | cons u us => cases e
    | nil =>
      simp [wipeD]
      try rw [lcAQ_fix (.inl rfl) (by simp)]
      refine lcQ_filter (as := ts) (i := Stp.d) Stp.isEd Stp.d ?_ ?_
      · intro t _
        refine ⟨_, rfl, isEd_does rfl, fun Q _ q => ?_⟩
        simp
        exact q
      · simp
        have : ((ts.filter Stp.isEd).length : Int) < 2 := by omega
        simp [this]
        rw [← hk] at q
        exact q
theorem need_program_does {Q : D → Sto → Prop} (z : ZsOK zs) (h : ProgOK zs.length ts) (q : Q .non (S ++ [.lst ((kindsFrom [.mom] ts).map Kd.d)])) : (m_need_program [zonesD zs, progD ts] S).Does Q := by
  refine does_def rfl ?_
  simp
  refine is_program_does z h ?_
  simp
  exact q
theorem kinds_does {Q : D → Sto → Prop} (z : ZsOK zs) (h : ProgOK zs.length ts) (q : Q (.cell (S.length + 1)) (S ++ [.lst ((kindsFrom [.mom] ts).map Kd.d), .lst ((kindsFrom [.mom] ts).map Kd.d)])) : (m_kinds [zonesD zs, progD ts] S).Does Q := by
  refine does_def rfl ?_
  simp [need_zones_ok z]
  refine need_program_does z h ?_
  refine kinds_of_does h.steps (by have := h.len; omega) ?_
  simpa using q
end
end Dm
-- text HmDeed
namespace Dm
open PySem L2
theorem atI_memL {α : Type} {l : List α} {r : Int} (h0 : 0 ≤ r) (h : r < l.length) : ∃ x, x ∈ l ∧ atI l r = some x := by
  rw [atI_of h0 h]
  have : r.toNat < l.length := by omega
  exact ⟨l[r.toNat], List.getElem_mem _, List.getElem?_eq_getElem this⟩
theorem kd_eq (a b : Kd) : (a.s == b.s) = decide (a = b) := by cases a <;> cases b <;> decide
end Dm
-- text HmWanted
namespace Dm
open PySem L2
section
variable {S : Sto} {p n r : Nat} {row : List Kd}
theorem kindsFrom_mem {k : Kd} : ∀ {ts : List Stp} {row : List Kd}, k ∈ row → k ∈ kindsFrom row ts
  | [], _, h => h
  | t :: ts, row, h => kindsFrom_mem (ts := ts) (List.mem_append_left _ h)
end
end Dm
-- text HmPlan
namespace Dm
open PySem L2
def Stp.isFind : Stp → Bool
  | .find _ _ _ _ => true
  | _ => false
def Stp.isConv : Stp → Bool
  | .find _ _ _ _ => true
  | .read _ _ => true
  | .offset _ _ => true
  | .edition _ _ => true
  | _ => false
end Dm
-- text HmPlan2
namespace Dm
open PySem L2
section
variable {S : Sto} {p n r : Nat} {row : List Kd} {zs : Zs}
def bI (b : Bool) : Int := if b then 1 else 0
def cnt (f : Stp → Bool) (ts : List Stp) : Int := ((ts.filter f).length : Int)
theorem cnt_snoc {f : Stp → Bool} {ts : List Stp} {t : Stp} : cnt f (ts ++ [t]) = cnt f ts + bI (f t) := by
  unfold cnt bI
  rw [List.filter_append]
  by_cases h : f t = true
  · simp [h]
  · simp [h]
end
end Dm
-- text HmEarth
namespace Dm
open PySem L2
/-! ### tables by zones -/
abbrev Tb := Int × List (Int × Int)
def Tb.d (t : Tb) : D := tabD t.1 t.2
def Tb.of (t : Tb) (m : Int) : Int := offAt t.1 t.2 m
structure TbsOK (zs : Zs) (tb : List Tb) : Prop where
  len : tb.length = zs.length
  ok : ∀ (p : Nat) (z : List Int × Int) (t : Tb), zs[p]? = some z → tb[p]? = some t → TabOK z.1 z.2 t.1 t.2
def worldD (a b : List Tb) : D := .tup [.tup (a.map Tb.d), .tup (b.map Tb.d)]
def getT (tb : List Tb) (p : Nat) : Tb := tb.getD p (0, [])
def getZ (zs : Zs) (p : Nat) : List Int × Int := zs.getD p ([], 1)
def getV (vs : List Int) (i : Nat) : Int := vs.getD i 0
theorem getV_at {vs : List Int} {i : Nat} (h : i < vs.length) : vs[i]? = some (getV vs i) := by
  unfold getV
  rw [List.getD_eq_getElem?_getD, List.getElem?_eq_getElem h]; rfl
theorem getT_at {tb : List Tb} {i : Nat} (h : i < tb.length) : tb[i]? = some (getT tb i) := by
  unfold getT
  rw [List.getD_eq_getElem?_getD, List.getElem?_eq_getElem h]; rfl
theorem getZ_at {zs : Zs} {i : Nat} (h : i < zs.length) : zs[i]? = some (getZ zs i) := by
  unfold getZ
  rw [List.getD_eq_getElem?_getD, List.getElem?_eq_getElem h]; rfl
theorem TbsOK.tab {zs : Zs} {tb : List Tb} (h : TbsOK zs tb) {p : Nat} (hp : p < zs.length) : TabOK (getZ zs p).1 (getZ zs p).2 (getT tb p).1 (getT tb p).2 :=
  h.ok p _ _ (getZ_at hp) (getT_at (by rw [h.len]; exact hp))
theorem ZsOK.at {zs : Zs} (z : ZsOK zs) {p : Nat} (hp : p < zs.length) : ZoneOK (getZ zs p).1 (getZ zs p).2 := z.all _ (List.mem_of_getElem? (getZ_at hp))
theorem TbsOK.set {zs : Zs} {tb later : List Tb} (h : TbsOK zs tb) (h' : TbsOK zs later) (p : Nat) : TbsOK zs (tb.set p (getT later p)) := by
  refine ⟨by rw [List.length_set]; exact h.len, fun i z t hz ht => ?_⟩
  by_cases e : p = i
  · subst e
    have hp : p < tb.length := by
      have := (List.getElem?_eq_some_iff.mp ht).1
      rw [List.length_set] at this
      exact this
    rw [List.getElem?_set_self hp] at ht
    cases ht
    exact h'.ok p z _ hz (getT_at (by rw [h'.len, ← h.len]; exact hp))
  · rw [List.getElem?_set_ne e] at ht
    exact h.ok i z t hz ht
section
variable {S : Sto} {n : Nat}
theorem ix_ints {vs : List Int} {i : Nat} (h : S[n]? = some (.lst (vs.map .int))) (hi : i < vs.length) : gIx S (.cell n) (.int i) = some (.int (getV vs i)) := by
  rw [gIx_cell h, atI_of (by omega) (by rw [List.length_map]; omega)]
  simp [getV_at hi]
theorem ix_tabs {tb : List Tb} {i : Nat} (hi : i < tb.length) : atI (tb.map Tb.d) (i : Int) = some (getT tb i).d := by
  rw [atI_of (by omega) (by rw [List.length_map]; omega)]
  simp [getT_at hi]
theorem ix_tabsC {tb : List Tb} {i : Nat} (h : S[n]? = some (.lst (tb.map Tb.d))) (hi : i < tb.length) : gIx S (.cell n) (.int i) = some (getT tb i).d := by
  rw [gIx_cell h, ix_tabs hi]
theorem ix_zones {zs : Zs} {i : Nat} (hi : i < zs.length) : gIx S (zonesD zs) (.int i) = some (zoneD (getZ zs i).1 (getZ zs i).2) := by
  unfold zonesD
  rw [gIx_tup, atI_of (by omega) (by rw [List.length_map]; omega)]
  simp [getZ_at hi]
end
section
variable {S : Sto} {os : List Int} {s h m r : Int} {js : List (Int × Int)}
@[simp] theorem tgU_jmp {j : Int × Int} {ρ : Rho} {f : List D → Rho → Option Rho} : tgU 2 f (jmpD j) ρ = f [.int j.1, .int j.2] ρ := rfl
@[simp] theorem tgU_zone {ρ : Rho} {f : List D → Rho → Option Rho} : tgU 2 f (zoneD os s) ρ = f [.tup (os.map .int), .int s] ρ := rfl
@[simp] theorem tgU_tab {ρ : Rho} {f : List D → Rho → Option Rho} : tgU 2 f (tabD h js) ρ = f [.int h, .tup (js.map jmpD)] ρ := rfl
/-! ### a find -/
def findI (ms : List Int) (g : Int × Int) (r : Int) (fold gap : Str) : Option Int := match ms with
  | [m] => some m
  | [m, m'] => if fold = "refuse" then none else if fold = "early" then some m else some m'
  | _ => if gap = "refuse" then none else if gap = "ahead" then some (r - g.1) else some (r - g.2)
def optD : Option Int → D
  | none => .non
  | some i => .int i
theorem findO_eq {ms : List Int} {g : Int × Int} {fold gap : Str} : findO ms g r fold gap = optD (findI ms g r fold gap) := by
  unfold findO findI
  cases ms with
  | nil =>
    simp only
    split
    · rfl
    · split <;> rfl
  | cons m t =>
    cases t with
    | nil => rfl
    | cons m' t' =>
      cases t' with
      | nil =>
        simp only
        split
        · rfl
        · split <;> rfl
      | cons m'' l =>
        simp only
        split
        · rfl
        · split <;> rfl
end
end Dm
-- text HmFollow
namespace Dm
open PySem L2
/-! ### a run by the document -/
def loO (os : List Int) : Int := os.headD 0
def hiO (os : List Int) : Int := os.getLastD 0
theorem ZoneOK.ends {os : List Int} {s : Int} (z : ZoneOK os s) : Ends2 os s (loO os) (hiO os) := by
  cases z with
  | one a s => exact ⟨rfl, rfl, by simp [loO, hiO]; omega, by simp [loO, hiO], by simp [loO], by simp [hiO]⟩
  | two a b s => exact ⟨rfl, rfl, by simp [loO, hiO]; omega, by simp [loO, hiO]; omega, by simp [loO], by simp [hiO]⟩
  | three a b c s => exact ⟨rfl, rfl, by simp [loO, hiO]; omega, by simp [loO, hiO]; omega, by simp [loO], by simp [hiO]⟩
def foundT (z : List Int × Int) (t : Tb) (r : Int) (f g : Str) : Option Int := findI (momsOf z.1 t.1 t.2 r) (t.of (r - hiO z.1), t.of (r - loO z.1)) r f g
def stepV (zs : Zs) (tb : List Tb) (vs : List Int) : Stp → Option Int
  | .read i p => some (getV vs i + (getT tb p).of (getV vs i))
  | .find i p f g => foundT (getZ zs p) (getT tb p) (getV vs i) f g
  | .offset i p => some ((getT tb p).of (getV vs i))
  | .edition i _ => some (getV vs i)
  | .plus i j => some (getV vs i + getV vs j)
  | .less i j => some (getV vs i - getV vs j)
  | .add i m => some (getV vs i + m)
def askedS (zs : Zs) (vs : List Int) : Stp → List Int
  | .read i _ => [getV vs i]
  | .find i p _ _ => (getZ zs p).1.reverse.map fun o => getV vs i - o
  | .offset i _ => [getV vs i]
  | .edition i _ => [getV vs i - 1]
  | _ => []
def Stp.base : Stp → Nat
  | .read i _ => i
  | .find i _ _ _ => i
  | .offset i _ => i
  | .edition i _ => i
  | .plus i _ => i
  | .less i _ => i
  | .add i _ => i
def Stp.place : Stp → Nat
  | .read _ p => p
  | .find _ p _ _ => p
  | .offset _ p => p
  | .edition _ p => p
  | _ => 0
theorem Stp.OK.base {nz : Nat} {row : List Kd} {t : Stp} (h : t.OK nz row) : t.base < row.length := by
  cases t with
  | add i m => rcases h.1 with h | h <;> exact (List.getElem?_eq_some_iff.mp h).1
  | _ => exact (List.getElem?_eq_some_iff.mp h.1).1
section
variable {S : Sto} {zs : Zs} {tb : List Tb} {vs : List Int} {row : List Kd} {n c : Nat} {t : Stp}
/-! ### what is looked at -/
abbrev Lk := Int × Int × Int × Int
def lkD (m : Lk) : D := .tup [.int m.1, .int m.2.1, .int m.2.2.1, .int m.2.2.2]
def pushLk (lk : List Lk) (m : Lk) : List Lk := if m ∈ lk then lk else lk ++ [m]
def sideOf : Option (Nat × Int) → Nat → Int → Int
  | some (q, m), p, w => if q = p ∧ m ≤ w then 1 else 0
  | none, _, _ => 0
def edD : Option (Nat × Int) → List (Key × D)
  | none => []
  | some (q, m) => [(.inl q, .int m)]
end
end Dm
-- text HmMs1
set_option maxHeartbeats 1000000
namespace Dm
open PySem L2
/-! ### a step drawn (k73 to k77) -/
/-- the places of a kind in a row -/
def placesOf (row : List Kd) (k : Kd) : List Nat := (List.range row.length).filter fun i => decide (row[i]? = some k)
def idxD (l : List Nat) : D := .lst (l.map fun i : Nat => D.int i)
def stepWords : List Str := ["read", "find", "offset", "edition", "plus", "less", "add"]
section
variable {S : Sto} {zs : Zs} {p r : Nat} {row : List Kd} {ρ : Rho}
theorem places_mem {k : Kd} {i : Nat} (h : i ∈ placesOf row k) : row[i]? = some k := of_decide_eq_true (List.mem_filter.mp h).2
theorem places_ne {k : Kd} (h : k ∈ row) : placesOf row k ≠ [] := by
  obtain ⟨i, e⟩ := List.mem_iff_getElem?.mp h
  exact List.ne_nil_of_mem (a := i) (List.mem_filter.mpr ⟨List.mem_range.mpr (List.getElem?_eq_some_iff.mp e).1, decide_eq_true e⟩)
theorem places_len {k : Kd} : (placesOf row k).length ≤ row.length := by
  have := List.length_filter_le (fun i => decide (row[i]? = some k)) (List.range row.length)
  simpa [placesOf] using this
/-- the comprehension that tells them -/
theorem places_lcQ {k : Kd} {x0 x1 x3 x4 x5 x6 x7 x9 x10 x11 x12 x13 x14 x15 : Option D} {Q : List D → Sto → Prop} (hr : S[r]? = some (.lst (row.map Kd.d))) (q : Q ((placesOf row k).map fun i : Nat => D.int i) S) :
    LcQ (tgN 8) (mOp gEq (mOp gIx (mVar 2) (mVar 8)) (mK (.str k.s))) (mVar 8) [x0, x1, some (.cell r), x3, x4, x5, x6, x7, none, x9, x10, x11, x12, x13, x14, x15] (rngD 0 row.length) S Q := by
  unfold rngD
  refine lcQ_filter (as := List.range row.length) (i := fun i : Nat => D.int (0 + i)) (fun i => decide (row[i]? = some k)) (fun i : Nat => D.int i) ?_ ?_
  · intro i hi
    have hi' : i < row.length := List.mem_range.mp hi
    have e : row[i]? = some row[i] := List.getElem?_eq_getElem hi'
    obtain ⟨h1, h2, h3⟩ := row_at hr e
    refine ⟨_, rfl, fun Q q => ?_, fun Q _ q => ?_⟩
    · rw [e] at q
      have e2 : (row[i].s == k.s) = decide (some row[i] = some k) := by
        rw [kd_eq]
        simp
      simp [h1]
      rw [e2]
      exact q
    · simp
      exact q
  · exact q
theorem idx_draw {l : List Nat} {Q : D → Sto → Prop} (hp : Pot p S) (hl : l ≠ []) (hn : l.length ≤ 60) (q : ∀ i S', Go p S S' → i ∈ l → ∀ c : Int, gIx S' (idxD l) (.int c) = some (.int (i : Nat)) → Q (.int c) S') : (m_law_draw [.cell p, .int l.length] S).Does Q := by
  have hpos : 0 < l.length := List.length_pos_iff.mpr hl
  refine draw_does hp (by omega) (by omega) fun c S1 g1 r0 r1 => ?_
  obtain ⟨x, hx, e⟩ := atI_memL (l := l.map fun i : Nat => D.int i) r0 (by simpa using r1)
  obtain ⟨i, hi, rfl⟩ := List.mem_map.mp hx
  exact q i S1 g1 hi c e
theorem make_step_does {Q : D → Sto → Prop} (hp : Pot p S) (z : ZsOK zs) (hr : S[r]? = some (.lst (row.map Kd.d))) (hrp : r ≠ p) (hm : .mom ∈ row) (hl : row.length ≤ 30) (q : ∀ t S', Go p S S' → Stp.OK zs.length row t → Q t.d S') :
    (m_law_make_step [.cell p, zonesD zs, .cell r] S).Does Q := by
  have hz : 1 ≤ zs.length ∧ zs.length ≤ 2 := by rcases z.len with h | h <;> omega
  have lz : ∀ S, gLen S [zonesD zs] = some (.int zs.length) := fun S => by simp [zonesD]
  have pl : ∀ k : Kd, (placesOf row k).length ≤ 30 := fun k => Nat.le_trans places_len hl
  refine does_def rfl ?_
  refine seq_cut (fun ρ S' => ∃ w, w ∈ stepWords ∧ Go p S S' ∧ ρ = [some (.cell p), some (zonesD zs), some (.cell r), some (.str w), none, none, none, none, none, none, none, none, none, none, none, none]) (fun M hM => ?_) ?_
  · simp
    refine draw_does hp (by decide) (by decide) fun c S1 g1 r0 r1 => ?_
    obtain ⟨x, hx, e⟩ := atI_memL (l := [D.str "read", D.str "find", D.str "find", D.str "find", D.str "offset", D.str "edition", D.str "plus", D.str "less", D.str "add", D.str "add"]) r0 (by simpa using r1)
    have e2 : gIx S1 (.lst [D.str "read", D.str "find", D.str "find", D.str "find", D.str "offset", D.str "edition", D.str "plus", D.str "less", D.str "add", D.str "add"]) (.int c) = some x := e
    rw [e2]
    simp only [optQ_some]
    simp only [List.mem_cons, List.not_mem_nil, or_false] at hx
    rcases hx with rfl | rfl | rfl | rfl | rfl | rfl | rfl | rfl | rfl | rfl <;> exact hM _ _ ⟨_, by simp [stepWords], g1, rfl⟩
  rintro ρ S1 ⟨w, hw, g1, rfl⟩
  refine seq_cut (fun ρ S' => ∃ pl : Nat, pl < zs.length ∧ Go p S S' ∧ ρ = [some (.cell p), some (zonesD zs), some (.cell r), some (.str w), some (.int pl), none, none, none, none, none, none, none, none, none, none, none]) (fun M hM => ?_) ?_
  · simp [lz]
    refine draw_does g1.pot (by omega) (by omega) fun c S2 g2 r0 r1 => ?_
    obtain ⟨n, rfl⟩ : ∃ n : Nat, c = n := ⟨c.toNat, by omega⟩
    exact hM _ _ ⟨n, by omega, g1.trans g2, rfl⟩
  rintro ρ S2 ⟨pl', hpl, g2, rfl⟩
  have hr2 := g2.get hr hrp
  have lr : gLen S2 [.cell r] = some (.int row.length) := by rw [gLen_cell hr2, List.length_map]
  refine seq_cut (fun ρ S' => S2 = S' ∧ ρ = [some (.cell p), some (zonesD zs), some (.cell r), some (.str w), some (.int pl'), some (idxD (placesOf row .mom)), none, none, none, none, none, none, none, none, none, none]) (fun M hM => ?_) ?_
  · simp [lr, wipeD]
    refine ⟨by omega, ?_⟩
    exact places_lcQ (k := .mom) hr2 (hM _ _ ⟨rfl, rfl⟩)
  rintro ρ _ ⟨rfl, rfl⟩
  refine seq_cut (fun ρ S' => S2 = S' ∧ ρ = [some (.cell p), some (zonesD zs), some (.cell r), some (.str w), some (.int pl'), some (idxD (placesOf row .mom)), some (idxD (placesOf row .rdg)), none, none, none, none, none, none, none, none, none]) (fun M hM => ?_) ?_
  · simp [lr, wipeD]
    refine ⟨by omega, ?_⟩
    exact places_lcQ (k := .rdg) hr2 (hM _ _ ⟨rfl, rfl⟩)
  rintro ρ _ ⟨rfl, rfl⟩
  refine seq_cut (fun ρ S' => S2 = S' ∧ ρ = [some (.cell p), some (zonesD zs), some (.cell r), some (.str w), some (.int pl'), some (idxD (placesOf row .mom)), some (idxD (placesOf row .rdg)), some (idxD (placesOf row .spn)), none, none, none, none, none, none, none, none]) (fun M hM => ?_) ?_
  · simp [lr, wipeD]
    refine ⟨by omega, ?_⟩
    exact places_lcQ (k := .spn) hr2 (hM _ _ ⟨rfl, rfl⟩)
  rintro ρ _ ⟨rfl, rfl⟩
  have li : ∀ (S : Sto) (l : List Nat), gLen S [idxD l] = some (.int l.length) := fun S l => by simp [idxD]
  refine seq_cut (fun ρ S' => ∃ i, row[i]? = some .mom ∧ Go p S S' ∧ ρ = [some (.cell p), some (zonesD zs), some (.cell r), some (.str w), some (.int pl'), some (idxD (placesOf row .mom)), some (idxD (placesOf row .rdg)), some (idxD (placesOf row .spn)), some (.int (i : Nat)), none, none, none, none, none, none, none]) (fun M hM => ?_) ?_
  · simp [li]
    refine idx_draw g2.pot (places_ne hm) (by have := pl .mom; omega) fun i S3 g3 hi c e => ?_
    simp only [e, optQ_some]
    exact hM _ _ ⟨i, places_mem hi, g2.trans g3, rfl⟩
  rintro ρ S3 ⟨i, hi, g3, rfl⟩
  -- find
  refine seq_cut (fun ρ S' => S3 = S' ∧ (w = "find" → placesOf row .rdg = []) ∧ ρ = [some (.cell p), some (zonesD zs), some (.cell r), some (.str w), some (.int pl'), some (idxD (placesOf row .mom)), some (idxD (placesOf row .rdg)), some (idxD (placesOf row .spn)), some (.int (i : Nat)), none, none, none, none, none, none, none]) (fun M hM => ?_) ?_
  · rw [does_ifS]
    by_cases hw2 : w = "find"
    · subst hw2
      by_cases hs : placesOf row .rdg = []
      · simp [li, hs]
        exact hM _ _ ⟨rfl, fun _ => hs, by rw [hs]⟩
      · have hpos : 0 < (placesOf row .rdg).length := List.length_pos_iff.mpr hs
        simp [li, hpos, hs]
        refine draw_does g3.pot (by decide) (by decide) fun c S4 g4 r0 r1 => ?_
        obtain ⟨x, hx, e⟩ := atI_memL (l := [D.str "early", D.str "late", D.str "refuse"]) r0 (by simpa using r1)
        have e2 : gIx S4 (.lst [D.str "early", D.str "late", D.str "refuse"]) (.int c) = some x := e
        rw [e2]
        simp only [optQ_some]
        refine draw_does g4.pot (by decide) (by decide) fun c2 S5 g5 s0 s1 => ?_
        obtain ⟨y, hy, e3⟩ := atI_memL (l := [D.str "ahead", D.str "behind", D.str "refuse"]) s0 (by simpa using s1)
        have e4 : gIx S5 (.lst [D.str "ahead", D.str "behind", D.str "refuse"]) (.int c2) = some y := e3
        rw [e4]
        simp only [optQ_some]
        refine idx_draw g5.pot hs (by have := pl .rdg; omega) fun j S6 g6 hj c e => ?_
        simp only [e, optQ_some]
        have fx : ∃ f, x = .str f ∧ RuleF f := by
          simp only [List.mem_cons, List.not_mem_nil, or_false] at hx
          rcases hx with rfl | rfl | rfl
          · exact ⟨_, rfl, .inl rfl⟩
          · exact ⟨_, rfl, .inr (.inl rfl)⟩
          · exact ⟨_, rfl, .inr (.inr rfl)⟩
        have gx : ∃ f, y = .str f ∧ RuleG f := by
          simp only [List.mem_cons, List.not_mem_nil, or_false] at hy
          rcases hy with rfl | rfl | rfl
          · exact ⟨_, rfl, .inl rfl⟩
          · exact ⟨_, rfl, .inr (.inl rfl)⟩
          · exact ⟨_, rfl, .inr (.inr rfl)⟩
        obtain ⟨f, rfl, hf⟩ := fx
        obtain ⟨g, rfl, hg⟩ := gx
        exact q (.find j pl' f g) S6 (g3.trans (g4.trans (g5.trans g6))) ⟨places_mem hj, hpl, hf, hg⟩
    · simp [hw2]
      exact hM _ _ ⟨rfl, fun h => absurd h hw2, rfl⟩
  rintro ρ _ ⟨rfl, hfind, rfl⟩
  -- plus
  refine seq_cut (fun ρ S' => S3 = S' ∧ ρ = [some (.cell p), some (zonesD zs), some (.cell r), some (.str w), some (.int pl'), some (idxD (placesOf row .mom)), some (idxD (placesOf row .rdg)), some (idxD (placesOf row .spn)), some (.int (i : Nat)), none, none, none, none, none, none, none]) (fun M hM => ?_) ?_
  · rw [does_ifS]
    by_cases hw2 : w = "plus"
    · subst hw2
      by_cases hs : placesOf row .spn = []
      · simp [li, hs]
        exact hM _ _ ⟨rfl, by rw [hs]⟩
      · have hpos : 0 < (placesOf row .spn).length := List.length_pos_iff.mpr hs
        simp [li, hpos, hs]
        refine idx_draw g3.pot hs (by have := pl .spn; omega) fun j S6 g6 hj c e => ?_
        simp only [e, optQ_some]
        exact q (.plus i j) S6 (g3.trans g6) ⟨hi, places_mem hj⟩
    · simp [hw2]
      exact hM _ _ ⟨rfl, rfl⟩
  rintro ρ _ ⟨rfl, rfl⟩
  -- less
  refine seq_cut (fun ρ S' => S3 = S' ∧ ρ = [some (.cell p), some (zonesD zs), some (.cell r), some (.str w), some (.int pl'), some (idxD (placesOf row .mom)), some (idxD (placesOf row .rdg)), some (idxD (placesOf row .spn)), some (.int (i : Nat)), none, none, none, none, none, none, none]) (fun M hM => ?_) ?_
  · rw [does_ifS]
    by_cases hw2 : w = "less"
    · subst hw2
      by_cases hs : placesOf row .spn = []
      · simp [li, hs]
        exact hM _ _ ⟨rfl, by rw [hs]⟩
      · by_cases hs2 : placesOf row .rdg = []
        · simp [li, hs, hs2]
          exact hM _ _ ⟨rfl, by rw [hs2]⟩
        · have hpos : 0 < (placesOf row .spn).length := List.length_pos_iff.mpr hs
          have hpos2 : 0 < (placesOf row .rdg).length := List.length_pos_iff.mpr hs2
          simp [li, hs, hs2, hpos, hpos2]
          refine idx_draw g3.pot hs2 (by have := pl .rdg; omega) fun j S6 g6 hj c e => ?_
          simp only [e, optQ_some]
          refine idx_draw g6.pot hs (by have := pl .spn; omega) fun j2 S7 g7 hj2 c2 e2 => ?_
          simp only [e2, optQ_some]
          exact q (.less j j2) S7 (g3.trans (g6.trans g7)) ⟨places_mem hj, places_mem hj2⟩
    · simp [hw2]
      exact hM _ _ ⟨rfl, rfl⟩
  rintro ρ _ ⟨rfl, rfl⟩
  -- read, offset, edition
  refine seq_cut (fun ρ S' => S3 = S' ∧ ρ = [some (.cell p), some (zonesD zs), some (.cell r), some (.str w), some (.int pl'), some (idxD (placesOf row .mom)), some (idxD (placesOf row .rdg)), some (idxD (placesOf row .spn)), some (.int (i : Nat)), none, none, none, none, none, none, none]) (fun M hM => ?_) ?_
  · rw [does_ifS]
    simp only [stepWords, List.mem_cons, List.not_mem_nil, or_false] at hw
    rcases hw with rfl | rfl | rfl | rfl | rfl | rfl | rfl
    · simp (decide := true) [eqF]
      exact q (.read i pl') S3 g3 ⟨hi, hpl⟩
    · simp (decide := true) [eqF]
      exact q (.read i pl') S3 g3 ⟨hi, hpl⟩
    · simp (decide := true) [eqF]
      exact q (.offset i pl') S3 g3 ⟨hi, hpl⟩
    · simp (decide := true) [eqF]
      exact q (.edition i pl') S3 g3 ⟨hi, hpl⟩
    · simp (decide := true) [eqF]
      exact hM _ _ ⟨rfl, rfl⟩
    · simp (decide := true) [eqF]
      exact hM _ _ ⟨rfl, rfl⟩
    · simp (decide := true) [eqF]
      exact hM _ _ ⟨rfl, rfl⟩
  rintro ρ _ ⟨rfl, rfl⟩
  have zz := z.at hpl
  refine seq_cut (fun ρ S' => S3 = S' ∧ ρ = [some (.cell p), some (zonesD zs), some (.cell r), some (.str w), some (.int pl'), some (idxD (placesOf row .mom)), some (idxD (placesOf row .rdg)), some (idxD (placesOf row .spn)), some (.int (i : Nat)), none, none, some (.tup ((getZ zs pl').1.map .int)), some (.int (getZ zs pl').2), none, none, none]) (fun M hM => ?_) ?_
  · simp [ix_zones hpl]
    exact hM _ _ ⟨rfl, rfl⟩
  rintro ρ _ ⟨rfl, rfl⟩
  have E := zz.ends
  have hw0 : 0 ≤ hiO (getZ zs pl').1 - loO (getZ zs pl').1 := by have := E.mem _ E.mb; omega
  refine seq_cut (fun ρ S' => S3 = S' ∧ ρ = [some (.cell p), some (zonesD zs), some (.cell r), some (.str w), some (.int pl'), some (idxD (placesOf row .mom)), some (idxD (placesOf row .rdg)), some (idxD (placesOf row .spn)), some (.int (i : Nat)), none, none, some (.tup ((getZ zs pl').1.map .int)), some (.int (getZ zs pl').2), some (.int (hiO (getZ zs pl').1 - loO (getZ zs pl').1)), none, none]) (fun M hM => ?_) ?_
  · simp [E.lo, E.hi]
    exact hM _ _ ⟨rfl, rfl⟩
  rintro ρ _ ⟨rfl, rfl⟩
  generalize hiO (getZ zs pl').1 - loO (getZ zs pl').1 = wd at hw0
  refine seq_cut (fun ρ S' => ∃ far : List Int, far.length = 10 ∧ Go p S S' ∧ ρ = [some (.cell p), some (zonesD zs), some (.cell r), some (.str w), some (.int pl'), some (idxD (placesOf row .mom)), some (idxD (placesOf row .rdg)), some (idxD (placesOf row .spn)), some (.int (i : Nat)), none, none, some (.tup ((getZ zs pl').1.map .int)), some (.int (getZ zs pl').2), some (.int wd), some (.lst (far.map .int)), none]) (fun M hM => ?_) ?_
  · simp
    refine draw_does g3.pot (by decide) (by decide) fun c S4 g4 r0 r1 => ?_
    simp
    exact hM _ _ ⟨[1, -1, wd, -wd, wd + 1, (getZ zs pl').2, (getZ zs pl').2 - 1, 1 - (getZ zs pl').2, (getZ zs pl').2 - wd, c - 20], rfl, g3.trans g4, rfl⟩
  rintro ρ S4 ⟨far, hfar, g4, rfl⟩
  refine seq_cut (fun ρ S' => ∃ m : Int, Go p S S' ∧ ρ = [some (.cell p), some (zonesD zs), some (.cell r), some (.str w), some (.int pl'), some (idxD (placesOf row .mom)), some (idxD (placesOf row .rdg)), some (idxD (placesOf row .spn)), some (.int (i : Nat)), none, none, some (.tup ((getZ zs pl').1.map .int)), some (.int (getZ zs pl').2), some (.int wd), some (.lst (far.map .int)), some (.int m)]) (fun M hM => ?_) ?_
  · simp
    refine draw_does g4.pot (by decide) (by decide) fun c S5 g5 r0 r1 => ?_
    simp [hfar]
    refine draw_does g5.pot (by decide) (by decide) fun c2 S6 g6 s0 s1 => ?_
    obtain ⟨x, hx, e⟩ := atI_memL (l := far.map D.int ++ [.int (c - 100000)]) s0 (by simp [hfar]; omega)
    have e2 : gIx S6 (.lst (far.map D.int ++ [.int (c - 100000)])) (.int c2) = some x := e
    rw [e2]
    simp only [optQ_some]
    have hx2 : ∃ m, x = .int m := by
      rcases List.mem_append.mp hx with h | h
      · obtain ⟨m, _, rfl⟩ := List.mem_map.mp h
        exact ⟨m, rfl⟩
      · exact ⟨_, List.mem_singleton.mp h⟩
    obtain ⟨m, rfl⟩ := hx2
    exact hM _ _ ⟨m, g4.trans (g5.trans g6), rfl⟩
  rintro ρ S5 ⟨m, g5, rfl⟩
  simp [li]
  have e1 : ∀ (S : Sto) (l : List Nat), lstOf S (idxD l) = some (l.map fun i : Nat => D.int i) := fun _ _ => rfl
  simp only [e1]
  refine ⟨by simp; have := pl .mom; have := pl .rdg; omega, ?_⟩
  have e2 : ((placesOf row .mom).length : Int) + ((placesOf row .rdg).length : Int) = ((placesOf row .mom ++ placesOf row .rdg).length : Int) := by simp
  rw [e2]
  refine idx_draw g5.pot (by have := places_ne hm; simp [this]) (by have := pl .mom; have := pl .rdg; simp; omega) fun j S6 g6 hj c e => ?_
  have e3 : (D.lst ((placesOf row .mom).map (fun i : Nat => D.int i) ++ (placesOf row .rdg).map fun i : Nat => D.int i)) = idxD (placesOf row .mom ++ placesOf row .rdg) := by unfold idxD; rw [List.map_append]
  rw [e3, e]
  simp only [optQ_some]
  have hj2 : row[j]? = some .mom ∨ row[j]? = some .rdg := by
    rcases List.mem_append.mp hj with h | h
    · exact .inl (places_mem h)
    · exact .inr (places_mem h)
  have hm1 : ∀ x : Int, x = (if -100000 < (if m < 100000 then m else 100000) then (if m < 100000 then m else 100000) else -100000) → -100000 ≤ x ∧ x ≤ 100000 := by
    intro x hx
    subst hx
    split <;> split <;> omega
  exact q (.add j _) S6 (g5.trans g6) ⟨hj2, hm1 _ rfl⟩
end
end Dm
-- text HmLeftAt
namespace Dm
open PySem L2
@[simp] theorem does_callBL {S : Sto} {ρ : Rho} {g : Sto → List D → Option (List D)} {a : MA} {E : EX} {Q : List D → Sto → Prop} : (mCallBL g a ρ S).DoesE E Q = (a ρ S).DoesE E fun xs S1 => match g S1 xs with
    | some z => Q z S1
    | none => False := by
  unfold mCallBL
  rw [does_bind]
  congr 1
  funext x S1
  cases g S1 x <;> rfl
section
variable {S : Sto} {os : List Int} {s m o : Int} {ls : List (Int × Int)} {n p : Nat}
@[simp] theorem gList_looks : gList S [looksD ls] = some (ls.map jmpD) := rfl
@[simp] theorem gList_tup {ds : List D} : gList S [.tup ds] = some ds := rfl
@[simp] theorem gList_lst {ds : List D} : gList S [.lst ds] = some ds := rfl
end
end Dm
-- text HmCchart
namespace Dm
open PySem L2
section
variable {S S1 S2 : Sto} {os : List Int} {s : Int} {n p : Nat}
/-- a new pot that turns changes nothing older -/
theorem Go.own {c : Cell} (g1 : Go p S S1) (g2 : Go S1.length (S1 ++ [c]) S2) : Go p S S2 ∧ ∀ n, n < S1.length → S2[n]? = S1[n]? := by
  have old : ∀ n, n < S1.length → S2[n]? = S1[n]? := fun n hn => by
    rw [g2.same n (by rw [List.length_append]; exact Nat.lt_of_lt_of_le hn (Nat.le_add_right _ _)) (by omega), List.getElem?_append_left hn]
  have l2 := g2.len
  rw [List.length_append] at l2
  refine ⟨⟨by have := g1.len; omega, fun n hn hp => ?_, ?_⟩, old⟩
  · rw [old n (Nat.lt_of_lt_of_le hn g1.len)]
    exact g1.same n hn hp
  · obtain ⟨k, e⟩ := g1.pot
    exact ⟨k, by rw [old p g1.pot.lt]; exact e⟩
theorem lcQ_draws {m : Int} {ρ : Rho} (hr : ∀ i : Int, (tgN 12 (.int i) ρ).isSome = true) (h0 : 0 < m) (hb : m < 18446744073709551616) {j : Nat} (hj : j ≠ 12) (hρ : ρ[j]? = some (some (.cell p))) : ∀ {k : Nat} {t : Int} {S : Sto} {Q : List D → Sto → Prop}, Pot p S → (∀ (ns : List Int) S', Go p S S' → ns.length = k → Q (ns.map .int) S') →
    LcQ (tgN 12) mYes (mCall m_law_draw (mCons (mVar j) (mCons (mK (.int m)) mNil))) ρ (rngD t k) S Q
  | 0, t, S, Q, hp, q => by
    rw [rngD_nil, lcQ_nil]
    exact q [] S (.refl hp) rfl
  | k + 1, t, S, Q, hp, q => by
    rw [rngD_cons, lcQ_cons]
    have e : (ρ.set 12 (some (.int t)))[j]? = some (some (.cell p)) := by rw [List.getElem?_set_ne (Ne.symm hj)]; exact hρ
    simp [e]
    refine draw_does hp h0 hb fun r S1 g1 _ _ => ?_
    exact lcQ_draws hr h0 hb hj hρ g1.pot fun ns S' g hl => q (r :: ns) S' (g1.trans g) (by simp [hl])
theorem cells_chart_does {ns : List Int} {Q : D → Sto → Prop} (hp : Pot p S) (z : ZoneOK os s) (hn : ns.length ≤ 1000) (q : ∀ h js S', Go p S S' → TabOK os s h js → Near js → Q (tabD h js) S') : (m_law_cells_chart [.cell p, zoneD os s, .lst (ns.map .int)] S).Does Q := by
  have hl := z.len
  have hs := z.sp
  refine does_def rfl ?_
  refine seq_cut (fun ρ S' => S = S' ∧ ρ = [some (.cell p), some (zoneD os s), some (.lst (ns.map .int)), some (.tup (os.map .int)), some (.int s), none, none, none, none, none, none, none, none]) (fun M hM => ?_) ?_
  · simp
    exact hM _ _ ⟨rfl, rfl⟩
  rintro ρ _ ⟨rfl, rfl⟩
  refine seq_cut (fun ρ S' => ∃ a : Int, ρ = [some (.cell p), some (zoneD os s), some (.lst (ns.map .int)), some (.tup (os.map .int)), some (.int s), some (.int a), none, none, none, none, none, none, none] ∧ Go p S S' ∧ 0 ≤ a ∧ a < os.length) (fun M hM => ?_) ?_
  · simp
    exact draw_does hp (by omega) (by omega) fun r S1 g1 a0 a1 => hM _ _ ⟨_, rfl, g1, a0, a1⟩
  rintro ρ S1 ⟨a, rfl, g1, a0, a1⟩
  obtain ⟨o, ao, om, oi⟩ := z.at a0 a1
  refine seq_cut (fun ρ S' => ∃ hr : Int, ρ = [some (.cell p), some (zoneD os s), some (.lst (ns.map .int)), some (.tup (os.map .int)), some (.int s), some (.int a), some (.int o), none, none, none, none, none, none] ∧ Go p S S') (fun M hM => ?_) ?_
  · simp [ao]
    exact hM _ _ ⟨0, rfl, g1⟩
  rintro ρ S1' ⟨_, rfl, g1'⟩
  refine seq_cut (fun ρ S' => ∃ hr : Int, ρ = [some (.cell p), some (zoneD os s), some (.lst (ns.map .int)), some (.tup (os.map .int)), some (.int s), some (.int a), some (.int o), some (.int hr), none, none, none, none, none] ∧ Go p S S' ∧ -1000000000000 < hr ∧ hr < 1000000000000) (fun M hM => ?_) ?_
  · simp
    exact any_hour_does g1'.pot fun r S2 g2 b0 b1 => hM _ _ ⟨_, rfl, g1'.trans g2, b0, b1⟩
  rintro ρ S2 ⟨hr, rfl, g2, b0, b1⟩
  refine seq_cut (fun ρ S' => ρ = [some (.cell p), some (zoneD os s), some (.lst (ns.map .int)), some (.tup (os.map .int)), some (.int s), some (.int a), some (.int o), some (.int hr), some (.cell S2.length), none, none, none, none] ∧ S' = S2 ++ [.lst []]) (fun M hM => ?_) ?_
  · simp
    exact hM _ _ ⟨rfl, rfl⟩
  rintro ρ _ ⟨rfl, rfl⟩
  have g3 := g2.push (.lst [])
  have hnp : p ≠ S2.length := by have := g2.pot.lt; omega
  have hn2 : S.length ≤ S2.length := g2.len
  generalize hN : S2.length = N at hnp hn2
  have c3 : (S2 ++ [.lst []])[N]? = some (.lst []) := by subst hN; simp
  generalize S2 ++ [.lst []] = S3 at g3 c3
  refine seq_cut (fun ρ S' => ∃ (ms : List Int) (x12 : Option D), ρ = [some (.cell p), some (zoneD os s), some (.lst (ms.map .int)), some (.tup (os.map .int)), some (.int s), some (.int a), some (.int o), some (.int hr), some (.cell N), none, none, none, x12] ∧ Go p S S' ∧ S'[N]? = some (.lst [])) (fun M hM => ?_) ?_
  · simp [wipeD]
    refine lcQ_draws (p := p) (fun i => rfl) (by decide) (by decide) (by decide) rfl g3.pot fun ms S4 g4 hms => ?_
    refine ⟨by rw [List.length_map]; omega, ?_⟩
    rw [← List.map_append]
    exact hM _ _ ⟨ns ++ ms, _, rfl, g3.trans g4, g4.get c3 (Ne.symm hnp)⟩
  rintro ρ S4 ⟨ms, x12, rfl, g4, c4⟩
  refine seq_cut (fun ρ S' => ∃ (js : List (Int × Int)) (x5 x7 x9 x10 x11 : Option D), ρ = [some (.cell p), some (zoneD os s), some (.lst (ms.map .int)), some (.tup (os.map .int)), some (.int s), x5, some (.int o), x7, some (.cell N), x9, x10, x11, x12] ∧ Go p S S' ∧ S'[N]? = some (.lst (js.map jmpD)) ∧ TabOK os s o js ∧ Near js) (fun M hM => ?_) ?_
  · obtain ⟨k, hk⟩ : ∃ k : Int, (60 * (if (1 : Int) < (os.length : Int) then (1 : Int) else 0)) = k := ⟨_, rfl⟩
    have hk2 : 0 ≤ k ∧ k ≤ 60 ∧ (os.length = 1 → k = 0) := by
      subst hk
      split <;> omega
    simp
    refine ⟨cmulw64 (by decide) (by split <;> omega), ?_⟩
    rw [hk, cut_take hk2.1]
    show (forL _ _ ((ms.map D.int).take _) _ _).Does _ _ _ _
    rw [← List.map_take]
    have lk : (ms.take k.toNat).length ≤ 60 := by rw [List.length_take]; omega
    have l1 : os.length = 1 → (ms.take k.toNat).length = 0 := fun h => by rw [List.length_take, hk2.2.2 h]; simp
    generalize ms.take k.toNat = ws at lk l1
    refine forL_cut (fun ds ρ S' => ∃ (js : List (Int × Int)) (ws : List Int) (a' hr' : Int) (x9 x10 x11 : Option D), ds = ws.map .int ∧ ρ = [some (.cell p), some (zoneD os s), some (.lst (ms.map .int)), some (.tup (os.map .int)), some (.int s), some (.int a'), some (.int o), some (.int hr'), some (.cell N), x9, x10, x11, x12] ∧ Go p S S' ∧ S'[N]? = some (.lst (js.map jmpD)) ∧
      0 ≤ a' ∧ a' < os.length ∧ os[a'.toNat]? = some (endH o js) ∧ Chain os s o none js ∧ (∀ j, j ∈ js → -2000000000000 < j.1 ∧ j.1 < 2000000000000) ∧ (∀ pm, endP none js = some pm → pm + s ≤ hr') ∧ js.length + ws.length ≤ 60 ∧ -1000000000000 < hr' ∧ hr' < 1000000000000 + 3000000 * js.length ∧ (os.length = 1 → ws.length = 0)) _
      ⟨[], ws, a, hr, none, none, none, rfl, rfl, g4, c4, a0, a1, oi, trivial, (fun _ h => nomatch h), (fun _ h => nomatch h), by simpa using lk, b0, by simpa using b1, l1⟩ ?_ ?_
    · rintro d r ρ S5 ⟨js, ws, a', hr', x9, x10, x11, e, rfl, g5, c5, q0, q1, qi, ch, bd, pr, ln, r0, r1, one⟩
      cases ws with
      | nil => cases e
      | cons w ws =>
        rw [List.map_cons] at e
        injection e with e1 e2
        subst e1
        refine ⟨_, rfl, fun M2 hM2 => ?_⟩
        have two : 1 < os.length := by
          by_cases h : os.length = 1
          · have := one h; simp at this
          · omega
        have nN : N < S5.length := (List.getElem?_eq_some_iff.mp c5).1
        simp
        refine digits_does fun kk => ?_
        have gp : Go S5.length (S5 ++ [.lst [.int kk]]) (S5 ++ [.lst [.int kk]]) := .refl ⟨kk, by simp⟩
        refine draw_does gp.pot (by omega) (by omega) fun c2 S6 g6 f0 f1 => ?_
        simp
        refine ⟨by omega, ?_⟩
        have w0 := Int.emod_nonneg (a' + 1 + c2) (b := (os.length : Int)) (by omega)
        have w1 := Int.emod_lt_of_pos (a' + 1 + c2) (b := (os.length : Int)) (by omega)
        have w2 : (a' + 1 + c2) % (os.length : Int) ≠ a' := by
          intro w
          have l3 : (os.length : Int) = 2 ∨ (os.length : Int) = 3 := by omega
          rcases l3 with l3 | l3 <;> rw [l3] at w f1 q1 <;> omega
        generalize (a' + 1 + c2) % (os.length : Int) = a2 at w0 w1 w2
        obtain ⟨o2, ao2, om2, oi2⟩ := z.at w0 w1
        have ne2 : o2 ≠ endH o js := nodup_ne z.nodup oi2 qi (by omega)
        have c6 : S6[N]? = some (.lst (js.map jmpD)) := by rw [(Go.own g5 g6).2 N nN]; exact c5
        rw [c6]
        simp only [Option.some.injEq, Cell.lst.injEq, exists_eq_left', ao2, optQ_some]
        refine ⟨⟨_, rfl⟩, by rw [List.length_map]; omega, ?_⟩
        have hown : S5.length ≠ N := by omega
        have g7 : Go S5.length (S5 ++ [.lst [.int kk]]) S6 := g6
        have c7 : (S6.set N (.lst (js.map jmpD ++ [.tup [.int hr', .int o2]])))[N]? = some (.lst ((js ++ [(hr', o2)]).map jmpD)) := by
          rw [List.getElem?_set_self (List.getElem?_eq_some_iff.mp c6).1, List.map_append] <;> rfl
        have p7 : Pot S5.length (S6.set N (.lst (js.map jmpD ++ [.tup [.int hr', .int o2]]))) := g6.pot.set hown
        have G7 : Go p S (S6.set N (.lst (js.map jmpD ++ [.tup [.int hr', .int o2]]))) := ((Go.own g5 g6).1).setNew hp hn2 _
        have l7 : S5.length < (S6.set N (.lst (js.map jmpD ++ [.tup [.int hr', .int o2]]))).length := p7.lt
        generalize S6.set N (.lst (js.map jmpD ++ [.tup [.int hr', .int o2]])) = S7 at c7 p7 G7 l7
        have ch2 := chain_snoc ch om2 ne2 pr
        have bd2 : ∀ j, j ∈ js ++ [(hr', o2)] → -2000000000000 < j.1 ∧ j.1 < 2000000000000 := by
          intro j hj
          rcases List.mem_append.mp hj with hj | hj
          · exact bd j hj
          · cases List.mem_singleton.mp hj
            constructor <;> simp only <;> omega
        have down : ∀ S8, Go S5.length S7 S8 → Go p S S8 ∧ S8[N]? = some (.lst ((js ++ [(hr', o2)]).map jmpD)) := fun S8 g8 => by
          have pl := g5.pot.lt
          have sl := g5.len
          refine ⟨⟨Nat.le_trans G7.len g8.len, fun n hn hne => ?_, ?_⟩, ?_⟩
          · rw [g8.same n (Nat.lt_of_lt_of_le hn G7.len) (by omega)]
            exact G7.same n hn hne
          · obtain ⟨k, e⟩ := G7.pot
            exact ⟨k, g8.get e (by omega)⟩
          · exact g8.get c7 (Ne.symm hown)
        have fin : ∀ (z : Int) (x : Option D) (S8 : Sto), hr' + s ≤ z → z < hr' + 3000000 → Go S5.length S7 S8 → M2 [some (.cell p), some (zoneD os s), some (.lst (ms.map .int)), some (.tup (os.map .int)), some (.int s), some (.int a2), some (.int o), some (.int z), some (.cell N), some (.int w), some (.cell S5.length), x, x12] S8 := by
          intro zz x S8 z0 z1 g8
          obtain ⟨d1, d2⟩ := down S8 g8
          refine hM2 _ _ ⟨js ++ [(hr', o2)], ws, a2, zz, _, _, _, e2, rfl, d1, d2, w0, w1, ?_, ch2, bd2, ?_, ?_, ?_, ?_, ?_⟩
          · rw [endH_snoc]; exact oi2
          · intro pm hpm
            rw [endP_snoc] at hpm
            cases hpm
            exact z0
          · rw [List.length_cons] at ln
            rw [List.length_append, List.length_singleton]; omega
          · omega
          · rw [List.length_append, List.length_singleton]; omega
          · intro h; omega
        refine draw_does p7 (by decide) (by decide) fun c3 S8 g8 k0 k1 => ?_
        simp
        by_cases cc : 1 < c3
        · have e5 : c3 = 2 ∨ c3 = 3 := by omega
          rcases e5 with e5 | e5 <;> subst e5 <;> simp [atI, ixN]
          · refine ⟨cmulw64 (by decide) (by omega), ?_⟩
            refine draw_does g8.pot (by decide) (by decide) fun c4 S9 g9 k2 k3 => ?_
            simp
            exact fin _ _ _ (by omega) (by omega) (g8.trans g9)
          · refine ⟨cmulw64 (by decide) (by omega), ?_⟩
            refine draw_does g8.pot (by omega) (by omega) fun c4 S9 g9 k2 k3 => ?_
            simp
            exact fin _ _ _ (by omega) (by omega) (g8.trans g9)
        · simp [cc]
          exact fin _ _ _ (by omega) (by omega) g8
    · rintro ρ S5 ⟨js, ws, a', hr', x9, x10, x11, e, rfl, g5, c5, q0, q1, qi, ch, bd, pr, ln, r0, r1, one⟩
      exact hM _ _ ⟨js, _, _, _, _, _, rfl, g5, c5, ⟨om, ch⟩, by omega, bd⟩
  rintro ρ S5 ⟨js, x5, x7, x9, x10, x11, rfl, g5, c5, t, nr⟩
  simp [gTuple_cell c5]
  exact q _ _ _ g5 t nr
end
end Dm
-- text HmGone
namespace Dm
open PySem L2
end Dm
-- text HmGone2
namespace Dm
open PySem L2
end Dm
-- text HmTurn
namespace Dm
open PySem L2
section
variable {S : Sto} {os : List Int} {s h r c d : Int} {js : List (Int × Int)} {fold gap : Str}
@[simp] theorem lcAQ_mapT {f : D → Rho → Option Rho} {mt me : ME} {ρ : Rho} {Q : List D → Sto → Prop} {α : Type} {g : α → D} {as : List α} : LcAQ (.tup (as.map g)) f mt me ρ as.length S Q = LcQ f mt me ρ (as.map g) S Q := lcAQ_fix (.inl rfl) (by rw [List.length_map])
@[simp] theorem lcAQ_mapL {f : D → Rho → Option Rho} {mt me : ME} {ρ : Rho} {Q : List D → Sto → Prop} {α : Type} {g : α → D} {as : List α} : LcAQ (.lst (as.map g)) f mt me ρ as.length S Q = LcQ f mt me ρ (as.map g) S Q := lcAQ_fix (.inr rfl) (by rw [List.length_map])
/-! ### the zone, the table, moved and turned -/
end
end Dm
-- text HmPick
set_option maxHeartbeats 1000000
namespace Dm
open PySem L2
/-! ### the pots of the later laws -/
end Dm
-- text HmFollow2
namespace Dm
open PySem L2
section
variable {S : Sto} {zs : Zs} {tb : List Tb} {vs : List Int} {row : List Kd} {n c : Nat} {t : Stp}
/-- how a run ends -/
inductive Fin where
  | done (vs : List Int)
  | refused (vs : List Int) (k : Nat)
  | unsuited
def followS (ag : Tb → Tb → Int → Bool) (zs : Zs) (later : List Tb) : List Tb → Nat → List Int → List Stp → Fin
  | _, _, vs, [] => .done vs
  | tb, k, vs, t :: ts => if t.isEd = true ∧ ag (getT tb t.place) (getT later t.place) (getV vs t.base) = false then .unsuited
    else match stepV zs tb vs t with
      | none => .refused vs k
      | some v => followS ag zs later (if t.isEd = true then tb.set t.place (getT later t.place) else tb) (k + 1) (vs ++ [v]) ts
theorem ed_form {t : Stp} (h : t.isEd = true) : t = .edition t.base t.place := by
  cases t <;> first | rfl | cases h
theorem place_ix {row : List Kd} {nz : Nat} (h : t.OK nz row) (ha : askedS zs vs t ≠ []) : gIx S t.d (.int 2) = some (.int t.place) ∧ t.place < nz := by
  cases t with
  | read i p => exact ⟨by simp [Stp.d, Stp.place], h.2⟩
  | find i p f g => exact ⟨by simp [Stp.d, Stp.place], h.2.1⟩
  | offset i p => exact ⟨by simp [Stp.d, Stp.place], h.2⟩
  | edition i p => exact ⟨by simp [Stp.d, Stp.place], h.2⟩
  | _ => exact absurd rfl ha
end
end Dm
-- text HmFollow3
namespace Dm
open PySem L2
theorem Grow.setN {S S' : Sto} {n : Nat} (g : Grow S S') (hn : S.length ≤ n) (c : Cell) : Grow S (S'.set n c) := by
  obtain ⟨cs, rfl⟩ := g
  refine ⟨cs.set (n - S.length) c, ?_⟩
  rw [List.set_append]
  simp [Nat.not_lt.mpr hn]
theorem cnt_cons {f : Stp → Bool} {t : Stp} {ts : List Stp} : cnt f (t :: ts) = bI (f t) + cnt f ts := by
  unfold cnt bI
  by_cases h : f t = true
  · simp [h]; omega
  · simp [h]
theorem cnt_nn {f : Stp → Bool} {ts : List Stp} : 0 ≤ cnt f ts := Int.natCast_nonneg _
section
variable {S : Sto} {zs : Zs} {tb later : List Tb} {vs : List Int} {row : List Kd} {n c : Nat} {t : Stp} {ts : List Stp}
/-- the four cells of a run -/
structure Cells (S : Sto) (a : Nat) (tb : List Tb) (ed : Option (Nat × Int)) (vs : List Int) (lk : List Lk) : Prop where
  c4 : S[a]? = some (.lst (tb.map Tb.d))
  c5 : S[a + 1]? = some (.dic (edD ed))
  c6 : S[a + 2]? = some (.lst (vs.map .int))
  c7 : S[a + 3]? = some (.lst (lk.map lkD))
theorem Cells.grow {S S' : Sto} {a : Nat} {tb : List Tb} {ed : Option (Nat × Int)} {vs : List Int} {lk : List Lk} (h : Cells S a tb ed vs lk) (g : Grow S S') : Cells S' a tb ed vs lk := ⟨g.get h.c4, g.get h.c5, g.get h.c6, g.get h.c7⟩
theorem set_at {S : Sto} {n : Nat} {c c' : Cell} (h : S[n]? = some c') : (S.set n c)[n]? = some c := List.getElem?_set_self (List.getElem?_eq_some_iff.mp h).1
theorem Cells.val {S : Sto} {a : Nat} {tb : List Tb} {ed : Option (Nat × Int)} {vs : List Int} {lk : List Lk} (h : Cells S a tb ed vs lk) (vs' : List Int) : Cells (S.set (a + 2) (.lst (vs'.map .int))) a tb ed vs' lk :=
  ⟨by rw [List.getElem?_set_ne (by omega)]; exact h.c4, by rw [List.getElem?_set_ne (by omega)]; exact h.c5, set_at h.c6, by rw [List.getElem?_set_ne (by omega)]; exact h.c7⟩
theorem asked_len {t : Stp} (z : ZsOK zs) : (askedS zs vs t).length ≤ 3 := by
  cases t with
  | find i p f g =>
    by_cases hp : p < zs.length
    · have := (z.at hp).len
      simp [askedS]
      omega
    · have : getZ zs p = ([], 1) := by
        unfold getZ
        rw [List.getD_eq_getElem?_getD, List.getElem?_eq_none (by omega)]; rfl
      simp [askedS, this]
  | _ => simp [askedS]
/-- a look of a step -/
def markS (org : Int) (tb : List Tb) (ed : Option (Nat × Int)) (t : Stp) (w : Int) : Lk := ((t.place : Int), sideOf ed t.place w, w - org, offAt (getT tb t.place).1 (getT tb t.place).2 w)
def addL (org : Int) (tb : List Tb) (ed : Option (Nat × Int)) (t : Stp) (lk : List Lk) (ws : List Int) : List Lk := ws.foldl (fun lk w => pushLk lk (markS org tb ed t w)) lk
/-- a run with its looks -/
def followL (ag : Tb → Tb → Int → Bool) (zs : Zs) (later : List Tb) (org : Int) : List Tb → Option (Nat × Int) → Nat → List Int → List Lk → List Stp → Fin × List Lk
  | _, _, _, vs, lk, [] => (.done vs, lk)
  | tb, ed, k, vs, lk, t :: ts => if t.isEd = true ∧ ag (getT tb t.place) (getT later t.place) (getV vs t.base) = false then (.unsuited, addL org tb ed t lk (askedS zs vs t))
    else match stepV zs tb vs t with
      | none => (.refused vs k, addL org tb ed t lk (askedS zs vs t))
      | some v => followL ag zs later org (if t.isEd = true then tb.set t.place (getT later t.place) else tb) (if t.isEd = true then some (t.place, getV vs t.base) else ed) (k + 1) (vs ++ [v]) (addL org tb ed t lk (askedS zs vs t)) ts
theorem followL_fst {ag : Tb → Tb → Int → Bool} {org : Int} : ∀ {ts : List Stp} {tb : List Tb} {ed : Option (Nat × Int)} {k : Nat} {vs : List Int} {lk : List Lk}, (followL ag zs later org tb ed k vs lk ts).1 = followS ag zs later tb k vs ts
  | [], _, _, _, _, _ => rfl
  | t :: ts, tb, ed, k, vs, lk => by
    rw [followL, followS]
    split
    · rfl
    · cases stepV zs tb vs t with
      | none => rfl
      | some v => exact followL_fst
end
end Dm
-- text HmRun
namespace Dm
open PySem L2
section
variable {S : Sto} {zs : Zs} {tb later : List Tb} {vs : List Int} {row : List Kd} {n c : Nat} {t : Stp} {ts : List Stp}
/-! ### worlds -/
theorem all_tables (z : ZsOK zs) (tk : TbsOK zs tb) {ρ : Rho} (h2 : ρ[2]? = some (some (.tup (tb.map Tb.d)))) (hl : ρ.length = 5) {Q : List D → Sto → Prop} (q : Q (zs.map fun _ => D.bl true) S) :
    LcQ (tgU 2 (tgCons (tgN 3) (tgCons (tgN 4) tgNil))) mYes (mCall m_is_table (mCons (mVar 4) (mCons (mOp gIx (mVar 2) (mVar 3)) mNil))) ρ (enumD (zs.map fun z => zoneD z.1 z.2)) S Q := by
  match ρ, hl with
  | [a0, a1, a2, a3, a4], _ =>
    simp at h2
    subst h2
    match zs, tb, z, tk with
    | [a], [t0], z, tk =>
      have h1 := is_table_ok (S := S) (z.all a (by simp)) (tk.ok 0 a t0 rfl rfl)
      simp at q
      simp [enumD, tgU, Tb.d, h1]
      exact q
    | [a, b], [t0, t1], z, tk =>
      have h1 := is_table_ok (S := S) (z.all a (by simp)) (tk.ok 0 a t0 rfl rfl)
      have h2 := is_table_ok (S := S) (z.all b (by simp)) (tk.ok 1 b t1 rfl rfl)
      simp at q
      simp [enumD, tgU, Tb.d, h1, h2]
      exact q
    | [], _, z, _ => exact absurd z.len (by simp)
    | _ :: _ :: _ :: _, _, z, _ => exact absurd z.len (by simp)
    | [a], [], _, tk => exact absurd tk.len (by simp)
    | [a], _ :: _ :: _, _, tk => exact absurd tk.len (by simp)
    | [a, b], [], _, tk => exact absurd tk.len (by simp)
    | [a, b], [_], _, tk => exact absurd tk.len (by simp)
    | [a, b], _ :: _ :: _ :: _, _, tk => exact absurd tk.len (by simp)
theorem gAll_trues {α : Type} (l : List α) : gAll S [.lst (l.map fun _ => D.bl true)] = some (.bl true) := gAll_true
theorem is_world_ok (z : ZsOK zs) (tk : TbsOK zs tb) (tl : TbsOK zs later) : m_is_world [zonesD zs, worldD tb later] S = .ok (.bl true) S := by
  refine pure_of fun Q q => ?_
  refine does_def rfl ?_
  simp [need_zones_ok z, worldD, isTn]
  simp [zonesD, isTn, tk.len, wipeD]
  refine all_tables z tk rfl rfl ?_
  simp [gAll_trues, isTn, tl.len, wipeD]
  refine all_tables z tl rfl rfl ?_
  simp [gAll_trues]
  exact q
theorem need_world_ok (z : ZsOK zs) (tk : TbsOK zs tb) (tl : TbsOK zs later) : m_need_world [zonesD zs, worldD tb later] S = .ok .non S := by
  refine pure_of fun Q q => ?_
  refine does_def rfl ?_
  simp [is_world_ok z tk tl]
  exact q
/-! ### a step -/
theorem asked_moments_ok (z : ZsOK zs) (h : t.OK zs.length row) (hl : row.length = vs.length) (hn : S[n]? = some (.lst (vs.map .int))) : m_asked_moments [zonesD zs, t.d, .cell n] S = .ok (.lst ((askedS zs vs t).map .int)) S := by
  refine pure_of fun Q q => ?_
  have hb := h.base
  rw [hl] at hb
  refine does_def rfl ?_
  cases t with
  | find i p f g =>
    have e := ix_ints hn hb
    simp only [Stp.base] at e
    simp (decide := true) [Stp.d, e, ix_zones h.2.1, wipeD]
    rw [← List.map_reverse, lcAQ_fix (.inl rfl) (by simp)]
    refine lcQ_filter (fun _ : Int => true) (fun o => .int (getV vs i - o)) ?_ ?_
    · intro o ho
      refine ⟨_, rfl, fun Q q => q, fun Q _ q => ?_⟩
      simp
      exact q
    · have e : ((getZ zs p).1.reverse.filter fun _ : Int => true) = (getZ zs p).1.reverse := List.filter_eq_self.mpr fun _ _ => rfl
      rw [e]
      simp [askedS, Function.comp_def] at q ⊢
      exact q
  | _ =>
    have e := ix_ints hn hb
    simp only [Stp.base] at e
    simp (decide := true) [Stp.d, e]
    simp [askedS] at q
    exact q
theorem value_made_does (z : ZsOK zs) (tk : TbsOK zs tb) (h : t.OK zs.length row) (hl : row.length = vs.length) (hn : S[n]? = some (.lst (vs.map .int))) {kvs : List (Key × D)} (hc : S[c]? = some (.dic kvs))
    (hk : ∀ m, m ∈ askedS zs vs t → valD kvs (.inl m) = some (.int ((getT tb t.place).of m))) {Q : D → Sto → Prop} (q : Q (optD (stepV zs tb vs t)) S) : (m_value_made [zonesD zs, t.d, .cell n, .cell c] S).Does Q := by
  have hb := h.base
  rw [hl] at hb
  have e := ix_ints hn hb
  have second : ∀ {j : Nat} {k : Kd}, row[j]? = some k → gIx S (.cell n) (.int j) = some (.int (getV vs j)) := fun hj => ix_ints hn (by rw [← hl]; exact (List.getElem?_eq_some_iff.mp hj).1)
  refine does_def rfl ?_
  cases t with
  | find i p f g =>
    simp only [Stp.base] at e
    simp (decide := true) [Stp.d, e, ix_zones h.2.1, atI, ixN]
    refine found_by_does (h := (getT tb p).1) (js := (getT tb p).2) (z.at h.2.1) hc (fun o ho => hk _ ?_) (z.at h.2.1).ends h.2.2.1 h.2.2.2 ?_
    · simp [askedS]
      exact ho
    · rw [findO_eq]
      exact q
  | read i p =>
    simp only [Stp.base] at e
    have := hk (getV vs i) (by simp [askedS])
    simp (decide := true) [Stp.d, e, gDIx_cell hc, this]
    exact q
  | offset i p =>
    simp only [Stp.base] at e
    have := hk (getV vs i) (by simp [askedS])
    simp (decide := true) [Stp.d, e, gDIx_cell hc, this]
    exact q
  | edition i p =>
    simp only [Stp.base] at e
    simp (decide := true) [Stp.d, e]
    exact q
  | plus i j =>
    simp only [Stp.base] at e
    simp (decide := true) [Stp.d, e, second h.2]
    exact q
  | less i j =>
    simp only [Stp.base] at e
    simp (decide := true) [Stp.d, e, second h.2]
    exact q
  | add i m =>
    simp only [Stp.base] at e
    simp (decide := true) [Stp.d, e]
    exact q
/-! ### a table ahead of a moment -/
def aheadJ (js : List (Int × Int)) (m : Int) : List (Int × Int) := js.filter fun j => decide (j.1 < m)
theorem table_ahead_ok {h m : Int} {js : List (Int × Int)} : m_table_ahead [tabD h js, .int m] S = .ok (.tup [.int h, .lst ((aheadJ js m).map jmpD)]) S := by
  refine pure_of fun Q q => ?_
  refine does_def rfl ?_
  simp [wipeD]
  try rw [lcAQ_fix (.inl rfl) (by simp)]
  refine lcQ_filter (fun j : Int × Int => decide (j.1 < m)) jmpD ?_ ?_
  · intro j hj
    refine ⟨_, rfl, fun Q q => ?_, fun Q _ q => ?_⟩
    · simp
      exact q
    · simp
      exact q
  · exact q
def agP (a b : Tb) (m : Int) : Bool := decide (a.1 = b.1 ∧ aheadJ a.2 m = aheadJ b.2 m)
def jmpPy (j : Int × Int) : PyData := .tuple [.int j.1, .int j.2]
theorem jmps_py : ∀ l : List (Int × Int), toPys (l.map jmpD) = some (l.map jmpPy)
  | [] => rfl
  | m :: l => by
    have ih := jmps_py l
    simp only [List.map_cons, toPys, ih, jmpD, toPy, Option.bind_some, Option.map_some]
    rfl
theorem jmps_lay : ∀ l : List (Int × Int), PyData.canLayAll0 (l.map jmpPy) = true
  | [] => rfl
  | m :: l => by
    have ih := jmps_lay l
    simp only [List.map_cons, PyData.canLayAll0, ih, jmpPy, PyData.canLay0, Bool.and_self]
theorem jmps_depth : ∀ l : List (Int × Int), PyData.depthAll (l.map jmpPy) ≤ 1
  | [] => by simp [PyData.depthAll]
  | m :: l => by
    have ih := jmps_depth l
    simp only [List.map_cons, PyData.depthAll, PyData.depth, jmpPy]
    omega
theorem jmps_eqv : ∀ l l' : List (Int × Int), PyData.eqvAll (l.map jmpPy) (l'.map jmpPy) = decide (l = l')
  | [], [] => by simp [PyData.eqvAll]
  | [], _ :: _ => by simp [PyData.eqvAll]
  | _ :: _, [] => by simp [PyData.eqvAll]
  | (a, b) :: l, (a', b') :: l' => by
    have ih := jmps_eqv l l'
    simp only [List.map_cons, PyData.eqvAll, ih, jmpPy, PyData.eqv]
    by_cases h1 : a = a' <;> by_cases h2 : b = b' <;> by_cases h3 : l = l' <;> simp [h1, h2, h3]
theorem ne_ahead {h h' : Int} {l l' : List (Int × Int)} : gNe S (.tup [.int h, .lst (l.map jmpD)]) (.tup [.int h', .lst (l'.map jmpD)]) = some (.bl (!decide (h = h' ∧ l = l'))) := by
  have e1 : ∀ (h : Int) (l : List (Int × Int)), toPyS S (.tup [.int h, .lst (l.map jmpD)]) = some (.tuple [.int h, .list (l.map jmpPy)]) := by
    intro h l
    simp only [toPyS, toPy, toPys, jmps_py, Option.bind_some, Option.map_some]
  have s1 : ∀ (h : Int) (l : List (Int × Int)), SeqAt.shaped (.tuple [.int h, .list (l.map jmpPy)]) = true := by
    intro h l
    have h2 := jmps_depth l
    unfold SeqAt.shaped
    simp only [PyData.canLay0, PyData.canLayAll0, jmps_lay, PyData.depth, PyData.depthAll, Bool.and_self, Bool.true_and]
    exact decide_eq_true (by omega)
  unfold gNe eqD
  simp only [e1]
  rw [if_pos ⟨s1 _ _, s1 _ _⟩]
  simp only [PyData.eqv, PyData.eqvAll, jmps_eqv]
  by_cases h1 : h = h' <;> by_cases h2 : l = l' <;> simp [h1, h2]
end
end Dm
-- text HmRun2
namespace Dm
open PySem L2
@[simp] theorem does_raise {c : Str} {ρ : Rho} {S : Sto} {N B C : Rho → Sto → Prop} {R : D → Sto → Prop} {EO : EXO} : (mRaise c ρ S).DoesE EO N R B C = EO c [] ρ S := rfl
@[simp] theorem does_raiseX {c : Str} {ns : List Str} {ma : MA} {ρ : Rho} {S : Sto} {N B C : Rho → Sto → Prop} {R : D → Sto → Prop} {EO : EXO} : (mRaiseX c ns ma ρ S).DoesE EO N R B C = (ma ρ S).DoesE (eAt EO ρ) fun ds S1 => ds.length = ns.length ∧ EO c (ns.zip ds).reverse ρ S1 := by
  unfold mRaiseX
  rw [does_ofRes]; congr 1; funext ds S1
  by_cases h : ds.length = ns.length
  · rw [if_pos h]; simp [h, Out.DoesE]
  · rw [if_neg h]; simp [h, Out.DoesE]
section
variable {S : Sto} {zs : Zs} {tb later : List Tb} {vs : List Int} {row : List Kd} {n c : Nat} {t : Stp} {ts : List Stp}
def finR (E : EX) (Q : D → Sto → Prop) (S0 : Sto) : Fin → Prop
  | .done vs => ∀ S' n, Grow S0 S' → S0.length ≤ n → S'[n]? = some (.lst (vs.map .int)) → Q (.cell n) S'
  | .refused _ k => ∀ S', Grow S0 S' → E "Refused" [("step", .int k)] S'
  | .unsuited => ∀ S', Grow S0 S' → E "Unsuited" [] S'
theorem run_does {st : Int} {E : EX} {Q : D → Sto → Prop} (z : ZsOK zs) (hok : ProgOK zs.length ts) (tk : TbsOK zs tb) (tl : TbsOK zs later) (q : finR E Q S (followS agP zs later tb 0 [st] ts)) :
    (m_run [zonesD zs, progD ts, worldD tb later, .int st] S).DoesE E Q := by
  have hz : zs.length ≤ 2 := by rcases z.len with h | h <;> omega
  have lt := tk.len
  have ll := tl.len
  have hl := hok.len
  refine does_def rfl ?_
  refine seq_cut (fun ρ S' => ρ = [some (zonesD zs), some (progD ts), some (worldD tb later), some (.int st), none, none, none, none, none, none, none, none, none] ∧ Grow S S') (fun M hM => ?_) ?_
  · simp [need_zones_ok z]
    exact hM _ _ ⟨rfl, .refl⟩
  rintro ρ S1 ⟨rfl, g1⟩
  refine seq_cut (fun ρ S' => ρ = [some (zonesD zs), some (progD ts), some (worldD tb later), some (.int st), none, none, none, none, none, none, none, none, none] ∧ Grow S S') (fun M hM => ?_) ?_
  · simp
    refine Res.Does.toE (need_program_does z hok ?_)
    exact hM _ _ ⟨rfl, g1.push _⟩
  rintro ρ S2 ⟨rfl, g2⟩
  refine seq_cut (fun ρ S' => ρ = [some (zonesD zs), some (progD ts), some (worldD tb later), some (.int st), none, none, none, none, none, none, none, none, none] ∧ Grow S S') (fun M hM => ?_) ?_
  · simp [need_world_ok z tk tl]
    exact hM _ _ ⟨rfl, g2⟩
  rintro ρ S3 ⟨rfl, g3⟩
  refine seq_cut (fun ρ S' => ρ = [some (zonesD zs), some (progD ts), some (worldD tb later), some (.int st), none, none, none, none, none, none, none, none, none] ∧ Grow S S') (fun M hM => ?_) ?_
  · simp
    exact hM _ _ ⟨rfl, g3⟩
  rintro ρ S4 ⟨rfl, g4⟩
  have l4 := g4.len
  refine seq_cut (fun ρ S' => ρ = [some (zonesD zs), some (progD ts), some (worldD tb later), some (.int st), some (.cell S4.length), none, none, none, none, none, none, none, none] ∧ S' = S4 ++ [.lst (tb.map Tb.d)]) (fun M hM => ?_) ?_
  · simp [worldD]
    exact hM _ _ ⟨rfl, rfl⟩
  rintro ρ _ ⟨rfl, rfl⟩
  refine seq_cut (fun ρ S' => ρ = [some (zonesD zs), some (progD ts), some (worldD tb later), some (.int st), some (.cell S4.length), some (.cell (S4.length + 1)), none, none, none, none, none, none, none] ∧ Grow S S' ∧ S'[S4.length]? = some (.lst (tb.map Tb.d)) ∧ S'[S4.length + 1]? = some (.lst ([st].map .int))) (fun M hM => ?_) ?_
  · simp
    refine hM _ _ ⟨rfl, g4.trans ⟨_, rfl⟩, ?_, ?_⟩
    · rw [List.getElem?_append_right (by omega)]; simp
    · rw [List.getElem?_append_right (by omega)]; simp
  rintro ρ S5 ⟨rfl, g5, c4, c5⟩
  generalize S4.length = a at l4 c4 c5
  simp [progD]
  refine forL_cut (fun ds ρ S' => ∃ (pre us : List Stp) (tb' : List Tb) (vs : List Int) (row : List Kd) (x6 x7 x8 x9 x10 x11 x12 : Option D), ts = pre ++ us ∧ ds = enumF pre.length (us.map Stp.d) ∧
      ρ = [some (zonesD zs), some (.tup (ts.map Stp.d)), some (worldD tb later), some (.int st), some (.cell a), some (.cell (a + 1)), x6, x7, x8, x9, x10, x11, x12] ∧
      Grow S S' ∧ S'[a]? = some (.lst (tb'.map Tb.d)) ∧ S'[a + 1]? = some (.lst (vs.map .int)) ∧ TbsOK zs tb' ∧ ProgFrom zs.length row us ∧ row.length = vs.length ∧ vs.length = pre.length + 1 ∧
      followS agP zs later tb' pre.length vs us = followS agP zs later tb 0 [st] ts) _
    ⟨[], ts, tb, [st], [.mom], none, none, none, none, none, none, none, rfl, rfl, rfl, g5, c4, c5, tk, hok.steps, rfl, rfl, rfl⟩ ?_ ?_
  · rintro d ds ρ S6 ⟨pre, us, tb', vs, row, x6, x7, x8, x9, x10, x11, x12, ets, e, rfl, g6, d4, d5, tk', hp, hrl, hvl, hf⟩
    cases us with
    | nil => cases e
    | cons t us =>
      rw [List.map_cons, enumF_cons] at e
      injection e with e1 e2
      subst e1
      refine ⟨_, rfl, fun M hM => ?_⟩
      have ok := hp.1
      have hb := ok.base
      rw [hrl] at hb
      generalize hP : pre.length = kk at *
      rw [followS] at hf
      -- the edition
      refine seq_cut (fun ρ S' => ∃ (tb2 : List Tb) (y8 y9 : Option D), ρ = [some (zonesD zs), some (.tup (ts.map Stp.d)), some (worldD tb later), some (.int st), some (.cell a), some (.cell (a + 1)), some (.int kk), some t.d, y8, y9, x10, x11, x12] ∧
          Grow S S' ∧ S'[a]? = some (.lst (tb2.map Tb.d)) ∧ S'[a + 1]? = some (.lst (vs.map .int)) ∧ TbsOK zs tb2 ∧ tb2 = (if t.isEd = true then tb'.set t.place (getT later t.place) else tb') ∧ ¬ (t.isEd = true ∧ agP (getT tb' t.place) (getT later t.place) (getV vs t.base) = false)) (fun M2 hM2 => ?_) ?_
      · by_cases hE : t.isEd = true
        · obtain ⟨i, p, rfl⟩ : ∃ i p, t = .edition i p := ⟨_, _, ed_form hE⟩
          have hib := ix_ints d5 hb
          simp only [Stp.base] at hib
          have hp2 : p < tb'.length := by rw [tk'.len]; exact ok.2
          have hp3 : p < later.length := by rw [ll]; exact ok.2
          have hw : gIx S6 (worldD tb later) (.int 1) = some (.tup (later.map Tb.d)) := by simp [worldD]
          simp only [Stp.isEd, Stp.place, Stp.base, true_and, if_true] at hf ⊢
          have ta := fun (S : Sto) (t : Tb) (m : Int) => table_ahead_ok (S := S) (h := t.1) (m := m) (js := t.2)
          simp (decide := true) [Stp.d, hib, ix_tabsC d4 hp2, hw, ix_tabs hp3, Tb.d, ta, ne_ahead]
          by_cases c : (getT tb' p).1 = (getT later p).1 ∧ aheadJ (getT tb' p).2 (getV vs i) = aheadJ (getT later p).2 (getV vs i)
          · have c' : agP (getT tb' p) (getT later p) (getV vs i) = true := decide_eq_true c
            rw [if_neg (by
              rintro (h | h)
              · exact h c.1
              · exact h c.2)]
            have h16 : ixN (tb'.map Tb.d).length (p : Int) = some p := by
              have : (p : Int) < ((tb'.length : Nat) : Int) := by omega
              simp [ixN, this]
            refine ⟨_, d4, p, h16, hM2 _ _ ⟨tb'.set p (getT later p), _, _, rfl, g6.setN l4 _, ?_, ?_, tk'.set tl p, rfl, fun h => by have h2 := h.2; simp only [Stp.place, Stp.base] at h2; rw [c'] at h2; cases h2⟩⟩
            · rw [set_at d4, List.map_set]; rfl
            · rw [List.getElem?_set_ne (by omega)]; exact d5
          · have c' : agP (getT tb' p) (getT later p) (getV vs i) = false := decide_eq_false c
            rw [if_pos c'] at hf
            rw [if_pos (by
              by_cases h1 : (getT tb' p).1 = (getT later p).1
              · exact .inr fun h2 => c ⟨h1, h2⟩
              · exact .inl h1)]
            rw [← hf] at q
            exact q S6 g6
        · have hE' : t.isEd = false := by simpa using hE
          have hq : ∀ (ρ : Rho) (S' : Sto), ρ[7]? = some (some t.d) → ∀ Q : D → Sto → Prop, Q (.bl false) S' → (mOp gEq (mOp gIx (mVar 7) (mK (.int 0))) (mK (.str "edition")) ρ S').Does Q := by
            intro ρ S' h9 Q qq
            cases t <;> first | (cases hE'; done) | (simp (decide := true) [h9, Stp.d]; exact qq)
          rw [does_ifS]
          refine Res.Does.toE (hq _ _ rfl _ ?_)
          simp
          exact hM2 _ _ ⟨tb', _, _, rfl, g6, d4, d5, tk', by simp [hE'], by simp [hE']⟩
      rintro ρ S7 ⟨tb2, y8, y9, rfl, g7, f4, f5, tk2, et2, hno⟩
      rw [if_neg hno, ← et2] at hf
      have hstep : stepV zs tb' vs t = stepV zs tb2 vs t := by
        by_cases hE : t.isEd = true
        · rw [ed_form hE]; rfl
        · rw [if_neg hE] at et2
          rw [et2]
      rw [hstep] at hf
      have l7 := g7.len
      have ha7 : a + 1 < S7.length := (List.getElem?_eq_some_iff.mp f5).1
      refine seq_cut (fun ρ S' => ρ = [some (zonesD zs), some (.tup (ts.map Stp.d)), some (worldD tb later), some (.int st), some (.cell a), some (.cell (a + 1)), some (.int kk), some t.d, y8, y9, some (.cell S7.length), x11, x12] ∧ S' = S7 ++ [.dic []]) (fun M2 hM2 => ?_) ?_
      · simp
        exact hM2 _ _ ⟨rfl, rfl⟩
      rintro ρ _ ⟨rfl, rfl⟩
      refine seq_cut (fun ρ S' => ∃ (kvs : List (Key × D)) (y11 : Option D), ρ = [some (zonesD zs), some (.tup (ts.map Stp.d)), some (worldD tb later), some (.int st), some (.cell a), some (.cell (a + 1)), some (.int kk), some t.d, y8, y9, some (.cell S7.length), y11, x12] ∧ Grow S S' ∧ S'[a]? = some (.lst (tb2.map Tb.d)) ∧ S'[a + 1]? = some (.lst (vs.map .int)) ∧
          S'[S7.length]? = some (.dic kvs) ∧ ∀ m, m ∈ askedS zs vs t → valD kvs (.inl m) = some (.int ((getT tb2 t.place).of m))) (fun M2 hM2 => ?_) ?_
      · have f5' : (S7 ++ [.dic []])[a + 1]? = some (.lst (vs.map .int)) := by rw [List.getElem?_append_left ha7]; exact f5
        have f4' : (S7 ++ [.dic []])[a]? = some (.lst (tb2.map Tb.d)) := by rw [List.getElem?_append_left (by omega)]; exact f4
        have hal := asked_len (vs := vs) (t := t) z
        simp [asked_moments_ok z ok hrl f5']
        refine forL_cut (fun ds ρ S' => ∃ (ms ws : List Int) (kvs : List (Key × D)) (y11 : Option D), askedS zs vs t = ms ++ ws ∧ ds = ws.map .int ∧ ρ = [some (zonesD zs), some (.tup (ts.map Stp.d)), some (worldD tb later), some (.int st), some (.cell a), some (.cell (a + 1)), some (.int kk), some t.d, y8, y9, some (.cell S7.length), y11, x12] ∧
            Grow S S' ∧ S'[a]? = some (.lst (tb2.map Tb.d)) ∧ S'[a + 1]? = some (.lst (vs.map .int)) ∧ S'[S7.length]? = some (.dic kvs) ∧ kvs.length ≤ ms.length ∧ ∀ m, m ∈ ms → valD kvs (.inl m) = some (.int ((getT tb2 t.place).of m))) _
          ⟨[], _, [], _, rfl, rfl, rfl, g7.push _, f4', f5', by simp, by simp, fun _ h => nomatch h⟩ ?_ ?_
        · rintro d ds' ρ S8 ⟨ms, ws, kvs, y11, ea, ed0, rfl, g8, e4, e5, ek, el, hk⟩
          cases ws with
          | nil => cases ed0
          | cons w ws =>
            rw [List.map_cons] at ed0
            injection ed0 with e6 e7
            subst e6
            refine ⟨_, rfl, fun M3 hM3 => ?_⟩
            obtain ⟨hpi, hpl'⟩ := place_ix (S := S8) ok (by rw [ea]; simp)
            have hpt : t.place < tb2.length := by rw [tk2.len]; exact hpl'
            have ho := offset_in_ok (S := S8) (h := (getT tb2 t.place).1) (js := (getT tb2 t.place).2) (m := w)
            rw [ea] at hal
            simp at hal
            simp [hpi, ix_tabsC e4 hpt, Tb.d, ho, ek]
            refine ⟨by omega, hM3 _ _ ⟨ms ++ [w], ws, _, _, by rw [ea]; simp, e7, rfl, g8.setN (by omega) _, ?_, ?_, set_at ek, ?_, ?_⟩⟩
            · rw [List.getElem?_set_ne (by omega)]; exact e4
            · rw [List.getElem?_set_ne (by omega)]; exact e5
            · have := putD_len (kvs := kvs) (k := .inl w) (v := .int (offAt (getT tb2 t.place).1 (getT tb2 t.place).2 w))
              simp
              omega
            · intro m hm
              by_cases hmw : m = w
              · subst hmw
                rw [valD_put_same]; rfl
              · rw [valD_put_other (by intro h; injection h with h; exact hmw h)]
                rcases List.mem_append.mp hm with hm | hm
                · exact hk m hm
                · exact absurd (List.mem_singleton.mp hm) hmw
        · rintro ρ S8 ⟨ms, ws, kvs, y11, ea, ed0, rfl, g8, e4, e5, ek, el, hk⟩
          cases ws with
          | cons w ws => cases ed0
          | nil =>
            rw [List.append_nil] at ea
            exact hM2 _ _ ⟨kvs, _, rfl, g8, e4, e5, ek, by rw [ea]; exact hk⟩
      rintro ρ S8 ⟨kvs, y11, rfl, g8, e4, e5, ek, hk⟩
      simp
      refine Res.Does.toE (value_made_does z tk2 ok hrl e5 ek hk ?_)
      cases hs : stepV zs tb2 vs t with
      | none =>
        rw [hs] at hf
        rw [← hf] at q
        simp [optD]
        exact q S8 g8
      | some v =>
        rw [hs] at hf
        simp [optD, e5]
        have hpl8 : pre.length ≤ 8 := by rw [ets] at hl; simp at hl; omega
        refine ⟨by omega, hM _ _ ⟨pre ++ [t], us, tb2, vs ++ [v], row ++ [t.kind row], _, _, _, _, _, _, _, by rw [ets]; simp, by rw [List.length_append, List.length_singleton, hP, e2], rfl, g8.setN (by omega) _, ?_, ?_, tk2, hp.2, by simp [hrl], by simp; omega, ?_⟩⟩
        · rw [List.getElem?_set_ne (by omega)]; exact e4
        · rw [set_at e5]; simp
        · rw [← hf]
          simp [hP]
  · rintro ρ S6 ⟨pre, us, tb', vs, row, x6, x7, x8, x9, x10, x11, x12, ets, e, rfl, g6, d4, d5, tk', hp, hrl, hvl, hf⟩
    cases us with
    | cons t us => rw [List.map_cons, enumF_cons] at e; cases e
    | nil =>
      simp
      rw [← hf] at q
      exact q S6 _ g6 (by omega) d5
end
end Dm
-- text HmOdd1
namespace Dm
open PySem L2
/-- data of any kind: nothing that may change -/
inductive OddD : D → Prop
  | non : OddD .non
  | bl (b : Bool) : OddD (.bl b)
  | int (i : Int) : OddD (.int i)
  | str (x : Str) : OddD (.str x)
  | exn (c : Str) (fs : List (Str × Int)) : OddD (.exn c fs)
  | tup {ds : List D} : ds.length ≤ 1000 → (∀ d, d ∈ ds → OddD d) → OddD (.tup ds)
  | lst {ds : List D} : ds.length ≤ 1000 → (∀ d, d ∈ ds → OddD d) → OddD (.lst ds)
end Dm
-- text HmOdd2
namespace Dm
open PySem L2
end Dm
-- text HmEarth2
namespace Dm
open PySem L2
end Dm
-- text HmEarth3
namespace Dm
open PySem L2
section
variable {S : Sto} {p n : Nat} {os : List Int} {s : Int} {zs : Zs} {ts : List Stp}
theorem TbsOK.cons {z : List Int × Int} {t : Tb} {zs : Zs} {tb : List Tb} (h : TabOK z.1 z.2 t.1 t.2) (k : TbsOK zs tb) : TbsOK (z :: zs) (t :: tb) := by
  refine ⟨by simp [k.len], fun p z' t' hz ht => ?_⟩
  cases p with
  | zero =>
    simp at hz ht
    subst hz ht
    exact h
  | succ p =>
    simp at hz ht
    exact k.ok p z' t' hz ht
theorem ints_py : ∀ ns : List Int, toPys (ns.map .int) = some (ns.map .int)
  | [] => rfl
  | n :: ns => by
    have ih := ints_py ns
    simp only [List.map_cons, toPys, ih, toPy, Option.bind_some, Option.map_some]
theorem ints_lay : ∀ ns : List Int, PyData.canLayAll0 (ns.map .int) = true
  | [] => rfl
  | n :: ns => by
    have ih := ints_lay ns
    simp only [List.map_cons, PyData.canLayAll0, ih, PyData.canLay0, Bool.and_self]
theorem ints_depth : ∀ ns : List Int, PyData.depthAll (ns.map .int) ≤ 0
  | [] => by simp [PyData.depthAll]
  | n :: ns => by
    have ih := ints_depth ns
    simp only [List.map_cons, PyData.depthAll, PyData.depth]
    omega
/-! ### bounds of the values -/
def VB (row : List Kd) (vs : List Int) : Prop := row.length = vs.length ∧ ∀ (i : Nat) (v : Int) (k : Kd), vs[i]? = some v → row[i]? = some k → (-(2000000000000 + 200000 * (i : Int)) ≤ v ∧ v ≤ 2000000000000 + 200000 * i) ∧ (k = .spn → -900 ≤ v ∧ v ≤ 900)
theorem VB.at {row : List Kd} {vs : List Int} (h : VB row vs) {i : Nat} {k : Kd} (hi : row[i]? = some k) : (-(2000000000000 + 200000 * (i : Int)) ≤ getV vs i ∧ getV vs i ≤ 2000000000000 + 200000 * i) ∧ (k = .spn → -900 ≤ getV vs i ∧ getV vs i ≤ 900) ∧ i < vs.length := by
  have hl := (List.getElem?_eq_some_iff.mp hi).1
  rw [h.1] at hl
  exact ⟨(h.2 i _ k (getV_at hl) hi).1, (h.2 i _ k (getV_at hl) hi).2, hl⟩
/-! ### the same numbers -/
end
end Dm
-- text HmRan
namespace Dm
open PySem L2
/-! ### try -/
section
variable {ρ : Rho} {S : Sto} {N B C : Rho → Sto → Prop} {R : D → Sto → Prop} {EO : EXO}
@[simp] theorem does_try {cs : List Str} {hs : List (Str × Option Nat × MS)} {mb : MS} : (mTry cs hs mb ρ S).DoesE EO N R B C = (mb ρ S).DoesE (fun c fs ρ1 S1 => ∃ ns, intFsOf fs = some ns ∧ c ∈ cs ∧ (catchD c fs ns hs ρ1 S1).DoesE EO N R B C) N R B C := by
  unfold mTry
  cases mb ρ S with
  | exc c fs ρ1 S1 =>
    simp only [Out.DoesE]
    cases e : intFsOf fs with
    | none => simp [Out.DoesE, e]
    | some ns =>
      by_cases h : c ∈ cs
      · simp [h, e, Out.DoesE]
      · simp [h, e, Out.DoesE]
  | _ => rfl
@[simp] theorem catch_nil {c : Str} {fs : List (Str × D)} {ns : List (Str × Int)} : (catchD c fs ns [] ρ S).DoesE EO N R B C = EO c fs ρ S := rfl
@[simp] theorem catch_cons {c h : Str} {fs : List (Str × D)} {ns : List (Str × Int)} {oi : Option Nat} {ms : MS} {r : List (Str × Option Nat × MS)} : (catchD c fs ns ((h, oi, ms) :: r) ρ S).DoesE EO N R B C =
    if xSub c h = true then (ms (setI oi ρ (.exn c ns)) S).DoesE (fun _ _ _ _ => False) (fun ρ S => N (clearI oi ρ) S) R (fun ρ S => B (clearI oi ρ) S) (fun ρ S => C (clearI oi ρ) S) else (catchD c fs ns r ρ S).DoesE EO N R B C := by
  rw [catchD]
  by_cases h : xSub c h = true
  · simp only [if_pos h]
    cases ms (setI oi ρ (.exn c ns)) S <;> rfl
  · simp only [if_neg h]
@[simp] theorem gXf_exn {c f : Str} {fs : List (Str × Int)} : gXf c f S (.exn c fs) = (fs.lookup f).map D.int := by simp [gXf]
end
/-! ### repr of pairs -/
/-! ### what becomes of a run -/
end Dm
-- text HmOdd3
namespace Dm
open PySem L2
end Dm
-- text HmOdd4
namespace Dm
open PySem L2
/-- a row of data, so many at most -/
structure OddL (k : Nat) (ds : List D) : Prop where
  len : ds.length ≤ k
  all : ∀ d, d ∈ ds → OddD d
theorem OddL.one {d : D} (h : OddD d) : OddL 1 [d] := ⟨by simp, fun x hx => by rw [List.mem_singleton.mp hx]; exact h⟩
theorem OddL.tup {k : Nat} {ds : List D} (h : OddL k ds) (hk : k ≤ 1000 := by decide) : OddD (.tup ds) := .tup (Nat.le_trans h.len hk) h.all
theorem OddL.lst {k : Nat} {ds : List D} (h : OddL k ds) (hk : k ≤ 1000 := by decide) : OddD (.lst ds) := .lst (Nat.le_trans h.len hk) h.all
theorem OddL.mono {k m : Nat} {ds : List D} (h : OddL k ds) (hk : k ≤ m) : OddL m ds := ⟨Nat.le_trans h.len hk, h.all⟩
end Dm
-- text HmFields
set_option maxHeartbeats 1000000
namespace Dm
open PySem L2
/-! ### drawn zones of the later laws -/
end Dm
-- text HmFields2
set_option maxHeartbeats 1000000
namespace Dm
open PySem L2
end Dm
-- text HmTale1
set_option maxHeartbeats 1000000
namespace Dm
open PySem L2
/-! ### drawn programs of the later laws: rules, minutes, indexes of values -/
end Dm
-- text HmTale2
set_option maxHeartbeats 1000000
namespace Dm
open PySem L2
/-! ### drawn programs of the later laws: the words, a step -/
section
variable {S : Sto} {p n r : Nat} {row : List Kd} {zs : Zs}
theorem Grow.setT {S S' : Sto} {n : Nat} (g : Grow S S') (hn : S.length ≤ n) (c : Cell) : Grow S (S'.set n c) := by
  obtain ⟨cs, rfl⟩ := g
  rw [List.set_append_right _ _ hn]
  exact ⟨_, rfl⟩
def kdS : List (Key × D) := [(.inr "read", .str "reading"), (.inr "find", .str "moment"), (.inr "offset", .str "span"), (.inr "edition", .str "moment"), (.inr "plus", .str "reading")]
theorem kdS_eq : keysD [(D.str (Str.ofString "read"), D.str (Str.ofString "reading")), (D.str (Str.ofString "find"), D.str (Str.ofString "moment")), (D.str (Str.ofString "offset"), D.str (Str.ofString "span")), (D.str (Str.ofString "edition"), D.str (Str.ofString "moment")), (D.str (Str.ofString "plus"), D.str (Str.ofString "reading"))] = some kdS := rfl
theorem kdS_m : mergeD [] kdS = kdS := rfl
theorem dic_new {kvs : List (Key × D)} : dicOf (S ++ [.dic kvs]) (.cell S.length) = some kvs := dicOf_cell (by simp)
end
end Dm
-- text HmMs2
set_option maxHeartbeats 1000000
namespace Dm
open PySem L2
section
variable {S : Sto} {n p : Nat} {row : List Kd} {zs : Zs} {ts : List Stp} {t : Stp}
/-! ### the kinds of a program -/
theorem sort_made_does {m : Nat} {Q : D → Sto → Prop} (hn : S[n]? = some (.lst (row.map Kd.d))) (h : t.OK m row) (q : ∀ c, Q (t.kind row).d (S ++ [c])) : (m_law_sort_made [.cell n, t.d] S).Does Q := by
  refine does_def rfl ?_
  have q := q (.dic kdS)
  have hn' : (S ++ [.dic kdS])[n]? = some (.lst (row.map Kd.d)) := by
    rw [List.getElem?_append_left (List.getElem?_eq_some_iff.mp hn).1]; exact hn
  have l5 : kdS.length ≤ 15 := by decide
  cases t with
  | add i m =>
    have e : ∃ k, row[i]? = some k := by rcases h.1 with h | h <;> exact ⟨_, h⟩
    obtain ⟨k, e⟩ := e
    obtain ⟨h1, h2, h3⟩ := row_at hn' e
    simp [Stp.d, kdS_eq, kdS_m, l5, h1]
    simp [Stp.kind, e, Kd.d] at q
    exact q
  | _ => simp (decide := true) [Stp.d, kdS_eq, kdS_m, l5, dic_new, valD, kdS]; exact q
theorem sorts_does {m : Nat} {Q : D → Sto → Prop} (h : ProgFrom m [.mom] ts) (hl : ts.length ≤ 60) (q : ∀ S', Grow S S' → S.length < S'.length → S'[S.length]? = some (.lst ((kindsFrom [.mom] ts).map Kd.d)) → Q (.cell S.length) S') : (m_law_sorts [progD ts] S).Does Q := by
  refine does_def rfl ?_
  simp [progD]
  refine forL_cut (fun ds ρ S' => ∃ us row x2, ds = (us : List Stp).map Stp.d ∧ ρ = [some (.tup (ts.map Stp.d)), some (.cell S.length), x2] ∧ Grow S S' ∧ S.length < S'.length ∧ S'[S.length]? = some (.lst (row.map Kd.d)) ∧ ProgFrom m row us ∧ kindsFrom row us = kindsFrom [.mom] ts ∧ row.length + us.length ≤ 61) _
    ⟨ts, [.mom], _, rfl, rfl, Grow.refl.push _, by simp, by simp [Kd.d, Kd.s], h, rfl, by simp; omega⟩ ?_ ?_
  · rintro d r ρ S1 ⟨us, row, x2, e, rfl, g1, l1, hn, hp, hk, hl⟩
    cases us with
    | nil => cases e
    | cons u us =>
      simp at e
      obtain ⟨rfl, rfl⟩ := e
      refine ⟨_, rfl, fun M hM => ?_⟩
      simp at hl
      simp
      refine ⟨⟨_, hn⟩, ?_⟩
      refine sort_made_does hn hp.1 fun c => ?_
      have hn2 : (S1 ++ [c])[S.length]? = some (.lst (row.map Kd.d)) := by rw [List.getElem?_append_left l1]; exact hn
      simp [hn2]
      refine ⟨by omega, hM _ _ ⟨us, row ++ [u.kind row], _, rfl, rfl, (g1.push _).setT (Nat.le_refl _) _, by simp; omega, ?_, hp.2, hk, by simp; omega⟩⟩
      rw [List.getElem?_set_self (by simp; omega), List.map_append] <;> rfl
  · rintro ρ S1 ⟨us, row, x2, e, rfl, g1, l1, hn, hp, hk, hl⟩
    cases us with
    | nil =>
      simp
      rw [show row = kindsFrom [.mom] ts from hk] at hn
      exact q S1 g1 l1 hn
    | cons u us => cases e
theorem sortsC_does {m : Nat} {Q : D → Sto → Prop} (hc : S[n]? = some (.lst (ts.map Stp.d))) (h : ProgFrom m [.mom] ts) (hl : ts.length ≤ 60) (q : ∀ S', Grow S S' → S.length < S'.length → S'[S.length]? = some (.lst ((kindsFrom [.mom] ts).map Kd.d)) → Q (.cell S.length) S') : (m_law_sorts [.cell n] S).Does Q := by
  have ln := (List.getElem?_eq_some_iff.mp hc).1
  refine does_def rfl ?_
  simp
  have hc1 : (S ++ [.lst [.str "moment"]])[n]? = some (.lst (ts.map Stp.d)) := by rw [List.getElem?_append_left ln]; exact hc
  refine forAS_cut hc1 (fun ds ρ S' => ∃ us row x2, ds = (us : List Stp).map Stp.d ∧ ρ = [some (.cell n), some (.cell S.length), x2] ∧ Grow S S' ∧ S.length < S'.length ∧ S'[S.length]? = some (.lst (row.map Kd.d)) ∧ ProgFrom m row us ∧ kindsFrom row us = kindsFrom [.mom] ts ∧ row.length + us.length ≤ 61)
    ⟨ts, [.mom], _, rfl, rfl, Grow.refl.push _, by simp, by simp [Kd.d, Kd.s], h, rfl, by simp; omega⟩ ?_ ?_ ?_
  · rintro r ρ S1 ⟨us, row, x2, e, rfl, g1, _⟩
    exact g1.get hc
  · rintro d r ρ S1 ⟨us, row, x2, e, rfl, g1, l1, hn, hp, hk, hl⟩
    cases us with
    | nil => cases e
    | cons u us =>
      simp at e
      obtain ⟨rfl, rfl⟩ := e
      refine ⟨_, rfl, fun M hM => ?_⟩
      simp at hl
      simp
      refine ⟨⟨_, hn⟩, ?_⟩
      refine sort_made_does hn hp.1 fun c => ?_
      have hn2 : (S1 ++ [c])[S.length]? = some (.lst (row.map Kd.d)) := by rw [List.getElem?_append_left l1]; exact hn
      simp [hn2]
      refine ⟨by omega, hM _ _ ⟨us, row ++ [u.kind row], _, rfl, rfl, (g1.push _).setT (Nat.le_refl _) _, by simp; omega, ?_, hp.2, hk, by simp; omega⟩⟩
      rw [List.getElem?_set_self (by simp; omega), List.map_append] <;> rfl
  · rintro ρ S1 ⟨us, row, x2, e, rfl, g1, l1, hn, hp, hk, hl⟩
    cases us with
    | nil =>
      simp
      rw [show row = kindsFrom [.mom] ts from hk] at hn
      exact q S1 g1 l1 hn
    | cons u us => cases e
/-! ### the words of steps -/
def Stp.wd : Stp → Str
  | .read _ _ => "read"
  | .find _ _ _ _ => "find"
  | .offset _ _ => "offset"
  | .edition _ _ => "edition"
  | .plus _ _ => "plus"
  | .less _ _ => "less"
  | .add _ _ => "add"
def Stp.isAdd : Stp → Bool
  | .add _ _ => true
  | _ => false
def wdsD (ts : List Stp) : D := .lst (ts.map fun t => D.str t.wd)
theorem wd_ix : gIx S t.d (.int 0) = some (.str t.wd) := by cases t <;> rfl
theorem wd_conv : gIn false S (.str t.wd) (.lst [.str "read", .str "find", .str "offset", .str "edition"]) = some (.bl t.isConv) := by
  cases t <;> simp (decide := true) [gIn, Stp.isConv, eqF, Stp.wd]
theorem wd_ed : (t.wd == ("edition" : Str)) = t.isEd := by cases t <;> simp (decide := true) [Stp.wd, Stp.isEd]
theorem wd_find : (t.wd == ("find" : Str)) = t.isFind := by cases t <;> simp (decide := true) [Stp.wd, Stp.isFind]
theorem wd_add : (t.wd == ("add" : Str)) = t.isAdd := by cases t <;> simp (decide := true) [Stp.wd, Stp.isAdd]
theorem wds_ed : gIn false S (.str "edition") (wdsD ts) = some (.bl (ts.any Stp.isEd)) := by
  have h1 : ((ts.map fun t => D.str t.wd).any fun x => eqF x (.str "edition")) = ts.any Stp.isEd := by
    induction ts with
    | nil => rfl
    | cons t ts ih =>
      rw [List.map_cons, List.any_cons, List.any_cons, ih]
      congr 1
      exact wd_ed
  have h2 : ((ts.map fun t => D.str t.wd).all flatD) = true := by
    rw [List.all_map]
    exact List.all_eq_true.mpr fun _ _ => rfl
  unfold gIn wdsD
  simp only [seqOf, lstOf]
  rw [if_pos ⟨rfl, h2⟩]
  rw [h1]
  rfl
theorem wds_cnt : (((ts.map fun t => D.str t.wd).countP fun x => eqF x (.str "find") : Nat) : Int) = cnt Stp.isFind ts := by
  unfold cnt
  congr 1
  induction ts with
  | nil => rfl
  | cons t ts ih =>
    rw [List.map_cons, List.countP_cons, ih, List.filter_cons]
    have e : eqF (D.str t.wd) (.str "find") = t.isFind := wd_find
    rw [e]
    cases t.isFind <;> simp
end
end Dm
-- text HmAgree
namespace Dm
open PySem L2
section
variable {os : List Int} {s m : Int}
theorem chain_gt (hs : 0 < s) : ∀ {js : List (Int × Int)} {h p : Int}, Chain os s h (some p) js → ∀ j, j ∈ js → p < j.1
  | (t, o) :: r, h, p, ⟨_, _, c, d⟩, j, hj => by
    have := c p rfl
    rcases List.mem_cons.mp hj with rfl | hj
    · simp only; omega
    · have := chain_gt hs d j hj
      omega
theorem ahead_nil (hs : 0 < s) {t o h : Int} {p : Option Int} {r : List (Int × Int)} (c : Chain os s h p ((t, o) :: r)) (ht : ¬ t < m) : aheadJ ((t, o) :: r) m = [] := by
  unfold aheadJ
  rw [List.filter_eq_nil_iff]
  intro j hj
  rcases List.mem_cons.mp hj with rfl | hj
  · simp only [decide_eq_true_eq]; omega
  · have := chain_gt hs c.2.2.2 j hj
    simp only [decide_eq_true_eq]; omega
theorem ahead_cons {t o : Int} {r : List (Int × Int)} (ht : t < m) : aheadJ ((t, o) :: r) m = (t, o) :: aheadJ r m := by
  unfold aheadJ
  rw [List.filter_cons, if_pos (decide_eq_true ht)]
theorem off_ahead (hs : 0 < s) {e : Int} (he : e < m) : ∀ {js : List (Int × Int)} {h : Int} {p : Option Int}, Chain os s h p js → offAt h js e = offAt h (aheadJ js m) e
  | [], _, _, _ => rfl
  | (t, o) :: r, h, p, c => by
    by_cases ht : t < m
    · rw [ahead_cons ht, offAt, offAt, off_ahead hs he c.2.2.2]
    · rw [show offAt h ((t, o) :: r) e = h by rw [offAt, if_pos (by omega)], ahead_nil hs c ht]; rfl
end
end Dm
-- text HmMoved
namespace Dm
open PySem L2
def mvJ (d : Int) (j : Int × Int) : Int × Int := (j.1 + d, j.2)
def mvT (d : Int) (t : Tb) : Tb := (t.1, t.2.map (mvJ d))
def mvK (d : Int) (k : Kd) : Int := if k = .spn then 0 else d
def mvV (d : Int) (row : List Kd) (vs : List Int) : List Int := List.zipWith (fun k v => v + mvK d k) row vs
section
variable {d m : Int} {zs : Zs} {tb later : List Tb} {row : List Kd} {vs : List Int} {t : Stp}
theorem getV_mv {i : Nat} {k : Kd} (hl : row.length = vs.length) (hk : row[i]? = some k) : getV (mvV d row vs) i = getV vs i + mvK d k := by
  have hi := (List.getElem?_eq_some_iff.mp hk).1
  have hv := getV_at (vs := vs) (i := i) (by omega)
  unfold getV mvV
  rw [List.getD_eq_getElem?_getD, List.getElem?_zipWith, hk, hv]
  rfl
theorem mvV_snoc {k : Kd} {v : Int} (hl : row.length = vs.length) : mvV d (row ++ [k]) (vs ++ [v]) = mvV d row vs ++ [v + mvK d k] := by
  unfold mvV
  rw [List.zipWith_append hl]; rfl
theorem findI_mv {ms : List Int} {g : Int × Int} {r : Int} {f p : Str} : findI (ms.map (· + d)) g (r + d) f p = (findI ms g r f p).map (· + d) := by
  have gap : (if p = "refuse" then none else if p = "ahead" then some (r + d - g.1) else some (r + d - g.2)) = (if p = "refuse" then none else if p = "ahead" then some (r - g.1) else some (r - g.2)).map (· + d) := by
    split
    · rfl
    · split <;> (simp only [Option.map_some]; congr 1; omega)
  match ms with
  | [] => exact gap
  | [m] => rfl
  | [m, m'] =>
    show (if f = "refuse" then none else if f = "early" then some (m + d) else some (m' + d)) = (if f = "refuse" then none else if f = "early" then some m else some m').map (· + d)
    split
    · rfl
    · split <;> rfl
  | a :: b :: c :: r => exact gap
theorem chain_mv {os : List Int} {s : Int} : ∀ {js : List (Int × Int)} {h : Int} {p : Option Int}, Chain os s h p js → Chain os s h (p.map (· + d)) (js.map (mvJ d))
  | [], _, _, _ => trivial
  | (m, o) :: r, h, p, ⟨a, b, c, e⟩ => by
    refine ⟨a, b, ?_, chain_mv (p := some m) e⟩
    intro q hq
    cases p with
    | none => cases hq
    | some p =>
      have hq : p + d = q := by injection hq
      have := c p rfl
      show q + s ≤ m + d
      omega
theorem TbsOK.mv (tk : TbsOK zs tb) : TbsOK zs (tb.map (mvT d)) := by
  refine ⟨by rw [List.length_map]; exact tk.len, fun p z t hz ht => ?_⟩
  rw [List.getElem?_map] at ht
  cases e : tb[p]? with
  | none => rw [e] at ht; cases ht
  | some t0 =>
    rw [e] at ht
    cases ht
    have := tk.ok p z t0 hz e
    exact ⟨this.held, chain_mv this.chain⟩
/-! ### the words -/
variable {S : Sto} {n : Nat} {ts : List Stp}
/-- what is due, as a value -/
def dueD (b : Nat) (S : Sto) : Fin → D → Prop
  | .done vs, e => ∃ n, b ≤ n ∧ e = .tup [.str "", .cell n] ∧ S[n]? = some (.lst (vs.map .int))
  | .refused _ k, e => e = .tup [.str "refused", .int k]
  | .unsuited, e => e = .tup [.str "unsuited", .non]
theorem dueD.go {b p : Nat} {S S' : Sto} {f : Fin} {e : D} (h : dueD b S f e) (g : GoB p S S') (hp : p < b) : dueD b S' f e := by
  cases f with
  | done vs =>
    obtain ⟨n, hn, rfl, hc⟩ := h
    exact ⟨n, hn, rfl, g.get hc (by omega)⟩
  | refused vs k => exact h
  | unsuited => exact h
theorem dueD.grow {b : Nat} {S S' : Sto} {f : Fin} {e : D} (h : dueD b S f e) (g : Grow S S') : dueD b S' f e := by
  cases f with
  | done vs =>
    obtain ⟨n, hn, rfl, hc⟩ := h
    exact ⟨n, hn, rfl, g.get hc⟩
  | refused vs k => exact h
  | unsuited => exact h
end
end Dm
-- text HmEdition
namespace Dm
open PySem L2
section
variable {S : Sto} {p n : Nat} {os : List Int} {s m : Int} {zs : Zs} {ts : List Stp}
theorem chain_ahead (hs : 0 < s) : ∀ {js : List (Int × Int)} {h : Int} {p : Option Int}, Chain os s h p js → Chain os s h p (aheadJ js m)
  | [], _, _, _ => trivial
  | (t, o) :: r, h, p, c => by
    by_cases ht : t < m
    · rw [ahead_cons ht]
      exact ⟨c.1, c.2.1, c.2.2.1, chain_ahead hs c.2.2.2⟩
    · rw [ahead_nil hs c ht]
      trivial
end
end Dm
-- text HmEdition2
namespace Dm
open PySem L2
section
variable {S : Sto} {p n : Nat} {os : List Int} {s m : Int} {zs : Zs} {ts : List Stp} {tb later : List Tb}
theorem Bag.grow {S S' : Sto} (h : Bag p n S) (g : Grow S S') : Bag p n S' := by
  obtain ⟨a, b, c, e, r⟩ := h
  exact ⟨a, b, c, g.get e, r⟩
end
end Dm
-- text HmEdition3
namespace Dm
open PySem L2
end Dm
-- text HmReplay
namespace Dm
open PySem L2
section
variable {d m : Int} {zs : Zs} {tb tb2 later later2 : List Tb} {row : List Kd} {vs : List Int} {t : Stp}
theorem agP_of {os : List Int} {s : Int} {a b : Tb} (hs : 0 < s) (ta : TabOK os s a.1 a.2) (tb : TabOK os s b.1 b.2) (h : agP a b m = true) {e : Int} (he : e < m) : a.of e = b.of e := by
  obtain ⟨h1, h2⟩ := of_decide_eq_true h
  unfold Tb.of
  rw [off_ahead hs he ta.chain, off_ahead hs he tb.chain, h1, h2]
theorem moms_like {os : List Int} {t t2 : Tb} {r : Int} (h : ∀ o, o ∈ os → t2.of (r - o + d) = t.of (r - o)) : momsOf os t2.1 t2.2 (r + d) = (momsOf os t.1 t.2 r).map (· + d) := by
  unfold momsOf
  rw [List.map_map]
  have : (os.reverse.filter fun o => offAt t2.1 t2.2 (r + d - o) == o) = os.reverse.filter fun o => offAt t.1 t.2 (r - o) == o := by
    refine List.filter_congr fun o ho => ?_
    have e : r + d - o = (r - o) + d := by omega
    rw [e]
    have := h o (List.mem_reverse.mp ho)
    unfold Tb.of at this
    rw [this]
  rw [this]
  refine List.map_congr_left fun o _ => ?_
  show r + d - o = r - o + d
  omega
/-- a step whose looks are alike makes the like value -/
theorem step_like (z : ZsOK zs) (h : t.OK zs.length row) (hl : row.length = vs.length) (hw : ∀ w, w ∈ askedS zs vs t → (getT tb2 t.place).of (w + d) = (getT tb t.place).of w) :
    stepV zs tb2 (mvV d row vs) t = (stepV zs tb vs t).map (· + mvK d (t.kind row)) := by
  have e1 : mvK d .mom = d := rfl
  have e2 : mvK d .rdg = d := rfl
  have e3 : mvK d .spn = 0 := rfl
  cases t with
  | read i p =>
    have e := getV_mv (d := d) hl h.1
    rw [e1] at e
    have hh : (getT tb2 p).of (getV vs i + d) = (getT tb p).of (getV vs i) := hw (getV vs i) (by simp [askedS])
    show some (getV (mvV d row vs) i + (getT tb2 p).of (getV (mvV d row vs) i)) = some (getV vs i + (getT tb p).of (getV vs i) + d)
    rw [e, hh]
    congr 1; omega
  | find i p f g =>
    have e := getV_mv (d := d) hl h.1
    rw [e2] at e
    have hp := h.2.1
    have zp := z.at hp
    have E := zp.ends
    have hh : ∀ o, o ∈ (getZ zs p).1 → (getT tb2 p).of (getV vs i - o + d) = (getT tb p).of (getV vs i - o) := fun o ho => hw _ (List.mem_map.mpr ⟨o, List.mem_reverse.mpr ho, rfl⟩)
    show findI (momsOf (getZ zs p).1 (getT tb2 p).1 (getT tb2 p).2 (getV (mvV d row vs) i)) ((getT tb2 p).of (getV (mvV d row vs) i - hiO (getZ zs p).1), (getT tb2 p).of (getV (mvV d row vs) i - loO (getZ zs p).1)) (getV (mvV d row vs) i) f g = (findI (momsOf (getZ zs p).1 (getT tb p).1 (getT tb p).2 (getV vs i)) ((getT tb p).of (getV vs i - hiO (getZ zs p).1), (getT tb p).of (getV vs i - loO (getZ zs p).1)) (getV vs i) f g).map (· + d)
    rw [e, moms_like hh, findI_mv]
    have a1 : getV vs i + d - hiO (getZ zs p).1 = getV vs i - hiO (getZ zs p).1 + d := by omega
    have a2 : getV vs i + d - loO (getZ zs p).1 = getV vs i - loO (getZ zs p).1 + d := by omega
    rw [a1, a2, hh _ E.mb, hh _ E.ma]
  | offset i p =>
    have e := getV_mv (d := d) hl h.1
    rw [e1] at e
    have hh : (getT tb2 p).of (getV vs i + d) = (getT tb p).of (getV vs i) := hw (getV vs i) (by simp [askedS])
    show some ((getT tb2 p).of (getV (mvV d row vs) i)) = some ((getT tb p).of (getV vs i) + 0)
    rw [e, hh, Int.add_zero]
  | edition i p =>
    have e := getV_mv (d := d) hl h.1
    exact congrArg some e
  | plus i j =>
    have e := getV_mv (d := d) hl h.1
    have e' := getV_mv (d := d) hl h.2
    rw [e1] at e
    rw [e3] at e'
    show some (getV (mvV d row vs) i + getV (mvV d row vs) j) = some (getV vs i + getV vs j + d)
    rw [e, e']
    congr 1; omega
  | less i j =>
    have e := getV_mv (d := d) hl h.1
    have e' := getV_mv (d := d) hl h.2
    rw [e2] at e
    rw [e3] at e'
    show some (getV (mvV d row vs) i - getV (mvV d row vs) j) = some (getV vs i - getV vs j + d)
    rw [e, e']
    congr 1; omega
  | add i m =>
    obtain ⟨k, hk⟩ : ∃ k, row[i]? = some k := by rcases h.1 with h | h <;> exact ⟨_, h⟩
    have e := getV_mv (d := d) hl hk
    have ek : Stp.kind row (.add i m) = k := by
      show row.getD i .mom = k
      rw [List.getD_eq_getElem?_getD, hk]; rfl
    rw [ek]
    show some (getV (mvV d row vs) i + m) = some (getV vs i + m + mvK d k)
    rw [e]
    congr 1; omega
theorem asked_mv (h : t.OK zs.length row) (hl : row.length = vs.length) : askedS zs (mvV d row vs) t = (askedS zs vs t).map (· + d) := by
  have e1 : mvK d .mom = d := rfl
  have e2 : mvK d .rdg = d := rfl
  cases t with
  | read i p =>
    have e := getV_mv (d := d) hl h.1
    rw [e1] at e
    show [getV (mvV d row vs) i] = [getV vs i + d]
    rw [e]
  | find i p f g =>
    have e := getV_mv (d := d) hl h.1
    rw [e2] at e
    show (getZ zs p).1.reverse.map (fun o => getV (mvV d row vs) i - o) = ((getZ zs p).1.reverse.map fun o => getV vs i - o).map (· + d)
    rw [e, List.map_map]
    refine List.map_congr_left fun o _ => ?_
    show getV vs i + d - o = getV vs i - o + d
    omega
  | offset i p =>
    have e := getV_mv (d := d) hl h.1
    rw [e1] at e
    show [getV (mvV d row vs) i] = [getV vs i + d]
    rw [e]
  | edition i p =>
    have e := getV_mv (d := d) hl h.1
    rw [e1] at e
    show [getV (mvV d row vs) i - 1] = [getV vs i - 1 + d]
    rw [e]
    congr 1; omega
  | plus i j => rfl
  | less i j => rfl
  | add i m => rfl
/-! ### looks -/
variable {org : Int} {ed : Option (Nat × Int)} {lk : List Lk} {ws : List Int}
theorem push_mem {m x : Lk} : x ∈ pushLk lk m ↔ x ∈ lk ∨ x = m := by
  unfold pushLk
  split
  · rename_i h
    constructor
    · exact .inl
    · rintro (h2 | rfl)
      · exact h2
      · exact h
  · simp
theorem addL_mono {x : Lk} (h : x ∈ lk) : x ∈ addL org tb ed t lk ws := by
  unfold addL
  induction ws generalizing lk with
  | nil => exact h
  | cons w ws ih => exact ih (push_mem.mpr (.inl h))
theorem addL_mem {w : Int} (h : w ∈ ws) : markS org tb ed t w ∈ addL org tb ed t lk ws := by
  induction ws generalizing lk with
  | nil => cases h
  | cons u ws ih =>
    rcases List.mem_cons.mp h with rfl | h
    · exact addL_mono (lk := pushLk lk (markS org tb ed t w)) (push_mem.mpr (.inr rfl))
    · exact ih (lk := pushLk lk (markS org tb ed t u)) h
theorem followL_mono {ag : Tb → Tb → Int → Bool} {x : Lk} : ∀ {ts : List Stp} {tb : List Tb} {ed : Option (Nat × Int)} {k : Nat} {vs : List Int} {lk : List Lk}, x ∈ lk → x ∈ (followL ag zs later org tb ed k vs lk ts).2
  | [], _, _, _, _, _, h => h
  | t :: ts, tb, ed, k, vs, lk, h => by
    rw [followL]
    split
    · exact addL_mono h
    · cases stepV zs tb vs t with
      | none => exact addL_mono h
      | some v => exact followL_mono (addL_mono h)
def mvE (d : Int) : Option (Nat × Int) → Option (Nat × Int)
  | some (q, m) => some (q, m + d)
  | none => none
theorem side_mv {p : Nat} {w : Int} : sideOf (mvE d ed) p (w + d) = sideOf ed p w := by
  cases ed with
  | none => rfl
  | some x =>
    obtain ⟨q, m⟩ := x
    show (if q = p ∧ m + d ≤ w + d then (1 : Int) else 0) = if q = p ∧ m ≤ w then 1 else 0
    by_cases h : q = p ∧ m ≤ w
    · rw [if_pos h, if_pos ⟨h.1, by omega⟩]
    · rw [if_neg h, if_neg (fun h2 => h ⟨h2.1, by omega⟩)]
theorem addL_like (h : ∀ w, w ∈ ws → (getT tb2 t.place).of (w + d) = (getT tb t.place).of w) : addL (org + d) tb2 (mvE d ed) t lk (ws.map (· + d)) = addL org tb ed t lk ws := by
  induction ws generalizing lk with
  | nil => rfl
  | cons w ws ih =>
    have e : markS (org + d) tb2 (mvE d ed) t (w + d) = markS org tb ed t w := by
      unfold markS
      rw [side_mv]
      have := h w List.mem_cons_self
      unfold Tb.of at this
      rw [this, show w + d - (org + d) = w - org by omega]
    have := ih (lk := pushLk lk (markS org tb ed t w)) fun w hw => h w (List.mem_cons_of_mem _ hw)
    show addL (org + d) tb2 (mvE d ed) t (pushLk lk (markS (org + d) tb2 (mvE d ed) t (w + d))) (ws.map (· + d)) = addL org tb ed t (pushLk lk (markS org tb ed t w)) ws
    rw [e, this]
/-! ### a run once more, in another world with the same looks -/
def curT (ed : Option (Nat × Int)) (a b : List Tb) (p : Nat) : Tb := match ed with
  | some (q, _) => if q = p then getT b p else getT a p
  | none => getT a p
/-- a look holds in the world -/
def LikeM (org : Int) (a b : List Tb) (x : Lk) : Prop := ∀ p : Nat, x.1 = p → (x.2.1 = 0 → (getT a p).of (x.2.2.1 + org) = x.2.2.2) ∧ (x.2.1 = 1 → (getT b p).of (x.2.2.1 + org) = x.2.2.2)
def mvF (d : Int) (row : List Kd) : Fin → Fin
  | .done vs => .done (mvV d row vs)
  | .refused vs k => .refused (mvV d row vs) k
  | .unsuited => .unsuited
theorem kinds_more : ∀ {ts : List Stp} {row : List Kd}, ∃ more, kindsFrom row ts = row ++ more
  | [], row => ⟨[], (List.append_nil _).symm⟩
  | t :: ts, row => by
    obtain ⟨m, e⟩ := kinds_more (ts := ts) (row := row ++ [t.kind row])
    exact ⟨t.kind row :: m, by show kindsFrom (row ++ [t.kind row]) ts = _; rw [e]; simp⟩
theorem mvV_more {ts : List Stp} (hl : row.length = vs.length) : mvV d (kindsFrom row ts) vs = mvV d row vs := by
  obtain ⟨m, e⟩ := kinds_more (ts := ts) (row := row)
  rw [e]
  unfold mvV
  have := List.zipWith_append (f := fun k v => v + mvK d k) (l₁' := m) (l₂' := []) hl
  rw [List.append_nil] at this
  rw [this]
  simp
theorem replay (z : ZsOK zs) (tk2 : TbsOK zs tb2) (tl2 : TbsOK zs later2) : ∀ {ts : List Stp} {tbc tbc2 : List Tb} {ed : Option (Nat × Int)} {row : List Kd} {vs : List Int} {lk : List Lk} {k : Nat},
    ProgFrom zs.length row ts → row.length = vs.length → (∀ p, p < zs.length → getT tbc2 p = curT ed tb2 later2 p) → tbc2.length = zs.length → (∀ q m, ed = some (q, m) → q < zs.length ∧ agP (getT tb2 q) (getT later2 q) (m + d) = true) → (ed = none ∨ cnt Stp.isEd ts ≤ 0) → cnt Stp.isEd ts ≤ 1 →
    (∀ x, x ∈ (followL agP zs later org tbc ed k vs lk ts).2 → LikeM (org + d) tb2 later2 x) → (followL agP zs later org tbc ed k vs lk ts).1 ≠ .unsuited →
    (∀ pre i p post, ts = pre ++ .edition i p :: post → ∀ vs', followS agP zs later tbc k vs pre = .done vs' → agP (getT tb2 p) (getT later2 p) (getV vs' i + d) = true) →
    followL agP zs later2 (org + d) tbc2 (mvE d ed) k (mvV d row vs) lk ts = (mvF d (kindsFrom row ts) (followL agP zs later org tbc ed k vs lk ts).1, (followL agP zs later org tbc ed k vs lk ts).2)
  | [], tbc, tbc2, ed, row, vs, lk, k, hp, hl, hc, hc2, he, hE, hE1, hL, hu, hS => rfl
  | t :: ts, tbc, tbc2, ed, row, vs, lk, k, hp, hl, hc, hc2, he, hE, hE1, hL, hu, hS => by
    have ok := hp.1
    -- the looks of the step are alike
    have sub : ∀ x, x ∈ addL org tbc ed t lk (askedS zs vs t) → x ∈ (followL agP zs later org tbc ed k vs lk (t :: ts)).2 := by
      intro x hx
      rw [followL]
      split
      · exact hx
      · cases stepV zs tbc vs t with
        | none => exact hx
        | some v => exact followL_mono hx
    have like : ∀ w, w ∈ askedS zs vs t → (getT tbc2 t.place).of (w + d) = (getT tbc t.place).of w := by
      intro w hw
      have hpl : t.place < zs.length := by
        cases t with
        | read i p => exact ok.2
        | find i p f g => exact ok.2.1
        | offset i p => exact ok.2
        | edition i p => exact ok.2
        | plus i j => cases hw
        | less i j => cases hw
        | add i m => cases hw
      obtain ⟨h0, h1⟩ := hL _ (sub _ (addL_mem hw)) t.place rfl
      have ew : (markS org tbc ed t w).2.2.1 + (org + d) = w + d := by show w - org + (org + d) = w + d; omega
      rw [ew] at h0 h1
      have h0' : sideOf ed t.place w = 0 → (getT tb2 t.place).of (w + d) = (getT tbc t.place).of w := h0
      have h1' : sideOf ed t.place w = 1 → (getT later2 t.place).of (w + d) = (getT tbc t.place).of w := h1
      rw [hc _ hpl]
      cases hed : ed with
      | none =>
        refine h0' ?_
        rw [hed]; rfl
      | some x =>
        obtain ⟨q, m⟩ := x
        show (if q = t.place then getT later2 t.place else getT tb2 t.place).of (w + d) = _
        by_cases hq : q = t.place
        · rw [if_pos hq]
          by_cases hm : m ≤ w
          · refine h1' ?_
            rw [hed]
            show (if q = t.place ∧ m ≤ w then (1 : Int) else 0) = 1
            rw [if_pos ⟨hq, hm⟩]
          · have a0 := (he q m hed).2
            rw [hq] at a0
            have hs := (z.at hpl).sp
            rw [← agP_of (s := (getZ zs t.place).2) (by omega) (tk2.tab hpl) (tl2.tab hpl) a0 (e := w + d) (by omega)]
            refine h0' ?_
            rw [hed]
            show (if q = t.place ∧ m ≤ w then (1 : Int) else 0) = 0
            rw [if_neg (fun h => hm h.2)]
        · rw [if_neg hq]
          refine h0' ?_
          rw [hed]
          show (if q = t.place ∧ m ≤ w then (1 : Int) else 0) = 0
          rw [if_neg (fun h => hq h.1)]
    have hst := step_like (d := d) (tb := tbc) (tb2 := tbc2) z ok hl like
    have hlk : addL (org + d) tbc2 (mvE d ed) t lk (askedS zs (mvV d row vs) t) = addL org tbc ed t lk (askedS zs vs t) := by
      rw [asked_mv ok hl]
      exact addL_like like
    have kf : kindsFrom row (t :: ts) = kindsFrom (row ++ [t.kind row]) ts := rfl
    by_cases hEd : t.isEd = true
    · obtain ⟨i, p, rfl⟩ : ∃ i p, t = .edition i p := ⟨_, _, ed_form hEd⟩
      have hed : ed = none := by
        rcases hE with h | h
        · exact h
        · rw [cnt_cons] at h
          have : bI (Stp.isEd (.edition i p)) = 1 := rfl
          have := cnt_nn (f := Stp.isEd) (ts := ts)
          omega
      subst hed
      have hp2 : p < zs.length := ok.2
      have hgv := getV_mv (d := d) hl ok.1
      have e1 : mvK d .mom = d := rfl
      rw [e1] at hgv
      have ha2 := hS [] i p ts rfl vs rfl
      have hc0 : getT tbc2 p = getT tb2 p := hc p hp2
      rw [followL] at hu hL
      rw [followL, followL]
      simp only [Stp.isEd, Stp.place, Stp.base, true_and, if_true, stepV, hlk] at hu hL ⊢
      by_cases ca : agP (getT tbc p) (getT later p) (getV vs i) = false
      · rw [if_pos ca] at hu
        exact absurd rfl hu
      · rw [if_neg ca] at hu hL ⊢
        rw [hc0, hgv, ha2, if_neg (by decide)]
        have hv := mvV_snoc (d := d) (k := Kd.mom) (v := getV vs i) hl
        rw [e1] at hv
        rw [← hv, kf]
        have hkd : Stp.kind row (.edition i p) = .mom := rfl
        rw [hkd]
        refine replay z tk2 tl2 (ed := some (p, getV vs i)) (row := row ++ [Kd.mom]) (by have := hp.2; rw [hkd] at this; exact this) (by simp [hl]) (fun p' hp' => ?_) (by rw [List.length_set]; exact hc2) (fun q m h => ?_) (.inr ?_) ?_ hL hu ?_
        · show getT (tbc2.set p (getT later2 p)) p' = if p = p' then getT later2 p' else getT tb2 p'
          unfold getT
          rw [List.getD_eq_getElem?_getD]
          by_cases e : p = p'
          · subst e
            rw [if_pos rfl, List.getElem?_set_self (by omega)]; rfl
          · rw [if_neg e, List.getElem?_set_ne e, ← List.getD_eq_getElem?_getD]
            exact hc p' hp'
        · cases h
          exact ⟨hp2, ha2⟩
        · rw [cnt_cons] at hE1
          have : bI (Stp.isEd (.edition i p)) = 1 := rfl
          omega
        · rw [cnt_cons] at hE1
          have : bI (Stp.isEd (.edition i p)) = 1 := rfl
          omega
        · intro pre j q post e vs' h
          exfalso
          rw [e] at hE1
          have h1 : cnt Stp.isEd (Stp.edition i p :: (pre ++ Stp.edition j q :: post)) = 1 + (cnt Stp.isEd pre + (1 + cnt Stp.isEd post)) := by
            rw [cnt_cons]
            have h2 : cnt Stp.isEd (pre ++ Stp.edition j q :: post) = cnt Stp.isEd pre + (1 + cnt Stp.isEd post) := by
              unfold cnt
              rw [List.filter_append, List.filter_cons]
              simp [Stp.isEd]
              omega
            rw [h2]; rfl
          rw [h1] at hE1
          have := cnt_nn (f := Stp.isEd) (ts := pre)
          have := cnt_nn (f := Stp.isEd) (ts := post)
          omega
    · have hEd' : t.isEd = false := by simpa using hEd
      have f : ∀ (l : List Tb) (o : Int) (tb : List Tb) (ed : Option (Nat × Int)) (vs : List Int), followL agP zs l o tb ed k vs lk (t :: ts) = match stepV zs tb vs t with
          | none => (.refused vs k, addL o tb ed t lk (askedS zs vs t))
          | some v => followL agP zs l o tb ed (k + 1) (vs ++ [v]) (addL o tb ed t lk (askedS zs vs t)) ts := by
        intro l o tb ed vs
        rw [followL, if_neg (fun h => by rw [hEd'] at h; exact Bool.noConfusion h.1)]
        simp only [hEd']
        rfl
      rw [f] at hu hL
      rw [f, f, hst, hlk]
      cases e : stepV zs tbc vs t with
      | none =>
        show (Fin.refused (mvV d row vs) k, _) = (Fin.refused (mvV d (kindsFrom row (t :: ts)) vs) k, _)
        rw [mvV_more hl]
      | some v =>
        rw [e] at hu hL
        simp only [Option.map_some] at hu hL ⊢
        rw [← mvV_snoc hl, kf]
        refine replay z tk2 tl2 hp.2 (by simp [hl]) hc hc2 he ?_ ?_ hL hu ?_
        · rcases hE with h | h
          · exact .inl h
          · refine .inr ?_
            rw [cnt_cons, hEd'] at h
            have : bI false = 0 := rfl
            omega
        · rw [cnt_cons, hEd'] at hE1
          have : bI false = 0 := rfl
          omega
        · intro pre i p post e2 vs' h
          refine hS (t :: pre) i p post (by rw [e2]; rfl) vs' ?_
          rw [followS, if_neg (fun h => by rw [hEd'] at h; exact Bool.noConfusion h.1), e]
          simp only [hEd']
          exact h
end
end Dm
-- text HmEagree
namespace Dm
open PySem L2
end Dm
-- text HmWider
namespace Dm
open PySem L2
end Dm
-- text HmCase
namespace Dm
open PySem L2
end Dm
-- text HmRep
namespace Dm
open PySem L2
end Dm
-- text HmMarks
namespace Dm
open PySem L2
section
variable {d o s h : Int} {os : List Int} {js : List (Int × Int)} {zs : Zs} {tb later : List Tb} {ts : List Stp} {lk : List Lk} {E : Option (Nat × Int)} {f : Fin}
/-! ### looks of one place -/
def mkP (x : Lk) : Int × Int := (x.2.2.1, x.2.2.2)
def firstM (lk : List Lk) (p : Nat) : List (Int × Int) := (lk.filter fun x : Lk => decide (x.1 = (p : Int) ∧ x.2.1 = 0)).map mkP
def laterM (lk : List Lk) (p : Nat) (n : Int) : List (Int × Int) := (lk.filter fun x : Lk => decide (x.1 = (p : Int) ∧ (x.2.1 = 1 ∨ x.2.2.1 < n))).map mkP
theorem srt_asc {l : List (Int × Int)} (hp : l.Pairwise fun a b => a.1 ≠ b.1) : (srtP l).Pairwise fun a b => a.1 < b.1 := by
  have h1 := srtP_asc l
  have h2 : (srtP l).Pairwise fun a b => a.1 ≠ b.1 := ((srtP_perm l).pairwise_iff (fun {x y} h => h.symm)).mpr hp
  refine (h1.and h2).imp fun {a b} h => ?_
  have := leP_iff.mp h.1
  have := h.2
  omega
theorem marks_apart {q : Lk → Bool} (hn : lk.Nodup) (hq : ∀ x y, x ∈ lk → y ∈ lk → q x = true → q y = true → x.2.2.1 = y.2.2.1 → x = y) : ((lk.filter q).map mkP).Pairwise fun a b => a.1 ≠ b.1 := by
  rw [List.pairwise_map]
  refine (hn.filter q).imp_of_mem fun {x y} hx hy hne he => hne ?_
  have hx := List.mem_filter.mp hx
  have hy := List.mem_filter.mp hy
  exact hq x y hx.1 hy.1 hx.2 hy.2 he
/-! ### worlds in which the run is the same -/
structure Fits (zs : Zs) (tb later : List Tb) (o : Int) (ts : List Stp) (lk : List Lk) (d : Int) (a b : List Tb) : Prop where
  ta : TbsOK zs a
  tl : TbsOK zs b
  like : ∀ x, x ∈ lk → LikeM (o + d) a b x
  ag : ∀ pre i p post, ts = pre ++ .edition i p :: post → ∀ vs', followS agP zs later tb 0 [o] pre = .done vs' → agP (getT a p) (getT b p) (getV vs' i + d) = true
theorem Fits.run {a b : List Tb} (z : ZsOK zs) (ok : ProgFrom zs.length [.mom] ts) (he : cnt Stp.isEd ts ≤ 1) (hu : followS agP zs later tb 0 [o] ts ≠ .unsuited) (F : Fits zs tb later o ts (followL agP zs later o tb none 0 [o] [] ts).2 d a b) :
    followS agP zs b a 0 [o + d] ts = mvF d (kindsFrom [.mom] ts) (followS agP zs later tb 0 [o] ts) := by
  have h := replay (org := o) (d := d) (tb2 := a) (later2 := b) (later := later) z F.ta F.tl (ts := ts) (tbc := tb) (tbc2 := a) (ed := none) (row := [.mom]) (vs := [o]) (lk := []) (k := 0) ok rfl (fun _ _ => rfl) F.ta.len (fun _ _ h => nomatch h) (.inl rfl) he F.like
    (by rw [followL_fst]; exact hu) F.ag
  have h2 := congrArg Prod.fst h
  have hm : mvV d [.mom] [o] = [o + d] := rfl
  rw [followL_fst, followL_fst, hm] at h2
  exact h2
/-! ### the early world -/
def eT (zs : Zs) (lk : List Lk) (p : Nat) : Tb := (earlyT (getZ zs p).1 (getZ zs p).2 (srtP (firstM lk p))).getD (0, [])
def eN (zs : Zs) (lk : List Lk) (p : Nat) (n : Int) : Tb := (earlyT (getZ zs p).1 (getZ zs p).2 (srtP (laterM lk p n))).getD (0, [])
def eL (zs : Zs) (lk : List Lk) (now : Nat → Option Int) (p : Nat) : Tb := match now p with
  | none => eT zs lk p
  | some n => eN zs lk p n
end
end Dm
-- text HmEworld
namespace Dm
open PySem L2
end Dm
-- text HmCas1
namespace Dm
open PySem L2
section
variable {S : Sto} {zs : Zs} {os : List Int} {s m : Int} {lk : List Lk} {p : Nat} {now : Option Int} {ts : List Stp} {vs : List Int}
/-! ### cases: the small functions -/
def sideM (lk : List Lk) (p : Nat) (e : Int) : List (Int × Int) := (lk.filter fun x : Lk => decide (x.1 = (p : Int) ∧ x.2.1 = e)).map mkP
def laterL (lk : List Lk) (p : Nat) (n : Int) : List (Int × Int) := ((srtP (sideM lk p 0)).filter fun x => decide (x.1 < n)) ++ srtP (sideM lk p 1)
def fitB (z : List Int × Int) (lk : List Lk) (p : Nat) (now : Option Int) : Bool := (crow z.2 (srtP (sideM lk p 0))).isNone && match now with
  | none => true
  | some n => (crow z.2 (laterL lk p n)).isNone
end
end Dm
-- text HmCas2
namespace Dm
open PySem L2
section
variable {S : Sto} {zs : Zs} {os : List Int} {s m : Int} {lk : List Lk} {p : Nat} {ts : List Stp} {vs : List Int} {now : Nat → Option Int}
/-! ### looks that can be looked at further -/
structure LkW (zs : Zs) (now : Nat → Option Int) (lk : List Lk) : Prop where
  nodup : lk.Nodup
  each : ∀ x, x ∈ lk → ∃ p : Nat, p < zs.length ∧ x.1 = (p : Int) ∧ x.2.2.2 ∈ (getZ zs p).1 ∧ (x.2.1 = 0 ∨ x.2.1 = 1 ∧ ∃ n, now p = some n ∧ n ≤ x.2.2.1)
  uniq : ∀ x, x ∈ lk → ∀ y, y ∈ lk → x.1 = y.1 → x.2.1 = y.2.1 → x.2.2.1 = y.2.2.1 → x = y
theorem LkW.nil : LkW zs now [] := ⟨.nil, (fun _ h => nomatch h), fun _ h => nomatch h⟩
theorem LkW.side (w : LkW zs now lk) (hp : p < zs.length) {e : Int} : LooksOK (getZ zs p).1 (srtP (sideM lk p e)) := by
  refine ⟨fun l hl => ?_, srt_asc ?_⟩
  · have := (srtP_perm _).mem_iff.mp hl
    obtain ⟨x, hx, rfl⟩ := List.mem_map.mp this
    obtain ⟨hx, hd⟩ := List.mem_filter.mp hx
    obtain ⟨h1, h2⟩ := of_decide_eq_true hd
    obtain ⟨p', hp', e1, e2, _⟩ := w.each x hx
    have : p' = p := by omega
    subst this
    exact e2
  · refine marks_apart w.nodup fun x y hx hy qx qy e => ?_
    obtain ⟨a1, a2⟩ := of_decide_eq_true qx
    obtain ⟨b1, b2⟩ := of_decide_eq_true qy
    exact w.uniq x hx y hy (by omega) (by omega) e
/-! ### the walks -/
end
end Dm
-- text HmCas3
namespace Dm
open PySem L2
section
variable {S : Sto} {zs : Zs} {os : List Int} {s m o : Int} {lk b : List Lk} {p : Nat} {ts : List Stp} {vs : List Int} {now now2 : Nat → Option Int} {ms : List Int}
/-! ### the cases, as lists -/
/-! ### what fits -/
def FitA (zs : Zs) (now : Nat → Option Int) (lk : List Lk) : Prop := ∀ p, p < zs.length → fitB (getZ zs p) lk p (now p) = true
/-! ### one look more -/
end
end Dm
-- text HmCas4
namespace Dm
open PySem L2
section
variable {S : Sto} {zs : Zs} {os : List Int} {s m o : Int} {lk b : List Lk} {p : Nat} {ts : List Stp} {vs : List Int} {now now2 : Nat → Option Int} {ms : List Int} {row : List Kd} {t : Stp} {tb : List Tb} {c : Nat}
/-! ### a value more -/
theorem LkW.grow (w : LkW zs now lk) (h : ∀ p, now2 p = now p ∨ now p = none) : LkW zs now2 lk := by
  refine ⟨w.nodup, fun x hx => ?_, w.uniq⟩
  obtain ⟨p, h1, h2, h3, h4⟩ := w.each x hx
  refine ⟨p, h1, h2, h3, ?_⟩
  rcases h4 with h4 | ⟨h4, n, h5, h6⟩
  · exact .inl h4
  · refine .inr ⟨h4, n, ?_, h6⟩
    rcases h p with h | h
    · rw [h]; exact h5
    · rw [h] at h5; cases h5
theorem FitA.grow (z : ZsOK zs) (w : LkW zs now lk) (f : FitA zs now lk) (h : ∀ p, now2 p = now p ∨ now p = none) : FitA zs now2 lk := by
  intro p hp
  rcases h p with h | h
  · rw [h]; exact f p hp
  · have h0 := f p hp
    unfold fitB at h0 ⊢
    rw [Bool.and_eq_true] at h0 ⊢
    refine ⟨h0.1, ?_⟩
    cases hn : now2 p with
    | none => rfl
    | some n =>
      simp only
      have hs : sideM lk p 1 = [] := by
        unfold sideM
        rw [List.map_eq_nil_iff, List.filter_eq_nil_iff]
        intro x hx hd
        obtain ⟨h1, h2⟩ := of_decide_eq_true hd
        obtain ⟨p', hp', e1, e2, e3⟩ := w.each x hx
        have : p' = p := by omega
        subst this
        rcases e3 with e3 | ⟨_, n', e4, _⟩
        · omega
        · rw [h] at e4; cases e4
      unfold laterL
      rw [hs]
      have e0 : srtP ([] : List (Int × Int)) = [] := rfl
      rw [e0, List.append_nil]
      have c0 : crow (getZ zs p).2 (srtP (sideM lk p 0)) = none := by simpa using h0.1
      have := crow_sub (ls' := (srtP (sideM lk p 0)).filter fun x => decide (x.1 < n)) (z.at hp) (w.side (e := 0) hp) ((w.side (e := 0) hp).asc.filter _) (fun x hx => (List.mem_filter.mp hx).1) c0
      rw [this]; rfl
end
end Dm
-- text HmCas5
namespace Dm
open PySem L2
end Dm
-- text HmCas6
namespace Dm
open PySem L2
end Dm
-- text HmCas7
namespace Dm
open PySem L2
/-! ### repr of nested data of bounded size -/
structure RpB (d : PyData) (w k : Nat) : Prop where
  sh : d.showable = true
  nd : d.hasDict = false
  len : d.shown.length ≤ w
  dp : d.depth ≤ k
theorem RpB.up {d : PyData} {w k w' k' : Nat} (h : RpB d w k) (hw : w ≤ w') (hk : k ≤ k') : RpB d w' k' := ⟨h.sh, h.nd, Nat.le_trans h.len hw, Nat.le_trans h.dp hk⟩
theorem RpB.ok {d : PyData} {w k : Nat} (h : RpB d w k) (hw : w ≤ 16777216) (hk : k ≤ 64) : reprOk d := by
  have h3 : sizeLine = 16777216 := rfl
  exact ⟨h.sh, h.nd, by have := h.len; omega, Nat.le_trans h.dp hk⟩
/-! ### cases as data -/
/-! ### the cases of a program: bounds -/
end Dm
-- text HmCas8
namespace Dm
open PySem L2
end Dm
-- text HmOdo
namespace Dm
/-! ### all choices, one after another -/
inductive Ch (α : Type) : Type
  | ret (a : α) : Ch α
  | pick (n : Nat) (f : Nat → Ch α) : Ch α
namespace Ch
variable {α β : Type}
def run : Ch α → List (Nat × Nat) → α × List (Nat × Nat)
  | ret a, _ => (a, [])
  | pick n f, row => ((run (f (min (row.headD (0, 0)).1 (n - 1))) row.tail).1, (min (row.headD (0, 0)).1 (n - 1), n) :: (run (f (min (row.headD (0, 0)).1 (n - 1))) row.tail).2)
def bind : Ch α → (α → Ch β) → Ch β
  | ret a, g => g a
  | pick n f, g => pick n fun j => bind (f j) g
end Ch
end Dm
-- text HmRow1
namespace Dm
open PySem L2
end Dm
-- text HmRow2
namespace Dm
open PySem L2
end Dm
-- text HmRow3
namespace Dm
open PySem L2
end Dm
-- text HmRow4
namespace Dm
open PySem L2
end Dm
-- text HmRow5
namespace Dm
open PySem L2
end Dm
-- text HmRow6
namespace Dm
open PySem L2
end Dm
-- text HmRow7
namespace Dm
open PySem L2
/-! ### the next row -/
end Dm
-- text HmRow8
namespace Dm
open PySem L2
end Dm
-- text M_k30
namespace Dm
open PySem L2
end Dm
-- text HmMs3
set_option maxHeartbeats 1000000
namespace Dm
open PySem L2
/-! ### a program drawn (k73 to k77) -/
section
variable {S : Sto} {n p : Nat} {row : List Kd} {zs : Zs} {ts : List Stp} {t : Stp}
/-- the finds that may have come ahead of one more -/
def fdMost (zs : Zs) (most : Int) : Int := if most < 8 ∧ mxI (zs.map fun z => (z.1.length : Int)) > 2 then 0 else 1
/-- a step that may be an add on a value of any kind -/
def PreOK (nz : Nat) (row : List Kd) (t : Stp) : Prop := t.OK nz row ∨ ∃ i m, t = .add i m ∧ i < row.length ∧ -100000 ≤ m ∧ m ≤ 100000
theorem row_zero : ∀ {ts : List Stp} {row : List Kd}, row[0]? = some .mom → (kindsFrom row ts)[0]? = some .mom
  | [], _, h => h
  | t :: ts, row, h => row_zero (ts := ts) (by rw [List.getElem?_append_left (List.getElem?_eq_some_iff.mp h).1]; exact h)
theorem make_steps_does {most : Int} {ed : Bool} {Q : D → Sto → Prop} (hp : Pot p S) (z : ZsOK zs) (hm : 1 ≤ most) (hm8 : most ≤ 8)
    (q : ∀ ts S', Go p S S' → ProgOK zs.length ts → cnt Stp.isConv ts ≤ most → cnt Stp.isFind ts ≤ fdMost zs most + 1 → (ed = false → cnt Stp.isEd ts = 0) → Q (progD ts) S') :
    (m_law_make_steps [.cell p, zonesD zs, .int most, .bl ed] S).Does Q := by
  have hz : 1 ≤ zs.length ∧ zs.length ≤ 2 := by rcases z.len with h | h <;> omega
  have lz : ∀ S, gLen S [zonesD zs] = some (.int zs.length) := fun S => by simp [zonesD]
  have hfd : 0 ≤ fdMost zs most ∧ fdMost zs most ≤ 1 := by unfold fdMost; split <;> omega
  refine does_def rfl ?_
  refine seq_cut (fun ρ S' => S = S' ∧ ρ = [some (.cell p), some (zonesD zs), some (.int most), some (.bl ed), some (.int (fdMost zs most)), none, none, none, none, none, none, none, none, none]) (fun M hM => ?_) ?_
  · have hmx : gMax1 S [.lst (zs.map fun z : List Int × Int => D.int (z.1.length : Int))] = some (.int (mxI (zs.map fun z => (z.1.length : Int)))) := by
      refine gMax1_ints ?_ (by simp; omega)
      rw [List.map_map]; rfl
    by_cases h8 : most < 8
    · simp [h8, zonesD, wipeD]
      refine lcQ_filter (as := zs) (i := fun z : List Int × Int => zoneD z.1 z.2) (fun _ => true) (fun z : List Int × Int => D.int (z.1.length : Int)) ?_ ?_
      · intro x hx
        refine ⟨_, rfl, fun Q q => q, fun Q _ q => ?_⟩
        simp
        exact q
      · have e : (zs.filter fun _ : List Int × Int => true) = zs := List.filter_eq_self.mpr fun _ _ => rfl
        rw [e]
        have e2 : fdMost zs most = 1 - bI (decide (2 < mxI (zs.map fun z => (z.1.length : Int)))) := by
          unfold fdMost
          by_cases c : mxI (zs.map fun z => (z.1.length : Int)) > 2
          · rw [if_pos ⟨h8, c⟩, decide_eq_true c]; rfl
          · rw [if_neg fun h => c h.2, decide_eq_false c]; rfl
        simp [hmx]
        refine hM _ _ ⟨rfl, ?_⟩
        rw [e2]
        by_cases c : 2 < mxI (zs.map fun z => (z.1.length : Int)) <;> simp [c, zonesD] <;> rfl
    · have e : fdMost zs most = 1 := by
        unfold fdMost
        rw [if_neg fun h => h8 h.1]
      simp [h8]
      exact hM _ _ ⟨rfl, by rw [e]⟩
  rintro ρ _ ⟨rfl, rfl⟩
  revert q hfd
  generalize fdMost zs most = fd
  intro q hfd
  -- the first step
  refine seq_cut (fun ρ S' => ∃ (n : Nat) (ts : List Stp), S.length ≤ n ∧ S'[n]? = some (.lst (ts.map Stp.d)) ∧ Go p S S' ∧ ts.length ≤ 1 ∧ ProgFrom zs.length [.mom] ts ∧ cnt Stp.isConv ts ≤ most ∧ cnt Stp.isFind ts ≤ 0 ∧ cnt Stp.isEd ts = 0 ∧ ρ = [some (.cell p), some (zonesD zs), some (.int most), some (.bl ed), some (.int fd), some (.cell n), none, none, none, none, none, none, none, none]) (fun M hM => ?_) ?_
  · simp [lz]
    refine draw_does hp (by omega) (by omega) fun c S1 g1 r0 r1 => ?_
    refine draw_does g1.pot (by omega) (by omega) fun c2 S2 g2 s0 s1 => ?_
    obtain ⟨pl, rfl⟩ : ∃ pl : Nat, c = pl := ⟨c.toNat, by omega⟩
    have g := (g1.trans g2).push (.lst (if c2 = 0 then [] else [(Stp.read 0 pl).d]))
    have hl := hp.lt
    have l2 := (g1.trans g2).len
    by_cases h : c2 = 0
    · subst h
      have e : cutD [D.tup [.str "read", .int 0, .int pl]] none (some 0) = [] := rfl
      simp [e]
      rw [if_pos rfl] at g
      exact hM _ _ ⟨_, [], by omega, by simp, g, by simp, trivial, by simp [cnt]; omega, by simp [cnt], by simp [cnt], rfl⟩
    · have e : cutD [D.tup [.str "read", .int 0, .int pl]] none (some c2) = [D.tup [.str "read", .int 0, .int pl]] := by
        rw [cut_take s0]
        exact List.take_of_length_le (by simp; omega)
      simp [e]
      rw [if_neg h] at g
      exact hM _ _ ⟨_, [.read 0 pl], by omega, by simp [Stp.d], g, by simp, ⟨⟨rfl, by omega⟩, trivial⟩, (show cnt Stp.isConv [Stp.read 0 pl] ≤ most from hm), by simp [cnt, Stp.isFind], by simp [cnt, Stp.isEd], rfl⟩
  rintro ρ S1 ⟨n, ts1, hnl, h1, g1, hl1, ok1, hc1, hf1, he1, rfl⟩
  have hnp : n ≠ p := by have := hp.lt; omega
  refine seq_cut (fun ρ S' => ∃ (ts : List Stp) (x6 x7 x8 x9 x10 x11 x12 x13 : Option D), S'[n]? = some (.lst (ts.map Stp.d)) ∧ Go p S S' ∧ ts.length ≤ 8 ∧ ProgFrom zs.length [.mom] ts ∧ cnt Stp.isConv ts ≤ most ∧ cnt Stp.isFind ts ≤ fd + 1 ∧ cnt Stp.isEd ts ≤ 1 ∧ (ed = false → cnt Stp.isEd ts = 0) ∧ ρ = [some (.cell p), some (zonesD zs), some (.int most), some (.bl ed), some (.int fd), some (.cell n), x6, x7, x8, x9, x10, x11, x12, x13]) (fun M hM => ?_) ?_
  · rw [does_for]
    simp [gLen_cell h1]
    refine draw_does g1.pot (by decide) (by decide) fun c S2 g2 r0 r1 => ?_
    have h2 := g2.get h1 hnp
    simp
    refine ⟨by omega, ?_⟩
    refine forL_cut (fun ds ρ S' => ∃ (k m : Nat) (ts : List Stp) (x6 x7 x8 x9 x10 x11 x12 x13 : Option D), ds = rngD (k : Int) m ∧ ts.length + m ≤ 8 ∧ S'[n]? = some (.lst (ts.map Stp.d)) ∧ Go p S S' ∧ ProgFrom zs.length [.mom] ts ∧ cnt Stp.isConv ts ≤ most ∧ cnt Stp.isFind ts ≤ fd + 1 ∧ cnt Stp.isEd ts ≤ 1 ∧ (ed = false → cnt Stp.isEd ts = 0) ∧ ρ = [some (.cell p), some (zonesD zs), some (.int most), some (.bl ed), some (.int fd), some (.cell n), x6, x7, x8, x9, x10, x11, x12, x13]) _
      ⟨0, _, ts1, none, none, none, none, none, none, none, none, rfl, by omega, h2, g1.trans g2, ok1, hc1, by omega, by omega, fun _ => he1, rfl⟩ ?_ ?_
    · rintro d ds ρ S3 ⟨k, m, ts, x6, x7, x8, x9, x10, x11, x12, x13, e, hlen, h3, g3, ok, hc, hf, he, hen, rfl⟩
      cases m with
      | zero => cases e
      | succ j =>
        rw [rngD_cons] at e
        injection e with e1 e2
        subst e1
        refine ⟨_, rfl, fun M hM => ?_⟩
        have hlr : (kindsFrom [.mom] ts).length = ts.length + 1 := by rw [kindsFrom_length]; simp; omega
        have hmem : Kd.mom ∈ kindsFrom [.mom] ts := kindsFrom_mem (by simp)
        have hr0 : (kindsFrom [.mom] ts)[0]? = some .mom := row_zero rfl
        refine seq_cut (fun ρ S' => ∃ t, Stp.OK zs.length (kindsFrom [.mom] ts) t ∧ S'[n]? = some (.lst (ts.map Stp.d)) ∧ Go p S S' ∧ ρ = [some (.cell p), some (zonesD zs), some (.int most), some (.bl ed), some (.int fd), some (.cell n), some (.int k), some t.d, x8, x9, x10, x11, x12, x13]) (fun M hM => ?_) ?_
        · simp
          refine sortsC_does h3 ok (by omega) fun S4 g4 l4 h4 => ?_
          have hp4 := g4.go g3.pot
          refine make_step_does hp4.pot z h4 (by have := g3.pot.lt; omega) hmem (by omega) fun t S5 g5 htk => ?_
          exact hM _ _ ⟨t, htk, g5.get (g4.get h3) hnp, g3.trans (hp4.trans g5), rfl⟩
        rintro ρ S4 ⟨t, htk, h4, g4, rfl⟩
        refine seq_cut (fun ρ S' => S4 = S' ∧ ρ = [some (.cell p), some (zonesD zs), some (.int most), some (.bl ed), some (.int fd), some (.cell n), some (.int k), some t.d, some (wdsD ts), x9, x10, x11, x12, x13]) (fun M hM => ?_) ?_
        · simp [seqOf_cell h4, wipeD]
          refine lcAQ_ext (fun S' => S4 = S') (fun _ => true) (fun t : Stp => D.str t.wd) (i := Stp.d) (as := ts) rfl (fun S' h => by subst h; rw [seqOf_cell h4]) rfl (fun t _ S1 h => ?_) (fun S' h => ?_)
          · subst h
            refine ⟨_, rfl, by simp, fun S2 h2 ht => ?_⟩
            simp [wd_ix]
            exact h2
          · subst h
            rw [List.filter_eq_self.mpr (fun _ _ => rfl)]
            exact hM _ _ ⟨rfl, rfl⟩
        rintro ρ _ ⟨rfl, rfl⟩
        refine seq_cut (fun ρ S' => S4 = S' ∧ ρ = [some (.cell p), some (zonesD zs), some (.int most), some (.bl ed), some (.int fd), some (.cell n), some (.int k), some t.d, some (wdsD ts), some (.int (cnt Stp.isConv ts)), x10, x11, x12, x13]) (fun M hM => ?_) ?_
        · simp [wdsD, wipeD]
          try rw [lcAQ_fix (.inr rfl) (by simp)]
          refine lcQ_filter (as := ts) (i := fun t : Stp => D.str t.wd) Stp.isConv (fun t : Stp => D.str t.wd) (fun t _ => ⟨_, rfl, fun Q q => ?_, fun Q _ q => ?_⟩) ?_
          · simp [wd_conv]
            exact q
          · simp
            exact q
          · simp
            exact hM _ _ ⟨rfl, by simp [wdsD, cnt]⟩
        rintro ρ _ ⟨rfl, rfl⟩
        -- too many conversions
        refine seq_cut (fun ρ S' => ∃ t, PreOK zs.length (kindsFrom [.mom] ts) t ∧ (t.isConv = true → cnt Stp.isConv ts + 1 ≤ most) ∧ S'[n]? = some (.lst (ts.map Stp.d)) ∧ Go p S S' ∧ ρ = [some (.cell p), some (zonesD zs), some (.int most), some (.bl ed), some (.int fd), some (.cell n), some (.int k), some t.d, some (wdsD ts), some (.int (cnt Stp.isConv ts)), x10, x11, x12, x13]) (fun M hM => ?_) ?_
        · rw [does_ifS]
          have hlen4 : gLen S4 [.cell n] = some (.int ts.length) := by rw [gLen_cell h4, List.length_map]
          have stay : (t.isConv = true → cnt Stp.isConv ts + 1 ≤ most) → M [some (.cell p), some (zonesD zs), some (.int most), some (.bl ed), some (.int fd), some (.cell n), some (.int k), some t.d, some (wdsD ts), some (.int (cnt Stp.isConv ts)), x10, x11, x12, x13] S4 := fun h => hM _ _ ⟨t, .inl htk, h, h4, g4, rfl⟩
          simp [wd_ix, wd_conv]
          by_cases c1 : t.isConv = true
          · by_cases c2 : most ≤ cnt Stp.isConv ts
            · simp [c1, c2, hlen4]
              refine draw_does g4.pot (by decide) (by decide) fun c S5 g5 r0 r1 => ?_
              have km : CMulW 2 c := cmulw64 (by omega) (by omega)
              simp [km]
              refine hM _ _ ⟨.add ts.length (1 - 2 * c), .inr ⟨_, _, rfl, by omega, by omega, by omega⟩, (fun h => nomatch h), g5.get h4 hnp, g4.trans g5, rfl⟩
            · simp [c1, c2]
              exact stay fun _ => by omega
          · simp [c1]
            exact stay fun h => absurd h c1
        clear htk t g4 h4 S4
        rintro ρ S4 ⟨t, hpre, hcv, h4, g4, rfl⟩
        -- a second edition
        refine seq_cut (fun ρ S' => ∃ t, PreOK zs.length (kindsFrom [.mom] ts) t ∧ (t.isConv = true → cnt Stp.isConv ts + 1 ≤ most) ∧ (t.isEd = true → ed = true ∧ cnt Stp.isEd ts = 0) ∧ S'[n]? = some (.lst (ts.map Stp.d)) ∧ Go p S S' ∧ ρ = [some (.cell p), some (zonesD zs), some (.int most), some (.bl ed), some (.int fd), some (.cell n), some (.int k), some t.d, some (wdsD ts), some (.int (cnt Stp.isConv ts)), x10, x11, x12, x13]) (fun M hM => ?_) ?_
        · have stay : (t.isEd = true → ed = true ∧ cnt Stp.isEd ts = 0) → M [some (.cell p), some (zonesD zs), some (.int most), some (.bl ed), some (.int fd), some (.cell n), some (.int k), some t.d, some (wdsD ts), some (.int (cnt Stp.isConv ts)), x10, x11, x12, x13] S4 := fun h => hM _ _ ⟨t, hpre, hcv, h, h4, g4, rfl⟩
          rw [does_ifS]
          have hany : ts.any Stp.isEd = decide (cnt Stp.isEd ts ≠ 0) := by
            unfold cnt
            rw [Bool.eq_iff_iff]
            simp [List.any_eq_true]
          obtain ⟨b, hb⟩ : ∃ b, ts.any Stp.isEd = b := ⟨_, rfl⟩
          rw [hb] at hany
          simp [wd_ix, wd_ed, wds_ed, hb]
          by_cases c1 : t.isEd = true
          · have sw : ∀ i pl, t = .edition i pl → M [some (.cell p), some (zonesD zs), some (.int most), some (.bl ed), some (.int fd), some (.cell n), some (.int k), some (D.tup [.str "read", .int i, .int pl]), some (wdsD ts), some (.int (cnt Stp.isConv ts)), x10, x11, x12, x13] S4 := by
              intro i pl e
              subst e
              rcases hpre with h | ⟨_, _, e, _⟩
              · exact hM _ _ ⟨.read i pl, .inl h, (fun h => hcv rfl), (fun h => nomatch h), h4, g4, rfl⟩
              · cases e
            cases t with
            | edition i pl =>
              cases ed with
              | false =>
                simp [Stp.isEd, Stp.d]
                exact sw i pl rfl
              | true =>
                simp [Stp.isEd, Stp.d]
                cases b with
                | true =>
                  simp
                  exact sw i pl rfl
                | false =>
                  simp
                  exact stay fun _ => ⟨rfl, by simpa using hany⟩
            | _ => cases c1
          · simp [c1]
            exact stay fun h => absurd h c1
        clear hpre hcv t g4 h4 S4
        rintro ρ S4 ⟨t, hpre, hcv, hed, h4, g4, rfl⟩
        -- too many finds
        refine seq_cut (fun ρ S' => ∃ t, PreOK zs.length (kindsFrom [.mom] ts) t ∧ (t.isConv = true → cnt Stp.isConv ts + 1 ≤ most) ∧ (t.isEd = true → ed = true ∧ cnt Stp.isEd ts = 0) ∧ (t.isFind = true → cnt Stp.isFind ts ≤ fd) ∧ S'[n]? = some (.lst (ts.map Stp.d)) ∧ Go p S S' ∧ ρ = [some (.cell p), some (zonesD zs), some (.int most), some (.bl ed), some (.int fd), some (.cell n), some (.int k), some t.d, some (wdsD ts), some (.int (cnt Stp.isConv ts)), x10, x11, x12, x13]) (fun M hM => ?_) ?_
        · have stay : (t.isFind = true → cnt Stp.isFind ts ≤ fd) → M [some (.cell p), some (zonesD zs), some (.int most), some (.bl ed), some (.int fd), some (.cell n), some (.int k), some t.d, some (wdsD ts), some (.int (cnt Stp.isConv ts)), x10, x11, x12, x13] S4 := fun h => hM _ _ ⟨t, hpre, hcv, hed, h, h4, g4, rfl⟩
          rw [does_ifS]
          simp [wd_ix, wd_find]
          by_cases c1 : t.isFind = true
          · cases t with
            | find i pl f g =>
              have hfd2 : gLt S4 (.int fd) (.int (cnt Stp.isFind ts)) = some (.bl (decide (fd < cnt Stp.isFind ts))) := by simp
              have h2 := wds_cnt (ts := ts)
              rw [List.countP_map] at h2
              simp [Stp.isFind, Stp.d, wdsD]
              rw [h2]
              by_cases c2 : fd < cnt Stp.isFind ts
              · simp [c2]
                refine hM _ _ ⟨.add i 1, .inl ?_, (fun h => nomatch h), (fun h => nomatch h), (fun h => nomatch h), h4, g4, rfl⟩
                rcases hpre with h | ⟨_, _, e, _⟩
                · exact ⟨.inr h.1, by omega, by omega⟩
                · cases e
              · simp [c2]
                exact stay fun _ => by omega
            | _ => cases c1
          · simp [c1]
            exact stay fun h => absurd h c1
        clear hpre hcv hed t g4 h4 S4
        rintro ρ S4 ⟨t, hpre, hcv, hed, hfi, h4, g4, rfl⟩
        -- an add to a span
        refine seq_cut (fun ρ S' => ∃ t, Stp.OK zs.length (kindsFrom [.mom] ts) t ∧ (t.isConv = true → cnt Stp.isConv ts + 1 ≤ most) ∧ (t.isEd = true → ed = true ∧ cnt Stp.isEd ts = 0) ∧ (t.isFind = true → cnt Stp.isFind ts ≤ fd) ∧ S'[n]? = some (.lst (ts.map Stp.d)) ∧ Go p S S' ∧ ρ = [some (.cell p), some (zonesD zs), some (.int most), some (.bl ed), some (.int fd), some (.cell n), some (.int k), some t.d, some (wdsD ts), some (.int (cnt Stp.isConv ts)), x10, x11, x12, x13]) (fun M hM => ?_) ?_
        · rw [does_ifS]
          simp [wd_ix, wd_add]
          by_cases c1 : t.isAdd = true
          · cases t with
            | add i m =>
              simp [Stp.isAdd, Stp.d]
              refine sortsC_does h4 ok (by omega) fun S5 g5 l5 h5 => ?_
              have hh : i < (kindsFrom [.mom] ts).length ∧ -100000 ≤ m ∧ m ≤ 100000 := by
                rcases hpre with h | ⟨i', m', e, h⟩
                · refine ⟨?_, h.2⟩
                  rcases h.1 with h | h <;> exact (List.getElem?_eq_some_iff.mp h).1
                · cases e; exact h
              have e := List.getElem?_eq_getElem hh.1
              obtain ⟨kd, hk⟩ : ∃ kd, (kindsFrom [.mom] ts)[i] = kd := ⟨_, rfl⟩
              rw [hk] at e
              obtain ⟨r1, r2, r3⟩ := row_at h5 e
              have g45 := g5.go g4.pot
              simp [r1]
              cases kd with
              | spn =>
                simp [Kd.s]
                exact hM _ _ ⟨.add 0 m, ⟨.inl hr0, hh.2⟩, (fun h => nomatch h), (fun h => nomatch h), (fun h => nomatch h), g5.get h4, g4.trans g45, rfl⟩
              | mom =>
                simp (decide := true) [Kd.s]
                exact hM _ _ ⟨.add i m, ⟨.inl e, hh.2⟩, (fun h => nomatch h), (fun h => nomatch h), (fun h => nomatch h), g5.get h4, g4.trans g45, rfl⟩
              | rdg =>
                simp (decide := true) [Kd.s]
                exact hM _ _ ⟨.add i m, ⟨.inr e, hh.2⟩, (fun h => nomatch h), (fun h => nomatch h), (fun h => nomatch h), g5.get h4, g4.trans g45, rfl⟩
            | _ => cases c1
          · simp [c1]
            rcases hpre with h | ⟨_, _, e, _⟩
            · exact hM _ _ ⟨t, h, hcv, hed, hfi, h4, g4, rfl⟩
            · subst e; exact absurd rfl c1
        clear hpre hcv hed hfi t g4 h4 S4
        rintro ρ S4 ⟨t, htk, hcv, hed, hfi, h4, g4, rfl⟩
        simp [h4]
        have hb : ∀ {f : Stp → Bool} {x : Int}, (f t = true → cnt f ts + 1 ≤ x) → cnt f ts ≤ x → cnt f (ts ++ [t]) ≤ x := by
          intro f x h1 h2
          rw [cnt_snoc]
          cases hft : f t with
          | true => have := h1 hft; simp [bI]; omega
          | false => simp [bI]; omega
        refine ⟨by omega, hM _ _ ⟨k + 1, j, ts ++ [t], _, _, _, _, _, _, _, _, by rw [e2]; simp, by simp; omega, ?_, Go.setNew hp g4 hnl _, progFrom_snoc ok htk, hb hcv hc, hb (fun h => by have := hfi h; omega) hf, hb (fun h => by have := hed h; omega) he, fun h0 => ?_, rfl⟩⟩
        · have ln := (List.getElem?_eq_some_iff.mp h4).1
          rw [List.getElem?_set_self ln, List.map_append] <;> rfl
        · have h1 := hen h0
          rw [cnt_snoc, h1]
          cases hft : t.isEd with
          | true => have := hed hft; rw [h0] at this; exact absurd this.1 (by decide)
          | false => rfl
    · rintro ρ S3 ⟨k, m, ts, x6, x7, x8, x9, x10, x11, x12, x13, e, hlen, h3, g3, ok, hc, hf, he, hen, rfl⟩
      exact hM _ _ ⟨ts, _, _, _, _, _, _, _, _, h3, g3, by omega, ok, hc, hf, he, hen, rfl⟩
  rintro ρ S3 ⟨ts, x6, x7, x8, x9, x10, x11, x12, x13, h3, g3, hlen, ok, hc, hf, he, hen, rfl⟩
  simp [gTuple_cell h3]
  exact q ts S3 g3 ⟨hlen, ok, by unfold cnt at he; omega⟩ hc hf hen
end
end Dm
-- text HmMs4
set_option maxHeartbeats 1000000
namespace Dm
open PySem L2
/-! ### a run caught (k73 to k77) -/
/-- what a run is told as -/
def FinS (S : Sto) (d : D) : Fin → Prop
  | .done vs => vs.length ≤ 9 ∧ ∃ n, d = .tup [.str "values", .cell n] ∧ S[n]? = some (.lst (vs.map .int))
  | .refused _ k => d = .tup [.str "refused", .int k]
  | .unsuited => d = .tup [.str "unsuited", .bl true]
section
variable {S : Sto} {zs : Zs} {tb later : List Tb} {ts : List Stp} {p : Nat} {os : List Int} {s : Int}
theorem follow_len {ag : Tb → Tb → Int → Bool} : ∀ {ts : List Stp} {tb : List Tb} {k : Nat} {vs ws : List Int}, followS ag zs later tb k vs ts = .done ws → ws.length = vs.length + ts.length
  | [], _, _, _, _, h => by cases h; rfl
  | t :: ts, tb, k, vs, ws, h => by
    rw [followS] at h
    split at h
    · cases h
    · cases e : stepV zs tb vs t with
      | none => rw [e] at h; cases h
      | some v =>
        rw [e] at h
        have := follow_len h
        simp at this ⊢
        omega
theorem FinS.grow {S S' : Sto} {d : D} {f : Fin} (g : Grow S S') (h : FinS S d f) : FinS S' d f := by
  cases f with
  | done vs => obtain ⟨hl, n, e, h⟩ := h; exact ⟨hl, n, e, g.get h⟩
  | refused vs k => exact h
  | unsuited => exact h
theorem FinS.eqv {d e : D} {f : Fin} (h : FinS S d f) (h' : FinS S e f) : Eqv S 29 d e := by
  cases f with
  | done vs =>
    obtain ⟨hl, n, rfl, h⟩ := h
    obtain ⟨_, n', rfl, h'⟩ := h'
    refine .tup rfl (by simp) ?_
    intro i d e hd he
    match i with
    | 0 => cases hd; cases he; exact .str
    | 1 =>
      cases hd; cases he
      refine .lst (ds := vs.map .int) (es := vs.map .int) ?_ ?_ rfl (by simp; omega) ?_
      · simp [lstOf, h]
      · simp [lstOf, h']
      · intro j d e hd he
        rw [hd] at he
        cases he
        rw [List.getElem?_map] at hd
        cases e0 : vs[j]? with
        | none => rw [e0] at hd; cases hd
        | some v => rw [e0] at hd; cases hd; exact .int
    | i + 2 => cases hd
  | refused vs k =>
    subst h h'
    refine .tup rfl (by simp) ?_
    intro i d e hd he
    match i with
    | 0 => cases hd; cases he; exact .str
    | 1 => cases hd; cases he; exact .int
    | i + 2 => cases hd
  | unsuited =>
    subst h h'
    refine .tup rfl (by simp) ?_
    intro i d e hd he
    match i with
    | 0 => cases hd; cases he; exact .str
    | 1 => cases hd; cases he; exact .bl
    | i + 2 => cases hd
theorem ran_v2_does {st : Int} {Q : D → Sto → Prop} (z : ZsOK zs) (hok : ProgOK zs.length ts) (tk : TbsOK zs tb) (tl : TbsOK zs later) (q : ∀ S' d, Grow S S' → FinS S' d (followS agP zs later tb 0 [st] ts) → Q d S') :
    (m_law_ran_v2 [zonesD zs, progD ts, worldD tb later, .int st] S).Does Q := by
  refine does_def rfl ?_
  simp
  refine run_does z hok tk tl ?_
  cases e : followS agP zs later tb 0 [st] ts with
  | done vs =>
    intro S' n g hn hc
    rw [e] at q
    have := follow_len e
    have hl := hok.len
    exact q _ _ g ⟨by simp at this; omega, _, rfl, hc⟩
  | refused vs k =>
    intro S' g
    rw [e] at q
    refine ⟨[("step", (k : Int))], rfl, by simp, ?_⟩
    have h1 : xSub "Refused" "HourError" = true := by decide +kernel
    have h2 : xSub "Refused" "Refused" = true := by decide +kernel
    simp (decide := true) [h1, setI, clearI, gIsX, isNon, h2]
    exact q _ _ g rfl
  | unsuited =>
    intro S' g
    rw [e] at q
    refine ⟨[], rfl, by simp, ?_⟩
    have h1 : xSub "Unsuited" "HourError" = true := by decide +kernel
    have h2 : xSub "Unsuited" "Refused" = false := by decide +kernel
    have h3 : xSub "Unsuited" "Unsuited" = true := by decide +kernel
    simp (decide := true) [h1, setI, clearI, gIsX, isNon, h2, h3]
    exact q _ _ g rfl
/-! ### tables unlike ahead of a moment -/
theorem ne_jmps {l l' : List (Int × Int)} : gNe S (.lst (l.map jmpD)) (.lst (l'.map jmpD)) = some (.bl (!decide (l = l'))) := by
  have e1 : ∀ (l : List (Int × Int)), toPyS S (.lst (l.map jmpD)) = some (.list (l.map jmpPy)) := by
    intro l
    simp only [toPyS, toPy, toPys, jmps_py, Option.bind_some, Option.map_some]
  have s1 : ∀ (l : List (Int × Int)), SeqAt.shaped (.list (l.map jmpPy)) = true := by
    intro l
    have h2 := jmps_depth l
    unfold SeqAt.shaped
    simp only [PyData.canLay0, PyData.canLayAll0, jmps_lay, PyData.depth, PyData.depthAll, Bool.and_self, Bool.true_and]
    exact decide_eq_true (by omega)
  unfold gNe eqD
  simp only [e1]
  rw [if_pos ⟨s1 _, s1 _⟩]
  simp only [PyData.eqv, jmps_eqv]
  by_cases h2 : l = l' <;> simp [h2]
theorem unlike_does {m : Int} {c : Nat} {Q : D → Sto → Prop} (hc : c < tb.length) (hl : later.length = tb.length) (q : Q (.bl (!agP (getT tb c) (getT later c) m)) S) :
    (m_law_unlike_ahead [worldD tb later, .int c, .int m] S).Does Q := by
  refine does_def rfl ?_
  have i2 : atI (tb.map Tb.d) (c : Int) = some (getT tb c).d := ix_tabs hc
  have i3 : atI (later.map Tb.d) (c : Int) = some (getT later c).d := ix_tabs (by omega)
  refine seq_cut (fun ρ S' => S = S' ∧ ∃ x4 x5, ρ = [some (worldD tb later), some (.int c), some (.int m), some (.lst [.lst ((aheadJ (getT tb c).2 m).map jmpD), .lst ((aheadJ (getT later c).2 m).map jmpD)]), x4, x5]) (fun M hM => ?_) ?_
  · have one : ∀ (js : List (Int × Int)) (x0 x4 : Option D) (Q : List D → Sto → Prop), Q ((aheadJ js m).map jmpD) S → LcQ (tgN 5) (mOp gLt (mOp gIx (mVar 5) (mK (.int 0))) (mVar 2)) (mVar 5) [x0, some (.int c), some (.int m), none, x4, none] (js.map jmpD) S Q := by
      intro js x0 x4 Q q
      refine lcQ_filter (as := js) (i := jmpD) (fun j : Int × Int => decide (j.1 < m)) jmpD (fun j hj => ⟨_, rfl, fun Q q => ?_, fun Q _ q => ?_⟩) q
      · simp
        exact q
      · simp
        exact q
    simp [worldD, wipeD]
    rw [lcAQ_fix (n := 2) (ds := [D.tup (tb.map Tb.d), D.tup (later.map Tb.d)]) (.inl rfl) rfl]
    simp [i2, Tb.d, wipeD]
    refine one _ _ _ _ ?_
    simp [i3, Tb.d, wipeD]
    refine one _ _ _ _ ?_
    exact hM _ _ ⟨rfl, _, _, rfl⟩
  rintro ρ _ ⟨rfl, x4, x5, rfl⟩
  simp [worldD, i2, i3, Tb.d, ne_jmps]
  unfold agP at q
  by_cases h1 : (getT tb c).1 = (getT later c).1
  · simp [h1] at q ⊢
    exact q
  · simp [h1] at q ⊢
    exact q
/-! ### tables drawn near a start -/
theorem start_chart_does {st : Int} {Q : D → Sto → Prop} (hp : Pot p S) (z : ZoneOK os s) (q : ∀ h js S', Go p S S' → TabOK os s h js → js.length ≤ 60 → Q (tabD h js) S') : (m_law_start_chart [.cell p, zoneD os s, .int st] S).Does Q := by
  have E := z.ends
  have hw0 : 0 ≤ hiO os - loO os := by have := E.mem _ E.mb; omega
  have hw1 := E.w
  have hsp := z.sp
  refine does_def rfl ?_
  refine seq_cut (fun ρ S' => S = S' ∧ ρ = [some (.cell p), some (zoneD os s), some (.int st), some (.tup (os.map .int)), some (.int s), none, none, none, none, none, none, none]) (fun M hM => ?_) ?_
  · simp
    exact hM _ _ ⟨rfl, rfl⟩
  rintro ρ _ ⟨rfl, rfl⟩
  refine seq_cut (fun ρ S' => S = S' ∧ ρ = [some (.cell p), some (zoneD os s), some (.int st), some (.tup (os.map .int)), some (.int s), some (.int (hiO os - loO os)), none, none, none, none, none, none]) (fun M hM => ?_) ?_
  · simp [E.lo, E.hi]
    exact hM _ _ ⟨rfl, rfl⟩
  rintro ρ _ ⟨rfl, rfl⟩
  generalize hiO os - loO os = w at hw0 hw1
  refine seq_cut (fun ρ S' => ∃ h js, TabOK os s h js ∧ js.length ≤ 60 ∧ Go p S S' ∧ ρ = [some (.cell p), some (zoneD os s), some (.int st), some (.tup (os.map .int)), some (.int s), some (.int w), some (.int h), some (.tup (js.map jmpD)), none, none, none, none]) (fun M hM => ?_) ?_
  · simp
    refine make_chart_does hp z (by decide) (by decide) fun h js S1 g1 tk nr => ?_
    simp [tabD]
    exact hM _ _ ⟨h, js, tk, nr.1, g1, rfl⟩
  rintro ρ S1 ⟨h, js, tk, hl, g1, rfl⟩
  refine seq_cut (fun ρ S' => S1 = S' ∧ js ≠ [] ∧ ρ = [some (.cell p), some (zoneD os s), some (.int st), some (.tup (os.map .int)), some (.int s), some (.int w), some (.int h), some (.tup (js.map jmpD)), none, none, none, none]) (fun M hM => ?_) ?_
  · by_cases hj : js = []
    · simp [hj]
      subst hj
      exact q h [] S1 g1 tk (by simp)
    · simp [hj]
      exact hM _ _ ⟨rfl, hj, rfl⟩
  rintro ρ _ ⟨rfl, hne, rfl⟩
  have hpos : 0 < js.length := List.length_pos_iff.mpr hne
  refine seq_cut (fun ρ S' => ∃ a : Int, Go p S S' ∧ ρ = [some (.cell p), some (zoneD os s), some (.int st), some (.tup (os.map .int)), some (.int s), some (.int w), some (.int h), some (.tup (js.map jmpD)), some (.int a), none, none, none]) (fun M hM => ?_) ?_
  · simp
    refine draw_does g1.pot (by omega) (by omega) fun c S2 g2 r0 r1 => ?_
    have km : CMulW 2 w := cmulw64 (by omega) (by omega)
    simp [km]
    refine draw_does g2.pot (by omega) (by omega) fun c2 S3 g3 s0 s1 => ?_
    simp
    refine draw_does g3.pot (by decide) (by decide) fun c3 S4 g4 t0 t1 => ?_
    obtain ⟨x, hx, e⟩ := atI_memL (l := [D.int 0, .int 1, .int (-c), .int (c2 - w - 1)]) t0 (by simpa using t1)
    have hx2 : ∃ m, x = .int m := by
      simp only [List.mem_cons, List.not_mem_nil, or_false] at hx
      rcases hx with rfl | rfl | rfl | rfl <;> exact ⟨_, rfl⟩
    obtain ⟨m, rfl⟩ := hx2
    have e2 : gIx S4 (.lst [D.int 0, .int 1, .int (-c), .int (c2 - w - 1)]) (.int c3) = some (.int m) := e
    simp [e2]
    exact hM _ _ ⟨_, g1.trans (g2.trans (g3.trans g4)), rfl⟩
  rintro ρ S2 ⟨a, g2, rfl⟩
  refine seq_cut (fun ρ S' => ∃ d : Int, Go p S S' ∧ ρ = [some (.cell p), some (zoneD os s), some (.int st), some (.tup (os.map .int)), some (.int s), some (.int w), some (.int h), some (.tup (js.map jmpD)), some (.int a), some (.int d), none, none]) (fun M hM => ?_) ?_
  · simp
    refine draw_does g2.pot (by omega) (by omega) fun c S3 g3 r0 r1 => ?_
    obtain ⟨j, hj, e⟩ := atI_memL (l := js.map jmpD) r0 (by simpa using r1)
    obtain ⟨j, hj, rfl⟩ := List.mem_map.mp hj
    simp [e]
    exact hM _ _ ⟨_, g2.trans g3, rfl⟩
  rintro ρ S3 ⟨d, g3, rfl⟩
  simp [wipeD]
  refine lcQ_filter (as := js) (i := jmpD) (fun _ => true) (fun j => jmpD (mvJ d j)) (fun j hj => ⟨_, rfl, fun Q q => ?_, fun Q _ q => ?_⟩) ?_
  · simp
    exact q
  · simp
    exact q
  · have e : js.filter (fun _ => true) = js := List.filter_eq_self.mpr fun _ _ => rfl
    rw [e]
    have e2 : js.map (fun j => jmpD (mvJ d j)) = (js.map (mvJ d)).map jmpD := by simp
    have := q h (js.map (mvJ d)) S3 g3 ⟨tk.held, chain_mv (p := none) tk.chain⟩ (by simpa using hl)
    simpa [tabD, Function.comp_def] using this
theorem endA_at {h : Int} : ∀ {js : List (Int × Int)}, atI (D.int h :: js.map fun j => D.int j.2) (-1) = some (.int (endH h js)) := by
  intro js
  by_cases hn : js = []
  · subst hn; rfl
  · obtain ⟨r, ⟨t, o⟩, rfl⟩ : ∃ r j, js = r ++ [j] := by
      refine ⟨js.take (js.length - 1), js.getLast hn, ?_⟩
      have := List.dropLast_concat_getLast hn
      rw [List.dropLast_eq_take] at this
      exact this.symm
    rw [endH_snoc]
    have h1 : (0 : Int) ≤ -1 + ((r.length : Int) + 1 + 1) := by omega
    have h2 : (-1 + ((r.length : Int) + 1 + 1)).toNat = r.length + 1 := by omega
    have h3 : (1 : Int) ≤ (r.length : Int) + 1 + 1 := by omega
    simp [atI, ixN, h1, h2, h3]
theorem endP_mem {q : Int} : ∀ {js : List (Int × Int)} {p : Option Int}, endP p js = some q → p = some q ∨ ∃ j, j ∈ js ∧ j.1 = q
  | [], _, h => .inl h
  | (m, o) :: r, p, h => by
    rcases endP_mem (js := r) h with h | ⟨j, hj, e⟩
    · cases h; exact .inr ⟨_, List.mem_cons_self, rfl⟩
    · exact .inr ⟨j, List.mem_cons_of_mem _ hj, e⟩
theorem later_chart_does {st h : Int} {js : List (Int × Int)} {Q : D → Sto → Prop} (hp : Pot p S) (z : ZoneOK os s) (tk : TabOK os s h js) (hl : js.length ≤ 60) (q : ∀ h js S', Go p S S' → TabOK os s h js → js.length ≤ 61 → Q (tabD h js) S') : (m_law_later_chart [.cell p, zoneD os s, tabD h js, .int st] S).Does Q := by
  have hsp := z.sp
  have hll := z.len
  refine does_def rfl ?_
  refine seq_cut (fun ρ S' => ∃ k : Int, Go p S S' ∧ ρ = [some (.cell p), some (zoneD os s), some (tabD h js), some (.int st), some (.int k), none, none, none, none, none, none, none, none]) (fun M hM => ?_) ?_
  · simp
    exact draw_does hp (by decide) (by decide) fun c S1 g1 r0 r1 => hM _ _ ⟨c, g1, rfl⟩
  rintro ρ S1 ⟨k, g1, rfl⟩
  refine seq_cut (fun ρ S' => S1 = S' ∧ ρ = [some (.cell p), some (zoneD os s), some (tabD h js), some (.int st), some (.int k), none, none, none, none, none, none, none, none]) (fun M hM => ?_) ?_
  · by_cases c : k = 0
    · simp [c]
      exact q h js S1 g1 tk (by omega)
    · simp [c]
      exact hM _ _ ⟨rfl, rfl⟩
  rintro ρ _ ⟨rfl, rfl⟩
  refine seq_cut (fun ρ S' => S1 = S' ∧ ρ = [some (.cell p), some (zoneD os s), some (tabD h js), some (.int st), some (.int k), none, none, none, none, none, none, none, none]) (fun M hM => ?_) ?_
  · by_cases c : k = 1
    · simp [c]
      exact start_chart_does g1.pot z fun h js S2 g2 tk hl => q h js S2 (g1.trans g2) tk (by omega)
    · simp [c]
      exact hM _ _ ⟨rfl, rfl⟩
  rintro ρ _ ⟨rfl, rfl⟩
  refine seq_cut (fun ρ S' => ∃ a : Int, Go p S S' ∧ ρ = [some (.cell p), some (zoneD os s), some (tabD h js), some (.int st), some (.int k), some (.int a), none, none, none, none, none, none, none]) (fun M hM => ?_) ?_
  · have km : CMulW 2 s := cmulw64 (by omega) (by omega)
    simp [km]
    refine draw_does g1.pot (by omega) (by omega) fun c S2 g2 r0 r1 => ?_
    simp
    refine draw_does g2.pot (by omega) (by omega) fun c2 S3 g3 s0 s1 => ?_
    simp
    exact hM _ _ ⟨_, g1.trans (g2.trans g3), rfl⟩
  rintro ρ S2 ⟨a, g2, rfl⟩
  refine seq_cut (fun ρ S' => ∃ n, n = S2.length ∧ S' = S2 ++ [.lst ((aheadJ js a).map jmpD)] ∧ ρ = [some (.cell p), some (zoneD os s), some (tabD h js), some (.int st), some (.int k), some (.int a), some (.cell n), none, none, none, none, none, none]) (fun M hM => ?_) ?_
  · simp [wipeD]
    refine lcQ_filter (as := js) (i := jmpD) (fun j : Int × Int => decide (j.1 < a)) jmpD (fun j hj => ⟨_, rfl, fun Q q => ?_, fun Q _ q => ?_⟩) ?_
    · simp
      exact q
    · simp
      exact q
    · exact hM _ _ ⟨_, rfl, rfl, rfl⟩
  rintro ρ _ ⟨n, hn, rfl, rfl⟩
  have g3 : Go p S (S2 ++ [.lst ((aheadJ js a).map jmpD)]) := g2.push _
  have c3 : (S2 ++ [.lst ((aheadJ js a).map jmpD)])[n]? = some (.lst ((aheadJ js a).map jmpD)) := by rw [hn]; simp
  have n3 : S.length ≤ n := by rw [hn]; exact g2.len
  have np : n ≠ p := by have := hp.lt; omega
  generalize S2 ++ [Cell.lst ((aheadJ js a).map jmpD)] = S3 at g3 c3
  have kl : (aheadJ js a).length ≤ 60 := Nat.le_trans (List.length_filter_le _ _) hl
  have kc : Chain os s h none (aheadJ js a) := chain_ahead (by omega) tk.chain
  generalize aheadJ js a = ks at c3 kl kc
  refine seq_cut (fun ρ S' => S3 = S' ∧ ∃ x9 x11, ρ = [some (.cell p), some (zoneD os s), some (tabD h js), some (.int st), some (.int k), some (.int a), some (.cell n), some (.int (endH h ks)), none, x9, none, x11, none]) (fun M hM => ?_) ?_
  · simp [seqOf_cell c3, wipeD]
    refine lcAQ_ext (fun S' => S3 = S') (fun _ => true) (fun j : Int × Int => D.int j.2) (i := jmpD) (as := ks) rfl (fun S' h => by subst h; rw [seqOf_cell c3]) rfl (fun t _ S1 h => ?_) (fun S' h => ?_)
    · subst h
      refine ⟨_, rfl, by simp, fun S2 h2 ht => ?_⟩
      simp
      exact h2
    · subst h
      rw [List.filter_eq_self.mpr (fun _ _ => rfl)]
      have := endA_at (h := h) (js := ks)
      simp [this]
      exact ⟨by omega, hM _ _ ⟨rfl, _, _, rfl⟩⟩
  rintro ρ _ ⟨rfl, x9, x11, rfl⟩
  refine seq_cut (fun ρ S' => ∃ ls x8 x9 x10 x11 x12, Chain os s h none ls ∧ ls.length ≤ 61 ∧ S'[n]? = some (.lst (ls.map jmpD)) ∧ Go p S S' ∧ ρ = [some (.cell p), some (zoneD os s), some (tabD h js), some (.int st), some (.int k), some (.int a), some (.cell n), some (.int (endH h ks)), x8, x9, x10, x11, x12]) (fun M hM => ?_) ?_
  · by_cases c : 2 < k ∧ 1 < os.length
    · obtain ⟨c1, c2⟩ := c
      have c2' : (1 : Int) < os.length := by omega
      simp [c1, c2, c2', wipeD]
      refine lcQ_filter (as := os) (i := D.int) (fun o => decide (o ≠ endH h ks)) (fun o => D.int o) (fun o ho => ⟨_, rfl, fun Q q => ?_, fun Q _ q => ?_⟩) ?_
      · simp
        have e : (!(o == endH h ks)) = decide (o ≠ endH h ks) := by by_cases c : o = endH h ks <;> simp [c]
        rw [e]
        exact q
      · simp
        exact q
      have hne : (os.filter fun o => decide (o ≠ endH h ks)) ≠ [] := by
        intro hf
        rw [List.filter_eq_nil_iff] at hf
        have nd := z.nodup
        match os, c2, hf, nd with
        | x :: y :: r, _, hf, nd =>
          have h1 := hf x (by simp)
          have h2 := hf y (by simp)
          simp at h1 h2 nd
          exact nd.1.1 (h1.trans h2.symm)
      have hmem : ∀ o, o ∈ os.filter (fun o => decide (o ≠ endH h ks)) → o ∈ os ∧ o ≠ endH h ks := fun o ho => ⟨(List.mem_filter.mp ho).1, of_decide_eq_true (List.mem_filter.mp ho).2⟩
      have hlen : (os.filter fun o => decide (o ≠ endH h ks)).length ≤ os.length := List.length_filter_le _ _
      generalize (os.filter fun o => decide (o ≠ endH h ks)) = us at hne hmem hlen
      have hpos : 0 < us.length := List.length_pos_iff.mpr hne
      simp [seqOf_cell c3, wipeD]
      refine lcAQ_ext (fun S' => S3 = S') (fun _ => true) (fun j : Int × Int => D.int (j.1 + s)) (i := jmpD) (as := ks) rfl (fun S' h => by subst h; rw [seqOf_cell c3]) rfl (fun t _ S1 h => ?_) (fun S' h => ?_)
      · subst h
        refine ⟨_, rfl, by simp, fun S2 h2 ht => ?_⟩
        simp
        exact h2
      subst h
      rw [List.filter_eq_self.mpr (fun _ _ => rfl)]
      have hmx : gMax1 S3 [.lst (D.int a :: ks.map fun j : Int × Int => D.int (j.1 + s))] = some (.int (mxI (a :: ks.map fun j => j.1 + s))) := by
        refine gMax1_ints ?_ (by simp)
        show some _ = some _
        simp
      have := c3
      have mx := mxI_mem (l := a :: ks.map fun j => j.1 + s) (by simp)
      simp [hmx]
      refine ⟨by omega, ⟨_, c3⟩, ?_⟩
      refine draw_does g3.pot (by omega) (by omega) fun c S4 g4 r0 r1 => ?_
      obtain ⟨x, hx, e⟩ := atI_memL (l := us.map D.int) r0 (by simpa using r1)
      obtain ⟨o, ho, rfl⟩ := List.mem_map.mp hx
      have c4 := g4.get c3 np
      simp [e, c4]
      refine ⟨by omega, ?_⟩
      have := hM _ (S4.set n (.lst ((ks ++ [(mxI (a :: ks.map fun j => j.1 + s), o)]).map jmpD))) ⟨ks ++ [(mxI (a :: ks.map fun j => j.1 + s), o)], some (.lst (us.map .int)), some (.int (mxI (a :: ks.map fun j => j.1 + s))), none, x11, none, chain_snoc kc (hmem o ho).1 (hmem o ho).2 (fun q hq => ?_), by simp; omega, ?_, Go.setNew hp (g3.trans g4) n3 _, rfl⟩
      · simpa [jmpD] using this
      · rcases endP_mem hq with h | ⟨j, hj, rfl⟩
        · cases h
        · exact mx.2 _ (List.mem_cons_of_mem _ (List.mem_map.mpr ⟨j, hj, rfl⟩))
      · have ln := (List.getElem?_eq_some_iff.mp c4).1
        rw [List.getElem?_set_self ln]
    · have stay := hM _ _ ⟨ks, none, x9, none, x11, none, kc, by omega, c3, g3, rfl⟩
      by_cases c1 : 2 < k
      · have c2 : ¬ 1 < os.length := fun h => c ⟨c1, h⟩
        have c2' : ¬ (1 : Int) < os.length := by omega
        simp [c1, c2, c2']
        exact stay
      · simp [c1]
        exact stay
  rintro ρ S4 ⟨ls, x8, x9', x10, x11', x12, lc, ll, c4, g4, rfl⟩
  simp [gTuple_cell c4]
  have := q h ls S4 g4 ⟨tk.held, lc⟩ ll
  simpa [tabD] using this
end
end Dm
-- text HmMs5
set_option maxHeartbeats 1000000
namespace Dm
open PySem L2
/-! ### a run step by step (k77) -/
section
variable {S : Sto} {zs : Zs} {tb later : List Tb} {ts : List Stp} {p : Nat} {os : List Int} {s : Int} {t : Stp}
theorem st_base : gIx S t.d (.int 1) = some (.int t.base) := by cases t <;> rfl
theorem st_third : ∃ x : Int, gIx S t.d (.int 2) = some (.int x) ∧ (t.isConv = true → x = t.place) := by
  cases t <;> first | exact ⟨_, rfl, fun _ => rfl⟩ | exact ⟨_, rfl, fun h => nomatch h⟩
theorem stepped_does {st : Int} {Q : D → Sto → Prop} (z : ZsOK zs) (hok : ProgOK zs.length ts) (tk : TbsOK zs tb) (tl : TbsOK zs later) (q : ∀ S' d, Grow S S' → FinS S' d (followS agP zs later tb 0 [st] ts) → Q d S') :
    (m_law_stepped [zonesD zs, progD ts, worldD tb later, .int st] S).Does Q := by
  have hl := hok.len
  have lt := tk.len
  have ll := tl.len
  have hz : zs.length ≤ 2 := by rcases z.len with h | h <;> omega
  refine does_def rfl ?_
  refine seq_cut (fun ρ S' => S' = S ++ [.lst (tb.map Tb.d)] ∧ ρ = [some (zonesD zs), some (progD ts), some (worldD tb later), some (.int st), some (.cell S.length), none, none, none, none, none]) (fun M hM => ?_) ?_
  · simp [worldD]
    exact hM _ _ ⟨rfl, rfl⟩
  rintro ρ _ ⟨rfl, rfl⟩
  refine seq_cut (fun ρ S' => ∃ a, S.length = a ∧ Grow S S' ∧ S'[a]? = some (.lst (tb.map Tb.d)) ∧ S'[a + 1]? = some (.lst ([st].map .int)) ∧ ρ = [some (zonesD zs), some (progD ts), some (worldD tb later), some (.int st), some (.cell a), some (.cell (a + 1)), none, none, none, none]) (fun M hM => ?_) ?_
  · simp
    refine hM _ _ ⟨_, rfl, ⟨_, rfl⟩, ?_, ?_, rfl⟩
    · rw [List.getElem?_append_right (by omega)]; simp
    · rw [List.getElem?_append_right (by omega)]; simp
  rintro ρ S1 ⟨a, ha, g1, c4, c5, rfl⟩
  simp [progD]
  refine ⟨by omega, ?_⟩
  refine forL_cut (fun ds ρ S' => ∃ (pre us : List Stp) (tb' : List Tb) (vs : List Int) (row : List Kd) (x6 x7 x8 x9 : Option D), ts = pre ++ us ∧ ds = rngD pre.length us.length ∧
      ρ = [some (zonesD zs), some (.tup (ts.map Stp.d)), some (worldD tb later), some (.int st), some (.cell a), some (.cell (a + 1)), x6, x7, x8, x9] ∧
      Grow S S' ∧ S'[a]? = some (.lst (tb'.map Tb.d)) ∧ S'[a + 1]? = some (.lst (vs.map .int)) ∧ TbsOK zs tb' ∧ ProgFrom zs.length row us ∧ row.length = vs.length ∧ vs.length = pre.length + 1 ∧ (tb' = tb ∨ cnt Stp.isEd us ≤ 0) ∧ cnt Stp.isEd us ≤ 1 ∧
      followS agP zs later tb' pre.length vs us = followS agP zs later tb 0 [st] ts) _
    ⟨[], ts, tb, [st], [.mom], none, none, none, none, rfl, by simp, rfl, g1, c4, c5, tk, hok.steps, rfl, rfl, .inl rfl, by have := hok.eds; unfold cnt; omega, rfl⟩ ?_ ?_
  · rintro d ds ρ S2 ⟨pre, us, tb', vs, row, x6, x7, x8, x9, ets, e, rfl, g2, d4, d5, tk', hp, hrl, hvl, htb, he1, hf⟩
    cases us with
    | nil => cases e
    | cons t us =>
      rw [List.length_cons, rngD_cons] at e
      injection e with e1 e2
      subst e1
      refine ⟨_, rfl, fun M hM => ?_⟩
      have hpl : pre.length < ts.length := by rw [ets]; simp
      have hat : atI (ts.map Stp.d) (pre.length : Int) = some t.d := by
        rw [atI_of (by omega) (by rw [List.length_map]; omega)]
        simp [ets]
      have ok := hp.1
      have hb := ok.base
      rw [hrl] at hb
      have hib := ix_ints d5 hb
      generalize hP : pre.length = kk at *
      refine seq_cut (fun ρ S' => S2 = S' ∧ ρ = [some (zonesD zs), some (.tup (ts.map Stp.d)), some (worldD tb later), some (.int st), some (.cell a), some (.cell (a + 1)), some (.int kk), some t.d, x8, x9]) (fun M2 hM2 => ?_) ?_
      · simp [hat]
        exact hM2 _ _ ⟨rfl, rfl⟩
      rintro ρ _ ⟨rfl, rfl⟩
      refine seq_cut (fun ρ S' => S2 = S' ∧ ρ = [some (zonesD zs), some (.tup (ts.map Stp.d)), some (worldD tb later), some (.int st), some (.cell a), some (.cell (a + 1)), some (.int kk), some t.d, some (.int (getV vs t.base)), x9]) (fun M2 hM2 => ?_) ?_
      · simp [st_base, hib]
        exact hM2 _ _ ⟨rfl, rfl⟩
      rintro ρ _ ⟨rfl, rfl⟩
      refine seq_cut (fun ρ S' => S2 = S' ∧ ∃ x : Int, (t.isConv = true → x = t.place) ∧ ρ = [some (zonesD zs), some (.tup (ts.map Stp.d)), some (worldD tb later), some (.int st), some (.cell a), some (.cell (a + 1)), some (.int kk), some t.d, some (.int (getV vs t.base)), some (.int x)]) (fun M2 hM2 => ?_) ?_
      · obtain ⟨x, hx, hc⟩ := st_third (S := S2) (t := t)
        cases hcv : t.isConv with
        | true =>
          simp [hx, wd_ix, wd_conv, hcv]
          exact hM2 _ _ ⟨rfl, x, fun _ => hc hcv, rfl⟩
        | false =>
          simp [hx, wd_ix, wd_conv, hcv]
          exact hM2 _ _ ⟨rfl, 0, (fun h => by rw [hcv] at h; exact absurd h (by decide)), rfl⟩
      rintro ρ _ ⟨rfl, x, hx, rfl⟩
      rw [followS] at hf
      refine seq_cut (fun ρ S' => ∃ (tb2 : List Tb), ρ = [some (zonesD zs), some (.tup (ts.map Stp.d)), some (worldD tb later), some (.int st), some (.cell a), some (.cell (a + 1)), some (.int kk), some t.d, some (optD (stepV zs tb2 vs t)), some (.int x)] ∧
          Grow S S' ∧ S'[a]? = some (.lst (tb2.map Tb.d)) ∧ S'[a + 1]? = some (.lst (vs.map .int)) ∧ TbsOK zs tb2 ∧ tb2 = (if t.isEd = true then tb'.set t.place (getT later t.place) else tb') ∧ ¬ (t.isEd = true ∧ agP (getT tb' t.place) (getT later t.place) (getV vs t.base) = false)) (fun M2 hM2 => ?_) ?_
      · have second : ∀ {j : Nat} {k : Kd}, row[j]? = some k → gIx S2 (.cell (a + 1)) (.int j) = some (.int (getV vs j)) := fun hj => ix_ints d5 (by rw [← hrl]; exact (List.getElem?_eq_some_iff.mp hj).1)
        cases t with
        | edition i p =>
          obtain rfl := hx rfl
          have h0 : tb' = tb := by
            rcases htb with h | h
            · exact h
            · rw [cnt_cons] at h
              have : bI (Stp.isEd (.edition i p)) = 1 := rfl
              have := cnt_nn (f := Stp.isEd) (ts := us)
              omega
          subst h0
          have hp2 : p < tb'.length := by rw [lt]; exact ok.2
          simp only [Stp.isEd, Stp.place, Stp.base, true_and, if_true] at hf ⊢
          simp (decide := true) [Stp.d]
          refine unlike_does hp2 (by omega) ?_
          have hp3 : p < later.length := by omega
          have hw : gIx S2 (worldD tb' later) (.int 1) = some (.tup (later.map Tb.d)) := by simp [worldD]
          cases c' : agP (getT tb' p) (getT later p) (getV vs i) with
          | true =>
            simp [hw, ix_tabs hp3]
            have h16 : ixN (tb'.map Tb.d).length (p : Int) = some p := by
              have : (p : Int) < ((tb'.length : Nat) : Int) := by omega
              simp [ixN, this]
            refine ⟨_, d4, p, h16, hM2 _ _ ⟨tb'.set p (getT later p), rfl, g2.setN (by omega) _, ?_, ?_, tk'.set tl p, rfl, fun h => by have h2 := h.2; simp only [Stp.place, Stp.base] at h2; rw [c'] at h2; cases h2⟩⟩
            · rw [set_at d4, List.map_set]
            · rw [List.getElem?_set_ne (by omega)]; exact d5
          | false =>
            rw [if_pos c'] at hf
            rw [← hf] at q
            simp
            exact q _ _ g2 rfl
        | read i p =>
          obtain rfl := hx rfl
          have hp2 : p < tb'.length := by rw [tk'.len]; exact ok.2
          have hr := reading_at_ok (S := S2) (m := getV vs i) (z.at ok.2) (tk'.tab ok.2)
          simp only [Stp.place, Stp.base]
          simp (decide := true) [Stp.d, ix_zones ok.2, ix_tabsC d4 hp2, Tb.d, hr]
          exact hM2 _ _ ⟨tb', rfl, g2, d4, d5, tk', by simp [Stp.isEd], by simp [Stp.isEd]⟩
        | find i p f g =>
          obtain rfl := hx rfl
          have hp2 : p < tb'.length := by rw [tk'.len]; exact ok.2.1
          simp only [Stp.place, Stp.base]
          simp (decide := true) [Stp.d, ix_zones ok.2.1, ix_tabsC d4 hp2, Tb.d]
          refine find_moment_does (z.at ok.2.1) (tk'.tab ok.2.1) (z.at ok.2.1).ends ok.2.2.1 ok.2.2.2 fun c => ?_
          rw [findO_eq]
          have g3 := g2.push c
          have l2 := (List.getElem?_eq_some_iff.mp d5).1
          exact hM2 _ _ ⟨tb', rfl, g3, by rw [List.getElem?_append_left (by omega)]; exact d4, by rw [List.getElem?_append_left l2]; exact d5, tk', by simp [Stp.isEd], by simp [Stp.isEd]⟩
        | offset i p =>
          obtain rfl := hx rfl
          have hp2 : p < tb'.length := by rw [tk'.len]; exact ok.2
          have hr := offset_at_ok (S := S2) (m := getV vs i) (z.at ok.2) (tk'.tab ok.2)
          simp only [Stp.place, Stp.base]
          simp (decide := true) [Stp.d, ix_zones ok.2, ix_tabsC d4 hp2, Tb.d, hr]
          exact hM2 _ _ ⟨tb', rfl, g2, d4, d5, tk', by simp [Stp.isEd], by simp [Stp.isEd]⟩
        | plus i j =>
          simp only [Stp.place, Stp.base]
          simp (decide := true) [Stp.d, second ok.2]
          exact hM2 _ _ ⟨tb', rfl, g2, d4, d5, tk', by simp [Stp.isEd], by simp [Stp.isEd]⟩
        | less i j =>
          simp only [Stp.place, Stp.base]
          simp (decide := true) [Stp.d, second ok.2]
          exact hM2 _ _ ⟨tb', rfl, g2, d4, d5, tk', by simp [Stp.isEd], by simp [Stp.isEd]⟩
        | add i m =>
          simp only [Stp.place, Stp.base]
          simp (decide := true) [Stp.d]
          exact hM2 _ _ ⟨tb', rfl, g2, d4, d5, tk', by simp [Stp.isEd], by simp [Stp.isEd]⟩
      rintro ρ S3 ⟨tb2, rfl, g3, e4, e5, tk2, et2, hno⟩
      rw [if_neg hno, ← et2] at hf
      have hstep : stepV zs tb' vs t = stepV zs tb2 vs t := by
        by_cases hE : t.isEd = true
        · rw [ed_form hE]; rfl
        · rw [if_neg hE] at et2
          rw [et2]
      rw [hstep] at hf
      cases hs : stepV zs tb2 vs t with
      | none =>
        rw [hs] at hf
        rw [← hf] at q
        simp [optD]
        exact q _ _ g3 rfl
      | some v =>
        rw [hs] at hf
        simp [optD, e5]
        refine ⟨by omega, hM _ _ ⟨pre ++ [t], us, tb2, vs ++ [v], row ++ [t.kind row], _, _, _, _, by rw [ets]; simp, by rw [List.length_append, List.length_singleton, hP, e2]; simp, rfl, g3.setN (by omega) _, ?_, ?_, tk2, hp.2, by simp [hrl], by simp; omega, ?_, ?_, ?_⟩⟩
        · rw [List.getElem?_set_ne (by omega)]; exact e4
        · rw [set_at e5]; simp
        · by_cases hE : t.isEd = true
          · right
            rw [cnt_cons, hE] at he1
            have : bI true = 1 := rfl
            omega
          · rw [if_neg hE] at et2
            rcases htb with h | h
            · left; rw [et2, h]
            · right
              rw [cnt_cons] at h
              have : 0 ≤ bI t.isEd := by cases t.isEd <;> decide
              omega
        · rw [cnt_cons] at he1
          have : 0 ≤ bI t.isEd := by cases t.isEd <;> decide
          omega
        · rw [← hf]
          simp [hP]
  · rintro ρ S2 ⟨pre, us, tb', vs, row, x6, x7, x8, x9, ets, e, rfl, g2, d4, d5, tk', hp, hrl, hvl, htb, he1, hf⟩
    cases us with
    | cons t us => rw [List.length_cons, rngD_cons] at e; cases e
    | nil =>
      simp
      rw [← hf] at q
      refine q S2 _ g2 ⟨?_, _, rfl, d5⟩
      rw [ets] at hl
      simp at hl
      omega
end
end Dm
-- text HmTale3
set_option maxHeartbeats 1000000
namespace Dm
open PySem L2
/-! ### drawn programs of the later laws: a step, a program -/
end Dm
-- text HmTale4
set_option maxHeartbeats 1000000
namespace Dm
open PySem L2
/-! ### drawn programs of the later laws: a program -/
end Dm
-- text HmTale5
set_option maxHeartbeats 1000000
namespace Dm
open PySem L2
/-! ### programs cut off, zones and programs of any size -/
theorem progFrom_take {nz : Nat} : ∀ {ts : List Stp} {row : List Kd} (k : Nat), ProgFrom nz row ts → ProgFrom nz row (ts.take k)
  | [], _, k, _ => by rw [List.take_nil]; exact trivial
  | u :: ts, row, 0, _ => trivial
  | u :: ts, row, k + 1, ⟨a, b⟩ => ⟨a, progFrom_take k b⟩
end Dm
-- text HmTale6
set_option maxHeartbeats 1000000
namespace Dm
open PySem L2
theorem cnt_take {f : Stp → Bool} {ts : List Stp} (k : Nat) : cnt f (ts.take k) ≤ cnt f ts := by
  unfold cnt
  have := (List.take_sublist k ts).filter f
  have := this.length_le
  omega
end Dm
-- text M_k77
set_option maxHeartbeats 1000000
namespace Dm
open PySem L2
section
variable {S : Sto} {zs : Zs} {tb later : List Tb} {ts : List Stp} {p : Nat}
/-! ### the beginnings of a run -/
theorem follow_take {ag : Tb → Tb → Int → Bool} : ∀ {ts : List Stp} {tb : List Tb} {k : Nat} {vs : List Int} (n : Nat),
    followS ag zs later tb k vs (ts.take n) = followS ag zs later tb k vs ts ∨ ∃ ws, followS ag zs later tb k vs (ts.take n) = .done ws ∧ ∀ us, followS ag zs later tb k vs ts = .done us → us.take ws.length = ws
  | [], _, _, _, n => by left; rw [List.take_nil]
  | t :: ts, tb, k, vs, 0 => by
    right
    refine ⟨vs, rfl, ?_⟩
    have pre : ∀ {ts : List Stp} {tb : List Tb} {k : Nat} {vs us : List Int}, followS ag zs later tb k vs ts = .done us → us.take vs.length = vs := by
      intro ts
      induction ts with
      | nil => intro tb k vs us h; cases h; exact List.take_length
      | cons t ts ih =>
        intro tb k vs us h
        rw [followS] at h
        split at h
        · cases h
        · cases e : stepV zs tb vs t with
          | none => rw [e] at h; cases h
          | some v =>
            rw [e] at h
            have h2 := ih h
            have h3 := congrArg (List.take vs.length) h2
            rw [List.take_take, Nat.min_eq_left (by simp)] at h3
            rw [h3]
            simp
    exact fun us h => pre h
  | t :: ts, tb, k, vs, n + 1 => by
    rw [List.take_succ_cons, followS, followS]
    by_cases c : t.isEd = true ∧ ag (getT tb t.place) (getT later t.place) (getV vs t.base) = false
    · rw [if_pos c, if_pos c]
      exact .inl rfl
    · rw [if_neg c, if_neg c]
      cases e : stepV zs tb vs t with
      | none => exact .inl rfl
      | some v => exact follow_take n
theorem ProgOK.tk {nz : Nat} (h : ProgOK nz ts) (n : Nat) : ProgOK nz (ts.take n) :=
  ⟨by have := h.len; simp; omega, progFrom_take n h.steps, by
    have h1 := cnt_take (f := Stp.isEd) (ts := ts) n
    have h2 := h.eds
    unfold cnt at h1
    omega⟩
theorem same_fin {d e : D} {f : Fin} (h : FinS S d f) (h' : FinS S e f) : m_law_same 30 [d, e] S = .ok (.bl true) S := same_eqv (h.eqv h')
theorem same_cells {n n' : Nat} {ds : List D} (h : S[n]? = some (.lst ds)) (h' : S[n']? = some (.lst ds)) (hl : ds.length ≤ 100) (hp : ∀ d, d ∈ ds → Eqv S 28 d d) : m_law_same 30 [.cell n, .cell n'] S = .ok (.bl true) S := by
  refine same_eqv (.lst (ds := ds) (es := ds) (by simp [lstOf, h]) (by simp [lstOf, h']) rfl (by omega) ?_)
  intro i d e hd he
  rw [hd] at he
  cases he
  exact hp d (List.mem_of_getElem? hd)
theorem eqvM_ints : ∀ ns : List Int, PyData.eqvAll (ns.map .int) (ns.map .int) = true
  | [] => by simp [PyData.eqvAll]
  | n :: ns => by
    have ih := eqvM_ints ns
    simp [PyData.eqvAll, PyData.eqv, ih]
theorem ne_ints {d e : D} {ns : List Int} (h1 : toPyS S d = some (.list (ns.map .int))) (h2 : toPyS S e = some (.list (ns.map .int))) (hd : eqD S d e = match toPyS S d, toPyS S e with
    | some p, some q => if SeqAt.shaped p = true ∧ SeqAt.shaped q = true then some (PyData.eqv p q) else none
    | _, _ => none) : gNe S d e = some (.bl false) := by
  have sh : SeqAt.shaped (.list (ns.map .int)) = true := by
    have := ints_depth ns
    unfold SeqAt.shaped
    simp only [PyData.canLay0, ints_lay, PyData.depth, Bool.true_and]
    exact decide_eq_true (by omega)
  unfold gNe
  rw [hd, h1, h2]
  simp only []
  rw [if_pos ⟨sh, sh⟩]
  simp only [PyData.eqv, eqvM_ints]
  rfl
/-! ### the zones drawn -/
theorem lcQ_regions {ρ : Rho} {j : Nat} (hj : j ≠ 6) (hρ : ρ[j]? = some (some (.cell p))) (hr : ∀ i : Int, (tgN 6 (.int i) ρ).isSome = true) : ∀ {n : Nat} {k : Int} {S : Sto} {Q : List D → Sto → Prop}, Pot p S → (∀ zs S', Go p S S' → zs.length = n → (∀ z, z ∈ zs → ZoneOK z.1 z.2) → Q ((zs : Zs).map fun z => zoneD z.1 z.2) S') →
    LcQ (tgN 6) mYes (mCall m_law_make_region (mCons (mVar j) mNil)) ρ (rngD k n) S Q
  | 0, k, S, Q, hp, q => by
    rw [rngD_nil, lcQ_nil]
    exact q [] S (.refl hp) rfl fun z h => nomatch h
  | n + 1, k, S, Q, hp, q => by
    rw [rngD_cons, lcQ_cons]
    have e : (ρ.set 6 (some (.int k)))[j]? = some (some (.cell p)) := by rw [List.getElem?_set_ne (Ne.symm hj)]; exact hρ
    simp [e]
    refine make_region_does hp fun os s S1 g1 z => ?_
    refine lcQ_regions hj hρ hr g1.pot fun zs S' g hl hz => q ((os, s) :: zs) S' (g1.trans g) (by simp [hl]) fun z' h => ?_
    rcases List.mem_cons.mp h with rfl | h
    · exact z
    · exact hz z' h
/-! ### the later tables drawn -/
theorem lcQ_laters {ρ : Rho} {st : Int} {n : Nat} (z : ZsOK zs) (tk : TbsOK zs tb) (hb : ∀ t, t ∈ tb → t.2.length ≤ 60) (hnp : n ≠ p) (h1 : ρ[1]? = some (some (.cell p))) (h2 : ρ[2]? = some (some (zonesD zs))) (h4 : ρ[4]? = some (some (.int st))) (h5 : ρ[5]? = some (some (.cell n))) (h6 : 6 < ρ.length) (hr : ∀ i : Int, (tgN 6 (.int i) ρ).isSome = true) :
    ∀ {m k : Nat} {S : Sto} {Q : List D → Sto → Prop}, k + m = zs.length → Pot p S → S[n]? = some (.lst (tb.map Tb.d)) → (∀ (ls : List Tb) S', Go p S S' → ls.length = m → (∀ (i : Nat) (z : List Int × Int) (t : Tb), zs[k + i]? = some z → ls[i]? = some t → TabOK z.1 z.2 t.1 t.2) → Q (ls.map Tb.d) S') →
    LcQ (tgN 6) mYes (mCall m_law_later_chart (mCons (mVar 1) (mCons (mOp gIx (mVar 2) (mVar 6)) (mCons (mOp gIx (mVar 5) (mVar 6)) (mCons (mVar 4) mNil))))) ρ (rngD (k : Int) m) S Q
  | 0, k, S, Q, hk, hp, hn, q => by
    rw [rngD_nil, lcQ_nil]
    exact q [] S (.refl hp) rfl fun i z t _ h => nomatch h
  | m + 1, k, S, Q, hk, hp, hn, q => by
    rw [rngD_cons, lcQ_cons]
    have e : ∀ (j : Nat) (x : Option D), j ≠ 6 → ρ[j]? = some x → (ρ.set 6 (some (.int (k : Int))))[j]? = some x := fun j x hj h => by rw [List.getElem?_set_ne (Ne.symm hj)]; exact h
    have e6 : (ρ.set 6 (some (.int (k : Int))))[6]? = some (some (.int (k : Int))) := by rw [List.getElem?_set_self h6]
    have kz : k < zs.length := by omega
    have kt : k < tb.length := by rw [tk.len]; exact kz
    simp [e 1 _ (by decide) h1, e 2 _ (by decide) h2, e 4 _ (by decide) h4, e 5 _ (by decide) h5, e6, ix_zones kz, ix_tabsC hn kt]
    have hbk : (getT tb k).2.length ≤ 60 := by
      have : getT tb k ∈ tb := by
        have := getT_at kt
        exact List.mem_of_getElem? this
      exact hb _ this
    refine later_chart_does hp (z.at kz) (tk.tab kz) hbk fun h js S1 g1 tk1 _ => ?_
    have := lcQ_laters (m := m) (k := k + 1) z tk hb hnp h1 h2 h4 h5 h6 hr (Q := fun ds S' => Q (tabD h js :: ds) S') (by omega) g1.pot (g1.get hn hnp) fun ls S' g hl hls => q ((h, js) :: ls) S' (g1.trans g) (by simp [hl]) fun i z' t hz' ht => by
      cases i with
      | zero =>
        cases ht
        simp only [getZ, Nat.add_zero] at tk1 hz'
        rw [List.getD_eq_getElem?_getD, hz'] at tk1
        exact tk1
      | succ i =>
        refine hls i z' t ?_ ht
        rw [← hz']; congr 1; omega
    simpa using this
/-! ### the law -/
theorem law_k77_whole_runs_step_by_step_true : LawTrue m_law_k77_whole_runs_step_by_step := by
  intro ns hns
  have main : (m_law_k77_whole_runs_step_by_step [.lst (ns.map .int)] []).Does fun d _ => d = .bl true := by
    refine does_def rfl ?_
    generalize hL : D.lst (ns.map .int) = L
    refine seq_cut (fun ρ S' => ∃ p, ρ = [some L, some (.cell p), none, none, none, none, none, none, none, none, none, none, none, none, none, none, none] ∧ Pot p S') (fun M hM => ?_) ?_
    · subst hL
      simp
      refine ⟨by omega, ?_⟩
      obtain ⟨x, ex⟩ := at_int (xs := ns ++ [1000000000000000000000000000000000000480257719936612204875093]) (i := 0) (by omega) (by simp)
      simp at ex
      simp [ex]
      exact digits_does fun k => hM _ _ ⟨0, rfl, ⟨k, rfl⟩⟩
    rintro ρ S1 ⟨p, rfl, hp1⟩
    refine seq_cut (fun ρ S' => ∃ zs x6, ZsOK zs ∧ Pot p S' ∧ ρ = [some L, some (.cell p), some (zonesD zs), none, none, none, x6, none, none, none, none, none, none, none, none, none, none]) (fun M hM => ?_) ?_
    · simp
      refine draw_does hp1 (by decide) (by decide) fun c S2 g2 r0 r1 => ?_
      simp [wipeD]
      refine ⟨by omega, ?_⟩
      refine lcQ_regions (j := 1) (by decide) rfl (fun i => rfl) g2.pot fun zs S3 g3 hl hz => ?_
      exact hM _ _ ⟨zs, _, ⟨hz, by omega⟩, g3.pot, rfl⟩
    rintro ρ S2 ⟨zs, x6, z, hp2, rfl⟩
    refine seq_cut (fun ρ S' => ∃ ts, ProgOK zs.length ts ∧ Pot p S' ∧ ρ = [some L, some (.cell p), some (zonesD zs), some (progD ts), none, none, x6, none, none, none, none, none, none, none, none, none, none]) (fun M hM => ?_) ?_
    · simp
      exact make_steps_does hp2 z (by decide) (by decide) fun ts S3 g3 ok _ _ _ => hM _ _ ⟨ts, ok, g3.pot, rfl⟩
    rintro ρ S3 ⟨ts, ok, hp3, rfl⟩
    refine seq_cut (fun ρ S' => ∃ st : Int, Pot p S' ∧ ρ = [some L, some (.cell p), some (zonesD zs), some (progD ts), some (.int st), none, x6, none, none, none, none, none, none, none, none, none, none]) (fun M hM => ?_) ?_
    · simp
      refine any_hour_does hp3 fun h S4 g4 b0 b1 => ?_
      have hc : CDivW h 2 := cdivw (by decide) (by decide)
      simp [hc]
      exact hM _ _ ⟨_, g4.pot, rfl⟩
    rintro ρ S4 ⟨st, hp4, rfl⟩
    have hz : 1 ≤ zs.length ∧ zs.length ≤ 2 := by rcases z.len with h | h <;> omega
    have lz : ∀ S, gLen S [zonesD zs] = some (.int zs.length) := fun S => by simp [zonesD]
    refine seq_cut (fun ρ S' => ∃ n, n = S4.length ∧ S' = S4 ++ [.lst []] ∧ ρ = [some L, some (.cell p), some (zonesD zs), some (progD ts), some (.int st), some (.cell n), x6, none, none, none, none, none, none, none, none, none, none]) (fun M hM => ?_) ?_
    · simp
      exact hM _ _ ⟨_, rfl, rfl, rfl⟩
    rintro ρ _ ⟨n, hn, rfl, rfl⟩
    have np : n ≠ p := by have := hp4.lt; omega
    have hp5 : Pot p (S4 ++ [Cell.lst []]) := hp4.push
    have c5 : (S4 ++ [Cell.lst []])[n]? = some (.lst (([] : List Tb).map Tb.d)) := by rw [hn]; simp
    generalize S4 ++ [Cell.lst []] = S5 at hp5 c5
    -- the tables
    refine seq_cut (fun ρ S' => ∃ (tb : List Tb) (x6 x7 x8 x9 x15 x16 : Option D), TbsOK zs tb ∧ (∀ t, t ∈ tb → t.2.length ≤ 60) ∧ Pot p S' ∧ S'[n]? = some (.lst (tb.map Tb.d)) ∧ ρ = [some L, some (.cell p), some (zonesD zs), some (progD ts), some (.int st), some (.cell n), x6, x7, x8, x9, none, none, none, none, none, x15, x16]) (fun M hM => ?_) ?_
    · rw [does_for]
      simp [lz]
      refine ⟨by omega, ?_⟩
      refine forL_cut (fun ds ρ S' => ∃ (m : Nat) (tb : List Tb) (x6 x7 x8 x9 x15 x16 : Option D), ds = rngD (tb.length : Int) m ∧ tb.length + m = zs.length ∧ (∀ (i : Nat) (z : List Int × Int) (t : Tb), zs[i]? = some z → tb[i]? = some t → TabOK z.1 z.2 t.1 t.2) ∧ (∀ t, t ∈ tb → t.2.length ≤ 60) ∧ Pot p S' ∧ S'[n]? = some (.lst (tb.map Tb.d)) ∧ ρ = [some L, some (.cell p), some (zonesD zs), some (progD ts), some (.int st), some (.cell n), x6, x7, x8, x9, none, none, none, none, none, x15, x16]) _
        ⟨zs.length, [], x6, none, none, none, none, none, rfl, by simp, (fun i z t _ h => nomatch h), (fun t h => nomatch h), hp5, c5, rfl⟩ ?_ ?_
      · rintro d ds ρ S6 ⟨m, tb, x6, x7, x8, x9, x15, x16, e, hlen, htk, hb, hp6, c6, rfl⟩
        cases m with
        | zero => cases e
        | succ m =>
          rw [rngD_cons] at e
          injection e with e1 e2
          subst e1
          refine ⟨_, rfl, fun M hM => ?_⟩
          have kz : tb.length < zs.length := by omega
          have zk := z.at kz
          have E := zk.ends
          have hsp := zk.sp
          have hw := E.w
          have hw0 : loO (getZ zs tb.length).1 ≤ hiO (getZ zs tb.length).1 := by have := E.mem _ E.mb; omega
          refine seq_cut (fun ρ S' => ∃ h js, TabOK (getZ zs tb.length).1 (getZ zs tb.length).2 h js ∧ js.length ≤ 60 ∧ Pot p S' ∧ S'[n]? = some (.lst (tb.map Tb.d)) ∧ ρ = [some L, some (.cell p), some (zonesD zs), some (progD ts), some (.int st), some (.cell n), some (.int tb.length), some (.int h), some (.tup (js.map jmpD)), x9, none, none, none, none, none, x15, x16]) (fun M hM => ?_) ?_
          · have ecut : ∃ ms : List Int, cutD (ns.map D.int) (some 1) (some 57) = ms.map .int ∧ ms.length ≤ 63 := by
              unfold cutD
              refine ⟨_, by rw [← List.map_drop, ← List.map_take], ?_⟩
              rw [List.length_take, List.length_drop]
              omega
            obtain ⟨ms, ems, hms⟩ := ecut
            subst hL
            simp [ix_zones kz, ems]
            refine cells_chart_does hp6 zk (by omega) fun h js S7 g7 tk nr => ?_
            simp [tabD]
            exact hM _ _ ⟨h, js, tk, nr.1, g7.pot, g7.get c6 np, rfl⟩
          rintro ρ S7 ⟨h, js, tk7, hl7, hp7, c7, rfl⟩
          refine seq_cut (fun ρ S' => ∃ by0 : Int, Pot p S' ∧ S'[n]? = some (.lst (tb.map Tb.d)) ∧ ρ = [some L, some (.cell p), some (zonesD zs), some (progD ts), some (.int st), some (.cell n), some (.int tb.length), some (.int h), some (.tup (js.map jmpD)), some (.int by0), none, none, none, none, none, x15, x16]) (fun M hM => ?_) ?_
          · simp
            refine draw_does hp7 (by decide) (by decide) fun c S8 g8 r0 r1 => ?_
            simp
            exact hM _ _ ⟨_, g8.pot, g8.get c7 np, rfl⟩
          rintro ρ S8 ⟨by0, hp8, c8, rfl⟩
          refine seq_cut (fun ρ S' => ∃ by0 : Int, Pot p S' ∧ S'[n]? = some (.lst (tb.map Tb.d)) ∧ ρ = [some L, some (.cell p), some (zonesD zs), some (progD ts), some (.int st), some (.cell n), some (.int tb.length), some (.int h), some (.tup (js.map jmpD)), some (.int by0), none, none, none, none, none, x15, x16]) (fun M hM => ?_) ?_
          · by_cases hj : 0 < js.length
            · simp [hj]
              refine draw_does hp8 (by omega) (by omega) fun c S9 g9 r0 r1 => ?_
              obtain ⟨j, hj, e⟩ := atI_memL (l := js.map jmpD) r0 (by simpa using r1)
              obtain ⟨j, hj, rfl⟩ := List.mem_map.mp hj
              simp [e, ix_zones kz, E.lo, E.hi]
              refine draw_does g9.pot (by omega) (by omega) fun c2 S10 g10 s0 s1 => ?_
              simp
              exact hM _ _ ⟨_, g10.pot, g10.get (g9.get c8 np) np, rfl⟩
            · simp [hj]
              exact hM _ _ ⟨_, hp8, c8, rfl⟩
          rintro ρ S9 ⟨by1, hp9, c9, rfl⟩
          simp [wipeD]
          refine ⟨⟨_, c9⟩, ?_⟩
          refine lcQ_filter (as := js) (i := jmpD) (fun _ => true) (fun j => jmpD (mvJ by1 j)) (fun j hj => ⟨_, rfl, fun Q q => ?_, fun Q _ q => ?_⟩) ?_
          · simp
            exact q
          · simp
            exact q
          · have e : js.filter (fun _ => true) = js := List.filter_eq_self.mpr fun _ _ => rfl
            rw [e]
            simp [c9]
            refine ⟨by omega, ?_⟩
            have := hM [some L, some (.cell p), some (zonesD zs), some (progD ts), some (.int st), some (.cell n), some (.int tb.length), some (.int h), some (.tup (js.map jmpD)), some (.int by1), none, none, none, none, none, x15, x16] (S9.set n (.lst ((tb ++ [(h, js.map (mvJ by1))]).map Tb.d)))
              ⟨m, tb ++ [(h, js.map (mvJ by1))], _, _, _, _, _, _, by rw [e2]; simp, by simp; omega, fun i z' t hz' ht => ?_, fun t ht => ?_, hp9.set (Ne.symm np), ?_, rfl⟩
            · simpa [Tb.d, tabD, Function.comp_def] using this
            · rcases Nat.lt_or_ge i tb.length with hi | hi
              · rw [List.getElem?_append_left hi] at ht
                exact htk i z' t hz' ht
              · rw [List.getElem?_append_right hi] at ht
                have hi2 : i = tb.length := by
                  have := (List.getElem?_eq_some_iff.mp ht).1
                  simp at this
                  omega
                subst hi2
                simp at ht
                subst ht
                have : getZ zs tb.length = z' := by unfold getZ; rw [List.getD_eq_getElem?_getD, hz']; rfl
                rw [this] at tk7
                exact ⟨tk7.held, chain_mv (p := none) tk7.chain⟩
            · rcases List.mem_append.mp ht with ht | ht
              · exact hb t ht
              · simp at ht
                subst ht
                simpa using hl7
            · exact set_at c9
      · rintro ρ S6 ⟨m, tb, x6, x7, x8, x9, x15, x16, e, hlen, htk, hb, hp6, c6, rfl⟩
        cases m with
        | succ m => rw [rngD_cons] at e; cases e
        | zero => exact hM _ _ ⟨tb, _, _, _, _, _, _, ⟨by omega, htk⟩, hb, hp6, c6, rfl⟩
    rintro ρ S6 ⟨tb, y6, x7, x8, x9, x15, x16, tk, hb, hp6, c6, rfl⟩
    refine seq_cut (fun ρ S' => ∃ (later : List Tb) (x6 : Option D), TbsOK zs later ∧ S'[n]? = some (.lst (tb.map Tb.d)) ∧ ρ = [some L, some (.cell p), some (zonesD zs), some (progD ts), some (.int st), some (.cell n), x6, x7, x8, x9, some (.lst (later.map Tb.d)), none, none, none, none, x15, x16]) (fun M hM => ?_) ?_
    · simp [lz, wipeD]
      refine ⟨by omega, ?_⟩
      refine lcQ_laters (k := 0) (m := zs.length) z tk hb np rfl rfl rfl rfl (by simp) (fun i => rfl) (by omega) hp6 c6 fun ls S7 g7 hl hls => ?_
      exact hM _ _ ⟨ls, _, ⟨hl, fun i z t hz ht => hls i z t (by simpa using hz) ht⟩, g7.get c6 np, rfl⟩
    clear c6 hp6
    rintro ρ S7 ⟨later, z6, tl, c7, rfl⟩
    have gt7 : gTuple S7 [.cell n] = some (.tup (tb.map Tb.d)) := by simp [gTuple_cell c7]
    have kl := kindsFrom_length [.mom] ts
    have hl8 := ok.len
    simp [gt7, -does_forL_cons]
    refine forL_cut (fun ds ρ S' => ∃ (ls : List (List Tb)) (x11 x12 x13 x14 : Option D), ds = ls.map (worldD tb) ∧ (∀ l, l ∈ ls → TbsOK zs l) ∧ ρ = [some L, some (.cell p), some (zonesD zs), some (progD ts), some (.int st), some (.cell n), z6, x7, x8, x9, some (.lst (later.map Tb.d)), x11, x12, x13, x14, x15, x16]) _
      ⟨[later, tb], none, none, none, none, rfl, (fun l h => by simp at h; rcases h with rfl | rfl <;> assumption), rfl⟩ ?_ ?_
    · rintro d ds ρ S8 ⟨ls, x11, x12, x13, x14, e, hls, rfl⟩
      cases ls with
      | nil => cases e
      | cons lt ls =>
        rw [List.map_cons] at e
        injection e with e1 e2
        subst e1
        have tlt := hls lt (by simp)
        refine ⟨_, rfl, fun M hM => ?_⟩
        refine seq_cut (fun ρ S' => ∃ d, FinS S' d (followS agP zs lt tb 0 [st] ts) ∧ ρ = [some L, some (.cell p), some (zonesD zs), some (progD ts), some (.int st), some (.cell n), z6, x7, x8, x9, some (.lst (later.map Tb.d)), some (worldD tb lt), some d, x13, x14, x15, x16]) (fun M hM => ?_) ?_
        · simp
          exact stepped_does z ok tk tlt fun S9 d g9 f9 => hM _ _ ⟨d, f9, rfl⟩
        rintro ρ S9 ⟨due, fd, rfl⟩
        refine seq_cut (fun ρ S' => FinS S' due (followS agP zs lt tb 0 [st] ts) ∧ ρ = [some L, some (.cell p), some (zonesD zs), some (progD ts), some (.int st), some (.cell n), z6, x7, x8, x9, some (.lst (later.map Tb.d)), some (worldD tb lt), some due, x13, x14, x15, x16]) (fun M hM => ?_) ?_
        · simp
          refine ran_v2_does z ok tk tlt fun S10 d g10 f10 => ?_
          have sm := same_fin f10 (fd.grow g10)
          simp [sm]
          exact hM _ _ ⟨fd.grow g10, rfl⟩
        clear fd
        rintro ρ S10 ⟨fd, rfl⟩
        refine seq_cut (fun ρ S' => FinS S' due (followS agP zs lt tb 0 [st] ts) ∧ ρ = [some L, some (.cell p), some (zonesD zs), some (progD ts), some (.int st), some (.cell n), z6, x7, x8, x9, some (.lst (later.map Tb.d)), some (worldD tb lt), some due, x13, x14, x15, x16]) (fun M hM => ?_) ?_
        · simp
          refine kinds_does z ok ?_
          have g11 : Grow S10 (S10 ++ [Cell.lst ((kindsFrom [.mom] ts).map Kd.d), .lst ((kindsFrom [.mom] ts).map Kd.d)]) := ⟨_, rfl⟩
          have c11 : (S10 ++ [Cell.lst ((kindsFrom [.mom] ts).map Kd.d), .lst ((kindsFrom [.mom] ts).map Kd.d)])[S10.length + 1]? = some (.lst ((kindsFrom [.mom] ts).map Kd.d)) := by
            rw [List.getElem?_append_right (by omega)]; simp
          generalize S10 ++ [Cell.lst ((kindsFrom [.mom] ts).map Kd.d), .lst ((kindsFrom [.mom] ts).map Kd.d)] = S11 at g11 c11
          refine sorts_does ok.steps (by omega) fun S12 g12 l12 c12 => ?_
          have sm := same_cells (g12.get c11) c12 (by simp at kl ⊢; omega) (fun d hd => by
            obtain ⟨k, _, rfl⟩ := List.mem_map.mp hd
            exact .str)
          simp [sm]
          exact hM _ _ ⟨fd.grow (g11.trans g12), rfl⟩
        clear fd
        rintro ρ S11 ⟨fd, rfl⟩
        -- the beginnings
        refine seq_cut (fun ρ S' => ∃ x13 x14, ρ = [some L, some (.cell p), some (zonesD zs), some (progD ts), some (.int st), some (.cell n), z6, x7, x8, x9, some (.lst (later.map Tb.d)), some (worldD tb lt), some due, x13, x14, x15, x16]) (fun M hM => ?_) ?_
        · rw [does_for]
          simp [progD]
          refine ⟨by omega, ?_⟩
          refine forL_cut (fun ds ρ S' => ∃ (k m : Nat) (x13 x14 : Option D), ds = rngD (k : Int) m ∧ k + m = ts.length ∧ FinS S' due (followS agP zs lt tb 0 [st] ts) ∧ ρ = [some L, some (.cell p), some (zonesD zs), some (progD ts), some (.int st), some (.cell n), z6, x7, x8, x9, some (.lst (later.map Tb.d)), some (worldD tb lt), some due, x13, x14, x15, x16]) _
            ⟨0, ts.length, _, _, rfl, by omega, fd, rfl⟩ ?_ ?_
          · rintro d ds ρ S12 ⟨k, m, x13, x14, e, hkm, fd, rfl⟩
            cases m with
            | zero => cases e
            | succ m =>
              rw [rngD_cons] at e
              injection e with e1 e2
              subst e1
              refine ⟨_, rfl, fun M hM => ?_⟩
              have ecut : D.tup (cutD (ts.map Stp.d) none (some (k : Int))) = progD (ts.take k) := by
                rw [cut_take (by omega), ← List.map_take, Int.toNat_natCast]; rfl
              have okt := ok.tk k
              refine seq_cut (fun ρ S' => ∃ d, FinS S' d (followS agP zs lt tb 0 [st] (ts.take k)) ∧ FinS S' due (followS agP zs lt tb 0 [st] ts) ∧ ρ = [some L, some (.cell p), some (zonesD zs), some (progD ts), some (.int st), some (.cell n), z6, x7, x8, x9, some (.lst (later.map Tb.d)), some (worldD tb lt), some due, some (.int k), some d, x15, x16]) (fun M hM => ?_) ?_
              · simp [progD]
                rw [ecut]
                exact stepped_does z okt tk tlt fun S9 d g9 f9 => hM _ _ ⟨d, f9, fd.grow g9, rfl⟩
              clear fd
              rintro ρ S13 ⟨d, f1, fd, rfl⟩
              refine seq_cut (fun ρ S' => FinS S' d (followS agP zs lt tb 0 [st] (ts.take k)) ∧ FinS S' due (followS agP zs lt tb 0 [st] ts) ∧ ρ = [some L, some (.cell p), some (zonesD zs), some (progD ts), some (.int st), some (.cell n), z6, x7, x8, x9, some (.lst (later.map Tb.d)), some (worldD tb lt), some due, some (.int k), some d, x15, x16]) (fun M hM => ?_) ?_
              · simp [progD]
                rw [ecut]
                refine ran_v2_does z okt tk tlt fun S10 d g10 f10 => ?_
                have sm := same_fin f10 (f1.grow g10)
                simp [sm]
                exact hM _ _ ⟨f1.grow g10, fd.grow g10, rfl⟩
              clear f1 fd
              rintro ρ S14 ⟨f1, fd, rfl⟩
              have nx : M [some L, some (.cell p), some (zonesD zs), some (progD ts), some (.int st), some (.cell n), z6, x7, x8, x9, some (.lst (later.map Tb.d)), some (worldD tb lt), some due, some (.int k), some d, x15, x16] S14 := hM _ _ ⟨k + 1, m, _, _, by rw [e2]; simp, by omega, fd, rfl⟩
              have ft := follow_take (ag := agP) (zs := zs) (later := lt) (ts := ts) (tb := tb) (k := 0) (vs := [st]) k
              cases ef : followS agP zs lt tb 0 [st] (ts.take k) with
              | done ws =>
                rw [ef] at ft f1
                obtain ⟨hl1, n1, rfl, c1⟩ := f1
                have hq : gEq S14 (.str "values") (.str "values") = some (.bl true) := by simp
                refine seq_cut (fun ρ S' => S14 = S' ∧ ρ = [some L, some (.cell p), some (zonesD zs), some (progD ts), some (.int st), some (.cell n), z6, x7, x8, x9, some (.lst (later.map Tb.d)), some (worldD tb lt), some due, some (.int k), some (.tup [.str "values", .cell n1]), x15, x16]) (fun M hM => ?_) ?_
                · simp
                  exact hM _ _ ⟨rfl, rfl⟩
                rintro ρ _ ⟨rfl, rfl⟩
                cases eg : followS agP zs lt tb 0 [st] ts with
                | done us =>
                  rw [eg] at ft fd
                  obtain ⟨hl2, n2, rfl, c2⟩ := fd
                  have hw : us.take ws.length = ws := by
                    rcases ft with h | ⟨ws', h, h2⟩
                    · cases h; exact List.take_length
                    · cases h; exact h2 us rfl
                  have hwl : ws.length = k + 1 := by
                    have := follow_len ef
                    simp at this
                    omega
                  have ec : cutD (us.map D.int) none (some ((k : Int) + 1)) = ws.map .int := by
                    have e1 : ((k : Int) + 1).toNat = k + 1 := by omega
                    rw [cut_take (by omega), ← List.map_take, e1, ← hwl, hw]
                  have e2' : lstOf S14 (.cell n2) = some (us.map .int) := by simp [lstOf, c2]
                  have t1 : toPyS S14 (.lst (ws.map D.int)) = some (.list (ws.map .int)) := by simp only [toPyS, toPy, ints_py]; rfl
                  have t2 : toPyS S14 (.cell n1) = some (.list (ws.map .int)) := by simp only [toPyS, c1, ints_py]; rfl
                  have en : gNe S14 (.lst (ws.map D.int)) (.cell n1) = some (.bl false) := ne_ints t1 t2 rfl
                  simp [e2', ec, en]
                  exact nx
                | refused us j => 
                  rw [eg] at fd
                  cases fd
                  simp (decide := true)
                  exact nx
                | unsuited =>
                  rw [eg] at fd
                  cases fd
                  simp (decide := true)
                  exact nx
              | refused ws j =>
                have eg : followS agP zs lt tb 0 [st] ts = .refused ws j := by
                  rcases ft with h | ⟨ws', h, h2⟩
                  · rw [← h, ef]
                  · rw [h] at ef; cases ef
                have sm := same_fin f1 (by rw [ef, ← eg]; exact fd)
                rw [ef] at f1
                cases f1
                simp (decide := true) [sm]
                exact nx
              | unsuited =>
                have eg : followS agP zs lt tb 0 [st] ts = .unsuited := by
                  rcases ft with h | ⟨ws', h, h2⟩
                  · rw [← h, ef]
                  · rw [h] at ef; cases ef
                have sm := same_fin f1 (by rw [ef, ← eg]; exact fd)
                rw [ef] at f1
                cases f1
                simp (decide := true) [sm]
                exact nx
          · rintro ρ S12 ⟨k, m, x13, x14, e, hkm, fd, rfl⟩
            exact hM _ _ ⟨_, _, rfl⟩
        clear fd
        rintro ρ S12 ⟨x13, x14, rfl⟩
        -- without a start
        simp
        refine ran_v2_does z ok tk tlt fun S13 d g13 f13 => ?_
        have fin : ∀ S', M [some L, some (.cell p), some (zonesD zs), some (progD ts), some (.int st), some (.cell n), z6, x7, x8, x9, some (.lst (later.map Tb.d)), some (worldD tb lt), some due, x13, x14, x15, x16] S' := fun S' => hM _ _ ⟨ls, _, _, _, _, e2, (fun l h => hls l (List.mem_cons_of_mem _ h)), rfl⟩
        cases ef : followS agP zs lt tb 0 [0] ts with
        | done ws =>
          rw [ef] at f13
          obtain ⟨hl1, n1, rfl, c1⟩ := f13
          simp
          refine run_does z ok tk tlt ?_
          rw [ef]
          intro S14 n2 g14 hn2 c2
          refine stepped_does z ok tk tlt fun S15 d g15 f15 => ?_
          rw [ef] at f15
          obtain ⟨_, n3, rfl, c3⟩ := f15
          simp
          have sm := same_cells (g15.get c2) c3 (by simp; omega) (fun d hd => by
            obtain ⟨v, _, rfl⟩ := List.mem_map.mp hd
            exact .int)
          simp [sm]
          exact fin _
        | refused ws j =>
          rw [ef] at f13
          cases f13
          simp (decide := true)
          exact fin _
        | unsuited =>
          rw [ef] at f13
          cases f13
          simp (decide := true)
          exact fin _
    · rintro ρ S8 ⟨ls, x11, x12, x13, x14, e, hls, rfl⟩
      simp
  obtain ⟨d, S', e, rfl⟩ := main.eq
  exact ⟨S', e⟩
end
end Dm
-- text E_k77
open PySem PySem.W PyProof.Rows in
set_option maxRecDepth 100000 in
set_option maxHeartbeats 0 in
theorem PySem.Challenge.cw_hoursmeant_k77_whole_runs_step_by_step_holds : PySem.Challenge.rw_hoursmeant_k77_whole_runs_step_by_step.Holds := by
  w_on; o_law; k_head; (case hw => w_witness2)
  k_fill
  refine V.walk (l := PySem.Challenge.rw_hoursmeant_k77_whole_runs_step_by_step) rfl rfl (fun w h Y => PySem.W.kIn_of Y) ?F
  case F =>
    intro w mg fa h KX G hmg
    refine' V.all_mk Dm.law_k77_whole_runs_step_by_step_true KX G hmg ?a0 ?l0 ?c0 ?k0 ?a1 ?l1 ?c1 ?k1 ?a2 ?l2 ?c2 ?k2 ?a3 ?l3 ?c3 ?k3 ?a4 ?l4 ?c4 ?k4 ?a5 ?l5 ?c5 ?k5 ?a6 ?l6 ?c6 ?k6 ?a7 ?l7 ?c7 ?k7 ?a8 ?l8 ?c8 ?k8 ?a9 ?l9 ?c9 ?k9 ?a10 ?l10 ?c10 ?k10 ?a11 ?l11 ?c11 ?k11 ?a12 ?l12 ?c12 ?k12 ?a13 ?l13 ?c13 ?k13 ?a14 ?l14 ?c14 ?k14 ?a15 ?l15 ?lD15_0 ?lD15_1 ?c15 ?k15 ?a16 ?l16 ?c16 ?k16 ?a17 ?l17 ?c17 ?k17 ?a18 ?l18 ?c18 ?k18 ?a19 ?l19 ?c19 ?k19 ?a20 ?l20 ?c20 ?k20 ?a21 ?l21 ?c21 ?k21 ?a22 ?l22 ?c22 ?k22 ?a23 ?l23 ?c23 ?k23 ?a24 ?l24 ?c24 ?k24 ?a25 ?l25 ?c25 ?k25 ?a26 ?l26 ?c26 ?k26 ?a27 ?l27 ?c27 ?k27 ?a28 ?l28 ?lT28 ?c28 ?k28 ?a29 ?l29 ?c29 ?k29 ?a30 ?l30 ?c30 ?k30 ?a31 ?l31 ?c31 ?k31 ?a32 ?l32 ?c32 ?k32 ?a33 ?l33 ?c33 ?k33 ?a34 ?l34 ?c34 ?k34 ?a35 ?l35 ?c35 ?k35 ?a36 ?l36 ?c36 ?k36 ?a37 ?l37 ?c37 ?k37 ?a38 ?l38 ?c38 ?k38 ?a39 ?l39 ?c39 ?k39 ?a40 ?l40 ?c40 ?k40 ?a41 ?l41 ?c41 ?k41 ?a42 ?l42 ?c42 ?k42 ?a43 ?l43 ?c43 ?k43 ?a44 ?l44 ?c44 ?k44 ?a45 ?l45 ?c45 ?k45 ?a46 ?l46 ?c46 ?k46 ?z0 ?z1 ?z2 ?z3 ?z4 ?z5 ?z6 ?z7 ?z8 ?z9 ?z10 ?z11 ?v0 ?q0_1 ?v1 ?q1_1 ?v2 ?tb2 ?hs2_0 ?hs2_1 ?hs2_2 ?hs2_3 ?hs2_4 ?hs2_5 ?lw2 ?v3 ?v4 ?v5 ?v6 ?v7 ?tb7 ?hs7_0 ?hs7_1 ?hs7_2 ?hs7_3 ?hs7_4 ?hs7_5 ?hs7_6 ?lw7 ?q7_1 ?q7_4 ?q7_9 ?q7_12 ?q7_15 ?q7_18 ?q7_21 ?xa0 ?xq0 ?xk0 ?xb0 ?xt0 ?xa1 ?xq1 ?xk1 ?xb1 ?xt1 ?xa2 ?xq2 ?xk2 ?xb2 ?xt2 ?xa3 ?xq3 ?xk3 ?xb3 ?xt3 ?xa4 ?xq4 ?xk4 ?xb4 ?xt4 ?xa5 ?xq5 ?xk5 ?xb5 ?xt5 ?xa6 ?xq6 ?xk6 ?xb6 ?xt6 ?xa7 ?xq7 ?xk7 ?xb7 ?xt7 ?xa8 ?xf0 ?xf1 ?xf2 ?xf3 ?xf4 ?xf5 ?xf6 ?xf7 ?xf8 ?xf9 ?xf10 ?xf11 ?xf12 ?xf13 ?xf14 ?xf15 ?xf16 ?xf17 ?xf18 ?xf19 ?xf20 ?xf21 ?xf22 ?xf23 ?xf24 ?xf25 ?xf26 ?xf27 ?xf28 ?xf29 ?xf30 ?xf31 ?xf32 ?xf33 ?xf34 ?xf35 ?xf36 ?xf37 ?xf38 ?xf39 ?xf40 ?xf41 ?xf42 ?xf43 ?xf44 ?xf45 ?xf46 ?xf47 ?xf48 ?xf49 ?xf50 ?xf51 ?xf52 ?xf53 ?xf54 ?xf55 ?xf56 ?xf57 ?xf58 ?xf59 ?xf60 ?xf61 ?xf62 ?xf63 ?xf64 ?xf65 ?xf66 ?xf67 ?xf68 ?xf69 ?xf70 ?xf71 ?xf72 ?xf73 ?xf74 ?xf75 ?xf76 ?xf77 ?xf78 ?xf79 ?xf80 ?xf81 ?xf82 ?xf83 ?xf84 ?xf85 ?xf86 ?xf87 ?xf88 ?xf89 ?xf90 ?xf91 ?xf92 ?xf93 ?xf94 ?xf95 ?xa9 ?xf96 ?xf97 ?xf98 ?xf99 ?xf100 ?xf101 ?xf102 ?xf103 ?xf104 ?xf105 ?xL8 ?rb8 ?xf106 ?xf107 ?lI8 ?cI8 ?xf108 ?xf109 ?xf110 ?xf111 ?xf112 ?xf113
    (case a0 => k_is)
    (case l0 => k_is)
    (case c0 => k_is)
    (case k0 => k_is)
    (case a1 => k_is)
    (case l1 => k_is)
    (case c1 => k_is)
    (case k1 => k_is)
    (case a2 => k_is)
    (case l2 => k_is)
    (case c2 => k_is)
    (case k2 => k_is)
    (case a3 => k_is)
    (case l3 => k_is)
    (case c3 => k_is)
    (case k3 => k_is)
    (case a4 => k_is)
    (case l4 => k_is)
    (case c4 => k_is)
    (case k4 => k_is)
    (case a5 => k_is)
    (case l5 => k_is)
    (case c5 => k_is)
    (case k5 => k_is)
    (case a6 => k_is)
    (case l6 => k_is)
    (case c6 => k_is)
    (case k6 => k_is)
    (case a7 => k_is)
    (case l7 => k_is)
    (case c7 => k_is)
    (case k7 => k_is)
    (case a8 => k_is)
    (case l8 => k_is)
    (case c8 => k_is)
    (case k8 => k_is)
    (case a9 => k_is)
    (case l9 => k_is)
    (case c9 => k_is)
    (case k9 => k_is)
    (case a10 => k_is)
    (case l10 => k_is)
    (case c10 => k_is)
    (case k10 => k_is)
    (case a11 => k_is)
    (case l11 => k_is)
    (case c11 => k_is)
    (case k11 => k_is)
    (case a12 => k_is)
    (case l12 => k_is)
    (case c12 => k_is)
    (case k12 => k_is)
    (case a13 => k_is)
    (case l13 => k_is)
    (case c13 => k_is)
    (case k13 => k_is)
    (case a14 => k_is)
    (case l14 => k_is)
    (case c14 => k_is)
    (case k14 => k_is)
    (case a15 => k_is)
    (case l15 => k_is)
    (case lD15_0 => k_is)
    (case lD15_1 => k_is)
    (case c15 => k_is)
    (case k15 => k_is)
    (case a16 => k_is)
    (case l16 => k_is)
    (case c16 => k_is)
    (case k16 => k_is)
    (case a17 => k_is)
    (case l17 => k_is)
    (case c17 => k_is)
    (case k17 => k_is)
    (case a18 => k_is)
    (case l18 => k_is)
    (case c18 => k_is)
    (case k18 => k_is)
    (case a19 => k_is)
    (case l19 => k_is)
    (case c19 => k_is)
    (case k19 => k_is)
    (case a20 => k_is)
    (case l20 => k_is)
    (case c20 => k_is)
    (case k20 => k_is)
    (case a21 => k_is)
    (case l21 => k_is)
    (case c21 => k_is)
    (case k21 => k_is)
    (case a22 => k_is)
    (case l22 => k_is)
    (case c22 => k_is)
    (case k22 => k_is)
    (case a23 => k_is)
    (case l23 => k_is)
    (case c23 => k_is)
    (case k23 => k_is)
    (case a24 => k_is)
    (case l24 => k_is)
    (case c24 => k_is)
    (case k24 => k_is)
    (case a25 => k_is)
    (case l25 => k_is)
    (case c25 => k_is)
    (case k25 => k_is)
    (case a26 => k_is)
    (case l26 => k_is)
    (case c26 => k_is)
    (case k26 => k_is)
    (case a27 => k_is)
    (case l27 => k_is)
    (case c27 => k_is)
    (case k27 => k_is)
    (case a28 => k_is)
    (case l28 => k_is)
    (case lT28 => k_is)
    (case c28 => k_is)
    (case k28 => k_is)
    (case a29 => k_is)
    (case l29 => k_is)
    (case c29 => k_is)
    (case k29 => k_is)
    (case a30 => k_is)
    (case l30 => k_is)
    (case c30 => k_is)
    (case k30 => k_is)
    (case a31 => k_is)
    (case l31 => k_is)
    (case c31 => k_is)
    (case k31 => k_is)
    (case a32 => k_is)
    (case l32 => k_is)
    (case c32 => k_is)
    (case k32 => k_is)
    (case a33 => k_is)
    (case l33 => k_is)
    (case c33 => k_is)
    (case k33 => k_is)
    (case a34 => k_is)
    (case l34 => k_is)
    (case c34 => k_is)
    (case k34 => k_is)
    (case a35 => k_is)
    (case l35 => k_is)
    (case c35 => k_is)
    (case k35 => k_is)
    (case a36 => k_is)
    (case l36 => k_is)
    (case c36 => k_is)
    (case k36 => k_is)
    (case a37 => k_is)
    (case l37 => k_is)
    (case c37 => k_is)
    (case k37 => k_is)
    (case a38 => k_is)
    (case l38 => k_is)
    (case c38 => k_is)
    (case k38 => k_is)
    (case a39 => k_is)
    (case l39 => k_is)
    (case c39 => k_is)
    (case k39 => k_is)
    (case a40 => k_is)
    (case l40 => k_is)
    (case c40 => k_is)
    (case k40 => k_is)
    (case a41 => k_is)
    (case l41 => k_is)
    (case c41 => k_is)
    (case k41 => k_is)
    (case a42 => k_is)
    (case l42 => k_is)
    (case c42 => k_is)
    (case k42 => k_is)
    (case a43 => k_is)
    (case l43 => k_is)
    (case c43 => k_is)
    (case k43 => k_is)
    (case a44 => k_is)
    (case l44 => k_is)
    (case c44 => k_is)
    (case k44 => k_is)
    (case a45 => k_is)
    (case l45 => k_is)
    (case c45 => k_is)
    (case k45 => k_is)
    (case a46 => k_is)
    (case l46 => k_is)
    (case c46 => k_is)
    (case k46 => k_is)
    (case z0 => k_is)
    (case z1 => k_is)
    (case z2 => k_is)
    (case z3 => k_is)
    (case z4 => k_is)
    (case z5 => k_is)
    (case z6 => k_is)
    (case z7 => k_is)
    (case z8 => k_is)
    (case z9 => k_is)
    (case z10 => k_is)
    (case z11 => k_is)
    (case v0 => k_is)
    (case q0_1 => k_is)
    (case v1 => k_is)
    (case q1_1 => k_is)
    (case v2 => k_is)
    (case tb2 => k_is)
    (case hs2_0 => rfl)
    (case hs2_1 => rfl)
    (case hs2_2 => rfl)
    (case hs2_3 => rfl)
    (case hs2_4 => rfl)
    (case hs2_5 => rfl)
    (case lw2 => rfl)
    (case v3 => k_is)
    (case v4 => k_is)
    (case v5 => k_is)
    (case v6 => k_is)
    (case v7 => k_is)
    (case tb7 => k_is)
    (case hs7_0 => rfl)
    (case hs7_1 => rfl)
    (case hs7_2 => rfl)
    (case hs7_3 => rfl)
    (case hs7_4 => rfl)
    (case hs7_5 => rfl)
    (case hs7_6 => rfl)
    (case lw7 => rfl)
    (case q7_1 => k_is)
    (case q7_4 => k_is)
    (case q7_9 => k_is)
    (case q7_12 => k_is)
    (case q7_15 => k_is)
    (case q7_18 => k_is)
    (case q7_21 => k_is)
    (case xa0 => k_is)
    (case xq0 => k_exc)
    (case xk0 => k_is)
    (case xb0 => k_is)
    (case xt0 => k_is)
    (case xa1 => k_is)
    (case xq1 => k_exc)
    (case xk1 => k_is)
    (case xb1 => k_is)
    (case xt1 => k_is)
    (case xa2 => k_is)
    (case xq2 => k_exc)
    (case xk2 => k_is)
    (case xb2 => k_is)
    (case xt2 => k_is)
    (case xa3 => k_is)
    (case xq3 => k_exc)
    (case xk3 => k_is)
    (case xb3 => k_is)
    (case xt3 => k_is)
    (case xa4 => k_is)
    (case xq4 => k_exc)
    (case xk4 => k_is)
    (case xb4 => k_is)
    (case xt4 => k_is)
    (case xa5 => k_is)
    (case xq5 => k_exc)
    (case xk5 => k_is)
    (case xb5 => k_is)
    (case xt5 => k_is)
    (case xa6 => k_is)
    (case xq6 => k_exc)
    (case xk6 => k_is)
    (case xb6 => k_is)
    (case xt6 => k_is)
    (case xa7 => k_is)
    (case xq7 => k_exc)
    (case xk7 => k_is)
    (case xb7 => k_is)
    (case xt7 => k_is)
    (case xa8 => k_is)
    (case xf0 => k_is)
    (case xf1 => k_is)
    (case xf2 => k_is)
    (case xf3 => k_is)
    (case xf4 => k_is)
    (case xf5 => k_is)
    (case xf6 => k_is)
    (case xf7 => k_is)
    (case xf8 => k_is)
    (case xf9 => k_is)
    (case xf10 => k_is)
    (case xf11 => k_is)
    (case xf12 => k_is)
    (case xf13 => k_is)
    (case xf14 => k_is)
    (case xf15 => k_is)
    (case xf16 => k_is)
    (case xf17 => k_is)
    (case xf18 => k_is)
    (case xf19 => k_is)
    (case xf20 => k_is)
    (case xf21 => k_is)
    (case xf22 => k_is)
    (case xf23 => k_is)
    (case xf24 => k_is)
    (case xf25 => k_is)
    (case xf26 => k_is)
    (case xf27 => k_is)
    (case xf28 => k_is)
    (case xf29 => k_is)
    (case xf30 => k_is)
    (case xf31 => k_is)
    (case xf32 => k_is)
    (case xf33 => k_is)
    (case xf34 => k_is)
    (case xf35 => k_is)
    (case xf36 => k_is)
    (case xf37 => k_is)
    (case xf38 => k_is)
    (case xf39 => k_is)
    (case xf40 => k_is)
    (case xf41 => k_is)
    (case xf42 => k_is)
    (case xf43 => k_is)
    (case xf44 => k_is)
    (case xf45 => k_is)
    (case xf46 => k_is)
    (case xf47 => k_is)
    (case xf48 => k_is)
    (case xf49 => k_is)
    (case xf50 => k_is)
    (case xf51 => k_is)
    (case xf52 => k_is)
    (case xf53 => k_is)
    (case xf54 => k_is)
    (case xf55 => k_is)
    (case xf56 => k_is)
    (case xf57 => k_is)
    (case xf58 => k_is)
    (case xf59 => k_is)
    (case xf60 => k_is)
    (case xf61 => k_is)
    (case xf62 => k_is)
    (case xf63 => k_is)
    (case xf64 => k_is)
    (case xf65 => k_is)
    (case xf66 => k_is)
    (case xf67 => k_is)
    (case xf68 => k_is)
    (case xf69 => k_is)
    (case xf70 => k_is)
    (case xf71 => k_is)
    (case xf72 => k_is)
    (case xf73 => k_is)
    (case xf74 => k_is)
    (case xf75 => k_is)
    (case xf76 => k_is)
    (case xf77 => k_is)
    (case xf78 => k_is)
    (case xf79 => k_is)
    (case xf80 => k_is)
    (case xf81 => k_is)
    (case xf82 => k_is)
    (case xf83 => k_is)
    (case xf84 => k_is)
    (case xf85 => k_is)
    (case xf86 => k_is)
    (case xf87 => k_is)
    (case xf88 => k_is)
    (case xf89 => k_is)
    (case xf90 => k_is)
    (case xf91 => k_is)
    (case xf92 => k_is)
    (case xf93 => k_is)
    (case xf94 => k_is)
    (case xf95 => k_is)
    (case xa9 => k_is)
    (case xf96 => k_is)
    (case xf97 => k_is)
    (case xf98 => k_is)
    (case xf99 => k_is)
    (case xf100 => k_is)
    (case xf101 => k_is)
    (case xf102 => k_is)
    (case xf103 => k_is)
    (case xf104 => k_is)
    (case xf105 => k_is)
    (case xL8 => k_is)
    (case rb8 => first | rfl | decide +kernel)
    (case xf106 => k_is)
    (case xf107 => k_is)
    (case lI8 => k_is)
    (case cI8 => k_is)
    (case xf108 => k_is)
    (case xf109 => k_is)
    (case xf110 => k_is)
    (case xf111 => k_is)
    (case xf112 => k_is)
    (case xf113 => k_is)
