import PyProof.Rows.All
import Wide.All
import OpenK.AllK
import Wide.FinOn
import HandS.ForMost
import HandS.ForExc
import HandS.Wide
import HandS.IsInst
import HandS.Flow
import HandS.CallSlots
import HandS.ExcIs
import HandS.TupAny
import HandS.Conv
import HandS.Deep
import HandS.ExcField
import KE.GoesEnum
import HandS.Style
import HandS.Ends
import HandS.SortRule
import HandS.SortInts
import HandS.Dict
import HandS.DictComp
import HandS.Defaults
import HandS.MakeKwOnly
import HandS.TryOnly
import HandS.SetFor
import HandS.Strs
import PyProof.P3In
import HandS.More
import PyProof.ReprRoads
import HandS.TryMany
import HandS.ExcInit
import HandS.ClsMeth
import HandS.ExcValue
import HandS.TupMul
import HandS.LawCells
import PySem.Challenge.RW_hoursmeant_k19_programs_looked_at
import PyProof.ReprLen
import PyProof.FitsInt
set_option Elab.async false
set_option linter.all false
set_option maxRecDepth 100000
set_option maxHeartbeats 4000000
-- text DmCore
/-! Plain data in place of the heap: values D, a store of cells, programs as Lean functions of both. -/
namespace Dm
open PySem L2
open PySem.W (Frag)
inductive D where
  | non | bl (b : Bool) | int (i : Int) | str (x : Str)
  | tup (xs : List D) | lst (xs : List D)
  | cell (n : Nat) | glo (x : Str)
  | exn (c : Str) (fs : List (Str × Int))
inductive Cell where
  | lst (xs : List D)
  | obj (c : Str) (fs : List (Str × D))
  | exc (c : Str) (fs : List (Str × D))
  | dic (kvs : List (Key × D))
  | set (xs : List Int)
abbrev Sto := List Cell
inductive Res (α : Type) where
  | ok (a : α) (S : Sto)
  | exc (c : Str) (fs : List (Str × D)) (S : Sto)
  | bad
def Res.bind {α β : Type} (r : Res α) (f : α → Sto → Res β) : Res β := match r with
  | .ok a S => f a S
  | .exc c fs S => .exc c fs S
  | .bad => .bad
abbrev Rho := List (Option D)
abbrev ME := Rho → Sto → Res D
abbrev MA := Rho → Sto → Res (List D)
inductive Out where
  | nx (ρ : Rho) (S : Sto) | rt (d : D) (S : Sto) | bk (ρ : Rho) (S : Sto) | ct (ρ : Rho) (S : Sto)
  | exc (c : Str) (fs : List (Str × D)) (ρ : Rho) (S : Sto) | bad
abbrev MS := Rho → Sto → Out
/-! ### what stands for what -/
def KT (K : Frag) (a : Addr) (xs : List V) : Prop := ∃ (o : Obj) (its : Array Value) (n : Nat), K.lookup a = some o ∧ o.cls = .type "tuple" ∧ o.data = .seq its n ∧ its.size ≤ sizeLine ∧ Vals xs its.toList
def KL (K : Frag) (a : Addr) (xs : List V) : Prop := ∃ (o : Obj) (its : Array Value) (n : Nat), K.lookup a = some o ∧ o.cls = .type "list" ∧ o.dict = none ∧ o.data = .seq its n ∧ its.size ≤ sizeLine ∧ Vals xs its.toList
/-- what is fixed: the written part, the module's names, the addresses of lists that are being made -/
structure Fx where
  K : Frag
  mg : Str → Option Value
  ξ : List Addr
abbrev fx (X : Cx) (ξ : List Addr) : Fx := ⟨X.K, X.mg, ξ⟩
def FzT (F : Fx) (μ : List Addr) (H : Hp) (a : Addr) (xs : List V) : Prop := (Rd H a (.tup xs) ∧ a ∉ μ ∧ a ∉ F.ξ) ∨ KT F.K a xs
def FzL (F : Fx) (μ : List Addr) (H : Hp) (a : Addr) (xs : List V) : Prop := (Rd H a (.lst xs) ∧ a ∉ μ ∧ a ∉ F.ξ) ∨ KL F.K a xs
theorem FzT.sq {F : Fx} {μ : List Addr} {H : Hp} {a : Addr} {xs : List V} (h : FzT F μ H a xs) : SqT F.K H a xs := h.imp (·.1) id
theorem FzL.sq {F : Fx} {μ : List Addr} {H : Hp} {a : Addr} {xs : List V} (h : FzL F μ H a xs) : SqL F.K H a xs := h.imp (·.1) id
/-- at a: an exception that was raised once, of the class cls, its dict -/
def ExV (cls : Value) (d : Option Addr) (a : Addr) : HO := .ext fun h => ∃ (oe : Obj) (vs : Array Value), h.get? a = some oe ∧ Zc cls d oe ∧ oe.data = .fields vs
def intFs (ns : List (Str × Int)) : List (Str × V) := ns.map fun p => (p.1, .int p.2)
/-- an own error class: isinstance asks its instances rightly, they are of no plain type -/
def PlX (K : Frag) (cls : Value) : Prop := ∃ D : Addr, cls = .ref D ∧ ExcC K D ∧ ∀ x : String, x ∈ ["tuple", "list", "int", "str", "bool", "dict"] → PySem.W.kitOne K (.ref D) (.type x) = some false
structure ClsK (K : Frag) (mg : Str → Option Value) (c : Str) (cls : Value) : Prop where
  mg : mg c = some cls
  pl : PlX K cls
/-- an exception as a value; without fields: its fields are not known -/
def FzX (F : Fx) (μ : List Addr) (H : Hp) (a : Addr) (c : Str) (ns : List (Str × Int)) : Prop := ∃ cls dd, ClsK F.K F.mg c cls ∧ (H a = some (ExV cls dd a) ∧ a ∉ μ ∧ a ∉ F.ξ) ∧ ((ns = [] ∧ dd = none) ∨ ∃ d fs, dd = some d ∧ H d = some (.xd fs) ∧ (ns = [] ∨ fs = intFs ns) ∧ d ∉ μ ∧ d ∉ F.ξ)
mutual
inductive RD (F : Fx) (μ : List Addr) (H : Hp) : V → D → Prop
  | non : RD F μ H .non .non
  | bl (b : Bool) : RD F μ H (.bl b) (.bl b)
  | int (i : Int) : RD F μ H (.int i) (.int i)
  | str (x : Str) : RD F μ H (.str x) (.str x)
  | tup {a : Addr} {xs : List V} {ds : List D} : FzT F μ H a xs → RDs F μ H xs ds → RD F μ H (.ref a) (.tup ds)
  | lst {a : Addr} {xs : List V} {ds : List D} : FzL F μ H a xs → RDs F μ H xs ds → RD F μ H (.ref a) (.lst ds)
  | cell {a : Addr} {n : Nat} : μ[n]? = some a → RD F μ H (.ref a) (.cell n)
  | glo {a : Addr} {x : Str} : F.mg x = some (.ref a) → RD F μ H (.ref a) (.glo x)
  | exn {a : Addr} {c : Str} {ns : List (Str × Int)} : FzX F μ H a c ns → RD F μ H (.ref a) (.exn c ns)
inductive RDs (F : Fx) (μ : List Addr) (H : Hp) : List V → List D → Prop
  | nil : RDs F μ H [] []
  | cons {v : V} {vs : List V} {d : D} {ds : List D} : RD F μ H v d → RDs F μ H vs ds → RDs F μ H (v :: vs) (d :: ds)
end
/-- what has gone on: new cells behind the old ones, all but the cells is as it was -/
structure Up (μ : List Addr) (H : Hp) (μ' : List Addr) (H' : Hp) : Prop where
  pre : ∃ ν, μ' = μ ++ ν
  new : ∀ a, a ∈ μ' → a ∉ μ → H a = none
  keep : ∀ a o, H a = some o → a ∉ μ → H' a = some o
section
variable {F : Fx} {μ μ' μ1 μ2 : List Addr} {H H' H1 H2 : Hp}
theorem Up.refl : Up μ H μ H := ⟨⟨[], (List.append_nil _).symm⟩, fun _ h n => absurd h n, fun _ _ h _ => h⟩
theorem Up.notin (u : Up μ H μ' H') {a : Addr} {o : HO} (h : H a = some o) (n : a ∉ μ) : a ∉ μ' := fun z => by
  have q := u.new a z n
  rw [h] at q; cases q
theorem Up.trans (u : Up μ H μ1 H1) (v : Up μ1 H1 μ2 H2) : Up μ H μ2 H2 := by
  obtain ⟨ν, e⟩ := u.pre
  obtain ⟨ν', e'⟩ := v.pre
  refine ⟨⟨ν ++ ν', by rw [e', e, List.append_assoc]⟩, fun a h n => ?_, fun a o h n => v.keep a o (u.keep a o h n) (u.notin h n)⟩
  by_cases h1 : a ∈ μ1
  · exact u.new a h1 n
  · have q := v.new a h h1
    cases z : H a with
    | none => rfl
    | some o =>
      rw [u.keep a o z n] at q; cases q
theorem Up.back (u : Up μ H μ' H') {p : Addr} (h : H' p = none) (n : p ∉ μ := by assumption) : H p = none := by
  cases z : H p with
  | none => rfl
  | some o =>
    rw [u.keep p o z n] at h; cases h
theorem Up.mem (u : Up μ H μ' H') {a : Addr} (h : a ∈ μ) : a ∈ μ' := by
  obtain ⟨ν, e⟩ := u.pre
  rw [e]
  exact List.mem_append_left _ h
theorem Up.get (u : Up μ H μ' H') {n : Nat} {a : Addr} (h : μ[n]? = some a) : μ'[n]? = some a := by
  obtain ⟨ν, e⟩ := u.pre
  rw [e, List.getElem?_append_left (List.getElem?_eq_some_iff.mp h).1]
  exact h
theorem FzT.up (u : Up μ H μ' H') {a : Addr} {xs : List V} (h : FzT F μ H a xs) : FzT F μ' H' a xs := by
  rcases h with ⟨h, n, nx⟩ | h
  · rcases h with h | ⟨o, h⟩
    · exact .inl ⟨.inl (u.keep _ _ h n), u.notin h n, nx⟩
    · exact .inl ⟨.inr ⟨o, u.keep _ _ h n⟩, u.notin h n, nx⟩
  · exact .inr h
theorem FzL.up (u : Up μ H μ' H') {a : Addr} {xs : List V} (h : FzL F μ H a xs) : FzL F μ' H' a xs := by
  rcases h with ⟨h, n, nx⟩ | h
  · rcases h with h | ⟨o, h⟩
    · exact .inl ⟨.inl (u.keep _ _ h n), u.notin h n, nx⟩
    · exact .inl ⟨.inr ⟨o, u.keep _ _ h n⟩, u.notin h n, nx⟩
  · exact .inr h
theorem FzX.up (u : Up μ H μ' H') {a : Addr} {c : Str} {ns : List (Str × Int)} (h : FzX F μ H a c ns) : FzX F μ' H' a c ns := by
  obtain ⟨cls, dd, e, ⟨h1, h2, h3⟩, h4⟩ := h
  refine ⟨cls, dd, e, ⟨u.keep _ _ h1 h2, u.notin h1 h2, h3⟩, h4.imp id ?_⟩
  rintro ⟨d, fs, e2, h5, hf, h6, h7⟩
  exact ⟨d, fs, e2, u.keep _ _ h5 h6, hf, u.notin h5 h6, h7⟩
mutual
theorem RD.up (u : Up μ H μ' H') : ∀ {v : V} (d : D), RD F μ H v d → RD F μ' H' v d
  | _, .non, h => by cases h; exact .non
  | _, .bl b, h => by cases h; exact .bl b
  | _, .int i, h => by cases h; exact .int i
  | _, .str x, h => by cases h; exact .str x
  | _, .tup ds, h => by
    cases h with
    | tup f r => exact .tup (f.up u) (RDs.up u ds r)
  | _, .lst ds, h => by
    cases h with
    | lst f r => exact .lst (f.up u) (RDs.up u ds r)
  | _, .cell n, h => by
    cases h with
    | cell e => exact .cell (u.get e)
  | _, .glo x, h => by
    cases h with
    | glo e => exact .glo e
  | _, .exn c ns, h => by
    cases h with
    | exn f => exact .exn (f.up u)
theorem RDs.up (u : Up μ H μ' H') : ∀ {vs : List V} (ds : List D), RDs F μ H vs ds → RDs F μ' H' vs ds
  | _, [], h => by cases h; exact .nil
  | _, d :: ds, h => by
    cases h with
    | cons a b => exact .cons (RD.up u d a) (RDs.up u ds b)
end
theorem RDs.length : ∀ {vs : List V} {ds : List D}, RDs F μ H vs ds → vs.length = ds.length
  | _, [], h => by cases h; rfl
  | _, d :: ds, h => by
    cases h with
    | cons a b => rw [List.length_cons, List.length_cons, RDs.length b]
theorem RDs.get : ∀ {vs : List V} {ds : List D}, RDs F μ H vs ds → ∀ {i : Nat} {d : D}, ds[i]? = some d → ∃ v, vs[i]? = some v ∧ RD F μ H v d
  | _, [], _, i, d, e => by simp at e
  | _, d0 :: ds, h, 0, d, e => by
    cases h with
    | cons a b =>
      simp at e; subst e
      exact ⟨_, rfl, a⟩
  | _, d0 :: ds, h, i + 1, d, e => by
    cases h with
    | cons a b =>
      obtain ⟨v, h1, h2⟩ := RDs.get b (i := i) (d := d) (by simpa using e)
      exact ⟨v, by simpa using h1, h2⟩
theorem RDs.append : ∀ {vs ws : List V} {ds es : List D}, RDs F μ H vs ds → RDs F μ H ws es → RDs F μ H (vs ++ ws) (ds ++ es)
  | _, _, [], _, h, k => by cases h; exact k
  | _, _, d :: ds, _, h, k => by
    cases h with
    | cons a b => exact .cons a (RDs.append b k)
theorem RDs.take : ∀ {vs : List V} {ds : List D} (n : Nat), RDs F μ H vs ds → RDs F μ H (vs.take n) (ds.take n)
  | _, _, 0, _ => .nil
  | _, [], _ + 1, h => by cases h; exact .nil
  | _, d :: ds, n + 1, h => by
    cases h with
    | cons a b => exact .cons a (RDs.take n b)
theorem RDs.drop : ∀ {vs : List V} {ds : List D} (n : Nat), RDs F μ H vs ds → RDs F μ H (vs.drop n) (ds.drop n)
  | _, _, 0, h => h
  | _, [], _ + 1, h => by cases h; exact .nil
  | _, d :: ds, n + 1, h => by
    cases h with
    | cons a b => exact RDs.drop n b
theorem RDs.reverse : ∀ {vs : List V} {ds : List D}, RDs F μ H vs ds → RDs F μ H vs.reverse ds.reverse
  | _, [], h => by cases h; exact .nil
  | _, d :: ds, h => by
    cases h with
    | cons a b =>
      rw [List.reverse_cons, List.reverse_cons]
      exact RDs.append (RDs.reverse b) (.cons a .nil)
theorem RDs.set : ∀ {vs : List V} {ds : List D} (n : Nat) {v : V} {d : D}, RDs F μ H vs ds → RD F μ H v d → RDs F μ H (vs.set n v) (ds.set n d)
  | _, [], n, _, _, h, _ => by cases h; exact .nil
  | _, d0 :: ds, 0, _, _, h, k => by
    cases h with
    | cons a b => exact .cons k b
  | _, d0 :: ds, n + 1, _, _, h, k => by
    cases h with
    | cons a b => exact .cons a (RDs.set n b k)
end
/-- fields by name -/
def FsR (F : Fx) (μ : List Addr) (H : Hp) (vfs : List (Str × V)) (fs : List (Str × D)) : Prop := Paired (fun p q => p.1 = q.1 ∧ RD F μ H p.2 q.2) vfs fs
def KvR (F : Fx) (μ : List Addr) (H : Hp) (vk : List (Key × V)) (kvs : List (Key × D)) : Prop := Paired (fun p q => p.1 = q.1 ∧ RD F μ H p.2 q.2) vk kvs
theorem FsR.up {F : Fx} {μ μ' : List Addr} {H H' : Hp} (u : Up μ H μ' H') {vfs : List (Str × V)} {fs : List (Str × D)} (h : FsR F μ H vfs fs) : FsR F μ' H' vfs fs :=
  Paired.mapP h fun _ _ z => ⟨z.1, z.2.up u⟩
theorem KvR.up {F : Fx} {μ μ' : List Addr} {H H' : Hp} (u : Up μ H μ' H') {vfs : List (Key × V)} {fs : List (Key × D)} (h : KvR F μ H vfs fs) : KvR F μ' H' vfs fs :=
  Paired.mapP h fun _ _ z => ⟨z.1, z.2.up u⟩
/-- a cell at its address -/
def CellOk (F : Fx) (μ : List Addr) (H : Hp) (a : Addr) : Cell → Prop
  | .lst ds => ∃ xs, H a = some (.lst xs) ∧ RDs F μ H xs ds
  | .obj c fs => ∃ C dx vfs, H a = some (.ins C dx vfs) ∧ F.mg c = some (.ref C) ∧ FsR F μ H vfs fs
  | .dic kvs => ∃ vk, H a = some (.dK vk) ∧ KvR F μ H vk kvs
  | .exc _ _ => False
  | .set _ => False
structure RS (F : Fx) (μ : List Addr) (H : Hp) (S : Sto) : Prop where
  len : μ.length = S.length
  nd : μ.Nodup
  at_ : ∀ (n : Nat) (a : Addr) (c : Cell), μ[n]? = some a → S[n]? = some c → CellOk F μ H a c
  xi : ∀ a, a ∈ F.ξ → a ∉ μ ∧ ∃ o, H a = some o
/-- the slots -/
structure RG (F : Fx) (μ : List Addr) (H : Hp) (σ : St) (ρ : Rho) : Prop where
  len : σ.length = ρ.length
  at_ : ∀ (i : Nat) (d : D), ρ[i]? = some (some d) → ∃ v, σ[i]? = some (some v) ∧ RD F μ H v d
/-- an exception in the air -/
def XR (F : Fx) (μ : List Addr) (H : Hp) (cls : Value) (dd : Option Addr) (c : Str) (fs : List (Str × D)) : Prop :=
  F.mg c = some cls ∧ ((fs = [] ∧ dd = none) ∨ ∃ d vfs, dd = some d ∧ H d = some (.xd vfs) ∧ d ∉ μ ∧ d ∉ F.ξ ∧ FsR F μ H vfs fs)
section
variable {F : Fx} {μ μ' μ1 : List Addr} {H H' H1 : Hp} {S S' S1 : Sto} {σ : St} {ρ : Rho}
theorem RG.up (u : Up μ H μ' H') (g : RG F μ H σ ρ) : RG F μ' H' σ ρ := ⟨g.len, fun i d e => by
  obtain ⟨v, h, r⟩ := g.at_ i d e
  exact ⟨v, h, r.up u⟩⟩
theorem RG.set {v : V} {d : D} (i : Nat) (g : RG F μ H σ ρ) (r : RD F μ H v d) : RG F μ H (σ.set i (some v)) (ρ.set i (some d)) := ⟨by rw [List.length_set, List.length_set, g.len], fun j d' e => by
  by_cases hj : i = j
  · subst hj
    by_cases hl : i < ρ.length
    · rw [List.getElem?_set_self hl] at e; cases e
      exact ⟨v, List.getElem?_set_self (by rw [g.len]; exact hl), r⟩
    · rw [List.getElem?_eq_none (by simpa using hl)] at e; cases e
  · rw [List.getElem?_set_ne hj] at e
    obtain ⟨w, h, r'⟩ := g.at_ j d' e
    exact ⟨w, by rw [List.getElem?_set_ne hj]; exact h, r'⟩⟩
theorem RG.forget {σ' : St} (i : Nat) (g : RG F μ H σ ρ) : RG F μ H (σ.set i none) (ρ.set i none) := ⟨by rw [List.length_set, List.length_set, g.len], fun j d' e => by
  by_cases hj : i = j
  · subst hj
    by_cases hl : i < ρ.length
    · rw [List.getElem?_set_self hl] at e; cases e
    · rw [List.getElem?_eq_none (by simpa using hl)] at e; cases e
  · rw [List.getElem?_set_ne hj] at e
    obtain ⟨w, h, r'⟩ := g.at_ j d' e
    exact ⟨w, by rw [List.getElem?_set_ne hj]; exact h, r'⟩⟩
/-- a new object beside the cells -/
theorem Up.fresh {p : Addr} {o : HO} (h : H p = none) : Up μ H μ (upd H p o) := ⟨⟨[], (List.append_nil _).symm⟩, fun _ h n => absurd h n, fun a u e _ => by rw [upd_ne (ne_of_none e h)]; exact e⟩
theorem CellOk.up (u : Up μ H μ' H') {a : Addr} {c : Cell} (e : H' a = H a) (h : CellOk F μ H a c) : CellOk F μ' H' a c := by
  cases c with
  | lst ds =>
    obtain ⟨xs, h1, h2⟩ := h
    exact ⟨xs, e.trans h1, h2.up u⟩
  | obj c fs =>
    obtain ⟨C, dx, vfs, h1, h2, h3⟩ := h
    exact ⟨C, dx, vfs, e.trans h1, h2, h3.up u⟩
  | dic kvs =>
    obtain ⟨vk, h1, h2⟩ := h
    exact ⟨vk, e.trans h1, h2.up u⟩
  | exc _ _ => exact h.elim
  | set _ => exact h.elim
theorem CellOk.hasO {a : Addr} {c : Cell} (h : CellOk F μ H a c) : ∃ o, H a = some o := by
  cases c with
  | lst ds =>
    obtain ⟨xs, h1, h2⟩ := h
    exact ⟨_, h1⟩
  | obj c fs =>
    obtain ⟨C, dx, vfs, h1, _⟩ := h
    exact ⟨_, h1⟩
  | dic kvs =>
    obtain ⟨vk, h1, h2⟩ := h
    exact ⟨_, h1⟩
  | exc _ _ => exact h.elim
  | set _ => exact h.elim
theorem RS.there (r : RS F μ H S) {n : Nat} {a : Addr} (h : μ[n]? = some a) : ∃ c, S[n]? = some c := by
  have hn := (List.getElem?_eq_some_iff.mp h).1
  rw [r.len] at hn
  exact ⟨S[n], List.getElem?_eq_getElem hn⟩
theorem RS.hasO (r : RS F μ H S) {a : Addr} (h : a ∈ μ) : ∃ o, H a = some o := by
  obtain ⟨n, e⟩ := List.getElem?_of_mem h
  obtain ⟨c, hc⟩ := r.there e
  exact (r.at_ n a c e hc).hasO
theorem RS.out (r : RS F μ H S) {p : Addr} (h : H p = none) : p ∉ μ := fun z => by
  obtain ⟨o, e⟩ := r.hasO z
  rw [h] at e; cases e
theorem RS.outX (r : RS F μ H S) {p : Addr} (h : H p = none) : p ∉ F.ξ := fun z => by
  obtain ⟨_, o, e⟩ := r.xi p z
  rw [h] at e; cases e
theorem RS.fresh (r : RS F μ H S) {p : Addr} {o : HO} (h : H p = none) : RS F μ (upd H p o) S := ⟨r.len, r.nd, fun n a c e1 e2 => by
  have q := r.at_ n a c e1 e2
  refine q.up (.fresh h) (upd_ne ?_)
  intro z
  subst z
  obtain ⟨o', e⟩ := q.hasO
  rw [h] at e; exact (nomatch e), fun a ha => ⟨(r.xi a ha).1, by
    obtain ⟨o', e⟩ := (r.xi a ha).2
    exact ⟨o', by rw [upd_ne (ne_of_none e h)]; exact e⟩⟩⟩
theorem alloc_at {p : Addr} : (μ ++ [p])[μ.length]? = some p := by rw [List.getElem?_append_right (Nat.le_refl _), Nat.sub_self]; rfl
/-- a cell is written -/
theorem Up.write {n : Nat} {a : Addr} {o : HO} (h : μ[n]? = some a) : Up μ H μ (upd H a o) := ⟨⟨[], (List.append_nil _).symm⟩, fun _ h n => absurd h n, fun b u e nb => by
  rw [upd_ne]
  · exact e
  · rintro rfl
    exact nb (List.mem_of_getElem? h)⟩
theorem RS.write (r : RS F μ H S) {n : Nat} {a : Addr} {o : HO} {c : Cell} (h : μ[n]? = some a) (hc : CellOk F μ (upd H a o) a c) : RS F μ (upd H a o) (S.set n c) := by
  refine ⟨by rw [List.length_set, r.len], r.nd, fun m b c' e1 e2 => ?_, fun b hb => ⟨(r.xi b hb).1, by
    obtain ⟨o', e⟩ := (r.xi b hb).2
    refine ⟨o', ?_⟩
    rw [upd_ne]
    · exact e
    · rintro rfl
      exact (r.xi b hb).1 (List.mem_of_getElem? h)⟩⟩
  by_cases hm : n = m
  · subst hm
    rw [h] at e1; cases e1
    have hl : n < S.length := by rw [← r.len]; exact (List.getElem?_eq_some_iff.mp h).1
    rw [List.getElem?_set_self hl] at e2; cases e2
    exact hc
  · rw [List.getElem?_set_ne hm] at e2
    refine (r.at_ m b c' e1 e2).up (.write h) (upd_ne ?_)
    rintro rfl
    have h1 := (List.getElem?_eq_some_iff.mp h)
    have h2 := (List.getElem?_eq_some_iff.mp e1)
    exact hm ((List.getElem_inj r.nd).mp (h1.2.trans h2.2.symm))
/-- a list that is being made: reserved, then let go -/
def Fx.hold (F : Fx) (p : Addr) : Fx := ⟨F.K, F.mg, p :: F.ξ⟩
theorem FzT.free {p a : Addr} {xs : List V} (h : FzT (F.hold p) μ H a xs) : FzT F μ H a xs := h.imp (fun z => ⟨z.1, z.2.1, fun q => z.2.2 (List.mem_cons_of_mem _ q)⟩) id
theorem FzL.free {p a : Addr} {xs : List V} (h : FzL (F.hold p) μ H a xs) : FzL F μ H a xs := h.imp (fun z => ⟨z.1, z.2.1, fun q => z.2.2 (List.mem_cons_of_mem _ q)⟩) id
theorem FzX.free {p a : Addr} {c : Str} {ns : List (Str × Int)} (h : FzX (F.hold p) μ H a c ns) : FzX F μ H a c ns := by
  obtain ⟨cls, dd, e, ⟨h1, h2, h3⟩, h4⟩ := h
  refine ⟨cls, dd, e, ⟨h1, h2, fun q => h3 (List.mem_cons_of_mem _ q)⟩, h4.imp id ?_⟩
  rintro ⟨d, fs, e2, h5, hf, h6, h7⟩
  exact ⟨d, fs, e2, h5, hf, h6, fun q => h7 (List.mem_cons_of_mem _ q)⟩
mutual
theorem RD.free {p : Addr} : ∀ {v : V} (d : D), RD (F.hold p) μ H v d → RD F μ H v d
  | _, .non, h => by cases h; exact .non
  | _, .bl b, h => by cases h; exact .bl b
  | _, .int i, h => by cases h; exact .int i
  | _, .str x, h => by cases h; exact .str x
  | _, .tup ds, h => by
    cases h with
    | tup f r => exact .tup f.free (RDs.free ds r)
  | _, .lst ds, h => by
    cases h with
    | lst f r => exact .lst f.free (RDs.free ds r)
  | _, .cell n, h => by
    cases h with
    | cell e => exact .cell e
  | _, .glo x, h => by
    cases h with
    | glo e => exact .glo e
  | _, .exn c ns, h => by
    cases h with
    | exn f => exact .exn f.free
theorem RDs.free {p : Addr} : ∀ {vs : List V} (ds : List D), RDs (F.hold p) μ H vs ds → RDs F μ H vs ds
  | _, [], h => by cases h; exact .nil
  | _, d :: ds, h => by
    cases h with
    | cons a b => exact .cons (RD.free d a) (RDs.free ds b)
end
/-- .. reserved at its making, .. written while it is reserved -/
theorem FzT.holds {p a : Addr} {o : HO} {xs : List V} (hp : H p = none) (h : FzT F μ H a xs) : FzT (F.hold p) μ (upd H p o) a xs := by
  rcases h with ⟨h, n, nx⟩ | h
  · have hne : a ≠ p := by
      rcases h with h | ⟨o, h⟩ <;> exact ne_of_none h hp
    refine .inl ⟨?_, n, fun q => (List.mem_cons.mp q).elim hne nx⟩
    rcases h with h | ⟨o, h⟩
    · exact .inl (by rw [upd_ne hne]; exact h)
    · exact .inr ⟨o, by rw [upd_ne hne]; exact h⟩
  · exact .inr h
theorem FzL.holds {p a : Addr} {o : HO} {xs : List V} (hp : H p = none) (h : FzL F μ H a xs) : FzL (F.hold p) μ (upd H p o) a xs := by
  rcases h with ⟨h, n, nx⟩ | h
  · have hne : a ≠ p := by
      rcases h with h | ⟨o, h⟩ <;> exact ne_of_none h hp
    refine .inl ⟨?_, n, fun q => (List.mem_cons.mp q).elim hne nx⟩
    rcases h with h | ⟨o, h⟩
    · exact .inl (by rw [upd_ne hne]; exact h)
    · exact .inr ⟨o, by rw [upd_ne hne]; exact h⟩
  · exact .inr h
theorem FzT.wr {p a : Addr} {o : HO} {xs : List V} (h : FzT (F.hold p) μ H a xs) : FzT (F.hold p) μ (upd H p o) a xs := by
  rcases h with ⟨h, n, nx⟩ | h
  · have hne : a ≠ p := fun z => nx (z ▸ List.mem_cons_self)
    refine .inl ⟨?_, n, nx⟩
    rcases h with h | ⟨o, h⟩
    · exact .inl (by rw [upd_ne hne]; exact h)
    · exact .inr ⟨o, by rw [upd_ne hne]; exact h⟩
  · exact .inr h
theorem FzL.wr {p a : Addr} {o : HO} {xs : List V} (h : FzL (F.hold p) μ H a xs) : FzL (F.hold p) μ (upd H p o) a xs := by
  rcases h with ⟨h, n, nx⟩ | h
  · have hne : a ≠ p := fun z => nx (z ▸ List.mem_cons_self)
    refine .inl ⟨?_, n, nx⟩
    rcases h with h | ⟨o, h⟩
    · exact .inl (by rw [upd_ne hne]; exact h)
    · exact .inr ⟨o, by rw [upd_ne hne]; exact h⟩
  · exact .inr h
theorem FzX.upHold {p a : Addr} {c : Str} {ns : List (Str × Int)} (u : Up μ H μ' H') (hp : H p = none) (h : FzX F μ H a c ns) : FzX (F.hold p) μ' H' a c ns := by
  obtain ⟨cls, dd, e, ⟨h1, h2, h3⟩, h4⟩ := h
  refine ⟨cls, dd, e, ⟨u.keep _ _ h1 h2, u.notin h1 h2, fun q => (List.mem_cons.mp q).elim (ne_of_none h1 hp) h3⟩, h4.imp id ?_⟩
  rintro ⟨d, fs, e2, h5, hf, h6, h7⟩
  exact ⟨d, fs, e2, u.keep _ _ h5 h6, hf, u.notin h5 h6, fun q => (List.mem_cons.mp q).elim (ne_of_none h5 hp) h7⟩
theorem FzX.holds {p a : Addr} {o : HO} {c : Str} {ns : List (Str × Int)} (hp : H p = none) (h : FzX F μ H a c ns) : FzX (F.hold p) μ (upd H p o) a c ns := by
  obtain ⟨cls, dd, e, ⟨h1, h2, h3⟩, h4⟩ := h
  refine ⟨cls, dd, e, ⟨by rw [upd_ne (ne_of_none h1 hp)]; exact h1, h2, fun q => (List.mem_cons.mp q).elim (ne_of_none h1 hp) h3⟩, h4.imp id ?_⟩
  rintro ⟨d, fs, e2, h5, hf, h6, h7⟩
  exact ⟨d, fs, e2, by rw [upd_ne (ne_of_none h5 hp)]; exact h5, hf, h6, fun q => (List.mem_cons.mp q).elim (ne_of_none h5 hp) h7⟩
theorem FzX.wr {p a : Addr} {o : HO} {c : Str} {ns : List (Str × Int)} (h : FzX (F.hold p) μ H a c ns) : FzX (F.hold p) μ (upd H p o) a c ns := by
  obtain ⟨cls, dd, e, ⟨h1, h2, h3⟩, h4⟩ := h
  have ne : ∀ {b : Addr}, b ∉ (F.hold p).ξ → b ≠ p := fun n z => n (by rw [z]; exact List.mem_cons_self)
  refine ⟨cls, dd, e, ⟨by rw [upd_ne (ne h3)]; exact h1, h2, h3⟩, h4.imp id ?_⟩
  rintro ⟨d, fs, e2, h5, hf, h6, h7⟩
  exact ⟨d, fs, e2, by rw [upd_ne (ne h7)]; exact h5, hf, h6, h7⟩
theorem FzX.asCell {p a : Addr} {c : Str} {ns : List (Str × Int)} (h : FzX (F.hold p) μ H a c ns) : FzX F (μ ++ [p]) H a c ns := by
  have no : ∀ {b : Addr}, b ∉ μ → b ∉ (F.hold p).ξ → b ∉ μ ++ [p] := fun h1 h2 q => (List.mem_append.mp q).elim h1 fun q => h2 (by rw [List.mem_singleton.mp q]; exact List.mem_cons_self)
  obtain ⟨cls, dd, e, ⟨h1, h2, h3⟩, h4⟩ := h
  refine ⟨cls, dd, e, ⟨h1, no h2 h3, fun q => h3 (List.mem_cons_of_mem _ q)⟩, h4.imp id ?_⟩
  rintro ⟨d, fs, e2, h5, hf, h6, h7⟩
  exact ⟨d, fs, e2, h5, hf, no h6 h7, fun q => h7 (List.mem_cons_of_mem _ q)⟩
/-- .. as a cell -/
theorem FzT.asCell {p a : Addr} {xs : List V} (h : FzT (F.hold p) μ H a xs) : FzT F (μ ++ [p]) H a xs :=
  h.imp (fun z => ⟨z.1, fun q => (List.mem_append.mp q).elim z.2.1 fun q => z.2.2 (by rw [List.mem_singleton.mp q]; exact List.mem_cons_self), fun q => z.2.2 (List.mem_cons_of_mem _ q)⟩) id
theorem FzL.asCell {p a : Addr} {xs : List V} (h : FzL (F.hold p) μ H a xs) : FzL F (μ ++ [p]) H a xs :=
  h.imp (fun z => ⟨z.1, fun q => (List.mem_append.mp q).elim z.2.1 fun q => z.2.2 (by rw [List.mem_singleton.mp q]; exact List.mem_cons_self), fun q => z.2.2 (List.mem_cons_of_mem _ q)⟩) id
theorem getl {n : Nat} {a p : Addr} (h : μ[n]? = some a) : (μ ++ [p])[n]? = some a := by
  rw [List.getElem?_append_left (List.getElem?_eq_some_iff.mp h).1]
  exact h
/-- a map of what stands for what -/
structure Mv (F : Fx) (μ : List Addr) (H : Hp) (F' : Fx) (μ' : List Addr) (H' : Hp) : Prop where
  t : ∀ {a : Addr} {xs : List V}, FzT F μ H a xs → FzT F' μ' H' a xs
  l : ∀ {a : Addr} {xs : List V}, FzL F μ H a xs → FzL F' μ' H' a xs
  c : ∀ {n : Nat} {a : Addr}, μ[n]? = some a → μ'[n]? = some a
  g : F'.mg = F.mg
  x : ∀ {a : Addr} {c : Str} {ns : List (Str × Int)}, FzX F μ H a c ns → FzX F' μ' H' a c ns
mutual
theorem RD.mv {F' : Fx} (m : Mv F μ H F' μ' H') : ∀ {v : V} (d : D), RD F μ H v d → RD F' μ' H' v d
  | _, .non, h => by cases h; exact .non
  | _, .bl b, h => by cases h; exact .bl b
  | _, .int i, h => by cases h; exact .int i
  | _, .str x, h => by cases h; exact .str x
  | _, .tup ds, h => by
    cases h with
    | tup f r => exact .tup (m.t f) (RDs.mv m ds r)
  | _, .lst ds, h => by
    cases h with
    | lst f r => exact .lst (m.l f) (RDs.mv m ds r)
  | _, .cell n, h => by
    cases h with
    | cell e => exact .cell (m.c e)
  | _, .glo x, h => by
    cases h with
    | glo e => exact .glo (by rw [m.g]; exact e)
  | _, .exn c ns, h => by
    cases h with
    | exn f => exact .exn (m.x f)
theorem RDs.mv {F' : Fx} (m : Mv F μ H F' μ' H') : ∀ {vs : List V} (ds : List D), RDs F μ H vs ds → RDs F' μ' H' vs ds
  | _, [], h => by cases h; exact .nil
  | _, d :: ds, h => by
    cases h with
    | cons a b => exact .cons (RD.mv m d a) (RDs.mv m ds b)
end
theorem Mv.holds {p : Addr} {o : HO} (hp : H p = none) : Mv F μ H (F.hold p) μ (upd H p o) := ⟨fun h => h.holds hp, fun h => h.holds hp, fun h => h, rfl, fun h => h.holds hp⟩
theorem Mv.wr {p : Addr} {o : HO} : Mv (F.hold p) μ H (F.hold p) μ (upd H p o) := ⟨fun h => h.wr, fun h => h.wr, fun h => h, rfl, fun h => h.wr⟩
theorem Mv.asCell {p : Addr} : Mv (F.hold p) μ H F (μ ++ [p]) H := ⟨fun h => h.asCell, fun h => h.asCell, fun h => getl h, rfl, fun h => h.asCell⟩
theorem Mv.free {p : Addr} : Mv (F.hold p) μ H F μ H := ⟨fun h => h.free, fun h => h.free, fun h => h, rfl, fun h => h.free⟩
theorem CellOk.mv {F' : Fx} (m : Mv F μ H F' μ' H') {a : Addr} {c : Cell} (e : H' a = H a) (h : CellOk F μ H a c) : CellOk F' μ' H' a c := by
  cases c with
  | lst ds =>
    obtain ⟨xs, h1, h2⟩ := h
    exact ⟨xs, e.trans h1, h2.mv m⟩
  | obj c fs =>
    obtain ⟨C, dx, vfs, h1, h2, h3⟩ := h
    exact ⟨C, dx, vfs, e.trans h1, by rw [m.g]; exact h2, Paired.mapP h3 fun _ _ z => ⟨z.1, z.2.mv m⟩⟩
  | dic kvs =>
    obtain ⟨vk, h1, h2⟩ := h
    exact ⟨vk, e.trans h1, Paired.mapP h2 fun _ _ z => ⟨z.1, z.2.mv m⟩⟩
  | exc _ _ => exact h.elim
  | set _ => exact h.elim
theorem RG.mv {F' : Fx} (m : Mv F μ H F' μ' H') (g : RG F μ H σ ρ) : RG F' μ' H' σ ρ := ⟨g.len, fun i d e => by
  obtain ⟨v, h, r⟩ := g.at_ i d e
  exact ⟨v, h, r.mv m⟩⟩
theorem RS.holds (r : RS F μ H S) {p : Addr} {o : HO} (hp : H p = none) : RS (F.hold p) μ (upd H p o) S := ⟨r.len, r.nd, fun n a c e1 e2 => by
  have q := r.at_ n a c e1 e2
  refine q.mv (.holds hp) (upd_ne ?_)
  rintro rfl
  obtain ⟨o', e⟩ := q.hasO
  rw [hp] at e; exact (nomatch e), fun a ha => by
  rcases List.mem_cons.mp ha with z | z
  · rw [z]; exact ⟨r.out hp, o, upd_same⟩
  · obtain ⟨h1, o', e⟩ := r.xi a z
    exact ⟨h1, o', by rw [upd_ne (ne_of_none e hp)]; exact e⟩⟩
theorem RS.wr {p : Addr} {o : HO} (r : RS (F.hold p) μ H S) : RS (F.hold p) μ (upd H p o) S := ⟨r.len, r.nd, fun n a c e1 e2 => by
  have q := r.at_ n a c e1 e2
  refine q.mv .wr (upd_ne fun z => ?_)
  rw [z] at e1
  exact (r.xi p List.mem_cons_self).1 (List.mem_of_getElem? e1), fun a ha => by
  obtain ⟨h1, o', e⟩ := r.xi a ha
  by_cases z : a = p
  · rw [z] at h1 ⊢; exact ⟨h1, o, upd_same⟩
  · exact ⟨h1, o', by rw [upd_ne z]; exact e⟩⟩
theorem RS.free {p : Addr} (r : RS (F.hold p) μ H S) : RS F μ H S := ⟨r.len, r.nd, fun n a c e1 e2 => (r.at_ n a c e1 e2).mv .free rfl, fun a ha => r.xi a (List.mem_cons_of_mem _ ha)⟩
theorem RS.asCell {p : Addr} {ds : List D} {xs : List V} (r : RS (F.hold p) μ H S) (hx : p ∉ F.ξ) (h : H p = some (.lst xs)) (q : RDs (F.hold p) μ H xs ds) : RS F (μ ++ [p]) H (S ++ [.lst ds]) := by
  have np := (r.xi p List.mem_cons_self).1
  refine ⟨by rw [List.length_append, List.length_append, r.len] <;> rfl, ?_, fun n a c' e1 e2 => ?_, fun a ha => ⟨fun z => ?_, (r.xi a (List.mem_cons_of_mem _ ha)).2⟩⟩
  · refine List.nodup_append.mpr ⟨r.nd, by simp, fun a ha b hb => ?_⟩
    rw [List.mem_singleton.mp hb]
    rintro rfl
    exact np ha
  · by_cases hn : n < μ.length
    · rw [List.getElem?_append_left hn] at e1
      rw [List.getElem?_append_left (by rw [← r.len]; exact hn)] at e2
      exact (r.at_ n a c' e1 e2).mv .asCell rfl
    · have hn' : n = μ.length := by
        have q := (List.getElem?_eq_some_iff.mp e1).1
        rw [List.length_append, List.length_singleton] at q
        omega
      subst hn'
      rw [List.getElem?_append_right (Nat.le_refl _), Nat.sub_self] at e1
      rw [List.getElem?_append_right (by rw [r.len]; exact Nat.le_refl _), r.len, Nat.sub_self] at e2
      cases e1; cases e2
      exact ⟨xs, h, q.mv .asCell⟩
  · rcases List.mem_append.mp z with z | z
    · exact (r.xi a (List.mem_cons_of_mem _ ha)).1 z
    · rw [List.mem_singleton.mp z] at ha
      exact hx ha
theorem XR.up (u : Up μ H μ' H') {cls : Value} {dd : Option Addr} {c : Str} {fs : List (Str × D)} (h : XR F μ H cls dd c fs) : XR F μ' H' cls dd c fs := by
  obtain ⟨h1, h2⟩ := h
  refine ⟨h1, h2.imp id ?_⟩
  rintro ⟨d, vfs, e, h3, h4, h6, h5⟩
  exact ⟨d, vfs, e, u.keep _ _ h3 h4, u.notin h3 h4, h6, h5.up u⟩
end
/-! ### what is wanted of a run -/
def WR {α β : Type} (F : Fx) (rel : List Addr → Hp → β → α → Prop) (r : Res α) (Q : β → Hp → Prop) (Wx : Value → Option Addr → Hp → Prop) (μ : List Addr) (H : Hp) : Prop := match r with
  | .ok d S' => ∀ v μ' H', Up μ H μ' H' → RS F μ' H' S' → rel μ' H' v d → Q v H'
  | .exc c fs S' => ∀ cls dd μ' H', Up μ H μ' H' → RS F μ' H' S' → XR F μ' H' cls dd c fs → Wx cls dd H'
  | .bad => False
abbrev WE' (F : Fx) := WR F (fun μ H v d => RD F μ H v d)
abbrev WA' (F : Fx) := WR F (fun μ H v d => RDs F μ H v d)
/-- a fresh list: reserved yet -/
def WL' (F : Fx) (r : Res (List D)) (Q : VK) (Wx : Value → Option Addr → Hp → Prop) (μ : List Addr) (H : Hp) : Prop := match r with
  | .ok ds S' => ∀ p xs μ' H', Up μ H μ' H' → H p = none → RS (F.hold p) μ' H' S' → RDs (F.hold p) μ' H' xs ds → H' p = some (.lst xs) → Q (.ref p) H'
  | .exc c fs S' => ∀ cls dd μ' H', Up μ H μ' H' → RS F μ' H' S' → XR F μ' H' cls dd c fs → Wx cls dd H'
  | .bad => False
/-- a truth value -/
def WT' (F : Fx) (r : Res D) (Q : Bool → Hp → Prop) (Wx : Value → Option Addr → Hp → Prop) (μ : List Addr) (H : Hp) : Prop := match r with
  | .ok (.bl b) S' => ∀ μ' H', Up μ H μ' H' → RS F μ' H' S' → Q b H'
  | .exc c fs S' => ∀ cls dd μ' H', Up μ H μ' H' → RS F μ' H' S' → XR F μ' H' cls dd c fs → Wx cls dd H'
  | _ => False
def WS' (F : Fx) (r : Out) (E : Ends) (W : WX) (μ : List Addr) (H : Hp) : Prop := match r with
  | .nx ρ S => ∀ σ μ' H', Up μ H μ' H' → RS F μ' H' S → RG F μ' H' σ ρ → E.nx σ H'
  | .rt d S => ∀ v μ' H', Up μ H μ' H' → RS F μ' H' S → RD F μ' H' v d → E.rt v H'
  | .bk ρ S => ∀ σ μ' H', Up μ H μ' H' → RS F μ' H' S → RG F μ' H' σ ρ → E.bk σ H'
  | .ct ρ S => ∀ σ μ' H', Up μ H μ' H' → RS F μ' H' S → RG F μ' H' σ ρ → E.ct σ H'
  | .exc c fs ρ S => ∀ cls dd σ μ' H', Up μ H μ' H' → RS F μ' H' S → RG F μ' H' σ ρ → XR F μ' H' cls dd c fs → W cls dd σ H'
  | .bad => False
section
variable {F : Fx} {α β γ δ : Type} {rel : List Addr → Hp → β → α → Prop} {rel' : List Addr → Hp → δ → γ → Prop} {μ μ1 : List Addr} {H H1 : Hp} {Q : β → Hp → Prop} {Wx : Value → Option Addr → Hp → Prop}
theorem WR.shift {r : Res α} (u : Up μ H μ1 H1) (h : WR F rel r Q Wx μ H) : WR F rel r Q Wx μ1 H1 := by
  cases r with
  | ok d S => exact fun v μ' H' u' => h v μ' H' (u.trans u')
  | exc c fs S => exact fun cls dd μ' H' u' => h cls dd μ' H' (u.trans u')
  | bad => exact h
theorem WS'.shift {r : Out} {E : Ends} {W : WX} (u : Up μ H μ1 H1) (h : WS' F r E W μ H) : WS' F r E W μ1 H1 := by
  cases r with
  | nx ρ S => exact fun σ μ' H' u' => h σ μ' H' (u.trans u')
  | rt d S => exact fun v μ' H' u' => h v μ' H' (u.trans u')
  | bk ρ S => exact fun σ μ' H' u' => h σ μ' H' (u.trans u')
  | ct ρ S => exact fun σ μ' H' u' => h σ μ' H' (u.trans u')
  | exc c fs ρ S => exact fun cls dd σ μ' H' u' => h cls dd σ μ' H' (u.trans u')
  | bad => exact h
/-- first r, then f -/
theorem WR.bind {r : Res γ} {f : γ → Sto → Res α} {Q1 : δ → Hp → Prop} (h : WR F rel (r.bind f) Q Wx μ H)
    (k : ∀ x S1 v μ1 H1, Up μ H μ1 H1 → RS F μ1 H1 S1 → rel' μ1 H1 v x → WR F rel (f x S1) Q Wx μ1 H1 → Q1 v H1) : WR F rel' r Q1 Wx μ H := by
  cases r with
  | ok x S1 => exact fun v μ1 H1 u1 s1 r1 => k x S1 v μ1 H1 u1 s1 r1 (WR.shift u1 h)
  | exc c fs S => exact h
  | bad => exact h
theorem WL'.shift {r : Res (List D)} {Q : VK} (u : Up μ H μ1 H1) (h : WL' F r Q Wx μ H) : WL' F r Q Wx μ1 H1 := by
  cases r with
  | ok d S =>
    intro p xs μ' H' u' hp s' r' e'
    have np : p ∉ μ := fun z => (s'.xi p List.mem_cons_self).1 (u'.mem (u.mem z))
    exact h p xs μ' H' (u.trans u') (u.back hp np) s' r' e'
  | exc c fs S => exact fun cls dd μ' H' u' => h cls dd μ' H' (u.trans u')
  | bad => exact h
theorem WL'.bind {r : Res γ} {f : γ → Sto → Res (List D)} {Q : VK} {Q1 : δ → Hp → Prop} (h : WL' F (r.bind f) Q Wx μ H)
    (k : ∀ x S1 v μ1 H1, Up μ H μ1 H1 → RS F μ1 H1 S1 → rel' μ1 H1 v x → WL' F (f x S1) Q Wx μ1 H1 → Q1 v H1) : WR F rel' r Q1 Wx μ H := by
  cases r with
  | ok x S1 => exact fun v μ1 H1 u1 s1 r1 => k x S1 v μ1 H1 u1 s1 r1 (WL'.shift u1 h)
  | exc c fs S => exact h
  | bad => exact h
theorem WT'.shift {r : Res D} {Q : Bool → Hp → Prop} (u : Up μ H μ1 H1) (h : WT' F r Q Wx μ H) : WT' F r Q Wx μ1 H1 := by
  cases r with
  | ok d S =>
    cases d with
    | bl b => exact fun μ' H' u' => h μ' H' (u.trans u')
    | _ => exact h
  | exc c fs S => exact fun cls dd μ' H' u' => h cls dd μ' H' (u.trans u')
  | bad => exact h
/-- first r, then f, whose answer is a truth value -/
theorem WT'.bind {r : Res γ} {f : γ → Sto → Res D} {Q : Bool → Hp → Prop} {Q1 : δ → Hp → Prop} (h : WT' F (r.bind f) Q Wx μ H)
    (k : ∀ x S1 v μ1 H1, Up μ H μ1 H1 → RS F μ1 H1 S1 → rel' μ1 H1 v x → WT' F (f x S1) Q Wx μ1 H1 → Q1 v H1) : WR F rel' r Q1 Wx μ H := by
  cases r with
  | ok x S1 => exact fun v μ1 H1 u1 s1 r1 => k x S1 v μ1 H1 u1 s1 r1 (WT'.shift u1 h)
  | exc c fs S => exact h
  | bad => exact h
/-- first a test, then f -/
theorem WR.bindT {r : Res D} {f : D → Sto → Res α} {Q1 : Bool → Hp → Prop} (h : WR F rel (r.bind f) Q Wx μ H) (hb : ∀ d S, (∀ b, d ≠ .bl b) → f d S = .bad)
    (k : ∀ b S1 μ1 H1, Up μ H μ1 H1 → RS F μ1 H1 S1 → WR F rel (f (.bl b) S1) Q Wx μ1 H1 → Q1 b H1) : WT' F r Q1 Wx μ H := by
  cases r with
  | ok d S =>
    have h : WR F rel (f d S) Q Wx μ H := h
    cases d with
    | bl b => exact fun μ1 H1 u1 s1 => k b S μ1 H1 u1 s1 (WR.shift u1 h)
    | _ =>
      rw [hb _ _ (by intro b e; cases e)] at h
      exact h
  | exc c fs S => exact h
  | bad => exact h
theorem WT'.bindT {r : Res D} {f : D → Sto → Res D} {Q Q1 : Bool → Hp → Prop} (h : WT' F (r.bind f) Q Wx μ H) (hb : ∀ d S, (∀ b, d ≠ .bl b) → f d S = .bad)
    (k : ∀ b S1 μ1 H1, Up μ H μ1 H1 → RS F μ1 H1 S1 → WT' F (f (.bl b) S1) Q Wx μ1 H1 → Q1 b H1) : WT' F r Q1 Wx μ H := by
  cases r with
  | ok d S =>
    have h : WT' F (f d S) Q Wx μ H := h
    cases d with
    | bl b => exact fun μ1 H1 u1 s1 => k b S μ1 H1 u1 s1 (WT'.shift u1 h)
    | _ =>
      rw [hb _ _ (by intro b e; cases e)] at h
      exact h
  | exc c fs S => exact h
  | bad => exact h
/-- as a value -/
theorem WT'.val {r : Res D} {Q : Bool → Hp → Prop} (h : WT' F r Q Wx μ H) : WE' F r (fun x H' => ∃ k, x = .bl k ∧ Q k H') Wx μ H := by
  cases r with
  | ok d S =>
    cases d with
    | bl b =>
      intro v μ' H' u' s' r'
      cases r'
      exact ⟨b, rfl, h μ' H' u' s'⟩
    | _ => exact h.elim
  | exc c fs S => exact h
  | bad => exact h
end
end Dm
-- text DmRules
namespace Dm
open PySem L2
open PySem.W (Frag)
structure DE (X : Cx) (W : WX) (e : Expr) (m : ME) : Prop where
  ex : ∃ te, PE X e te ∧ ∀ ξ μ σ H ρ S Q, RG (fx X ξ) μ H σ ρ → RS (fx X ξ) μ H S → WE' (fx X ξ) (m ρ S) Q (fun cls dd H' => W cls dd σ H') μ H → te σ H Q
structure DT (X : Cx) (W : WX) (e : Expr) (m : ME) : Prop where
  ex : ∃ te, PT X e te ∧ ∀ ξ μ σ H ρ S Q, RG (fx X ξ) μ H σ ρ → RS (fx X ξ) μ H S → WT' (fx X ξ) (m ρ S) Q (fun cls dd H' => W cls dd σ H') μ H → te σ H Q
structure DW (X : Cx) (W : WX) (e : Expr) (m : ME) : Prop where
  ex : ∃ te, PW X e te ∧ ∀ ξ μ σ H ρ S Q, RG (fx X ξ) μ H σ ρ → RS (fx X ξ) μ H S → WT' (fx X ξ) (m ρ S) Q (fun cls dd H' => W cls dd σ H') μ H → te σ H Q
structure DA (X : Cx) (W : WX) (es : List Expr) (m : MA) : Prop where
  ex : ∃ te, PA X es te ∧ ∀ ξ μ σ H ρ S Q, RG (fx X ξ) μ H σ ρ → RS (fx X ξ) μ H S → WA' (fx X ξ) (m ρ S) Q (fun cls dd H' => W cls dd σ H') μ H → te σ H Q
/-- a fresh list, its items -/
structure DL (X : Cx) (W : WX) (e : Expr) (m : MA) : Prop where
  ex : ∃ te, PE X e te ∧ ∀ ξ μ σ H ρ S Q, RG (fx X ξ) μ H σ ρ → RS (fx X ξ) μ H S →
    WL' (fx X ξ) (m ρ S) Q (fun cls dd H' => W cls dd σ H') μ H → te σ H Q
structure DS (X : Cx) (W : WX) (st : Stmt) (m : MS) : Prop where
  ex : ∃ ts, PS X st ts ∧ ∀ ξ μ σ H ρ S D, RG (fx X ξ) μ H σ ρ → RS (fx X ξ) μ H S → WS' (fx X ξ) (m ρ S) D W μ H → ts D σ H
structure DSs (X : Cx) (W : WX) (st : List Stmt) (m : MS) : Prop where
  ex : ∃ ts, PSs X st ts ∧ ∀ ξ μ σ H ρ S D, RG (fx X ξ) μ H σ ρ → RS (fx X ξ) μ H S → WS' (fx X ξ) (m ρ S) D W μ H → ts D σ H
/-! ### the words -/
def mVar (i : Nat) : ME := fun ρ S => match ρ[i]? with
  | some (some d) => .ok d S
  | _ => .bad
def mK (d : D) : ME := fun _ S => .ok d S
def mOp (g : Sto → D → D → Option D) (a b : ME) : ME := fun ρ S => (a ρ S).bind fun x S1 => (b ρ S1).bind fun y S2 => match g S2 x y with
  | some z => .ok z S2
  | none => .bad
def mUn (g : Sto → D → Option D) (a : ME) : ME := fun ρ S => (a ρ S).bind fun x S1 => match g S1 x with
  | some z => .ok z S1
  | none => .bad
def mAnd (a b : ME) : ME := fun ρ S => (a ρ S).bind fun x S1 => match x with
  | .bl true => b ρ S1
  | .bl false => .ok (.bl false) S1
  | _ => .bad
def mOr (a b : ME) : ME := fun ρ S => (a ρ S).bind fun x S1 => match x with
  | .bl true => .ok (.bl true) S1
  | .bl false => b ρ S1
  | _ => .bad
def mNot (a : ME) : ME := fun ρ S => (a ρ S).bind fun x S1 => match x with
  | .bl c => .ok (.bl (!c)) S1
  | _ => .bad
def mIf (c a b : ME) : ME := fun ρ S => (c ρ S).bind fun x S1 => match x with
  | .bl true => a ρ S1
  | .bl false => b ρ S1
  | _ => .bad
def mNil : MA := fun _ S => .ok [] S
def mCons (a : ME) (r : MA) : MA := fun ρ S => (a ρ S).bind fun x S1 => (r ρ S1).bind fun xs S2 => .ok (x :: xs) S2
def mTup (a : MA) : ME := fun ρ S => (a ρ S).bind fun xs S1 => if xs.length ≤ 16777216 then .ok (.tup xs) S1 else .bad
def mLst (a : MA) : MA := fun ρ S => (a ρ S).bind fun xs S1 => if xs.length ≤ 16777216 then .ok xs S1 else .bad
def mCall (f : List D → Sto → Res D) (a : MA) : ME := fun ρ S => (a ρ S).bind fun xs S1 => f xs S1
/-- a fresh list as plain data; as a cell -/
def mFz (a : MA) : ME := fun ρ S => (a ρ S).bind fun xs S1 => .ok (.lst xs) S1
def mNew (a : MA) : ME := fun ρ S => (a ρ S).bind fun xs S1 => .ok (.cell S1.length) (S1 ++ [.lst xs])
section
variable {X : Cx} {W : WX} {e a b c : Expr} {es : List Expr} {ma mb mc m : ME} {mr : MA} {pos : Pos}
/-- weakening by what a rule asks -/
theorem d_var (i : Nat) {x : Str} (hN : X.N[i]? = some x := by rfl) (hv : Vis X.env.scope x := by first | exact Or.inl rfl | exact Or.inr (Or.inl rfl) | exact Or.inr (Or.inr rfl)) (hd : (x == ("__debug__" : Str)) = false := by decide)
    (hcd : (x == ("__classdict__" : Str)) = false := by decide) : DE X W (.Name x pos) (mVar i) :=
  ⟨_, pe_var hN hv hd hcd, fun ξ μ σ H ρ S Q g s h => by
    unfold mVar at h
    cases e : ρ[i]? with
    | none => rw [e] at h; exact h.elim
    | some o =>
      cases o with
      | none => rw [e] at h; exact h.elim
      | some d =>
        rw [e] at h
        obtain ⟨v, hv, r⟩ := g.at_ i d e
        exact ⟨v, hv, h v μ H .refl s r⟩⟩
theorem d_k {te : TE} {v : V} {d : D} (hp : PE X e te) (ht : te = tC v) (hr : ∀ ξ μ H, RD (fx X ξ) μ H v d) : DE X W e (mK d) :=
  ⟨te, hp, fun ξ μ σ H ρ S Q g s h => by subst ht; exact h v μ H .refl s (hr ξ μ H)⟩
theorem d_int {i : Int} {j} : DE X W (.Constant (.int i) j pos) (mK (.int i)) := d_k pe_int rfl fun _ _ _ => .int i
theorem d_bl {i : Bool} {j} : DE X W (.Constant (.bool i) j pos) (mK (.bl i)) := d_k pe_bl rfl fun _ _ _ => .bl i
theorem d_non {j} : DE X W (.Constant .none j pos) (mK .non) := d_k pe_non rfl fun _ _ _ => .non
theorem d_str {i : Str} {j} : DE X W (.Constant (.str i) j pos) (mK (.str i)) := d_k pe_str rfl fun _ _ _ => .str i
/-- a constant of the module -/
def GlD (X : Cx) (x : Str) (d : D) : Prop := ∃ u v, X.mg x = some u ∧ RelV v u ∧ ∀ ξ μ H, RD (fx X ξ) μ H v d
theorem d_glob {x : Str} {d : D} (hg : Gl X x) (hm : GlD X x d) (hd : (x == ("__debug__" : Str)) = false := by decide) : DE X W (.Name x pos) (mK d) := by
  obtain ⟨u, v, h1, h2, h3⟩ := hm
  exact d_k (pe_glob hg h1 h2 hd) rfl h3
/-! operators -/
def OpD (X : Cx) (r : R2) (g : Sto → D → D → Option D) : Prop :=
  ∀ ξ μ H S x y v u z Q, RS (fx X ξ) μ H S → RD (fx X ξ) μ H v x → RD (fx X ξ) μ H u y → g S x y = some z → (∀ w μ' H', Up μ H μ' H' → RS (fx X ξ) μ' H' S → RD (fx X ξ) μ' H' w z → Q w H') → r v u H Q
theorem op2 {r : R2} {g : Sto → D → D → Option D} {ta tb : TE} {μ ξ : List Addr} {σ : St} {H : Hp} {ρ : Rho} {S : Sto} {Q : VK} (hd : OpD X r g)
    (ka : ∀ ξ μ σ H ρ S Q, RG (fx X ξ) μ H σ ρ → RS (fx X ξ) μ H S → WE' (fx X ξ) (ma ρ S) Q (fun cls dd H' => W cls dd σ H') μ H → ta σ H Q)
    (kb : ∀ ξ μ σ H ρ S Q, RG (fx X ξ) μ H σ ρ → RS (fx X ξ) μ H S → WE' (fx X ξ) (mb ρ S) Q (fun cls dd H' => W cls dd σ H') μ H → tb σ H Q)
    (g0 : RG (fx X ξ) μ H σ ρ) (s : RS (fx X ξ) μ H S) (h : WE' (fx X ξ) (mOp g ma mb ρ S) Q (fun cls dd H' => W cls dd σ H') μ H) : tOp r ta tb σ H Q := by
  refine ka ξ μ σ H ρ S _ g0 s (WR.bind h fun x S1 v μ1 H1 u1 s1 r1 h1 => ?_)
  refine kb ξ μ1 σ H1 ρ S1 _ (g0.up u1) s1 (WR.bind h1 fun y S2 v2 μ2 H2 u2 s2 r2 h2 => ?_)
  cases e : g S2 x y with
  | none => rw [e] at h2; exact h2.elim
  | some z =>
    rw [e] at h2
    exact hd ξ μ2 H2 S2 x y v v2 z Q s2 (r1.up u2) r2 e fun w μ' H' u' s' r' => h2 w μ' H' u' s' r'
theorem d_op {op : Operator} {r : R2} {g : Sto → D → D → Option D} (ho : OpR X (binaryOp op) r) (hd : OpD X r g) (ha : DE X W a ma) (hb : DE X W b mb) : DE X W (.BinOp a op b pos) (mOp g ma mb) := by
  obtain ⟨ta, pa, ka⟩ := ha
  obtain ⟨tb, pb, kb⟩ := hb
  exact ⟨_, pe_op ho pa pb, fun ξ μ σ H ρ S Q g0 s h => op2 (ξ := ξ) hd ka kb g0 s h⟩
theorem d_cmp {op : CmpOp} {r : R2} {g : Sto → D → D → Option D} (ho : OpR X (compareOp op) r) (hd : OpD X r g) (ha : DE X W a ma) (hb : DE X W b mb) (hm : behindInMarks op b = false := by first | exact nomark _ | rfl) : DE X W (.Compare a [op] [b] pos) (mOp g ma mb) := by
  obtain ⟨ta, pa, ka⟩ := ha
  obtain ⟨tb, pb, kb⟩ := hb
  exact ⟨_, pe_cmpR ho pa pb hm, fun ξ μ σ H ρ S Q g0 s h => op2 (ξ := ξ) hd ka kb g0 s h⟩
theorem dt_val (h : DE X W e m) (he : ∀ whole, isTrue e X.env whole = (do let v ← whole; standAt e.pos; holding [v] (truthy v)) := by intro _; rfl) : DT X W e m := by
  obtain ⟨te, p, k⟩ := h
  exact ⟨_, pt_val p he, fun ξ μ σ H ρ S Q g s h => k ξ μ σ H ρ S _ g s (WT'.val h)⟩
theorem dt_cmp {op : CmpOp} {r : R2} {g : Sto → D → D → Option D} (ho : OpR X (compareOp op) r) (hd : OpD X r g) (ha : DE X W a ma) (hb : DE X W b mb) (hm : behindInMarks op b = false := by first | exact nomark _ | rfl) : DT X W (.Compare a [op] [b] pos) (mOp g ma mb) := by
  obtain ⟨ta, pa, ka⟩ := ha
  obtain ⟨tb, pb, kb⟩ := hb
  exact ⟨_, pt_cmpR ho pa pb hm, fun ξ μ σ H ρ S Q g0 s h => op2 (ξ := ξ) hd ka kb g0 s (WT'.val h)⟩
theorem DT.w (h : DW X W e m) : DT X W e m := let ⟨t, p, k⟩ := h; ⟨t, p.pt, k⟩
theorem notb2 {α : Type} {k l : Sto → Res α} : ∀ (d : D) (S : Sto), (∀ b, d ≠ .bl b) → (match d with | .bl true => k S | .bl false => l S | _ => Res.bad) = Res.bad := fun d S h => by
  cases d with
  | bl b => exact absurd rfl (h b)
  | _ => rfl
theorem dw_and1 (ha : DT X W a ma) : DW X W (.BoolOp .And [a] pos) ma := let ⟨_, p, k⟩ := ha; ⟨_, pw_and1 p, k⟩
theorem dw_or1 (ha : DT X W a ma) : DW X W (.BoolOp .Or [a] pos) ma := let ⟨_, p, k⟩ := ha; ⟨_, pw_or1 p, k⟩
theorem dw_and {rest : List Expr} (ha : DT X W a ma) (hb : DW X W (.BoolOp .And (b :: rest) pos) mb) : DW X W (.BoolOp .And (a :: b :: rest) pos) (mAnd ma mb) := by
  obtain ⟨ta, pa, ka⟩ := ha
  obtain ⟨tb, pb, kb⟩ := hb
  refine ⟨_, pw_and pa pb, fun ξ μ σ H ρ S Q g s h => ?_⟩
  refine ka ξ μ σ H ρ S _ g s (WT'.bindT h (fun d S h => notb2 d S h) fun c S1 μ1 H1 u1 s1 h1 => ?_)
  cases c with
  | true => exact kb ξ μ1 σ H1 ρ S1 Q (g.up u1) s1 h1
  | false => exact h1 μ1 H1 .refl s1
theorem dw_or {rest : List Expr} (ha : DT X W a ma) (hb : DW X W (.BoolOp .Or (b :: rest) pos) mb) : DW X W (.BoolOp .Or (a :: b :: rest) pos) (mOr ma mb) := by
  obtain ⟨ta, pa, ka⟩ := ha
  obtain ⟨tb, pb, kb⟩ := hb
  refine ⟨_, pw_or pa pb, fun ξ μ σ H ρ S Q g s h => ?_⟩
  refine ka ξ μ σ H ρ S _ g s (WT'.bindT h (fun d S h => notb2 d S h) fun c S1 μ1 H1 u1 s1 h1 => ?_)
  cases c with
  | false => exact kb ξ μ1 σ H1 ρ S1 Q (g.up u1) s1 h1
  | true => exact h1 μ1 H1 .refl s1
theorem dt_not (ha : DT X W a ma) : DT X W (.UnaryOp .Not a pos) (mNot ma) := by
  obtain ⟨ta, pa, ka⟩ := ha
  refine ⟨_, pt_not pa, fun ξ μ σ H ρ S Q g s h => ?_⟩
  refine ka ξ μ σ H ρ S _ g s (WT'.bindT h (fun d S h => by cases d <;> first | rfl | exact absurd rfl (h _)) fun c S1 μ1 H1 u1 s1 h1 => ?_)
  exact h1 μ1 H1 .refl s1
/-- and, or, not as values -/
theorem d_one {op} (h : DE X W a m) : DE X W (.BoolOp op [a] pos) m := let ⟨_, p, k⟩ := h; ⟨_, pe_one p, k⟩
theorem WE'.boolv {r : Res D} {f : D → Sto → Res D} {Q Q1 : VK} {Wx : Value → Option Addr → Hp → Prop} {μ ξ : List Addr} {H : Hp} (h : WE' (fx X ξ) (r.bind f) Q Wx μ H) (hb : ∀ d S, (∀ b, d ≠ .bl b) → f d S = .bad)
    (k : ∀ b S1 μ1 H1, Up μ H μ1 H1 → RS (fx X ξ) μ1 H1 S1 → WE' (fx X ξ) (f (.bl b) S1) Q Wx μ1 H1 → Q1 (.bl b) H1) : WE' (fx X ξ) r Q1 Wx μ H := by
  refine WR.bind h fun x S1 v μ1 H1 u1 s1 r1 h1 => ?_
  cases r1 with
  | bl b => exact k b S1 μ1 H1 u1 s1 h1
  | _ =>
    rw [hb _ _ (by intro b e; cases e)] at h1
    exact h1.elim
theorem d_and {rest : List Expr} (ha : DE X W a ma) (hb : DE X W (.BoolOp .And (b :: rest) pos) mb) : DE X W (.BoolOp .And (a :: b :: rest) pos) (mAnd ma mb) := by
  obtain ⟨ta, pa, ka⟩ := ha
  obtain ⟨tb, pb, kb⟩ := hb
  refine ⟨_, pe_and pa pb, fun ξ μ σ H ρ S Q g s h => ?_⟩
  refine ka ξ μ σ H ρ S _ g s (WE'.boolv h (fun d S h => notb2 d S h) fun c S1 μ1 H1 u1 s1 h1 => ⟨c, rfl, ?_⟩)
  cases c with
  | true => exact kb ξ μ1 σ H1 ρ S1 Q (g.up u1) s1 h1
  | false => exact h1 _ μ1 H1 .refl s1 (.bl _)
theorem d_not (ha : DE X W a ma) : DE X W (.UnaryOp .Not a pos) (mNot ma) := by
  obtain ⟨ta, pa, ka⟩ := ha
  refine ⟨_, pe_not pa, fun ξ μ σ H ρ S Q g s h => ?_⟩
  exact ka ξ μ σ H ρ S _ g s (WE'.boolv h (fun d S h => by cases d <;> first | rfl | exact absurd rfl (h _)) fun c S1 μ1 H1 u1 s1 h1 => ⟨c, rfl, h1 _ μ1 H1 .refl s1 (.bl _)⟩)
theorem d_ifExp (hc : DT X W c mc) (ha : DE X W a ma) (hb : DE X W b mb) : DE X W (.IfExp c a b pos) (mIf mc ma mb) := by
  obtain ⟨tc, pc, kc⟩ := hc
  obtain ⟨ta, pa, ka⟩ := ha
  obtain ⟨tb, pb, kb⟩ := hb
  refine ⟨_, pe_ifExp pc pa pb, fun ξ μ σ H ρ S Q g s h => ?_⟩
  refine kc ξ μ σ H ρ S _ g s (WR.bindT h (fun d S h => notb2 d S h) fun c S1 μ1 H1 u1 s1 h1 => ?_)
  cases c with
  | true => exact ka ξ μ1 σ H1 ρ S1 Q (g.up u1) s1 h1
  | false => exact kb ξ μ1 σ H1 ρ S1 Q (g.up u1) s1 h1
/-- one-place operators -/
def UnD (X : Cx) (r : V → Hp → VK → Prop) (g : Sto → D → Option D) : Prop :=
  ∀ ξ μ H S x v z Q, RS (fx X ξ) μ H S → RD (fx X ξ) μ H v x → g S x = some z → (∀ w μ' H', Up μ H μ' H' → RS (fx X ξ) μ' H' S → RD (fx X ξ) μ' H' w z → Q w H') → r v H Q
theorem d_un {op : UnaryOp} {r : V → Hp → VK → Prop} {g : Sto → D → Option D} (ho : UnR X (unaryOp op) r) (hd : UnD X r g) (ha : DE X W a ma) : DE X W (.UnaryOp op a pos) (mUn g ma) := by
  obtain ⟨ta, pa, ka⟩ := ha
  refine ⟨_, pe_un ho pa, fun ξ μ σ H ρ S Q g0 s h => ka ξ μ σ H ρ S _ g0 s (WR.bind h fun x S1 v μ1 H1 u1 s1 r1 h1 => ?_)⟩
  cases e : g S1 x with
  | none => rw [e] at h1; exact h1.elim
  | some z =>
    rw [e] at h1
    exact hd ξ μ1 H1 S1 x v z Q s1 r1 e h1
/-- arguments -/
theorem da_nil : DA X W [] mNil := ⟨_, pa_nil, fun ξ μ σ H ρ S Q g s h => h [] μ H .refl s .nil⟩
theorem da_cons (ha : DE X W e ma) (hr : DA X W es mr) (hs : starEach (e :: es) X.env = (false, eval e X.env) :: starEach es X.env := by rfl) : DA X W (e :: es) (mCons ma mr) := by
  obtain ⟨ta, pa, ka⟩ := ha
  obtain ⟨tr, pr, kr⟩ := hr
  refine ⟨_, pa_cons pa pr hs, fun ξ μ σ H ρ S Q g s h => ka ξ μ σ H ρ S _ g s (WR.bind h fun x S1 v μ1 H1 u1 s1 r1 h1 => ?_)⟩
  refine kr ξ μ1 σ H1 ρ S1 _ (g.up u1) s1 (WR.bind h1 fun xs S2 vs μ2 H2 u2 s2 r2 h2 => ?_)
  exact h2 _ μ2 H2 .refl s2 (.cons (r1.up u2) r2)
theorem d_tup {x1} (h : DA X W es mr) : DE X W (.Tuple es x1 pos) (mTup mr) := by
  obtain ⟨ta, pa, ka⟩ := h
  refine ⟨_, pe_tup pa, fun ξ μ σ H ρ S Q g s h => ka ξ μ σ H ρ S _ g s (WR.bind h fun xs S1 vs μ1 H1 u1 s1 r1 h1 => ?_)⟩
  by_cases hz : xs.length ≤ 16777216
  · rw [if_pos hz] at h1
    refine ⟨by rw [r1.length, sizeLine_eq]; exact hz, fun p hp => ?_⟩
    exact h1 _ μ1 _ (.fresh hp) (s1.fresh hp) (.tup (.inl ⟨.inl upd_same, s1.out hp, s1.outX hp⟩) (r1.up (.fresh hp)))
  · rw [if_neg hz] at h1; exact h1.elim
theorem dl_lst (h : DA X W es mr) : DL X W (.List es pos) (mLst mr) := by
  obtain ⟨ta, pa, ka⟩ := h
  refine ⟨_, pe_lst pa, fun ξ μ σ H ρ S Q g s h => ka ξ μ σ H ρ S _ g s (WL'.bind h fun xs S1 vs μ1 H1 u1 s1 r1 h1 => ?_)⟩
  by_cases hz : xs.length ≤ 16777216
  · rw [if_pos hz] at h1
    exact ⟨by rw [r1.length, sizeLine_eq]; exact hz, fun p hp => h1 p vs μ1 _ (.fresh hp) hp (s1.holds hp) (r1.mv (.holds hp)) upd_same⟩
  · rw [if_neg hz] at h1; exact h1.elim
/-- a fresh list as data, as a cell -/
theorem d_fz (h : DL X W e mr) : DE X W e (mFz mr) := by
  obtain ⟨te, p, k⟩ := h
  refine ⟨_, p, fun ξ μ σ H ρ S Q g s h => k ξ μ σ H ρ S Q g s ?_⟩
  unfold mFz at h
  cases e : mr ρ S with
  | bad => rw [e] at h; exact h.elim
  | exc c fs S' => rw [e] at h; exact h
  | ok ds S' =>
    rw [e] at h
    intro q xs μ' H' u' hq s' r' e'
    exact h _ μ' H' u' s'.free (.lst (.inl ⟨.inl e', (s'.xi q List.mem_cons_self).1, s.outX hq⟩) (r'.mv .free))
theorem d_new (h : DL X W e mr) : DE X W e (mNew mr) := by
  obtain ⟨te, p, k⟩ := h
  refine ⟨_, p, fun ξ μ σ H ρ S Q g s h => k ξ μ σ H ρ S Q g s ?_⟩
  unfold mNew at h
  cases e : mr ρ S with
  | bad => rw [e] at h; exact h.elim
  | exc c fs S' => rw [e] at h; exact h
  | ok ds S' =>
    rw [e] at h
    intro q xs μ' H' u' hq s' r' e'
    have l : S'.length = μ'.length := s'.len.symm
    refine h (.ref q) (μ' ++ [q]) H' ⟨?_, fun a ha n => ?_, u'.keep⟩ (s'.asCell (s.outX hq) e' r') (.cell (by rw [l]; exact alloc_at))
    · obtain ⟨ν, z⟩ := u'.pre
      exact ⟨ν ++ [q], by rw [z, List.append_assoc]⟩
    · rcases List.mem_append.mp ha with z | z
      · exact u'.new a z n
      · rw [List.mem_singleton.mp z]; exact hq
end
end Dm
-- text DmOps
namespace Dm
open PySem L2
open PySem.W (Frag)
/-! ### the items of a tuple, a list -/
def lstOf (S : Sto) : D → Option (List D)
  | .lst ds => some ds
  | .cell n => match S[n]? with
    | some (.lst ds) => some ds
    | _ => none
  | _ => none
def seqOf (S : Sto) : D → Option (List D)
  | .tup ds => some ds
  | d => lstOf S d
section
variable {F : Fx} {μ : List Addr} {H : Hp} {S : Sto} {v : V} {d : D} {ds : List D}
theorem RD.lstS (s : RS F μ H S) (r : RD F μ H v d) (h : lstOf S d = some ds) : ∃ a xs, v = .ref a ∧ SqL F.K H a xs ∧ RDs F μ H xs ds := by
  cases r with
  | lst f r =>
    cases h
    exact ⟨_, _, rfl, f.sq, r⟩
  | @cell a n e =>
    simp only [lstOf] at h
    cases q : S[n]? with
    | none => rw [q] at h; exact nomatch h
    | some c =>
      rw [q] at h
      cases c with
      | lst es =>
        cases h
        obtain ⟨xs, h1, h2⟩ := s.at_ n a _ e q
        exact ⟨a, xs, rfl, SqL.of h1, h2⟩
      | _ => exact nomatch h
  | _ => exact nomatch h
theorem RD.seqS (s : RS F μ H S) (r : RD F μ H v d) (h : seqOf S d = some ds) : ∃ a xs, v = .ref a ∧ (SqL F.K H a xs ∨ SqT F.K H a xs) ∧ RDs F μ H xs ds := by
  cases r with
  | tup f r =>
    cases h
    exact ⟨_, _, rfl, .inr f.sq, r⟩
  | lst f r =>
    obtain ⟨a, xs, e, q, z⟩ := RD.lstS s (.lst f r) h
    exact ⟨a, xs, e, .inl q, z⟩
  | cell e =>
    obtain ⟨a, xs, e, q, z⟩ := RD.lstS s (.cell e) h
    exact ⟨a, xs, e, .inl q, z⟩
  | _ => exact nomatch h
theorem RDs.atI {vs : List V} {i : Int} (r : RDs F μ H vs ds) (h : atI ds i = some d) : ∃ v, L2.atI vs i = some v ∧ RD F μ H v d := by
  unfold L2.atI at h ⊢
  rw [r.length]
  cases e : ixN ds.length i with
  | none => rw [e] at h; exact nomatch h
  | some j =>
    rw [e] at h
    exact r.get h
end
/-! ### whole numbers -/
def gI (f : Int → Int → D) : Sto → D → D → Option D := fun _ x y => match x, y with
  | .int i, .int j => some (f i j)
  | _, _ => none
def gIC (C : Int → Int → Prop) [∀ i j, Decidable (C i j)] (f : Int → Int → D) : Sto → D → D → Option D := fun _ x y => match x, y with
  | .int i, .int j => if C i j then some (f i j) else none
  | _, _ => none
section
variable {X : Cx}
theorem opd_I0 {fv : Int → Int → V} {fd : Int → Int → D} (h : ∀ i j ξ μ H, RD (fx X ξ) μ H (fv i j) (fd i j)) : OpD X (rI0 fv) (gI fd) := by
  intro ξ μ H S x y v u z Q s rx ry e k
  cases rx with
  | int i =>
    cases ry with
    | int j =>
      cases e
      exact ⟨i, j, rfl, rfl, k _ μ H .refl s (h i j ξ μ H)⟩
    | _ => exact nomatch e
  | _ => exact nomatch e
theorem opd_I {C : Int → Int → Prop} [∀ i j, Decidable (C i j)] {fv : Int → Int → V} {fd : Int → Int → D} (h : ∀ i j ξ μ H, RD (fx X ξ) μ H (fv i j) (fd i j)) : OpD X (rI C fv) (gIC C fd) := by
  intro ξ μ H S x y v u z Q s rx ry e k
  cases rx with
  | int i =>
    cases ry with
    | int j =>
      unfold gIC at e
      by_cases c : C i j
      · simp only [if_pos c] at e
        cases e
        exact ⟨i, j, rfl, rfl, c, k _ μ H .refl s (h i j ξ μ H)⟩
      · simp only [if_neg c] at e
        exact nomatch e
    | _ => exact nomatch e
  | _ => exact nomatch e
theorem OpD.or {r r' : R2} {g g' : Sto → D → D → Option D} (h : OpD X r g) (h' : OpD X r' g') : OpD X (fun x y H Q => r x y H Q ∨ r' x y H Q) (fun S x y => (g S x y).or (g' S x y)) := by
  intro ξ μ H S x y v u z Q s rx ry e k
  have e : (g S x y).or (g' S x y) = some z := e
  cases q : g S x y with
  | some w =>
    rw [q] at e
    cases e
    exact .inl (h ξ μ H S x y v u _ Q s rx ry q k)
  | none =>
    rw [q] at e
    exact .inr (h' ξ μ H S x y v u z Q s rx ry e k)
abbrev gSub := gI fun i j => .int (i - j)
abbrev gLt := gI fun i j => .bl (decide (i < j))
abbrev gLe := gI fun i j => .bl (decide (i ≤ j))
abbrev gGt := gI fun i j => .bl (decide (j < i))
abbrev gGe := gI fun i j => .bl (decide (j ≤ i))
instance : ∀ i j, Decidable (CMulW i j) := fun i j => inferInstanceAs (Decidable (_ < _))
instance : ∀ i j, Decidable (CDivW i j) := fun i j => inferInstanceAs (Decidable (_ ∧ _))
instance : ∀ i j, Decidable (CPow i j) := fun i j => inferInstanceAs (Decidable (_ ∧ _ ∧ _))
abbrev gMul := gIC CMulW fun i j => .int (i * j)
abbrev gFdiv := gIC CDivW fun i j => .int (i / j)
abbrev gMod := gIC (fun _ j => 0 < j) fun i j => .int (i % j)
abbrev gPow := gIC CPow fun i j => .int (i ^ j.toNat)
theorem o_sub : OpD X (rI0 fun i j => .int (i - j)) gSub := opd_I0 fun _ _ _ _ _ => .int _
theorem o_lt : OpD X (rI0 fun i j => .bl (decide (i < j))) gLt := opd_I0 fun _ _ _ _ _ => .bl _
theorem o_le : OpD X (rI0 fun i j => .bl (decide (i ≤ j))) gLe := opd_I0 fun _ _ _ _ _ => .bl _
theorem o_gt : OpD X (rI0 fun i j => .bl (decide (j < i))) gGt := opd_I0 fun _ _ _ _ _ => .bl _
theorem o_ge : OpD X (rI0 fun i j => .bl (decide (j ≤ i))) gGe := opd_I0 fun _ _ _ _ _ => .bl _
theorem o_mul : OpD X (rI CMulW fun i j => .int (i * j)) gMul := opd_I fun _ _ _ _ _ => .int _
theorem o_fdiv : OpD X (rI CDivW fun i j => .int (i / j)) gFdiv := opd_I fun _ _ _ _ _ => .int _
theorem o_mod : OpD X (rI (fun _ j => 0 < j) fun i j => .int (i % j)) gMod := opd_I fun _ _ _ _ _ => .int _
theorem o_pow : OpD X (rI CPow fun i j => .int (i ^ j.toNat)) gPow := opd_I fun _ _ _ _ _ => .int _
/-- + of ints, of tuples -/
def gCatT : Sto → D → D → Option D := fun _ x y => match x, y with
  | .tup a, .tup b => if a.length + b.length ≤ 16777216 then some (.tup (a ++ b)) else none
  | _, _ => none
def gAdd : Sto → D → D → Option D := fun S x y => (gI (fun i j => .int (i + j)) S x y).or (gCatT S x y)
theorem o_catT : OpD X (rCatA X.K) gCatT := by
  intro ξ μ H S x y v u z Q s rx ry e k
  cases rx with
  | @tup a xs ds f r =>
    cases ry with
    | @tup b ys es f' r' =>
      unfold gCatT at e
      by_cases c : ds.length + es.length ≤ 16777216
      · simp only [if_pos c] at e
        cases e
        refine ⟨a, b, xs, ys, rfl, rfl, f.sq, f'.sq, by rw [r.length, r'.length, sizeLine_eq]; exact c, fun e => ?_, fun _ e => ?_, fun _ _ p hp => ?_⟩
        · subst e
          have e' : ds = [] := List.eq_nil_of_length_eq_zero r.length.symm
          subst e'
          exact k _ μ H .refl s (.tup f' r')
        · subst e
          have e' : es = [] := List.eq_nil_of_length_eq_zero r'.length.symm
          subst e'
          rw [List.append_nil] at k
          exact k _ μ H .refl s (.tup f r)
        · exact k _ μ _ (.fresh hp) (s.fresh hp) (.tup (.inl ⟨.inl upd_same, s.out hp, s.outX hp⟩) ((r.append r').up (.fresh hp)))
      · simp only [if_neg c] at e
        exact nomatch e
    | _ => exact nomatch e
  | _ => exact nomatch e
theorem op_addD : OpR X (binaryOp .Add) (fun x y H Q => rI0 (fun i j => .int (i + j)) x y H Q ∨ rCatA X.K x y H Q) := op_add.or op_catA
theorem o_add : OpD X (fun x y H Q => rI0 (fun i j => .int (i + j)) x y H Q ∨ rCatA X.K x y H Q) gAdd := (opd_I0 fun _ _ _ _ _ => .int _).or o_catT
/-- -i -/
def gNeg : Sto → D → Option D := fun _ x => match x with
  | .int i => some (.int (-i))
  | _ => none
theorem o_neg : UnD X (rU fun i => .int (-i)) gNeg := by
  intro ξ μ H S x v z Q s rx e k
  cases rx with
  | int i =>
    cases e
    exact ⟨i, rfl, k _ μ H .refl s (.int _)⟩
  | _ => exact nomatch e
/-! ### == -/
mutual
def toPy : D → Option PyData
  | .non => some .none
  | .bl b => some (.bool b)
  | .int i => some (.int i)
  | .str x => some (.str x)
  | .tup ds => (toPys ds).map .tuple
  | .lst ds => (toPys ds).map .list
  | .cell _ => none
  | .glo _ => none
  | .exn _ _ => none
def toPys : List D → Option (List PyData)
  | [] => some []
  | d :: ds => (toPy d).bind fun p => (toPys ds).map fun ps => p :: ps
end
/-- a cell's list, its items plain -/
def toPyS (S : Sto) (d : D) : Option PyData := match d with
  | .cell n => match S[n]? with
    | some (.lst ds) => (toPys ds).map .list
    | _ => none
  | d => toPy d
section
variable {F : Fx} {μ : List Addr} {H : Hp} {S : Sto}
mutual
theorem dp_of : ∀ {v : V} (d : D) {p : PyData}, RD F μ H v d → toPy d = some p → Dp F.K H v p
  | _, .non, p, r, e => by cases r; cases e; exact .non
  | _, .bl b, p, r, e => by cases r; cases e; exact .bl b
  | _, .int i, p, r, e => by cases r; cases e; exact .int i
  | _, .str x, p, r, e => by cases r; cases e; exact .str x
  | _, .tup ds, p, r, e => by
    cases r with
    | tup f r =>
      unfold toPy at e
      cases q : toPys ds with
      | none => rw [q] at e; exact nomatch e
      | some ps =>
        rw [q] at e; cases e
        exact .tup f.sq (dps_of ds r q)
  | _, .lst ds, p, r, e => by
    cases r with
    | lst f r =>
      unfold toPy at e
      cases q : toPys ds with
      | none => rw [q] at e; exact nomatch e
      | some ps =>
        rw [q] at e; cases e
        exact .lst f.sq (dps_of ds r q)
  | _, .cell _, p, r, e => nomatch e
  | _, .glo _, p, r, e => nomatch e
  | _, .exn _ _, p, r, e => nomatch e
theorem dps_of : ∀ {vs : List V} (ds : List D) {ps : List PyData}, RDs F μ H vs ds → toPys ds = some ps → DpAll F.K H vs ps
  | _, [], ps, r, e => by cases r; cases e; exact .nil
  | _, d :: ds, ps, r, e => by
    cases r with
    | cons a b =>
      unfold toPys at e
      cases q : toPy d with
      | none => rw [q] at e; exact nomatch e
      | some p =>
        rw [q] at e
        cases q' : toPys ds with
        | none => rw [q'] at e; exact nomatch e
        | some ps' =>
          rw [q'] at e; cases e
          exact .cons (dp_of d a q) (dps_of ds b q')
end
theorem dpS_of {v : V} {d : D} {p : PyData} (s : RS F μ H S) (r : RD F μ H v d) (e : toPyS S d = some p) : Dp F.K H v p := by
  cases d with
  | cell n =>
    unfold toPyS at e
    cases r with
    | @cell a _ ea =>
      cases q : S[n]? with
      | none => simp only [q] at e; exact nomatch e
      | some c =>
        simp only [q] at e
        cases c with
        | lst ds =>
          cases q' : toPys ds with
          | none => simp only [q'] at e; exact nomatch e
          | some ps =>
            simp only [q'] at e; cases e
            obtain ⟨xs, h1, h2⟩ := s.at_ n a _ ea q
            exact .lst (SqL.of h1) (dps_of ds h2 q')
        | _ => exact nomatch e
  | _ => exact dp_of _ r e
end
/-- == of two values; none: no rule -/
def eqD (S : Sto) (x y : D) : Option Bool := match x, y with
  | .int i, .int j => some (i == j)
  | .str i, .str j => some (i == j)
  | x, y => match toPyS S x, toPyS S y with
    | some p, some q => if SeqAt.shaped p = true ∧ SeqAt.shaped q = true then some (PyData.eqv p q) else none
    | _, _ => none
theorem eqD_cases {S : Sto} {x y : D} {b : Bool} (h : eqD S x y = some b) : (∃ i j, x = .int i ∧ y = .int j ∧ b = (i == j)) ∨ (∃ i j, x = .str i ∧ y = .str j ∧ b = (i == j)) ∨
    ∃ p q, toPyS S x = some p ∧ toPyS S y = some q ∧ SeqAt.shaped p = true ∧ SeqAt.shaped q = true ∧ b = PyData.eqv p q := by
  unfold eqD at h
  split at h
  · cases h; exact .inl ⟨_, _, rfl, rfl, rfl⟩
  · cases h; exact .inr (.inl ⟨_, _, rfl, rfl, rfl⟩)
  · split at h
    · rename_i p q hp hq
      split at h
      · rename_i hs
        cases h
        exact .inr (.inr ⟨p, q, hp, hq, hs.1, hs.2, rfl⟩)
      · exact nomatch h
    · exact nomatch h
def gEq : Sto → D → D → Option D := fun S x y => (eqD S x y).map .bl
def gNe : Sto → D → D → Option D := fun S x y => (eqD S x y).map fun b => .bl (!b)
def rEqA (K : Frag) : R2 := fun x y H Q => rEq x y H Q ∨ rEqD K x y H Q
def rNeA (K : Frag) : R2 := fun x y H Q => rNe x y H Q ∨ rNeD K x y H Q
theorem op_eqA (hu : X.A.units + 64 < cLine) : OpR X (compareOp .Eq) (rEqA X.K) := op_eq.or (op_eqD hu)
theorem op_neA (hu : X.A.units + 64 < cLine) : OpR X (compareOp .NotEq) (rNeA X.K) := op_ne.or (op_neD hu)
theorem o_eq : OpD X (rEqA X.K) gEq := by
  intro ξ μ H S x y v u z Q s rx ry e k
  unfold gEq at e
  cases q : eqD S x y with
  | none => rw [q] at e; exact nomatch e
  | some b =>
    rw [q] at e; cases e
    rcases eqD_cases q with ⟨i, j, rfl, rfl, rfl⟩ | ⟨i, j, rfl, rfl, rfl⟩ | ⟨p, q', h1, h2, h3, h4, rfl⟩
    · cases rx; cases ry
      exact .inl ⟨rfl, by rw [dec_int]; exact k _ μ H .refl s (.bl _)⟩
    · cases rx; cases ry
      exact .inl ⟨rfl, by rw [dec_str]; exact k _ μ H .refl s (.bl _)⟩
    · exact .inr ⟨p, q', dpS_of s rx h1, dpS_of s ry h2, h3, h4, k _ μ H .refl s (.bl _)⟩
theorem o_ne : OpD X (rNeA X.K) gNe := by
  intro ξ μ H S x y v u z Q s rx ry e k
  unfold gNe at e
  cases q : eqD S x y with
  | none => rw [q] at e; exact nomatch e
  | some b =>
    rw [q] at e; cases e
    rcases eqD_cases q with ⟨i, j, rfl, rfl, rfl⟩ | ⟨i, j, rfl, rfl, rfl⟩ | ⟨p, q', h1, h2, h3, h4, rfl⟩
    · cases rx; cases ry
      exact .inl ⟨rfl, by rw [dec_int]; exact k _ μ H .refl s (.bl _)⟩
    · cases rx; cases ry
      exact .inl ⟨rfl, by rw [dec_str]; exact k _ μ H .refl s (.bl _)⟩
    · exact .inr ⟨p, q', dpS_of s rx h1, dpS_of s ry h2, h3, h4, k _ μ H .refl s (.bl _)⟩
/-! ### in -/
def flatD : D → Bool
  | .non => true
  | .bl _ => true
  | .int _ => true
  | .str _ => true
  | _ => false
def eqF : D → D → Bool
  | .non, .non => true
  | .bl a, .bl b => a == b
  | .bl a, .int b => (if a then 1 else 0) == b
  | .int a, .bl b => a == (if b then 1 else 0)
  | .int a, .int b => a == b
  | .str a, .str b => a == b
  | _, _ => false
theorem flat_of {F : Fx} {μ : List Addr} {H : Hp} {v : V} {d : D} (r : RD F μ H v d) : flatV v = flatD d := by cases r <;> rfl
theorem eqF_of {F : Fx} {μ : List Addr} {H : Hp} {v u : V} {d e : D} (r : RD F μ H v d) (r' : RD F μ H u e) : eqV v u = eqF d e := by cases r <;> cases r' <;> rfl
theorem flats_of {F : Fx} {μ : List Addr} {H : Hp} : ∀ {vs : List V} {ds : List D}, RDs F μ H vs ds → vs.all flatV = ds.all flatD
  | _, [], r => by cases r; rfl
  | _, d :: ds, r => by
    cases r with
    | cons a b => rw [List.all_cons, List.all_cons, flat_of a, flats_of b]
theorem anyF_of {F : Fx} {μ : List Addr} {H : Hp} {u : V} {e : D} (r' : RD F μ H u e) : ∀ {vs : List V} {ds : List D}, RDs F μ H vs ds → inV u vs = ds.any (eqF · e)
  | _, [], r => by cases r; rfl
  | _, d :: ds, r => by
    cases r with
    | cons a b =>
      have q := anyF_of r' b
      unfold inV at q ⊢
      rw [List.any_cons, List.any_cons, eqF_of a r', q]
def gIn (neg : Bool) : Sto → D → D → Option D := fun S x y => match seqOf S y with
  | some ds => if flatD x = true ∧ ds.all flatD = true then some (.bl (if neg then !ds.any (eqF · x) else ds.any (eqF · x))) else none
  | none => none
theorem o_in {neg : Bool} : OpD X (rIn X.K neg) (gIn neg) := by
  intro ξ μ H S x y v u z Q s rx ry e k
  unfold gIn at e
  cases q : seqOf S y with
  | none => rw [q] at e; exact nomatch e
  | some ds =>
    rw [q] at e
    by_cases c : flatD x = true ∧ ds.all flatD = true
    · simp only [if_pos c] at e
      cases e
      obtain ⟨a, xs, rfl, h1, h2⟩ := RD.seqS s ry q
      refine ⟨a, xs, rfl, h1, by rw [flat_of rx]; exact c.1, by rw [flats_of h2]; exact c.2, ?_⟩
      rw [anyF_of rx h2]
      exact k _ μ H .refl s (.bl _)
    · simp only [if_neg c] at e
      exact nomatch e
/-! ### is None -/
def isNon : D → Bool
  | .non => true
  | _ => false
def gIsN (neg : Bool) : Sto → D → D → Option D := fun _ x y => match y with
  | .non => some (.bl (if neg then !isNon x else isNon x))
  | _ => none
end
/-! ### chains -/
def mChain (g g' : Sto → D → D → Option D) (a b c : ME) : ME := fun ρ S => (a ρ S).bind fun x S1 => (b ρ S1).bind fun y S2 => match g S2 x y with
  | some (.bl true) => (c ρ S2).bind fun z S3 => match g' S3 y z with
    | some w => .ok w S3
    | none => .bad
  | some (.bl false) => .ok (.bl false) S2
  | _ => .bad
section
variable {X : Cx} {W : WX} {e a b c : Expr} {es : List Expr} {ma mb mc m : ME} {mr : MA} {pos : Pos}
theorem chain2 {r r' : R2} {g g' : Sto → D → D → Option D} {ta tb tc : TE} {ξ μ : List Addr} {σ : St} {H : Hp} {ρ : Rho} {S : Sto} {Q : VK} (hd : OpD X r g) (hd' : OpD X r' g')
    (ka : ∀ ξ μ σ H ρ S Q, RG (fx X ξ) μ H σ ρ → RS (fx X ξ) μ H S → WE' (fx X ξ) (ma ρ S) Q (fun cls dd H' => W cls dd σ H') μ H → ta σ H Q)
    (kb : ∀ ξ μ σ H ρ S Q, RG (fx X ξ) μ H σ ρ → RS (fx X ξ) μ H S → WE' (fx X ξ) (mb ρ S) Q (fun cls dd H' => W cls dd σ H') μ H → tb σ H Q)
    (kc : ∀ ξ μ σ H ρ S Q, RG (fx X ξ) μ H σ ρ → RS (fx X ξ) μ H S → WE' (fx X ξ) (mc ρ S) Q (fun cls dd H' => W cls dd σ H') μ H → tc σ H Q)
    (g0 : RG (fx X ξ) μ H σ ρ) (s : RS (fx X ξ) μ H S) (h : WE' (fx X ξ) (mChain g g' ma mb mc ρ S) Q (fun cls dd H' => W cls dd σ H') μ H) : tChain r r' ta tb tc σ H Q := by
  refine ka ξ μ σ H ρ S _ g0 s (WR.bind h fun x S1 v μ1 H1 u1 s1 r1 h1 => ?_)
  refine kb ξ μ1 σ H1 ρ S1 _ (g0.up u1) s1 (WR.bind h1 fun y S2 v2 μ2 H2 u2 s2 r2 h2 => ?_)
  cases e : g S2 x y with
  | none => rw [e] at h2; exact h2.elim
  | some z =>
    rw [e] at h2
    refine hd ξ μ2 H2 S2 x y v v2 z _ s2 (r1.up u2) r2 e fun w μ' H' u' s' r' => ?_
    cases r' with
    | bl k =>
      refine ⟨k, rfl, ?_⟩
      cases k with
      | false => exact h2 _ μ' H' u' s' (.bl false)
      | true =>
        refine kc ξ μ' σ H' ρ S2 _ (g0.up (u1.trans (u2.trans u'))) s' (WR.bind (WR.shift u' h2) fun z S3 v3 μ3 H3 u3 s3 r3 h3 => ?_)
        cases e3 : g' S3 y z with
        | none => rw [e3] at h3; exact h3.elim
        | some w =>
          rw [e3] at h3
          exact hd' ξ μ3 H3 S3 y z v2 v3 w Q s3 (r2.up (u'.trans u3)) r3 e3 h3
    | _ => exact h2.elim
theorem d_chain {op op' : CmpOp} {r r' : R2} {g g' : Sto → D → D → Option D} (ho : OpR X (compareOp op) r) (ho' : OpR X (compareOp op') r') (hd : OpD X r g) (hd' : OpD X r' g') (ha : DE X W a ma) (hb : DE X W b mb) (hc : DE X W c mc)
    (hm : lastMarks [op, op'] [b, c] = false := by with_unfolding_all rfl) : DE X W (.Compare a [op, op'] [b, c] pos) (mChain g g' ma mb mc) := by
  obtain ⟨ta, pa, ka⟩ := ha
  obtain ⟨tb, pb, kb⟩ := hb
  obtain ⟨tc, pc, kc⟩ := hc
  exact ⟨_, pe_chain ho ho' pa pb pc hm, fun ξ μ σ H ρ S Q g0 s h => chain2 hd hd' ka kb kc g0 s h⟩
theorem dt_chain {op op' : CmpOp} {r r' : R2} {g g' : Sto → D → D → Option D} (ho : OpR X (compareOp op) r) (ho' : OpR X (compareOp op') r') (hd : OpD X r g) (hd' : OpD X r' g') (ha : DE X W a ma) (hb : DE X W b mb) (hc : DE X W c mc)
    (hm : lastMarks [op, op'] [b, c] = false := by with_unfolding_all rfl) : DT X W (.Compare a [op, op'] [b, c] pos) (mChain g g' ma mb mc) := by
  obtain ⟨ta, pa, ka⟩ := ha
  obtain ⟨tb, pb, kb⟩ := hb
  obtain ⟨tc, pc, kc⟩ := hc
  exact ⟨_, pt_chain ho ho' pa pb pc hm, fun ξ μ σ H ρ S Q g0 s h => chain2 hd hd' ka kb kc g0 s (WT'.val h)⟩
/-! ### subscripts -/
def gIx : Sto → D → D → Option D := fun S x i => match i with
  | .int k => match x with
    | .str z => if z.length ≤ 16777216 then (atI z.cps.toList k).map fun c => .str ⟨#[c]⟩ else none
    | x => (seqOf S x).bind fun ds => atI ds k
  | _ => none
theorem o_ix : OpD X (rIx X.K) gIx := by
  intro ξ μ H S x y v u z Q s rx ry e k
  unfold gIx at e
  cases ry with
  | int i =>
    have main : ∀ ds, seqOf S x = some ds → atI ds i = some z → rIx X.K v (.int i) H Q := fun ds h1 h2 => by
      obtain ⟨a, xs, rfl, h3, h4⟩ := RD.seqS s rx h1
      obtain ⟨w, h5, h6⟩ := h4.atI h2
      rcases h3 with h3 | h3
      · exact .inl ⟨a, xs, i, w, rfl, rfl, h3, h5, k w μ H .refl s h6⟩
      · exact .inr (.inl ⟨a, xs, i, w, rfl, rfl, h3, h5, k w μ H .refl s h6⟩)
    cases rx with
    | str z =>
      simp only at e
      by_cases c : z.length ≤ 16777216
      · rw [if_pos c] at e
        cases q : atI z.cps.toList i with
        | none => rw [q] at e; exact nomatch e
        | some w =>
          rw [q] at e; cases e
          exact .inr (.inr ⟨z, i, w, rfl, rfl, by rw [sizeLine_eq]; exact c, q, k _ μ H .refl s (.str _)⟩)
      · rw [if_neg c] at e; exact nomatch e
    | tup f r =>
      exact main _ rfl e
    | @lst _ _ ds f r => exact main ds rfl e
    | @cell a n ea =>
      simp only at e
      cases q : seqOf S (.cell n) with
      | none => rw [q] at e; exact nomatch e
      | some ds => rw [q] at e; exact main ds q e
    | _ => exact nomatch e
  | _ => exact nomatch e
theorem d_ix {r : R2} {g : Sto → D → D → Option D} (hr : IxR X r) (hd : OpD X r g) (ha : DE X W a ma) (hb : DE X W b mb) (hs : PlainIx b := by exact fun _ _ => rfl) : DE X W (.Subscript a b pos) (mOp g ma mb) := by
  obtain ⟨ta, pa, ka⟩ := ha
  obtain ⟨tb, pb, kb⟩ := hb
  exact ⟨_, pe_ix hr pa pb hs, fun ξ μ σ H ρ S Q g0 s h => op2 (ξ := ξ) hd ka kb g0 s h⟩
/-- slices -/
abbrev MO := Rho → Sto → Res (Option Int)
structure DO (X : Cx) (W : WX) (e : Option Expr) (m : MO) : Prop where
  ex : ∃ te, PO X e te ∧ ∀ ξ μ σ H ρ S Q, RG (fx X ξ) μ H σ ρ → RS (fx X ξ) μ H S → WR (fx X ξ) (fun _ _ (o : Option Int) o' => o = o') (m ρ S) Q (fun cls dd H' => W cls dd σ H') μ H → te σ H Q
def mPart (m : ME) : MO := fun ρ S => (m ρ S).bind fun x S1 => match x with
  | .int i => .ok (some i) S1
  | _ => .bad
def mNoPart : MO := fun _ S => .ok none S
theorem do_none : DO X W none mNoPart := ⟨_, po_none, fun ξ μ σ H ρ S Q g s h => h none μ H .refl s rfl⟩
theorem do_some (h : DE X W e m) : DO X W (some e) (mPart m) := by
  obtain ⟨te, p, k⟩ := h
  refine ⟨_, po_some p, fun ξ μ σ H ρ S Q g s h => k ξ μ σ H ρ S _ g s (WR.bind h fun x S1 v μ1 H1 u1 s1 r1 h1 => ?_)⟩
  cases r1 with
  | int i => exact ⟨i, rfl, h1 _ μ1 H1 .refl s1 rfl⟩
  | _ => exact h1.elim
def cutD (ds : List D) (lo hi : Option Int) : List D := (ds.drop (HT.sIx ds.length 0 lo)).take (HT.sIx ds.length ds.length hi - HT.sIx ds.length 0 lo)
theorem cut_of {F : Fx} {μ : List Addr} {H : Hp} {vs : List V} {ds : List D} {lo hi : Option Int} (r : RDs F μ H vs ds) : RDs F μ H (cutV vs lo hi) (cutD ds lo hi) := by
  unfold cutV cutD
  rw [r.length]
  exact (r.drop _).take _
def mSlT (a : ME) (lo hi : MO) : ME := fun ρ S => (a ρ S).bind fun x S1 => (lo ρ S1).bind fun l S2 => (hi ρ S2).bind fun h S3 => match x with
  | .tup ds => .ok (.tup (cutD ds l h)) S3
  | _ => .bad
def mSlL (a : ME) (lo hi : MO) : MA := fun ρ S => (a ρ S).bind fun x S1 => (lo ρ S1).bind fun l S2 => (hi ρ S2).bind fun h S3 => match lstOf S3 x with
  | some ds => .ok (cutD ds l h) S3
  | none => .bad
variable {lo hi : Option Expr} {ml mh : MO} {p2 : Pos}
theorem cut_whole {ds : List D} {lo hi : Option Int} (h : HT.sIx ds.length 0 lo = 0 ∧ HT.sIx ds.length ds.length hi = ds.length) : cutD ds lo hi = ds := by
  unfold cutD
  rw [h.1, h.2, List.drop_zero, Nat.sub_zero, List.take_length]
theorem d_slT (ha : DE X W a ma) (hl : DO X W lo ml) (hh : DO X W hi mh) : DE X W (.Subscript a (.Slice lo hi none p2) pos) (mSlT ma ml mh) := by
  obtain ⟨ta, pa, ka⟩ := ha
  obtain ⟨tl, pl, kl⟩ := hl
  obtain ⟨th, ph, kh⟩ := hh
  refine ⟨_, pe_slice sl_tupA pa pl ph, fun ξ μ σ H ρ S Q g s h => ka ξ μ σ H ρ S _ g s (WR.bind h fun x S1 v μ1 H1 u1 s1 r1 h1 => ?_)⟩
  refine kl ξ μ1 σ H1 ρ S1 _ (g.up u1) s1 (WR.bind h1 fun l S2 l' μ2 H2 u2 s2 r2 h2 => ?_)
  subst r2
  refine kh ξ μ2 σ H2 ρ S2 _ (g.up (u1.trans u2)) s2 (WR.bind h2 fun u S3 u' μ3 H3 u3 s3 r3 h3 => ?_)
  subst r3
  have rx := r1.up (u2.trans u3)
  cases rx with
  | @tup a xs ds f r =>
    refine ⟨a, xs, rfl, f.sq, fun hw => ?_, fun _ p hp => ?_⟩
    · rw [r.length] at hw
      have e := cut_whole hw
      exact h3 _ μ3 H3 .refl s3 (by rw [e]; exact .tup f r)
    · exact h3 _ μ3 _ (.fresh hp) (s3.fresh hp) (.tup (.inl ⟨.inl upd_same, s3.out hp, s3.outX hp⟩) ((cut_of r).up (.fresh hp)))
  | _ => exact h3.elim
theorem dl_slL (ha : DE X W a ma) (hl : DO X W lo ml) (hh : DO X W hi mh) : DL X W (.Subscript a (.Slice lo hi none p2) pos) (mSlL ma ml mh) := by
  obtain ⟨ta, pa, ka⟩ := ha
  obtain ⟨tl, pl, kl⟩ := hl
  obtain ⟨th, ph, kh⟩ := hh
  refine ⟨_, pe_slice sl_list pa pl ph, fun ξ μ σ H ρ S Q g s h => ka ξ μ σ H ρ S _ g s (WL'.bind h fun x S1 v μ1 H1 u1 s1 r1 h1 => ?_)⟩
  refine kl ξ μ1 σ H1 ρ S1 _ (g.up u1) s1 (WL'.bind h1 fun l S2 l' μ2 H2 u2 s2 r2 h2 => ?_)
  subst r2
  refine kh ξ μ2 σ H2 ρ S2 _ (g.up (u1.trans u2)) s2 (WL'.bind h2 fun u S3 u' μ3 H3 u3 s3 r3 h3 => ?_)
  subst r3
  have rx := r1.up (u2.trans u3)
  cases e : lstOf S3 x with
  | none => rw [e] at h3; exact h3.elim
  | some ds =>
    rw [e] at h3
    obtain ⟨a, xs, rfl, h4, h5⟩ := RD.lstS s3 rx e
    exact ⟨a, xs, rfl, h4, fun p hp => h3 p _ μ3 _ (.fresh hp) hp (s3.holds hp) ((cut_of h5).mv (.holds hp)) upd_same⟩
end
end Dm
-- text DmIsV
/-! isinstance of an exception that was made or raised once -/
namespace Dm
open PySem L2 PySem.Spec PyProof.Rows
open PySem.W (Frag)
/-! ### isinstance(e, X) -/
section
variable {prog : Program} {w : World} {A : Around} {E : Value → Shared → Prop} {s : Shared} {K : Frag} {x D : Addr} {ox : Obj} {od : Option Obj}
open PySem.W in
theorem findObj_dataO {C : Addr} {name : Str} {a g : Value} (hc : (clsIn K C).isSome = true) (ha : findIn K (.ref C) name = some (some a)) (hg : specialIn K a "__get__" = some (some g)) (ht : takesIn K a = some true) : findObj K C od name = some (.bind g a) := by
  obtain ⟨cd, hc⟩ := Option.isSome_iff_exists.mp hc
  unfold findObj
  rw [hc, Option.bind_some, ha, Option.bind_some]
  simp [hg, ht]
open PySem.W PySem.Calls in
theorem kin_classO {Q : Option Value → Shared → Prop} (hga : findIn K (.ref D) "__getattribute__" = some (some (.builtin "BaseException.__getattribute__"))) (hgt : findIn K (.ref D) "__getattr__" = some none) (hsub : subIn K (.ref D) (.type "BaseException") = some true)
    (hdct : hasDictIn K D = true) (ha : findIn K (.ref D) "__class__" = some (some (.builtin "object.__class__")))
    (hn : specialIn K (.builtin "object.__class__") "__get__" = some (some (.builtin "getset_descriptor.__get__"))) (htk : takesIn K (.builtin "object.__class__") = some true) (hm : mroIn K D (.type "object") = some true)
    (X : K.In s.heap) (I : InstAt s.heap x ox D od) (h : Q (some (.ref D)) { s with toks := s.toks + 1 }) : wpAny (model prog w) A (getAttr? (.ref x) "__class__") Q E s := by
  have hf : findObj K D od "__class__" = some (.bind (.builtin "getset_descriptor.__get__") (.builtin "object.__class__")) := findObj_dataO (by obtain ⟨cd, hc, _⟩ := any_some hdct; rw [hc]; rfl) ha hn htk
  obtain ⟨hp, g, d, t, os⟩ := s
  have L0 := I.type (M := model prog w)
  have L1 := looks_findIn (M := model prog w) X hga
  have L2 := looks_findIn (M := model prog w) X hgt
  have L3 := looks_find (M := model prog w) X I hf
  have sub : Looks (model prog w) hp (isInstance (.ref x) (.type "BaseException")) true := L0.andThen (looks_subIn X hsub)
  have hx0 : (false && onTheHeap (Value.builtin "BaseException.__getattribute__")) = false := rfl
  have hx2 : (Value.builtin "BaseException.__getattribute__" == Value.builtin "object.__getattribute__") = false := by decide +kernel
  have hx1 : (onTheHeap (Value.ref D) && Value.builtin "BaseException.__getattribute__" == Value.builtin "object.__getattribute__") = false := by rw [hx2]; rfl
  unfold getAttr? getAttrBy? getAttrBy
  refine wpAny_bind (wpAny_mkText (wpAny_bind (wpAny_attempt (wpAny_holding (wpAny_bind (L0.at (wpAny_bind (L1.at ?_))))))))
  show wpAny _ _ (if (onTheHeap (Value.ref D) && Value.builtin "BaseException.__getattribute__" == Value.builtin "object.__getattribute__") = true then _ else _) _ _ _
  rw [hx1, if_neg Bool.false_ne_true]
  unfold getAttrByItsOwn hookBefore
  refine wpAny_bind ?_
  rw [if_pos (show onTheHeap (Value.ref D) = true from rfl)]
  refine L2.at ?_
  refine wpAny_bind (wpAny_attempt (wpAny_holding ?_))
  unfold callGetattribute
  rw [hx0, if_neg Bool.false_ne_true]
  unfold boundAndCalled
  rw [PySem.F.excAttr_ValueError.ga.bind (.ref x)]
  refine wpAny_bind (wpAny_pure ?_)
  show wpAny _ _ (call (.builtin "BaseException.__getattribute__") [.ref x, .str "__class__" t]) _ _ _
  refine wpAny_call (codeAny_call_builtin PySem.F.excAttr_ValueError.ga.plain PySem.F.entry_bexc_ga ?_)
  refine @check_slot (model prog w) _ _ ⟨hp, g, d, t + 1, os⟩ "BaseException.__getattribute__" "BaseException" "__getattribute__" (.ref x) [.str "__class__" t] [] _ (by decide +kernel) (by decide +kernel) sub (PySem.F.args_bexc_ga (.ref x) (.str "__class__" t)) ?_
  unfold Builtin.«object.__getattribute__»
  refine wpAny_bind (wpAny_of_eq (a := ((Value.ref x : Value), [Value.str "__class__" t])) (by first | rfl | (simp only [slotArgs]; rfl)) ?_)
  refine wpAny_bind (wpAny_pure (wpAny_bind (L0.at (wpAny_bind (L3.at ?_)))))
  show wpAny _ _ (holding [Value.builtin "object.__class__"] (call (.builtin "getset_descriptor.__get__") [.builtin "object.__class__", .ref x, .ref D]) >>= ret) _ _ _
  refine wpAny_bind (wpAny_holding (wpAny_call (class_get (s := ⟨hp, g, d, t + 1, os⟩) (ox := ox) (od := od) X I hm ?_)))
  refine wpAny_pure ?_
  show wpAny _ _ (handedOut (.ref D)) _ _ _
  rw [handedOut_of (v := .ref D) rfl]
  first
    | exact wpAny_pure (wpAny_pure h)
    | exact wpAny_pure h
    | exact wpAny_pure (wpAny_bind (wpAny_pure (wpAny_pure h)))
open PySem.W in
theorem kitx_excO (C : ExcC K D) : KitX K (.ref x) (.ref D) (fun h => InstAt h x ox D od) where
  ty := fun _ _ _ I => I.type
  it := fun _ _ X _ => by
    obtain ⟨cdD, hcD, _⟩ := any_some C.hd
    unfold clsIn at hcD
    split at hcD
    · rename_i c' d' cd' sl' ho
      intro A' Q' E' s' k q
      unfold isType loadHead
      exact wpAny_bind (wpAny_loadPart (k _ _ (X _ _ ho)) (wpAny_pure q))
    · cases hcD
  ne := (handS_kitx_exc (x := x) (ox := ox) C.hg C.hk C.hs C.hd C.ha C.hn C.ht C.hm).ne
  ca := fun X I k => kin_classO C.hg C.hk C.hs C.hd C.ha C.hn C.ht C.hm X I k
end
/-- isinstance(e, c), e an exception that was raised once -/
def rIsV (K : Frag) : List V → Hp → VK → Prop := fun xs H Q => ∃ (a D : Addr) (dd : Option Addr) (c : V) (cv : Value) (b : Bool), xs = [.ref a, c] ∧ H a = some (ExV (.ref D) dd a) ∧ ExcC K D ∧ (dd = none ∨ ∃ d fs, dd = some d ∧ H d = some (.xd fs)) ∧
  (∀ u, RelV c u → u = cv) ∧ PySem.W.kitOne K (.ref D) cv = some b ∧ Q (.bl b) H
theorem call_isV {X : Cx} : CallR X (.builtin "isinstance") (rIsV X.K) := by
  intro pins s σ H xs us Q I r h
  obtain ⟨a, D, dd, c, cv, b, rfl, ea, C, ed, hcv, e, q⟩ := h
  cases r with
  | cons rx rr =>
    cases rr with
    | cons rt rr =>
      cases rr
      cases rx
      have ec := hcv _ rt
      subst ec
      have xa : ObjOk X.prog X.w H s.heap a (.ext fun h => ∃ (oe : Obj) (vs : Array Value), h.get? a = some oe ∧ Zc (.ref D) dd oe ∧ oe.data = .fields vs) := I.hok a _ ea
      obtain ⟨oe, vs, hget, hz, hv⟩ := xa.1
      have J : ∃ od, PySem.W.InstAt s.heap a oe D od := by
        rcases ed with rfl | ⟨d, fs, rfl, ed⟩
        · exact ⟨none, hget, hz.1, by unfold PySem.W.notCls; rw [hv] <;> rfl, by rw [hz.2]; trivial⟩
        · have hx : ObjOk X.prog X.w H s.heap d (.xd fs) := I.hok d _ ed
          obtain ⟨mA, hns, hr⟩ := hx
          obtain ⟨od, ho, hl⟩ := lookIn_ns hns
          exact ⟨some od, hget, hz.1, by unfold PySem.W.notCls; rw [hv] <;> rfl, by rw [hz.2]; exact ho⟩
      obtain ⟨od, J⟩ := J
      exact PySem.W.kia_one (kitx_excO C) I.kIn J e (fun z => nomatch z) fun tk => ⟨.bl b, H, I.kept (t' := tk) fun _ _ z => z, rfl, q⟩
theorem call_or {X : Cx} {f : Value} {r1 r2 : List V → Hp → VK → Prop} (h1 : CallR X f r1) (h2 : CallR X f r2) : CallR X f (fun xs H Q => r1 xs H Q ∨ r2 xs H Q) :=
  fun pins s σ H xs us Q I r h => h.elim (h1 pins s σ H xs us Q I r) (h2 pins s σ H xs us Q I r)
end Dm
-- text DmStm
namespace Dm
open PySem L2
open PySem.W (Frag)
/-! ### isinstance -/
inductive Tn where | non | bl | int | str | tup | lst | dic | exn
  deriving DecidableEq
def tnName : Tn → String
  | .non => "NoneType" | .bl => "bool" | .int => "int" | .str => "str" | .tup => "tuple" | .lst => "list" | .dic => "dict" | .exn => "BaseException"
def isTn : Tn → Tn → Bool
  | .bl, .int => true
  | a, b => decide (a = b)
theorem kit_tn (a b : Tn) (h : b ≠ .non) (h2 : b ≠ .exn) (h3 : a ≠ .exn) : kitB (tnName a) (tnName b) = some (isTn a b) := by
  cases b <;> first | exact absurd rfl h | exact absurd rfl h2 | (cases a <;> first | exact absurd rfl h3 | decide +kernel)
def tyOf (S : Sto) : D → Option Tn
  | .non => some .non
  | .bl _ => some .bl
  | .int _ => some .int
  | .str _ => some .str
  | .tup _ => some .tup
  | .lst _ => some .lst
  | .cell n => match S[n]? with
    | some (.lst _) => some .lst
    | some (.dic _) => some .dic
    | _ => none
  | .glo _ => none
  | .exn _ _ => some .exn
theorem tyX_of {F : Fx} {μ : List Addr} {H : Hp} {S : Sto} {v : V} {d : D} {t : Tn} (s : RS F μ H S) (r : RD F μ H v d) (e : tyOf S d = some t) (ht : t ≠ .exn) : TyX F.K H v (.type (tnName t)) := by
  cases r with
  | non => cases e; exact .base .non
  | bl b => cases e; exact .base (.bl b)
  | int i => cases e; exact .base (.int i)
  | str x => cases e; exact .base (.str x)
  | tup f r =>
    cases e
    rcases f with ⟨h | ⟨o, h⟩, _⟩ | ⟨o, its, n, h1, h2, _⟩
    · exact .base (.tup h)
    · exact .fTuple h
    · exact .kTuple h1 h2
  | lst f r =>
    cases e
    rcases f with ⟨h | ⟨o, h⟩, _⟩ | ⟨o, its, n, h1, h2, _⟩
    · exact .base (.lst h)
    · exact .base (.frz h)
    · exact .kList h1 h2
  | @cell a n ea =>
    simp only [tyOf] at e
    cases q : S[n]? with
    | none => rw [q] at e; exact nomatch e
    | some c =>
      rw [q] at e
      cases c with
      | lst ds =>
        cases e
        obtain ⟨xs, h1, _⟩ := s.at_ n a _ ea q
        exact .base (.lst h1)
      | dic kvs =>
        cases e
        obtain ⟨xs, h1, _⟩ := s.at_ n a _ ea q
        exact .base (.dK h1)
      | _ => exact nomatch e
  | glo _ => exact nomatch e
  | exn f => cases e; exact absurd rfl ht
theorem tyOf_exn {S : Sto} {d : D} (e : tyOf S d = some .exn) : ∃ c fs, d = .exn c fs := by
  cases d with
  | exn c fs => exact ⟨c, fs, rfl⟩
  | cell n =>
    simp only [tyOf] at e
    cases q : S[n]? with
    | none => rw [q] at e; exact nomatch e
    | some c => rw [q] at e; cases c <;> cases e
  | _ => cases e
theorem tn_plain {T : Tn} (h : T ≠ .non) (h2 : T ≠ .exn) : tnName T ∈ ["tuple", "list", "int", "str", "bool", "dict"] ∧ isTn .exn T = false := by
  cases T <;> first | exact absurd rfl h | exact absurd rfl h2 | exact ⟨by decide, rfl⟩
def mIsi (T : Tn) (m : ME) : ME := mUn (fun S d => (tyOf S d).map fun t => .bl (isTn t T)) m
def mIsiT (Ts : List Tn) (m : ME) : ME := mUn (fun S d => (tyOf S d).map fun t => .bl (Ts.any (isTn t ·))) m
section
variable {X : Cx} {W : WX} {e a b c : Expr} {es : List Expr} {ma mb mc m : ME} {mr : MA} {pos p p1 p2 p3 : Pos}
theorem d_isi (T : Tn) {x : Str} (h : DE X W e m) (hm : X.mg "isinstance" = none) (hx : X.mg x = none) (hv : bootBuiltins x = some (.type (tnName T)) := by decide +kernel) (hT : T ≠ .non := by decide) (hT2 : T ≠ .exn := by decide) (hg : Gl X "isinstance" := by rfl) (hgx : Gl X x := by rfl)
    (hn : x ≠ "__name__" := by decide) (hd : (x == ("__debug__" : Str)) = false := by decide)
    (he : starEach [e, .Name x p1] X.env = (false, eval e X.env) :: starEach [.Name x p1] X.env := by rfl) (hpl : (backTo pos (starEach [.Name x p1] X.env)).any (·.1) = false := by rfl)
    (hs2 : starEach [.Name x p1] X.env = (false, eval (.Name x p1) X.env) :: starEach [] X.env := by rfl) :
    DE X W (.Call (.Name "isinstance" p) [e, .Name x p1] [] pos) (mIsi T m) := by
  obtain ⟨te, pe, k⟩ := h
  refine ⟨_, pe_callB (call_or call_isi call_isV) hg hm (by decide +kernel) (pa_cons pe (pa_cons (pe_bltn (v := .ty (tnName T)) hgx hx hv rfl hn hd) pa_nil hs2) he) (he := he) (hpl := hpl), fun ξ μ σ H ρ S Q g s h => k ξ μ σ H ρ S _ g s (WR.bind h fun x S1 v μ1 H1 u1 s1 r1 h1 => ?_)⟩
  cases q : tyOf S1 x with
  | none => simp only [q] at h1; exact h1.elim
  | some t =>
    simp only [q] at h1
    by_cases hx : t = .exn
    · subst hx
      obtain ⟨c, ns, rfl⟩ := tyOf_exn q
      obtain ⟨p1, p2⟩ := tn_plain hT hT2
      cases r1 with
      | @exn a _ _ z =>
        obtain ⟨cls, dd, ⟨z1, D, rfl, z5, z6⟩, ⟨z2, z3, z4⟩, z7⟩ := z
        refine .inr ⟨a, D, dd, .ty (tnName T), .type (tnName T), _, rfl, z2, z5, ?_, fun u hu => hu, z6 _ p1, ?_⟩
        · rcases z7 with ⟨_, rfl⟩ | ⟨d, fs, q1, q2, _⟩
          · exact .inl rfl
          · exact .inr ⟨d, _, q1, q2⟩
        · have h1 := h1 _ μ1 H1 .refl s1 (.bl _)
          rw [p2] at h1
          exact h1
    · exact .inl ⟨v, .ty (tnName T), _, _, _, rfl, .ty _, tyX_of s1 r1 q hx, kit_ty (kit_tn t T hT hT2 hx), h1 _ μ1 H1 .refl s1 (.bl _)⟩
/-! ### built-in functions and types called -/
def CallD (X : Cx) (r : List V → Hp → VK → Prop) (g : Sto → List D → Option D) : Prop :=
  ∀ ξ μ H S ds vs z Q, RS (fx X ξ) μ H S → RDs (fx X ξ) μ H vs ds → g S ds = some z → (∀ w μ' H', Up μ H μ' H' → RS (fx X ξ) μ' H' S → RD (fx X ξ) μ' H' w z → Q w H') → r vs H Q
/-- .. that give a fresh list -/
def CallDL (X : Cx) (r : List V → Hp → VK → Prop) (g : Sto → List D → Option (List D)) : Prop :=
  ∀ ξ μ H S ds vs zs Q, RS (fx X ξ) μ H S → RDs (fx X ξ) μ H vs ds → g S ds = some zs → (∀ p xs μ' H', Up μ H μ' H' → H p = none → RS ((fx X ξ).hold p) μ' H' S → RDs ((fx X ξ).hold p) μ' H' xs zs → H' p = some (.lst xs) → Q (.ref p) H') → r vs H Q
def mCallB (g : Sto → List D → Option D) (a : MA) : ME := fun ρ S => (a ρ S).bind fun xs S1 => match g S1 xs with
  | some z => .ok z S1
  | none => .bad
def mCallBL (g : Sto → List D → Option (List D)) (a : MA) : MA := fun ρ S => (a ρ S).bind fun xs S1 => match g S1 xs with
  | some z => .ok z S1
  | none => .bad
theorem d_callB {id : String} {x : Str} {r : List V → Hp → VK → Prop} {g : Sto → List D → Option D} (hc : CallR X (.builtin id) r) (hd : CallD X r g) (hm : X.mg x = none) (ha : DA X W (e :: es) mr) (hv : bootBuiltins x = some (.builtin id) := by decide +kernel) (hg : Gl X x := by rfl)
    (hn : x ≠ "__name__" := by decide) (hdb : (x == ("__debug__" : Str)) = false := by decide)
    (he : starEach (e :: es) X.env = (false, eval e X.env) :: starEach es X.env := by rfl) (hpl : (backTo pos (starEach es X.env)).any (·.1) = false := by rfl) : DE X W (.Call (.Name x p) (e :: es) [] pos) (mCallB g mr) := by
  obtain ⟨ta, pa, ka⟩ := ha
  refine ⟨_, pe_callB hc hg hm hv pa hn hdb he hpl, fun ξ μ σ H ρ S Q g0 s h => ka ξ μ σ H ρ S _ g0 s (WR.bind h fun xs S1 vs μ1 H1 u1 s1 r1 h1 => ?_)⟩
  cases q : g S1 xs with
  | none => rw [q] at h1; exact h1.elim
  | some z =>
    rw [q] at h1
    exact hd ξ μ1 H1 S1 xs vs z Q s1 r1 q h1
theorem d_callTy {T : String} {x : Str} {r : List V → Hp → VK → Prop} {g : Sto → List D → Option D} (hc : CallR X (.type T) r) (hd : CallD X r g) (hm : X.mg x = none) (ha : DA X W (e :: es) mr) (hv : bootBuiltins x = some (.type T) := by decide +kernel) (hg : Gl X x := by rfl)
    (hn : x ≠ "__name__" := by decide) (hdb : (x == ("__debug__" : Str)) = false := by decide)
    (he : starEach (e :: es) X.env = (false, eval e X.env) :: starEach es X.env := by rfl) (hpl : (backTo pos (starEach es X.env)).any (·.1) = false := by rfl) : DE X W (.Call (.Name x p) (e :: es) [] pos) (mCallB g mr) := by
  obtain ⟨ta, pa, ka⟩ := ha
  refine ⟨_, pe_callTy hc hg hm hv pa hn hdb he hpl, fun ξ μ σ H ρ S Q g0 s h => ka ξ μ σ H ρ S _ g0 s (WR.bind h fun xs S1 vs μ1 H1 u1 s1 r1 h1 => ?_)⟩
  cases q : g S1 xs with
  | none => rw [q] at h1; exact h1.elim
  | some z =>
    rw [q] at h1
    exact hd ξ μ1 H1 S1 xs vs z Q s1 r1 q h1
theorem dl_callTy {T : String} {x : Str} {r : List V → Hp → VK → Prop} {g : Sto → List D → Option (List D)} (hc : CallR X (.type T) r) (hd : CallDL X r g) (hm : X.mg x = none) (ha : DA X W (e :: es) mr) (hv : bootBuiltins x = some (.type T) := by decide +kernel) (hg : Gl X x := by rfl)
    (hn : x ≠ "__name__" := by decide) (hdb : (x == ("__debug__" : Str)) = false := by decide)
    (he : starEach (e :: es) X.env = (false, eval e X.env) :: starEach es X.env := by rfl) (hpl : (backTo pos (starEach es X.env)).any (·.1) = false := by rfl) : DL X W (.Call (.Name x p) (e :: es) [] pos) (mCallBL g mr) := by
  obtain ⟨ta, pa, ka⟩ := ha
  refine ⟨_, pe_callTy hc hg hm hv pa hn hdb he hpl, fun ξ μ σ H ρ S Q g0 s h => ka ξ μ σ H ρ S _ g0 s (WL'.bind h fun xs S1 vs μ1 H1 u1 s1 r1 h1 => ?_)⟩
  cases q : g S1 xs with
  | none => rw [q] at h1; exact h1.elim
  | some z =>
    rw [q] at h1
    exact hd ξ μ1 H1 S1 xs vs z Q s1 r1 q h1
def gLen : Sto → List D → Option D := fun S ds => match ds with
  | [.str z] => if z.length ≤ 16777216 then some (.int z.length) else none
  | [d] => (seqOf S d).map fun ds => .int ds.length
  | _ => none
theorem c_len : CallD X (fun xs H Q => ∃ x n, xs = [x] ∧ LenV X.K x H n ∧ Q (.int n) H) gLen := by
  intro ξ μ H S ds vs z Q s r e k
  unfold gLen at e
  cases r with
  | nil => exact nomatch e
  | @cons v vs d ds r rr =>
    cases rr with
    | cons _ _ => cases d <;> exact nomatch e
    | nil =>
      have main : ∀ es, seqOf S d = some es → D.int es.length = z → ∃ x n, [v] = [x] ∧ LenV X.K x H n ∧ Q (.int n) H := fun es h1 h2 => by
        obtain ⟨a, xs, rfl, h3, h4⟩ := RD.seqS s r h1
        refine ⟨.ref a, xs.length, rfl, h3.imp (fun z => ⟨xs, z, rfl⟩) fun z => ⟨xs, z, rfl⟩, ?_⟩
        rw [h4.length]
        subst h2
        exact k _ μ H .refl s (.int _)
      cases r with
      | str x =>
        simp only at e
        by_cases c : x.length ≤ 16777216
        · rw [if_pos c] at e; cases e
          exact ⟨_, _, rfl, ⟨by rw [sizeLine_eq]; exact c, rfl⟩, k _ μ H .refl s (.int _)⟩
        · rw [if_neg c] at e; exact nomatch e
      | tup f r => exact main _ rfl (Option.some.inj e)
      | lst f r => exact main _ rfl (Option.some.inj e)
      | @cell a n ea =>
        simp only at e
        cases q : seqOf S (.cell n) with
        | none => rw [q] at e; exact nomatch e
        | some es => rw [q] at e; exact main es q (Option.some.inj e)
      | _ => exact nomatch e
def gInt1 : Sto → List D → Option D := fun _ ds => match ds with
  | [.int i] => some (.int i)
  | [.bl b] => some (.int (if b then 1 else 0))
  | _ => none
theorem c_int1 : CallD X (fun xs H Q => (∃ i, xs = [.int i] ∧ Q (.int i) H) ∨ ∃ k, xs = [.bl k] ∧ Q (.int (if k then 1 else 0)) H) gInt1 := by
  intro ξ μ H S ds vs z Q s r e k
  unfold gInt1 at e
  cases r with
  | nil => exact nomatch e
  | @cons v vs d ds r rr =>
    cases rr with
    | cons _ _ => cases d <;> exact nomatch e
    | nil =>
      cases r with
      | int i => cases e; exact .inl ⟨i, rfl, k _ μ H .refl s (.int _)⟩
      | bl b => cases e; exact .inr ⟨b, rfl, k _ μ H .refl s (.int _)⟩
      | _ => exact nomatch e
def gII (f : Int → Int → Int) : Sto → List D → Option D := fun _ ds => match ds with
  | [.int i, .int j] => some (.int (f i j))
  | _ => none
theorem c_II {f : Int → Int → Int} : CallD X (fun xs H Q => ∃ i j, xs = [.int i, .int j] ∧ Q (.int (f i j)) H) (gII f) := by
  intro ξ μ H S ds vs z Q s r e k
  unfold gII at e
  cases r with
  | nil => exact nomatch e
  | @cons v vs d ds r rr =>
    cases rr with
    | nil => cases d <;> exact nomatch e
    | @cons v2 vs2 d2 ds2 r2 rr2 =>
      cases rr2 with
      | cons _ _ => cases d <;> cases d2 <;> exact nomatch e
      | nil =>
        cases r with
        | int i =>
          cases r2 with
          | int j => cases e; exact ⟨i, j, rfl, k _ μ H .refl s (.int _)⟩
          | _ => exact nomatch e
        | _ => exact nomatch e
abbrev gMax2 := gII fun i j => if j > i then j else i
abbrev gMin2 := gII fun i j => if j < i then j else i
def gTuple : Sto → List D → Option D := fun S ds => match ds with
  | [d] => (seqOf S d).map .tup
  | _ => none
theorem c_tuple : CallD X (fun xs H Q => ∃ p ys, xs = [.ref p] ∧ ((SqL X.K H p ys ∧ ∀ l, H l = none → Q (.ref l) (upd H l (.tup ys))) ∨ (SqT X.K H p ys ∧ Q (.ref p) H))) gTuple := by
  intro ξ μ H S ds vs z Q s r e k
  unfold gTuple at e
  cases r with
  | nil => exact nomatch e
  | @cons v vs d ds r rr =>
    cases rr with
    | cons _ _ => exact nomatch e
    | nil =>
      simp only at e
      have lst : ∀ es, lstOf S d = some es → D.tup es = z → ∃ p ys, [v] = [.ref p] ∧ ((SqL X.K H p ys ∧ ∀ l, H l = none → Q (.ref l) (upd H l (.tup ys))) ∨ (SqT X.K H p ys ∧ Q (.ref p) H)) := fun es h1 h2 => by
        obtain ⟨a, xs, rfl, h3, h4⟩ := RD.lstS s r h1
        subst h2
        exact ⟨a, xs, rfl, .inl ⟨h3, fun l hl => k _ μ _ (.fresh hl) (s.fresh hl) (.tup (.inl ⟨.inl upd_same, s.out hl, s.outX hl⟩) (h4.up (.fresh hl)))⟩⟩
      cases r with
      | tup f r =>
        cases Option.some.inj e
        exact ⟨_, _, rfl, .inr ⟨f.sq, k _ μ H .refl s (.tup f r)⟩⟩
      | lst f r => exact lst _ rfl (Option.some.inj e)
      | @cell a n ea =>
        cases q : lstOf S (.cell n) with
        | none =>
          have e : (lstOf S (.cell n)).map D.tup = some z := e
          rw [q] at e; exact nomatch e
        | some es =>
          have e : (lstOf S (.cell n)).map D.tup = some z := e
          rw [q] at e; exact lst es q (Option.some.inj e)
      | _ => exact nomatch e
def gList : Sto → List D → Option (List D) := fun S ds => match ds with
  | [d] => seqOf S d
  | _ => none
theorem c_list : CallDL X (fun xs H Q => ∃ p ys, xs = [.ref p] ∧ (SqL X.K H p ys ∨ SqT X.K H p ys) ∧ ∀ l, H l = none → Q (.ref l) (upd H l (.lst ys))) gList := by
  intro ξ μ H S ds vs z Q s r e k
  unfold gList at e
  cases r with
  | nil => exact nomatch e
  | @cons v vs d ds r rr =>
    cases rr with
    | cons _ _ => exact nomatch e
    | nil =>
      obtain ⟨a, xs, rfl, h1, h2⟩ := RD.seqS s r e
      exact ⟨a, xs, rfl, h1, fun l hl => k l xs μ _ (.fresh hl) hl (s.holds hl) (h2.mv (.holds hl)) upd_same⟩
def blsOf : List D → Option (List Bool)
  | [] => some []
  | .bl b :: ds => (blsOf ds).map (b :: ·)
  | _ :: _ => none
theorem bls_of {F : Fx} {μ : List Addr} {H : Hp} : ∀ {vs : List V} {ds : List D} {bs : List Bool}, RDs F μ H vs ds → blsOf ds = some bs → vs = bs.map V.bl
  | _, [], bs, r, e => by cases r; cases e; rfl
  | _, d :: ds, bs, r, e => by
    cases r with
    | cons a b =>
      cases a with
      | bl x =>
        have e : (blsOf ds).map (x :: ·) = some bs := e
        cases q : blsOf ds with
        | none => rw [q] at e; exact nomatch e
        | some cs =>
          rw [q] at e; cases e
          rw [bls_of b q] <;> rfl
      | _ => exact nomatch e
def gAll : Sto → List D → Option D := fun S ds => match ds with
  | [d] => (lstOf S d).bind fun es => (blsOf es).map fun bs => .bl (bs.all id)
  | _ => none
theorem c_all : CallD X (rAll X.K) gAll := by
  intro ξ μ H S ds vs z Q s r e k
  unfold gAll at e
  cases r with
  | nil => exact nomatch e
  | @cons v vs d ds r rr =>
    cases rr with
    | cons _ _ => exact nomatch e
    | nil =>
      simp only at e
      cases q : lstOf S d with
      | none => rw [q] at e; exact nomatch e
      | some es =>
        rw [q] at e
        have e : (blsOf es).map (fun bs => D.bl (bs.all id)) = some z := e
        cases q' : blsOf es with
        | none => rw [q'] at e; exact nomatch e
        | some bs =>
          rw [q'] at e; cases e
          obtain ⟨a, xs, rfl, h1, h2⟩ := RD.lstS s r q
          have e := bls_of h2 q'
          subst e
          exact ⟨a, bs, rfl, h1, k _ μ H .refl s (.bl _)⟩
/-! ### lists put together -/
def mCatL (a b : MA) : MA := fun ρ S => (a ρ S).bind fun xs S1 => (b ρ S1).bind fun ys S2 => if xs.length + ys.length ≤ 16777216 then .ok (xs ++ ys) S2 else .bad
theorem WL'.bindL {F : Fx} {Q : VK} {Q1 : VK} {Wx : Value → Option Addr → Hp → Prop} {μ : List Addr} {H : Hp} {r : Res (List D)} {f : List D → Sto → Res (List D)} (h : WL' F (r.bind f) Q Wx μ H)
    (k : ∀ ds S1 p xs μ1 H1, Up μ H μ1 H1 → H p = none → RS (F.hold p) μ1 H1 S1 → RDs (F.hold p) μ1 H1 xs ds → H1 p = some (.lst xs) → WL' F (f ds S1) Q Wx μ1 H1 → Q1 (.ref p) H1) : WL' F r Q1 Wx μ H := by
  cases r with
  | ok x S1 => exact fun p xs μ1 H1 u1 hp s1 r1 e1 => k x S1 p xs μ1 H1 u1 hp s1 r1 e1 (WL'.shift u1 h)
  | exc c fs S => exact h
  | bad => exact h
theorem XR.hold {F : Fx} {μ : List Addr} {H : Hp} {cls : Value} {dd : Option Addr} {c : Str} {fs : List (Str × D)} {p : Addr} (h : XR (F.hold p) μ H cls dd c fs) : XR F μ H cls dd c fs := by
  obtain ⟨h1, h2⟩ := h
  refine ⟨h1, h2.imp id ?_⟩
  rintro ⟨d, vfs, e, h3, h4, h6, h5⟩
  exact ⟨d, vfs, e, h3, h4, fun q => h6 (List.mem_cons_of_mem _ q), Paired.mapP h5 fun _ _ z => ⟨z.1, z.2.mv .free⟩⟩
theorem dl_cat {na nb : MA} (ha : DL X W a na) (hb : DL X W b nb) : DL X W (.BinOp a .Add b pos) (mCatL na nb) := by
  obtain ⟨ta, pa, ka⟩ := ha
  obtain ⟨tb, pb, kb⟩ := hb
  refine ⟨_, pe_op op_cat pa pb, fun ξ μ σ H ρ S Q g s h => ka ξ μ σ H ρ S _ g s (WL'.bindL h fun ds S1 p xs μ1 H1 u1 hp s1 r1 e1 h1 => ?_)⟩
  refine kb (p :: ξ) μ1 σ H1 ρ S1 _ ?_ s1 ?_
  · exact ⟨g.len, fun i d e => by
      obtain ⟨v, h, r⟩ := (g.up u1).at_ i d e
      obtain ⟨v', h', r'⟩ := g.at_ i d e
      rw [h] at h'; cases h'
      have m : Mv (fx X ξ) μ H ((fx X ξ).hold p) μ1 H1 := ⟨fun {a xs} q => by
        rcases q.up u1 with ⟨z, n, nx⟩ | z
        · rcases q with ⟨z0, _⟩ | z0
          · refine .inl ⟨z, n, fun m => (List.mem_cons.mp m).elim (fun e => ?_) nx⟩
            subst e
            rcases z0 with z0 | ⟨o, z0⟩ <;> (rw [hp] at z0; cases z0)
          · exact .inr z0
        · exact .inr z, fun {a xs} q => by
        rcases q.up u1 with ⟨z, n, nx⟩ | z
        · rcases q with ⟨z0, _⟩ | z0
          · refine .inl ⟨z, n, fun m => (List.mem_cons.mp m).elim (fun e => ?_) nx⟩
            subst e
            rcases z0 with z0 | ⟨o, z0⟩ <;> (rw [hp] at z0; cases z0)
          · exact .inr z0
        · exact .inr z, fun q => u1.get q, rfl, fun q => q.upHold u1 hp⟩
      exact ⟨v, h, r'.mv m⟩⟩
  cases e : nb ρ S1 with
  | bad => rw [e] at h1; exact h1.elim
  | exc c fs S2 =>
    rw [e] at h1
    exact fun cls dd μ' H' u' s' x' => h1 cls dd μ' H' u' (RS.free (F := fx X ξ) (p := p) s') (XR.hold (F := fx X ξ) (p := p) x')
  | ok es S2 =>
    rw [e] at h1
    intro q ys μ2 H2 u2 hq s2 r2 e2
    have hpq : p ∉ μ1 := (s1.xi p List.mem_cons_self).1
    have ep := u2.keep _ _ e1 hpq
    by_cases c : ds.length + es.length ≤ 16777216
    · have h1 : WL' (fx X ξ) (if ds.length + es.length ≤ 16777216 then Res.ok (ds ++ es) S2 else .bad) Q (fun cls dd H' => W cls dd σ H') μ1 H1 := h1
      rw [if_pos c] at h1
      refine ⟨p, q, xs, ys, rfl, rfl, ep, e2, by rw [r1.length, r2.length, sizeLine_eq]; exact c, fun r hr => ?_⟩
      have rr : RDs (fx X ξ) μ2 H2 (xs ++ ys) (ds ++ es) := RDs.append ((r1.mv .free).up u2) ((RDs.free (F := fx X ξ) (p := p) es (RDs.free (F := fx X (p :: ξ)) (p := q) es r2)))
      have ss : RS (fx X ξ) μ2 H2 S2 := RS.free (F := fx X ξ) (p := p) (RS.free (F := fx X (p :: ξ)) (p := q) s2)
      have nr : r ∉ μ1 := fun z => ss.out hr (u2.mem z)
      exact h1 r _ μ2 _ (u2.trans (.fresh hr)) (u2.back hr nr) (ss.holds hr) (rr.mv (.holds hr)) upd_same
    · have h1 : WL' (fx X ξ) (if ds.length + es.length ≤ 16777216 then Res.ok (ds ++ es) S2 else .bad) Q (fun cls dd H' => W cls dd σ H') μ1 H1 := h1
      rw [if_neg c] at h1
      exact h1.elim
end
/-! ### statements -/
def mNop : MS := fun ρ S => .nx ρ S
def mSeq (a b : MS) : MS := fun ρ S => match a ρ S with
  | .nx ρ1 S1 => b ρ1 S1
  | o => o
def ofRes {α : Type} (r : Res α) (ρ : Rho) (k : α → Sto → Out) : Out := match r with
  | .ok a S => k a S
  | .exc c fs S => .exc c fs ρ S
  | .bad => .bad
def mAsg (i : Nat) (m : ME) : MS := fun ρ S => ofRes (m ρ S) ρ fun d S1 => .nx (ρ.set i (some d)) S1
def mRet (m : ME) : MS := fun ρ S => ofRes (m ρ S) ρ fun d S1 => .rt d S1
def mRetN : MS := fun _ S => .rt .non S
def mDrop (m : ME) : MS := fun ρ S => ofRes (m ρ S) ρ fun _ S1 => .nx ρ S1
def mIfS (c : ME) (a b : MS) : MS := fun ρ S => ofRes (c ρ S) ρ fun d S1 => match d with
  | .bl true => a ρ S1
  | .bl false => b ρ S1
  | _ => .bad
def mBrk : MS := fun ρ S => .bk ρ S
def mCont : MS := fun ρ S => .ct ρ S
section
variable {F : Fx} {α β : Type} {rel : List Addr → Hp → β → α → Prop} {μ : List Addr} {H : Hp} {E : Ends} {W : WX} {σ : St} {ρ : Rho}
/-- first r, then the statement's rest -/
theorem WS'.bind {r : Res α} {f : α → Sto → Out} {Q1 : β → Hp → Prop} (g : RG F μ H σ ρ) (h : WS' F (ofRes r ρ f) E W μ H)
    (k : ∀ x S1 v μ1 H1, Up μ H μ1 H1 → RS F μ1 H1 S1 → rel μ1 H1 v x → WS' F (f x S1) E W μ1 H1 → Q1 v H1) : WR F rel r Q1 (fun cls dd H' => W cls dd σ H') μ H := by
  cases r with
  | ok x S1 => exact fun v μ1 H1 u1 s1 r1 => k x S1 v μ1 H1 u1 s1 r1 (WS'.shift u1 h)
  | exc c fs S => exact fun cls dd μ' H' u' s' x' => h cls dd σ μ' H' u' s' (g.up u') x'
  | bad => exact h
theorem WS'.bindT {r : Res D} {f : D → Sto → Out} {Q1 : Bool → Hp → Prop} (g : RG F μ H σ ρ) (h : WS' F (ofRes r ρ f) E W μ H) (hb : ∀ d S, (∀ b, d ≠ .bl b) → f d S = .bad)
    (k : ∀ b S1 μ1 H1, Up μ H μ1 H1 → RS F μ1 H1 S1 → WS' F (f (.bl b) S1) E W μ1 H1 → Q1 b H1) : WT' F r Q1 (fun cls dd H' => W cls dd σ H') μ H := by
  cases r with
  | ok d S1 =>
    have h : WS' F (f d S1) E W μ H := h
    cases d with
    | bl b => exact fun μ1 H1 u1 s1 => k b S1 μ1 H1 u1 s1 (WS'.shift u1 h)
    | _ =>
      rw [hb _ _ (by intro b e; cases e)] at h
      exact h
  | exc c fs S => exact fun cls dd μ' H' u' s' x' => h cls dd σ μ' H' u' s' (g.up u') x'
  | bad => exact h
end
section
variable {X : Cx} {W : WX} {e a b c : Expr} {es : List Expr} {st : Stmt} {sts ts : List Stmt} {ma mb mc m : ME} {mr : MA} {m1 m2 : MS} {pos p p1 p2 p3 : Pos}
theorem dss_nil : DSs X W [] mNop := ⟨_, pss_nil, fun ξ μ σ H ρ S D g s h => h σ μ H .refl s g⟩
theorem WS'.seq {F : Fx} {μ : List Addr} {H : Hp} {D : Ends} {W : WX} {o : Out} {k : Rho → Sto → Out} {u : TS} (h : WS' F (match o with | .nx ρ1 S1 => k ρ1 S1 | o => o) D W μ H)
    (hu : ∀ σ ρ1 S1 μ1 H1, Up μ H μ1 H1 → RS F μ1 H1 S1 → RG F μ1 H1 σ ρ1 → WS' F (k ρ1 S1) D W μ1 H1 → u D σ H1) : WS' F o { D with nx := u D } W μ H := by
  cases o with
  | nx ρ1 S1 => exact fun σ μ1 H1 u1 s1 g1 => hu σ ρ1 S1 μ1 H1 u1 s1 g1 (WS'.shift u1 h)
  | _ => exact h
theorem dss_cons (h1 : DS X W st m1) (h2 : DSs X W sts m2) : DSs X W (st :: sts) (mSeq m1 m2) := by
  obtain ⟨ta, pa, ka⟩ := h1
  obtain ⟨tb, pb, kb⟩ := h2
  exact ⟨_, pss_cons pa pb, fun ξ μ σ H ρ S D g s h => ka ξ μ σ H ρ S _ g s (WS'.seq h fun σ' ρ1 S1 μ1 H1 u1 s1 g1 h1 => kb ξ μ1 σ' H1 ρ1 S1 D g1 s1 h1)⟩
theorem dss_one (h1 : DS X W st m1) : DSs X W [st] m1 := let ⟨_, p, k⟩ := h1; ⟨_, pss_one p, k⟩
theorem ds_set (i : Nat) {x : Str} {pos' : Pos} (hN : X.N.Nodup) (he : DE X W e m) (hi : X.N[i]? = some x := by rfl) (hx : Loc X.env.scope x := by first | exact Or.inl rfl | exact Or.inr rfl) (hs : swapsWith e (some (.Name x pos')) pos.line X.env = pure false := by rfl)
    (hf : X.fn x = true ∨ X.env.scope.names.lookup x = some .local := by first | exact .inl rfl | exact .inr rfl) : DS X W (.Assign [.Name x pos'] e pos) (mAsg i m) := by
  obtain ⟨te, p, k⟩ := he
  refine ⟨_, ps_set hN hi hx p hs hf, fun ξ μ σ H ρ S D g s h => k ξ μ σ H ρ S _ g s (WS'.bind g h fun x S1 v μ1 H1 u1 s1 r1 h1 => ?_)⟩
  exact h1 _ μ1 H1 .refl s1 ((g.up u1).set i r1)
theorem ds_ret (he : DE X W e m) : DS X W (.Return (some e) pos) (mRet m) := by
  obtain ⟨te, p, k⟩ := he
  exact ⟨_, ps_ret p, fun ξ μ σ H ρ S D g s h => k ξ μ σ H ρ S _ g s (WS'.bind g h fun x S1 v μ1 H1 u1 s1 r1 h1 => h1 _ μ1 H1 .refl s1 r1)⟩
theorem ds_expr (he : DE X W e m) (hs : swapsWith e none pos.line X.env = pure false := by rfl) : DS X W (.Expr e pos) (mDrop m) := by
  obtain ⟨te, p, k⟩ := he
  exact ⟨_, ps_expr p hs, fun ξ μ σ H ρ S D g s h => k ξ μ σ H ρ S _ g s (WS'.bind g h fun x S1 v μ1 H1 u1 s1 r1 h1 => h1 _ μ1 H1 .refl s1 (g.up u1))⟩
theorem ds_if (hc : DT X W c mc) (ha : DSs X W sts m1) (hb : DSs X W ts m2) : DS X W (.If c sts ts pos) (mIfS mc m1 m2) := by
  obtain ⟨tc, pc, kc⟩ := hc
  obtain ⟨ta, pa, ka⟩ := ha
  obtain ⟨tb, pb, kb⟩ := hb
  refine ⟨_, ps_if pc pa pb, fun ξ μ σ H ρ S D g s h => kc ξ μ σ H ρ S _ g s (WS'.bindT g h (fun d S h => by cases d <;> first | rfl | exact absurd rfl (h _)) fun c S1 μ1 H1 u1 s1 h1 => ?_)⟩
  cases c with
  | true => exact ka ξ μ1 σ H1 ρ S1 D (g.up u1) s1 h1
  | false => exact kb ξ μ1 σ H1 ρ S1 D (g.up u1) s1 h1
/-! ### targets -/
structure DG (X : Cx) (tg : Expr) (f : D → Rho → Option Rho) (is : List Nat) : Prop where
  ex : ∃ t, PG X tg t ∧ ∀ ξ μ σ H ρ v d ρ' (Q : St → Hp → Prop), RG (fx X ξ) μ H σ ρ → RD (fx X ξ) μ H v d → f d ρ = some ρ' →
    (∀ σ', RG (fx X ξ) μ H σ' ρ' → (∀ js : List Nat, (∀ i ∈ is, i ∈ js) → wipe σ' js = wipe σ js) → Q σ' H) → t v σ H Q
structure DGs (X : Cx) (tg : List Expr) (f : List D → Rho → Option Rho) (is : List Nat) : Prop where
  ex : ∃ t, PGs X tg t ∧ ∀ ξ μ σ H ρ vs ds ρ' (Q : St → Hp → Prop), RG (fx X ξ) μ H σ ρ → RDs (fx X ξ) μ H vs ds → f ds ρ = some ρ' →
    (∀ σ', RG (fx X ξ) μ H σ' ρ' → (∀ js : List Nat, (∀ i ∈ is, i ∈ js) → wipe σ' js = wipe σ js) → Q σ' H) → t vs σ H Q
theorem wipe_get (σ : St) (i : Nat) : ∀ js : List Nat, (wipe σ js)[i]? = if i ∈ js ∧ i < σ.length then some none else σ[i]?
  | [] => by simp [wipe]
  | j :: js => by
    unfold wipe
    have ih := wipe_get σ i js
    by_cases hj : j = i
    · subst hj
      by_cases hl : j < σ.length
      · rw [List.getElem?_set_self (by rw [wipe_length]; exact hl), if_pos ⟨List.mem_cons_self, hl⟩]
      · rw [List.getElem?_eq_none (by rw [List.length_set, wipe_length]; omega), if_neg (fun z => hl z.2), List.getElem?_eq_none (by omega)]
    · rw [List.getElem?_set_ne hj, ih]
      have e : (i ∈ j :: js ∧ i < σ.length) ↔ (i ∈ js ∧ i < σ.length) := by
        constructor
        · rintro ⟨z, l⟩
          exact ⟨(List.mem_cons.mp z).resolve_left fun q => hj q.symm, l⟩
        · rintro ⟨z, l⟩
          exact ⟨List.mem_cons_of_mem _ z, l⟩
      by_cases q : i ∈ js ∧ i < σ.length
      · rw [if_pos q, if_pos (e.mpr q)]
      · rw [if_neg q, if_neg fun z => q (e.mp z)]
theorem wipe_set {σ : St} {i : Nat} {o : Option V} {js : List Nat} (h : i ∈ js) : wipe (σ.set i o) js = wipe σ js := by
  refine List.ext_getElem? fun k => ?_
  rw [wipe_get, wipe_get, List.length_set]
  by_cases q : k ∈ js ∧ k < σ.length
  · rw [if_pos q, if_pos q]
  · rw [if_neg q, if_neg q]
    by_cases e : i = k
    · subst e
      have l : ¬ i < σ.length := fun l => q ⟨h, l⟩
      rw [List.getElem?_eq_none (by rw [List.length_set]; omega), List.getElem?_eq_none (by omega)]
    · rw [List.getElem?_set_ne e]
def tgN (i : Nat) : D → Rho → Option Rho := fun d ρ => some (ρ.set i (some d))
theorem dg_name (i : Nat) {x : Str} (hN : X.N.Nodup) (hi : X.N[i]? = some x := by rfl) (hx : Loc X.env.scope x := by first | exact Or.inl rfl | exact Or.inr rfl) (hf : X.fn x = true ∨ X.env.scope.names.lookup x = some .local := by first | exact .inl rfl | exact .inr rfl) : DG X (.Name x pos) (tgN i) [i] :=
  ⟨_, pg_name hN hi hx hf, fun ξ μ σ H ρ v d ρ' Q g r e k => by
    cases e
    exact k _ (g.set i r) fun js h => wipe_set (h i List.mem_cons_self)⟩
def tgNil : List D → Rho → Option Rho := fun ds ρ => match ds with
  | [] => some ρ
  | _ => none
def tgCons (f : D → Rho → Option Rho) (g : List D → Rho → Option Rho) : List D → Rho → Option Rho := fun ds ρ => match ds with
  | d :: ds => (f d ρ).bind fun ρ1 => g ds ρ1
  | [] => none
theorem dgs_nil : DGs X [] tgNil [] := ⟨_, pgs_nil, fun ξ μ σ H ρ vs ds ρ' Q g r e k => by
  cases r with
  | nil => cases e; exact ⟨rfl, k σ g fun _ _ => rfl⟩
  | cons _ _ => exact nomatch e⟩
theorem dgs_cons {f : D → Rho → Option Rho} {fs : List D → Rho → Option Rho} {is js : List Nat} (h1 : DG X e f is) (h2 : DGs X es fs js) (hs : (assignEach (e :: es) X.env).map (·.2) = assign e X.env :: (assignEach es X.env).map (·.2) := by rfl) : DGs X (e :: es) (tgCons f fs) (is ++ js) := by
  obtain ⟨t1, p1, k1⟩ := h1
  obtain ⟨t2, p2, k2⟩ := h2
  refine ⟨_, pgs_cons p1 p2 hs, fun ξ μ σ H ρ vs ds ρ' Q g r e k => ?_⟩
  cases r with
  | nil => exact nomatch e
  | @cons v vs d ds r rr =>
    have e : (f d ρ).bind (fun ρ1 => fs ds ρ1) = some ρ' := e
    cases q : f d ρ with
    | none => rw [q] at e; exact nomatch e
    | some ρ1 =>
      rw [q] at e
      refine ⟨v, vs, rfl, k1 ξ μ σ H ρ v d ρ1 _ g r q fun σ1 g1 w1 => ?_⟩
      refine k2 ξ μ σ1 H ρ1 vs ds ρ' Q g1 rr e fun σ2 g2 w2 => k σ2 g2 fun ks hk => ?_
      rw [w2 ks fun i hi => hk i (List.mem_append_right _ hi), w1 ks fun i hi => hk i (List.mem_append_left _ hi)]
def tgT (n : Nat) (f : List D → Rho → Option Rho) : D → Rho → Option Rho := fun d ρ => match d with
  | .tup ds => if ds.length = n then f ds ρ else none
  | _ => none
theorem dg_tup {k n : Nat} {f : List D → Rho → Option Rho} {is : List Nat} {tp : Pos} (hc : X.calm = true) (h : DGs X es f is) (hn : (assignEach es X.env).length = n := by rfl) (hst : (assignEach es X.env).findIdx? (·.1) = none := by rfl) : DG X (.Tuple es k tp) (tgT n f) is := by
  obtain ⟨t, p, k⟩ := h
  refine ⟨_, pg_tup hc p hn hst, fun ξ μ σ H ρ v d ρ' Q g r e kk => ?_⟩
  cases r with
  | @tup a xs ds fz r =>
    unfold tgT at e
    by_cases c : ds.length = n
    · simp only [if_pos c] at e
      exact ⟨a, xs, rfl, fz.sq, by rw [r.length]; exact c, k ξ μ σ H ρ xs ds ρ' Q g r e kk⟩
    · simp only [if_neg c] at e
      exact nomatch e
  | _ => exact nomatch e
/-- target = e -/
def mAsgG (f : D → Rho → Option Rho) (m : ME) : MS := fun ρ S => ofRes (m ρ S) ρ fun d S1 => match f d ρ with
  | some ρ1 => .nx ρ1 S1
  | none => .bad
theorem ds_asg {tg : Expr} {f : D → Rho → Option Rho} {is : List Nat} (he : DE X W e m) (hg : DG X tg f is) (hs : swapsWithSole [tg] e pos.line X.env = pure false := by rfl) (hw : swappedStores [tg] e X.env = pure none := by rfl) (h1 : (assignEach [tg] X.env).map (·.2) = [assign tg X.env] := by rfl) : DS X W (.Assign [tg] e pos) (mAsgG f m) := by
  obtain ⟨te, p, k⟩ := he
  obtain ⟨tg, pg, kg⟩ := hg
  refine ⟨_, ps_asg p pg hs hw h1, fun ξ μ σ H ρ S D g s h => k ξ μ σ H ρ S _ g s (WS'.bind g h fun x S1 v μ1 H1 u1 s1 r1 h1 => ?_)⟩
  cases q : f x ρ with
  | none => rw [q] at h1; exact h1.elim
  | some ρ1 =>
    rw [q] at h1
    exact kg ξ μ1 σ H1 ρ v x ρ1 _ (g.up u1) r1 q fun σ' g' _ => h1 σ' μ1 H1 .refl s1 g'
/-- o[i] = e, o a list's cell -/
def mSetIx (m o i : ME) : MS := fun ρ S => ofRes (m ρ S) ρ fun d S1 => ofRes (o ρ S1) ρ fun x S2 => ofRes (i ρ S2) ρ fun y S3 => match x, y with
  | .cell n, .int j => match S3[n]? with
    | some (.lst ds) => match ixN ds.length j with
      | some k => .nx ρ (S3.set n (.lst (ds.set k d)))
      | none => .bad
    | _ => .bad
  | _, _ => .bad
theorem ds_setIx {o i : Expr} {mo mi : ME} (he : DE X W e m) (ho : DE X W o mo) (hi : DE X W i mi)
    (ha : ∀ v, assign (.Subscript o i p) X.env v = (do
      let ov ← holding [v] (eval o X.env)
      let iv ← holding [v, ov] (eval i X.env)
      standAt p
      holding [v, ov, iv] (setItem ov iv v)
      release [v, ov, iv] []) := by intro _; rfl) (hs : swapsWithSole [.Subscript o i p] e pos.line X.env = pure false := by rfl) (hw : swappedStores [.Subscript o i p] e X.env = pure none := by rfl) : DS X W (.Assign [.Subscript o i p] e pos) (mSetIx m mo mi) := by
  obtain ⟨te, pe, ke⟩ := he
  obtain ⟨to, po, ko⟩ := ho
  obtain ⟨ti, pi, ki⟩ := hi
  refine ⟨_, ps_asg pe (pg_sub po pi set_list ha) hs hw, fun ξ μ σ H ρ S D g s h => ke ξ μ σ H ρ S _ g s (WS'.bind g h fun d S1 v μ1 H1 u1 s1 r1 h1 => ?_)⟩
  refine ko ξ μ1 σ H1 ρ S1 _ (g.up u1) s1 (WS'.bind (g.up u1) h1 fun x S2 v2 μ2 H2 u2 s2 r2 h2 => ?_)
  refine ki ξ μ2 σ H2 ρ S2 _ (g.up (u1.trans u2)) s2 (WS'.bind (g.up (u1.trans u2)) h2 fun y S3 v3 μ3 H3 u3 s3 r3 h3 => ?_)
  have rd := r1.up (u2.trans u3)
  have rx := r2.up u3
  cases rx with
  | @cell a n ea =>
    cases r3 with
    | int j =>
      simp only at h3
      cases q : S3[n]? with
      | none => rw [q] at h3; exact h3.elim
      | some c =>
        rw [q] at h3
        cases c with
        | lst ds =>
          simp only at h3
          cases q2 : ixN ds.length j with
          | none => rw [q2] at h3; exact h3.elim
          | some k =>
            rw [q2] at h3
            obtain ⟨xs, e1, e2⟩ := s3.at_ n a _ ea q
            refine ⟨a, xs, j, k, rfl, rfl, e1, by rw [e2.length]; exact q2, ?_⟩
            exact h3 σ μ3 _ (.write ea) (s3.write ea ⟨_, upd_same, ((e2.set k rd).up (.write ea))⟩) (g.up (u1.trans (u2.trans (u3.trans (.write ea)))))
        | _ => exact h3.elim
    | _ => exact h3.elim
  | _ => exact h3.elim
/-- o.append(e), o a list's cell -/
def mApp (o m : ME) : MS := fun ρ S => ofRes (o ρ S) ρ fun x S1 => match x with
  | .cell n => match S1[n]? with
    | some (.lst _) => ofRes (m ρ S1) ρ fun d S2 => match S2[n]? with
      | some (.lst ds) => if ds.length < 16777216 then .nx ρ (S2.set n (.lst (ds ++ [d]))) else .bad
      | _ => .bad
    | _ => .bad
  | _ => .bad
theorem ds_app {o : Expr} {mo : ME} (ho : DE X W o mo) (he : DE X W e m) (hp : ∀ {to te : TE}, PE X o to → PE X e te → PS X st (tDrop (tBM X.K "list" rAppend to (tCons te tNil)))) : DS X W st (mApp mo m) := by
  obtain ⟨to, po, ko⟩ := ho
  obtain ⟨te, pe, ke⟩ := he
  refine ⟨_, hp po pe, fun ξ μ σ H ρ S D g s h => ?_⟩
  refine ko ξ μ σ H ρ S _ g s (WS'.bind g h fun x S1 v μ1 H1 u1 s1 r1 h1 => ?_)
  cases r1 with
  | @cell a n ea =>
    simp only at h1
    cases q : S1[n]? with
    | none => rw [q] at h1; exact h1.elim
    | some c =>
      rw [q] at h1
      cases c with
      | lst ds0 =>
        simp only at h1
        obtain ⟨xs0, e1, _⟩ := s1.at_ n a _ ea q
        refine ⟨.inl ⟨rfl, _, SqL.of e1⟩, ?_⟩
        refine ke ξ μ1 σ H1 ρ S1 _ (g.up u1) s1 (WS'.bind (g.up u1) h1 fun d S2 v2 μ2 H2 u2 s2 r2 h2 => ?_)
        cases q2 : S2[n]? with
        | none => simp only [q2] at h2; exact h2.elim
        | some c2 =>
          simp only [q2] at h2
          cases c2 with
          | lst ds =>
            simp only at h2
            by_cases l : ds.length < 16777216
            · rw [if_pos l] at h2
              have ea2 := u2.get ea
              obtain ⟨xs, e2, e3⟩ := s2.at_ n a _ ea2 q2
              refine ⟨a, xs, v2, rfl, rfl, e2, by rw [e3.length, sizeLine_eq]; exact l, ?_⟩
              exact h2 σ μ2 _ (.write ea2) (s2.write ea2 ⟨_, upd_same, (e3.append (.cons r2 .nil)).up (.write ea2)⟩) (g.up (u1.trans (u2.trans (.write ea2))))
            · rw [if_neg l] at h2; exact h2.elim
          | _ => exact h2.elim
      | _ => exact h1.elim
  | _ => exact h1.elim
end
end Dm
-- text DmLoop
namespace Dm
open PySem L2
open PySem.W (Frag)
/-- more may be reserved later -/
structure Ext (F F' : Fx) (H : Hp) : Prop where
  k : F'.K = F.K
  g : F'.mg = F.mg
  x : ∀ a, a ∈ F'.ξ → a ∈ F.ξ ∨ H a = none
theorem Ext.refl {F : Fx} {H : Hp} : Ext F F H := ⟨rfl, rfl, fun _ h => .inl h⟩
theorem Mv.ext {F F' : Fx} {μ μ' : List Addr} {H H' : Hp} (e : Ext F F' H) (u : Up μ H μ' H') : Mv F μ H F' μ' H' := ⟨fun {a xs} q => by
    rcases q.up u with ⟨z, n, nx⟩ | z
    · rcases q with ⟨z0, _⟩ | z0
      · refine .inl ⟨z, n, fun m => ?_⟩
        rcases e.x _ m with q | q
        · exact nx q
        · rcases z0 with z0 | ⟨o, z0⟩ <;> (rw [q] at z0; cases z0)
      · exact .inr (by rw [e.k]; exact z0)
    · exact .inr (by rw [e.k]; exact z), fun {a xs} q => by
    rcases q.up u with ⟨z, n, nx⟩ | z
    · rcases q with ⟨z0, _⟩ | z0
      · refine .inl ⟨z, n, fun m => ?_⟩
        rcases e.x _ m with q | q
        · exact nx q
        · rcases z0 with z0 | ⟨o, z0⟩ <;> (rw [q] at z0; cases z0)
      · exact .inr (by rw [e.k]; exact z0)
    · exact .inr (by rw [e.k]; exact z), fun q => u.get q, e.g, fun {a c ns} h => by
    obtain ⟨cls, dd, e0, ⟨h1, h2, h3⟩, h4⟩ := h
    have no : ∀ {b : Addr} {o : HO}, H b = some o → b ∉ F.ξ → b ∉ F'.ξ := fun {b o} hb n m => (e.x b m).elim n fun q => by
      rw [q] at hb; cases hb
    refine ⟨cls, dd, by rw [e.g, e.k]; exact e0, ⟨u.keep _ _ h1 h2, u.notin h1 h2, no h1 h3⟩, h4.imp id ?_⟩
    rintro ⟨d, fs, e2, h5, hf, h6, h7⟩
    exact ⟨d, fs, e2, u.keep _ _ h5 h6, hf, u.notin h5 h6, no h5 h7⟩⟩
/-- an iterator gives these items -/
def ItOk (F : Fx) (μ : List Addr) (H : Hp) (J : It) (ds : List D) : Prop := ds.length ≤ 16777216 ∧
  ∀ (F' : Fx) (μ' : List Addr) (H' : Hp) (S' : Sto) (i : Nat), Ext F F' H → Up μ H μ' H' → RS F' μ' H' S' → i ≤ ds.length →
    (∀ d, ds[i]? = some d → J.go i H' ∧ ∀ x H'', J.yld i H' x H'' → Up μ' H' μ' H'' ∧ RS F' μ' H'' S' ∧ RD F' μ' H'' x d) ∧ (i = ds.length → J.stop i H')
structure DI (X : Cx) (W : WX) (tg iter : Expr) (m : MA) : Prop where
  ex : ∃ wi, PI X tg iter wi ∧ ∀ ξ μ σ H ρ S R, RG (fx X ξ) μ H σ ρ → RS (fx X ξ) μ H S → WR (fx X ξ) (fun μ H (J : It) (ds : List D) => ItOk (fx X ξ) μ H J ds) (m ρ S) R (fun cls dd H' => W cls dd σ H') μ H → wi σ H R
section
variable {X : Cx} {W : WX} {tg e a b c : Expr} {es : List Expr} {st : Stmt} {sts ts : List Stmt} {ma mb mc m : ME} {mr : MA} {m1 m2 : MS} {pos p p1 p2 p3 : Pos}
def Sized (K : Frag) (H : Hp) : Prop := ∀ a xs, SqL K H a xs ∨ SqT K H a xs → xs.length ≤ 16777216
theorem sized_of {pins : List (Addr × Obj)} {σ : St} {H : Hp} {s : Shared} (I : Inv X pins σ H s) : Sized X.K H := fun a xs h => by
  rcases h with h | h
  · obtain ⟨_, _, _, z⟩ := I.list h
    rw [sizeLine_eq] at z; exact z
  · obtain ⟨_, _, _, z⟩ := I.tuple h
    rw [sizeLine_eq] at z; exact z
theorem piSized {wi : TI} (h : PI X tg e wi) : PI X tg e (fun σ H R => wi σ H fun J H1 => Sized X.K H1 → R J H1) := ⟨fun pins s σ H R I hw =>
  thn (h.run pins s σ H _ I hw) fun v s1 h1 => thn h1 fun itv s2 ⟨it, fp, tn, J, H', a1, a2, a3, a4, a5, a6⟩ => ⟨it, fp, tn, J, H', a1, a2, a3, a4, a5, a6 (sized_of a2)⟩⟩
theorem piOr {wi wj : TI} (h : PI X tg e wi) (h' : PI X tg e wj) : PI X tg e (fun σ H R => wi σ H R ∨ wj σ H R) := ⟨fun pins s σ H R I hw =>
  hw.elim (h.run pins s σ H R I) (h'.run pins s σ H R I)⟩
theorem itt_ok {F : Fx} {μ : List Addr} {H : Hp} {a : Addr} {xs : List V} {ds : List D} (f : FzT F μ H a xs) (r : RDs F μ H xs ds) (z : Sized F.K H) : ItOk F μ H (Itt F.K a) ds := by
  refine ⟨by rw [← r.length]; exact z a xs (.inr f.sq), fun F' μ' H' S' i e u s hi => ⟨fun d hd => ?_, fun hi => ?_⟩⟩
  · obtain ⟨v, h1, h2⟩ := r.get hd
    refine ⟨⟨xs, v, (f.up u).sq, h1⟩, fun x H'' y => ?_⟩
    obtain ⟨e1, y⟩ := y
    subst e1
    have q := y xs (f.up u).sq
    rw [h1] at q; cases q
    exact ⟨.refl, s, h2.mv (.ext e u)⟩
  · exact ⟨xs, (f.up u).sq, by rw [r.length, hi]; exact Nat.le_refl _⟩
theorem itl_ok {F : Fx} {μ : List Addr} {H : Hp} {a : Addr} {xs : List V} {ds : List D} (f : FzL F μ H a xs) (r : RDs F μ H xs ds) (z : Sized F.K H) : ItOk F μ H (Itl F.K a) ds := by
  refine ⟨by rw [← r.length]; exact z a xs (.inl f.sq), fun F' μ' H' S' i e u s hi => ⟨fun d hd => ?_, fun hi => ?_⟩⟩
  · obtain ⟨v, h1, h2⟩ := r.get hd
    refine ⟨⟨xs, v, (f.up u).sq, h1⟩, fun x H'' y => ?_⟩
    obtain ⟨e1, y⟩ := y
    subst e1
    have q := y xs (f.up u).sq
    rw [h1] at q; cases q
    exact ⟨.refl, s, h2.mv (.ext e u)⟩
  · exact ⟨xs, (f.up u).sq, by rw [r.length, hi]; exact Nat.le_refl _⟩
/-- over a tuple, a list that stands still -/
def iSeq (m : ME) : MA := fun ρ S => (m ρ S).bind fun d S1 => match d with
  | .tup ds => .ok ds S1
  | .lst ds => .ok ds S1
  | _ => .bad
theorem di_seq (h : DE X W e m) : DI X W tg e (iSeq m) := by
  obtain ⟨te, pe, k⟩ := h
  refine ⟨_, piOr (piSized (pi_tup pe)) (piSized (pi_list pe)), fun ξ μ σ H ρ S R g s h => ?_⟩
  cases e1 : m ρ S with
  | bad => unfold iSeq at h; rw [e1] at h; exact h.elim
  | exc c fs S1 =>
    unfold iSeq at h; rw [e1] at h
    refine .inl (k ξ μ σ H ρ S _ g s ?_)
    rw [e1]; exact h
  | ok d S1 =>
    cases d with
    | tup ds =>
      refine .inl (k ξ μ σ H ρ S _ g s ?_)
      unfold iSeq at h
      rw [e1] at h ⊢
      intro v μ1 H1 u1 s1 r1
      cases r1 with
      | @tup a xs _ f r => exact ⟨a, rfl, ⟨xs, f.sq⟩, fun z => h _ μ1 H1 u1 s1 (itt_ok f r z)⟩
    | lst ds =>
      refine .inr (k ξ μ σ H ρ S _ g s ?_)
      unfold iSeq at h
      rw [e1] at h ⊢
      intro v μ1 H1 u1 s1 r1
      cases r1 with
      | @lst a xs _ f r => exact ⟨a, rfl, ⟨xs, f.sq⟩, fun z => h _ μ1 H1 u1 s1 (itl_ok f r z)⟩
    | _ => unfold iSeq at h; rw [e1] at h; exact h.elim
/-- over range(n), range(a, n) -/
def rngD (lo : Int) (n : Nat) : List D := (List.range n).map fun (i : Nat) => D.int (lo + i)
theorem rngD_length {lo : Int} {n : Nat} : (rngD lo n).length = n := by unfold rngD; rw [List.length_map, List.length_range]
theorem itr_ok {F : Fx} {μ : List Addr} {H : Hp} {lo : Int} {n : Nat} (hn : n ≤ 16777216) : ItOk F μ H (Itr lo n) (rngD lo n) := by
  refine ⟨by rw [rngD_length]; exact hn, fun F' μ' H' S' i e u s hi => ⟨fun d hd => ?_, fun hi => ?_⟩⟩
  · have hl : i < n := by
      have q := (List.getElem?_eq_some_iff.mp hd).1
      rw [rngD_length] at q; exact q
    refine ⟨hl, fun x H'' y => ?_⟩
    obtain ⟨e1, y⟩ := y
    subst e1
    subst y
    have e2 : d = .int (lo + i) := by
      unfold rngD at hd
      rw [List.getElem?_map, List.getElem?_range hl] at hd
      exact (Option.some.inj hd).symm
    subst e2
    exact ⟨.refl, s, .int _⟩
  · rw [rngD_length] at hi
    exact Nat.le_of_eq hi.symm
noncomputable def iRange1 (a : MA) : MA := fun ρ S => (a ρ S).bind fun ds S1 => match ds with
  | [.int j] => @ite _ (j ≤ 16777216 ∧ -4611686018427387904 ≤ j) (Classical.propDecidable _) (.ok (rngD 0 j.toNat) S1) .bad
  | _ => .bad
theorem di_range1 (ha : DA X W [a] mr) (hm : X.mg "range" = none) (hg : Gl X "range" := by rfl) (hs : starEach [a] X.env = [(false, eval a X.env)] := by rfl) : DI X W tg (.Call (.Name "range" p) [a] [] pos) (iRange1 mr) := by
  obtain ⟨ta, pa, ka⟩ := ha
  refine ⟨_, pi_range1 hg hm pa hs, fun ξ μ σ H ρ S R g s h => ka ξ μ σ H ρ S _ g s (WR.bind h fun ds S1 vs μ1 H1 u1 s1 r1 h1 => ?_)⟩
  cases r1 with
  | nil => exact h1.elim
  | @cons v vs d ds r rr =>
    cases rr with
    | cons _ _ => cases d <;> exact h1.elim
    | nil =>
      cases r with
      | int j =>
        simp only at h1
        by_cases c : j ≤ 16777216 ∧ -4611686018427387904 ≤ j
        · rw [if_pos c] at h1
          exact ⟨j, rfl, by omega, by omega, h1 _ μ1 H1 .refl s1 (itr_ok (by omega))⟩
        · rw [if_neg c] at h1; exact h1.elim
      | _ => exact h1.elim
noncomputable def iRange2 (a : MA) : MA := fun ρ S => (a ρ S).bind fun ds S1 => match ds with
  | [.int i, .int j] => @ite _ (-1000000000000 ≤ i ∧ i ≤ 1000000000000 ∧ -1000000000000 ≤ j ∧ j ≤ 1000000000000 ∧ j - i ≤ 16777216) (Classical.propDecidable _) (.ok (rngD i (j - i).toNat) S1) .bad
  | _ => .bad
theorem di_range2 (ha : DA X W [a, b] mr) (hm : X.mg "range" = none) (hg : Gl X "range" := by rfl) (hs : starEach [a, b] X.env = [(false, eval a X.env), (false, eval b X.env)] := by rfl) (hs2 : starEach [b] X.env = [(false, eval b X.env)] := by rfl) :
    DI X W tg (.Call (.Name "range" p) [a, b] [] pos) (iRange2 mr) := by
  obtain ⟨ta, pa, ka⟩ := ha
  refine ⟨_, pi_range2 hg hm pa hs hs2, fun ξ μ σ H ρ S R g s h => ka ξ μ σ H ρ S _ g s (WR.bind h fun ds S1 vs μ1 H1 u1 s1 r1 h1 => ?_)⟩
  cases r1 with
  | nil => exact h1.elim
  | @cons v vs d ds r rr =>
    cases rr with
    | nil => cases d <;> exact h1.elim
    | @cons v2 vs2 d2 ds2 r2 rr2 =>
      cases rr2 with
      | cons _ _ => cases d <;> cases d2 <;> exact h1.elim
      | nil =>
        cases r with
        | int i =>
          cases r2 with
          | int j =>
            simp only at h1
            by_cases c : -1000000000000 ≤ i ∧ i ≤ 1000000000000 ∧ -1000000000000 ≤ j ∧ j ≤ 1000000000000 ∧ j - i ≤ 16777216
            · rw [if_pos c] at h1
              exact ⟨i, j, rfl, ⟨by omega, by omega, by omega, by omega⟩, h1 _ μ1 H1 .refl s1 (itr_ok (by omega))⟩
            · rw [if_neg c] at h1; exact h1.elim
          | _ => exact h1.elim
        | _ => exact h1.elim
/-! ### for -/
def forL (f : D → Rho → Option Rho) (mb : MS) : List D → Rho → Sto → Out
  | [], ρ, S => .nx ρ S
  | d :: r, ρ, S => match f d ρ with
    | none => .bad
    | some ρ1 => match mb ρ1 S with
      | .nx ρ2 S2 => forL f mb r ρ2 S2
      | .ct ρ2 S2 => forL f mb r ρ2 S2
      | .bk ρ2 S2 => .nx ρ2 S2
      | .rt d S2 => .rt d S2
      | .exc c fs ρ2 S2 => .exc c fs ρ2 S2
      | .bad => .bad
def mFor (mi : MA) (f : D → Rho → Option Rho) (mb : MS) : MS := fun ρ S => ofRes (mi ρ S) ρ fun ds S1 => forL f mb ds ρ S1
theorem ds_for {f : D → Rho → Option Rho} {is : List Nat} {mb : MS} (hp : PassesOwn (model X.prog X.w) X.A X.env X.xe) (hc : X.calm = true) (hi : DI X W tg e mr) (hg : DG X tg f is) (hb : DSs X W sts mb)
    (hs : ∀ x, foldedSetIterable e X.env x = pure x := by intro _; rfl) : DS X W (.For tg e sts [] pos) (mFor mr f mb) := by
  obtain ⟨wi, pi, ki⟩ := hi
  obtain ⟨tg', pg, kg⟩ := hg
  obtain ⟨tb, pb, kb⟩ := hb
  refine ⟨_, ps_for hp hc pi pg pb hs, fun ξ μ σ H ρ S D g s h => ki ξ μ σ H ρ S _ g s (WS'.bind g h fun ds S1 J μ1 H1 u1 s1 r1 h1 => ?_)⟩
  refine ⟨fun i m σ' H' => ∃ μ' ρ' S', Up μ1 H1 μ' H' ∧ RS (fx X ξ) μ' H' S' ∧ RG (fx X ξ) μ' H' σ' ρ' ∧ i ≤ ds.length ∧ m = ds.length - i ∧ WS' (fx X ξ) (forL f mb (ds.drop i) ρ' S') D W μ' H',
    ⟨_, μ1, ρ, S1, .refl, s1, g.up u1, Nat.zero_le _, rfl, by rw [List.drop_zero]; exact h1⟩, ?_⟩
  rintro i m σ' H' ⟨μ', ρ', S', u', s', g', hi, rfl, w⟩
  obtain ⟨t1, t2⟩ := r1.2 (fx X ξ) μ' H' S' i .refl u' s' hi
  by_cases hl : i < ds.length
  · have hd : ds[i]? = some ds[i] := List.getElem?_eq_getElem hl
    obtain ⟨go, yl⟩ := t1 _ hd
    rw [List.drop_eq_getElem_cons hl] at w
    unfold forL at w
    cases ef : f ds[i] ρ' with
    | none => rw [ef] at w; exact w.elim
    | some ρ1 =>
      rw [ef] at w
      simp only at w
      refine .inr ⟨go, fun σ2 H2 => ∃ μ' ρ' S', Up μ1 H1 μ' H2 ∧ RS (fx X ξ) μ' H2 S' ∧ RG (fx X ξ) μ' H2 σ2 ρ' ∧ WS' (fx X ξ) (forL f mb (ds.drop (i + 1)) ρ' S') D W μ' H2,
        fun σ2 H2 ⟨μ2, ρ2, S2, a1, a2, a3, a4⟩ => ⟨_, by omega, μ2, ρ2, S2, a1, a2, a3, hl, rfl, a4⟩, fun x H2 y => ?_⟩
      obtain ⟨u2, s2, r2⟩ := yl x H2 y
      refine kg ξ μ' σ' H2 ρ' x _ ρ1 _ (g'.up u2) r2 ef fun σ2 g2 _ => ?_
      refine kb ξ μ' σ2 H2 ρ1 S' _ g2 s2 ?_
      have w := WS'.shift u2 w
      cases eb : mb ρ1 S' with
      | nx ρ2 S2 =>
        rw [eb] at w
        exact fun σ3 μ3 H3 u3 s3 g3 => ⟨μ3, ρ2, S2, u'.trans (u2.trans u3), s3, g3, w.shift u3⟩
      | ct ρ2 S2 =>
        rw [eb] at w
        exact fun σ3 μ3 H3 u3 s3 g3 => ⟨μ3, ρ2, S2, u'.trans (u2.trans u3), s3, g3, w.shift u3⟩
      | bk ρ2 S2 => rw [eb] at w; exact w
      | rt d S2 => rw [eb] at w; exact w
      | exc c fs ρ2 S2 => rw [eb] at w; exact w
      | bad => rw [eb] at w; exact w
  · have e : i = ds.length := by omega
    rw [e, List.drop_length] at w
    exact .inl ⟨t2 e, w σ' μ' H' .refl s' g'⟩
/-! ### for over a list's cell, as it stands at each turn -/
/-! ### while -/
end
/-! ### comprehensions -/
def wipeD (ρ : Rho) : List Nat → Rho
  | [] => ρ
  | v :: vs => (wipeD ρ vs).set v none
theorem RG.wipe {F : Fx} {μ : List Addr} {H : Hp} {σ : St} {ρ : Rho} (g : RG F μ H σ ρ) : ∀ vs : List Nat, RG F μ H (L2.wipe σ vs) (wipeD ρ vs)
  | [] => g
  | v :: vs => (RG.wipe g vs).forget (σ' := σ) v
def lcL (f : D → Rho → Option Rho) (mt me : ME) (ρ : Rho) : List D → Sto → Option (List D × Sto)
  | [], S => some ([], S)
  | d :: r, S => match f d ρ with
    | none => none
    | some ρ1 => match mt ρ1 S with
      | .ok (.bl true) S1 => match me ρ1 S1 with
        | .ok y S2 => match lcL f mt me ρ r S2 with
          | some (ys, S3) => some (y :: ys, S3)
          | none => none
        | _ => none
      | .ok (.bl false) S1 => lcL f mt me ρ r S1
      | _ => none
def mLc (mi : MA) (f : D → Rho → Option Rho) (mt me : ME) (vs : List Nat) : MA := fun ρ S => (mi ρ S).bind fun ds S1 => match lcL f mt me (wipeD ρ vs) ds S1 with
  | some (ys, S2) => .ok ys S2
  | none => .bad
def mYes : ME := fun _ S => .ok (.bl true) S
abbrev W0 : WX := fun _ _ _ _ => False
structure DTs (X : Cx) (W : WX) (es : List Expr) (m : ME) : Prop where
  ex : ∃ te, PTs X es te ∧ ∀ ξ μ σ H ρ S Q, RG (fx X ξ) μ H σ ρ → RS (fx X ξ) μ H S → WT' (fx X ξ) (m ρ S) Q (fun cls dd H' => W cls dd σ H') μ H → te σ H Q
section
variable {X : Cx} {W : WX} {tg e a b c : Expr} {es : List Expr} {st : Stmt} {sts ts : List Stmt} {ma mb mc m : ME} {mr : MA} {m1 m2 : MS} {pos p p1 p2 p3 : Pos}
theorem dts_nil : DTs X W [] mYes := ⟨_, pts_nil, fun ξ μ σ H ρ S Q g s h => h μ H .refl s⟩
theorem dts_one (h : DT X W c mc) : DTs X W [c] mc := let ⟨_, p, k⟩ := h; ⟨_, pts_one p, k⟩
/-- one word for all contexts of a family -/
theorem de_all {ι : Type} {Xf : ι → Cx} {e : Expr} {m : ME} {K : Frag} {mg : Str → Option Value} (hK : ∀ i, (Xf i).K = K) (hg : ∀ i, (Xf i).mg = mg) (h : ∀ i, DE (Xf i) W e m) :
    ∃ te, (∀ i, PE (Xf i) e te) ∧ ∀ ξ μ σ H ρ S Q, RG ⟨K, mg, ξ⟩ μ H σ ρ → RS ⟨K, mg, ξ⟩ μ H S → WE' ⟨K, mg, ξ⟩ (m ρ S) Q (fun cls dd H' => W cls dd σ H') μ H → te σ H Q := by
  refine ⟨fun σ H Q => ∀ i, ∃ te, PE (Xf i) e te ∧ te σ H Q, fun i => ⟨fun pins s σ H Q I hw => ?_⟩, fun ξ μ σ H ρ S Q g s hw i => ?_⟩
  · obtain ⟨te, p, q⟩ := hw i
    exact p.run pins s σ H Q I q
  · obtain ⟨te, p, k⟩ := h i
    refine ⟨te, p, k ξ μ σ H ρ S Q ?_ ?_ ?_⟩
    all_goals (unfold fx; rw [hK, hg]; assumption)
theorem dts_all {ι : Type} {Xf : ι → Cx} {es : List Expr} {m : ME} {K : Frag} {mg : Str → Option Value} (hK : ∀ i, (Xf i).K = K) (hg : ∀ i, (Xf i).mg = mg) (h : ∀ i, DTs (Xf i) W es m) :
    ∃ te, (∀ i, PTs (Xf i) es te) ∧ ∀ ξ μ σ H ρ S Q, RG ⟨K, mg, ξ⟩ μ H σ ρ → RS ⟨K, mg, ξ⟩ μ H S → WT' ⟨K, mg, ξ⟩ (m ρ S) Q (fun cls dd H' => W cls dd σ H') μ H → te σ H Q := by
  refine ⟨fun σ H Q => ∀ i, ∃ te, PTs (Xf i) es te ∧ te σ H Q, fun i => ⟨fun pins s σ H Q I hw => ?_⟩, fun ξ μ σ H ρ S Q g s hw i => ?_⟩
  · obtain ⟨te, p, q⟩ := hw i
    exact p.run pins s σ H Q I q
  · obtain ⟨te, p, k⟩ := h i
    refine ⟨te, p, k ξ μ σ H ρ S Q ?_ ?_ ?_⟩
    all_goals (unfold fx; rw [hK, hg]; assumption)
theorem dg_all {ι : Type} {Xf : ι → Cx} {tg : Expr} {f : D → Rho → Option Rho} {is : List Nat} {K : Frag} {mg : Str → Option Value} (hK : ∀ i, (Xf i).K = K) (hg : ∀ i, (Xf i).mg = mg) (h : ∀ i, DG (Xf i) tg f is) :
    ∃ t, (∀ i, PG (Xf i) tg t) ∧ ∀ ξ μ σ H ρ v d ρ' (Q : St → Hp → Prop), RG ⟨K, mg, ξ⟩ μ H σ ρ → RD ⟨K, mg, ξ⟩ μ H v d → f d ρ = some ρ' →
    (∀ σ', RG ⟨K, mg, ξ⟩ μ H σ' ρ' → (∀ js : List Nat, (∀ i ∈ is, i ∈ js) → wipe σ' js = wipe σ js) → Q σ' H) → t v σ H Q := by
  refine ⟨fun v σ H Q => ∀ i, ∃ t, PG (Xf i) tg t ∧ t v σ H Q, fun i => ⟨fun pins s σ H v u Q I r hw => ?_⟩, fun ξ μ σ H ρ v d ρ' Q g r e k i => ?_⟩
  · obtain ⟨t, p, q⟩ := hw i
    exact p.run pins s σ H v u Q I r q
  · obtain ⟨t, p, kk⟩ := h i
    refine ⟨t, p, kk ξ μ σ H ρ v d ρ' Q ?_ ?_ e fun σ' g' w => k σ' ?_ w⟩
    · unfold fx; rw [hK, hg]; exact g
    · unfold fx; rw [hK, hg]; exact r
    · have g'' := g'
      unfold fx at g''
      rw [hK, hg] at g''
      exact g''
abbrev Blk := Shared × Hp × Addr × List (Str × Addr) × List Addr
abbrev blkOf (X : Cx) (scope : Scope) (i : Blk) : Cx := X.blk i.1 i.2.1 scope (compEnvC scope i.2.2.2.1 i.2.2.1 X.env) i.2.2.2.2
/-- the reading of a comprehension -/
theorem lc_read {wi : TI} {tg' : TG} {tt : TT} {te : TE} {f : D → Rho → Option Rho} {is vs : List Nat} {ξ μ : List Addr} {σ : St} {H : Hp} {ρ : Rho} {S : Sto} {Q : VK} {Wx : Value → Option Addr → Hp → Prop} {mi : MA} {mt me : ME}
    (ki : ∀ R, WR (fx X ξ) (fun μ H (J : It) (ds : List D) => ItOk (fx X ξ) μ H J ds) (mi ρ S) R Wx μ H → wi σ H R)
    (kg : ∀ ξ μ σ H ρ v d ρ' (Q : St → Hp → Prop), RG (fx X ξ) μ H σ ρ → RD (fx X ξ) μ H v d → f d ρ = some ρ' → (∀ σ', RG (fx X ξ) μ H σ' ρ' → (∀ js : List Nat, (∀ i ∈ is, i ∈ js) → wipe σ' js = wipe σ js) → Q σ' H) → tg' v σ H Q)
    (kt : ∀ ξ μ σ H ρ S Q, RG (fx X ξ) μ H σ ρ → RS (fx X ξ) μ H S → WT' (fx X ξ) (mt ρ S) Q (fun cls dd H' => W0 cls dd σ H') μ H → tt σ H Q)
    (ke : ∀ ξ μ σ H ρ S Q, RG (fx X ξ) μ H σ ρ → RS (fx X ξ) μ H S → WE' (fx X ξ) (me ρ S) Q (fun cls dd H' => W0 cls dd σ H') μ H → te σ H Q)
    (hv : ∀ i ∈ is, i ∈ vs) (g : RG (fx X ξ) μ H σ ρ) (s : RS (fx X ξ) μ H S) (h : WL' (fx X ξ) (mLc mi f mt me vs ρ S) Q Wx μ H) : tLc wi tg' tt te vs σ H Q := by
  refine ki _ (WL'.bind h fun ds S1 J μ1 H1 u1 s1 r1 h1 => ?_)
  intro D hD
  obtain ⟨hz, r1⟩ := r1
  have n1 : D ∉ μ1 := s1.out hD
  have x1 : D ∉ ξ := s1.outX hD
  have ext : Ext (fx X ξ) ((fx X ξ).hold D) H1 := ⟨rfl, rfl, fun a ha => (List.mem_cons.mp ha).elim (fun z => .inr (by rw [z]; exact hD)) .inl⟩
  have main : WL' (fx X ξ) (match lcL f mt me (wipeD ρ vs) ds S1 with
    | some (ys, S2) => Res.ok ys S2
    | none => .bad) Q Wx μ1 H1 := h1
  refine ⟨fun i m H' => ∃ μ' S' acc dacc, Up μ1 H1 μ' H' ∧ RS ((fx X ξ).hold D) μ' H' S' ∧ H' D = some (.lst acc) ∧ RDs ((fx X ξ).hold D) μ' H' acc dacc ∧ acc.length ≤ i ∧ i ≤ ds.length ∧ m = ds.length - i ∧
      ∃ ys S2, lcL f mt me (wipeD ρ vs) (ds.drop i) S' = some (ys, S2) ∧ ∀ μ2 H2 xs, Up μ1 H1 μ2 H2 → RS ((fx X ξ).hold D) μ2 H2 S2 → RDs ((fx X ξ).hold D) μ2 H2 xs (dacc ++ ys) → H2 D = some (.lst xs) → Q (.ref D) H2,
    ⟨_, μ1, S1, [], [], .fresh hD, s1.holds hD, upd_same, .nil, Nat.le_refl _, Nat.zero_le _, rfl, ?_⟩, ?_⟩
  · rw [List.drop_zero]
    cases q : lcL f mt me (wipeD ρ vs) ds S1 with
    | none => rw [q] at main; exact main.elim
    | some r =>
      obtain ⟨ys, S2⟩ := r
      rw [q] at main
      exact ⟨ys, S2, rfl, fun μ2 H2 xs u2 s2 r2 e2 => main D xs μ2 H2 u2 hD s2 r2 e2⟩
  rintro i m H' ⟨μ', S', acc, dacc, u', s', hacc, racc, hla, hi, rfl, ys, S2, eL, fin⟩
  obtain ⟨t1, t2⟩ := r1 ((fx X ξ).hold D) μ' H' S' i ext u' s' hi
  by_cases hl : i < ds.length
  · obtain ⟨go, yl⟩ := t1 _ (List.getElem?_eq_getElem hl)
    rw [List.drop_eq_getElem_cons hl] at eL
    unfold lcL at eL
    cases ef : f ds[i] (wipeD ρ vs) with
    | none => rw [ef] at eL; exact nomatch eL
    | some ρ1 =>
      rw [ef] at eL
      simp only at eL
      refine .inr ⟨go, fun H2 => ∃ μ' S' acc dacc, Up μ1 H1 μ' H2 ∧ RS ((fx X ξ).hold D) μ' H2 S' ∧ H2 D = some (.lst acc) ∧ RDs ((fx X ξ).hold D) μ' H2 acc dacc ∧ acc.length ≤ i + 1 ∧
          ∃ ys S2, lcL f mt me (wipeD ρ vs) (ds.drop (i + 1)) S' = some (ys, S2) ∧ ∀ μ2 H2 xs, Up μ1 H1 μ2 H2 → RS ((fx X ξ).hold D) μ2 H2 S2 → RDs ((fx X ξ).hold D) μ2 H2 xs (dacc ++ ys) → H2 D = some (.lst xs) → Q (.ref D) H2,
        fun H2 ⟨μ2, S3, acc2, dacc2, a1, a2, a3, a4, a5, a6⟩ => ⟨_, by omega, μ2, S3, acc2, dacc2, a1, a2, a3, a4, a5, hl, rfl, a6⟩, fun x H2 y => ?_⟩
      obtain ⟨u2, s2, r2⟩ := yl x H2 y
      have g2 : RG (fx X (D :: ξ)) μ' H2 (wipe σ vs) (wipeD ρ vs) := (((g.up u1).mv (.ext ext (u'.trans u2)))).wipe vs
      refine kg (D :: ξ) μ' (wipe σ vs) H2 (wipeD ρ vs) x _ ρ1 _ g2 r2 ef fun σ3 g3 w3 => ?_
      have nD : D ∉ μ' := (s'.xi D List.mem_cons_self).1
      have eD : H2 D = some (.lst acc) := u2.keep _ _ hacc nD
      have ww : wipe (wipe σ vs) vs = wipe σ vs := by
        refine List.ext_getElem? fun k => ?_
        rw [wipe_get, wipe_get, wipe_length]
        by_cases q : k ∈ vs ∧ k < σ.length
        · rw [if_pos q, if_pos q]
        · rw [if_neg q, if_neg q]
      refine ⟨by rw [w3 vs hv, ww], ?_⟩
      refine kt (D :: ξ) μ' σ3 H2 ρ1 S' _ g3 s2 ?_
      have racc2 := racc.up u2
      cases et : mt ρ1 S' with
      | bad => rw [et] at eL; exact nomatch eL
      | exc c fs S3 => rw [et] at eL; exact nomatch eL
      | ok d S3 =>
        rw [et] at eL
        cases d with
        | bl b =>
          intro μ3 H3 u3 s3
          have eD3 : H3 D = some (.lst acc) := u3.keep _ _ eD nD
          cases b with
          | false =>
            exact ⟨μ3, S3, acc, dacc, u'.trans (u2.trans u3), s3, eD3, racc2.up u3, Nat.le_succ_of_le hla, ys, S2, eL, fin⟩
          | true =>
            simp only at eL
            refine ke (D :: ξ) μ3 σ3 H3 ρ1 S3 _ (g3.up u3) s3 ?_
            cases ee : me ρ1 S3 with
            | bad => rw [ee] at eL; exact nomatch eL
            | exc c fs S4 => rw [ee] at eL; exact nomatch eL
            | ok y S4 =>
              rw [ee] at eL
              intro v μ4 H4 u4 s4 r4
              simp only at eL
              cases er : lcL f mt me (wipeD ρ vs) (ds.drop (i + 1)) S4 with
              | none => rw [er] at eL; exact nomatch eL
              | some q =>
                obtain ⟨zs, S5⟩ := q
                rw [er] at eL
                cases eL
                have nD3 : D ∉ μ3 := (s3.xi D List.mem_cons_self).1
                have eD4 : H4 D = some (.lst acc) := u4.keep _ _ eD3 nD3
                refine ⟨acc, eD4, by rw [sizeLine_eq]; omega, μ4, S4, acc ++ [v], dacc ++ [y], ?_, RS.wr (F := fx X ξ) (p := D) s4, upd_same, RDs.mv (Mv.wr (F := fx X ξ) (p := D)) _ (RDs.append (F := (fx X ξ).hold D) ((racc2.up u3).up u4) (.cons r4 .nil)), by rw [List.length_append, List.length_singleton]; omega, zs, S2, er, fun μ5 H5 xs u5 s5 r5 e5 => fin μ5 H5 xs u5 s5 (by rw [List.append_assoc] at r5; exact r5) e5⟩
                have U := u'.trans (u2.trans (u3.trans u4))
                exact ⟨U.pre, U.new, fun a o ha na => by
                  rw [upd_ne (ne_of_none ha hD)]
                  exact U.keep a o ha na⟩
        | _ => exact nomatch eL
  · have e : i = ds.length := by omega
    rw [e, List.drop_length] at eL
    cases eL
    exact .inl ⟨t2 e, fin μ' H' acc u' s' (by rw [List.append_nil]; exact racc) hacc⟩
theorem dl_lc {elt : Expr} {ifs : List Expr} {scope : Scope} {own : List (Str × Nat)} {f : D → Rho → Option Rho} {is : List Nat} {mt me : ME} (hc : X.calm = true) (hN : X.N.Nodup) (hi : DI X W tg e mr) (ok : BlkOk X.N X.env.scope scope own)
    (hg : ∀ (s : Shared) (H : Hp) (C : Addr) (cl : List (Str × Addr)) (fp : List Addr), DG (X.blk s H scope (compEnvC scope cl C X.env) fp) tg f is)
    (ht : ∀ (s : Shared) (H : Hp) (C : Addr) (cl : List (Str × Addr)) (fp : List Addr), DTs (X.blk s H scope (compEnvC scope cl C X.env) fp) W0 ifs mt)
    (he : ∀ (s : Shared) (H : Hp) (C : Addr) (cl : List (Str × Addr)) (fp : List Addr), DE (X.blk s H scope (compEnvC scope cl C X.env) fp) W0 elt me)
    (hv : ∀ i ∈ is, i ∈ own.map (·.2) := by decide) (hs : ∀ x, foldedSetIterable e X.env x = pure x := by intro _; rfl) : DL X W (.ListComp elt [⟨tg, e, ifs, 0⟩] scope pos) (mLc mr f mt me (own.map (·.2))) := by
  obtain ⟨wi, pi, ki⟩ := hi
  obtain ⟨tg', pg, kg⟩ := dg_all (Xf := blkOf X scope) (K := X.K) (mg := X.mg) (fun _ => rfl) (fun _ => rfl) fun i => hg i.1 i.2.1 i.2.2.1 i.2.2.2.1 i.2.2.2.2
  obtain ⟨tt, pt, kt⟩ := dts_all (Xf := blkOf X scope) (K := X.K) (mg := X.mg) (fun _ => rfl) (fun _ => rfl) fun i => ht i.1 i.2.1 i.2.2.1 i.2.2.2.1 i.2.2.2.2
  obtain ⟨te, pe, ke⟩ := de_all (Xf := blkOf X scope) (K := X.K) (mg := X.mg) (fun _ => rfl) (fun _ => rfl) fun i => he i.1 i.2.1 i.2.2.1 i.2.2.2.1 i.2.2.2.2
  refine ⟨_, pe_lc hc hN pi ok (fun s H C cl fp => pg (s, H, C, cl, fp)) (fun s H C cl fp => pt (s, H, C, cl, fp)) (fun s H C cl fp => pe (s, H, C, cl, fp)) hs, fun ξ μ σ H ρ S Q g s h => ?_⟩
  exact lc_read (fun R => ki ξ μ σ H ρ S R g s) kg kt ke hv g s h
end
end Dm
-- text DmDef
namespace Dm
open PySem L2 PySem.Spec PyProof.Rows
open PySem.W (Frag)
/-! ### defs -/
def mDef (np nN : Nat) (b : MS) (ds : List D) (S : Sto) : Res D := if ds.length = np then
    match b (ds.map some ++ List.replicate (nN - np) none) S with
    | .nx _ S' => .ok .non S'
    | .rt d S' => .ok d S'
    | .exc c fs _ S' => .exc c fs S'
    | _ => .bad
  else .bad
/-- a def's promise: what its word says -/
def spD (K : Frag) (mg : Str → Option Value) (m : List D → Sto → Res D) : Sp := fun vs H Q E => ∃ ξ μ ds S, RS ⟨K, mg, ξ⟩ μ H S ∧ RDs ⟨K, mg, ξ⟩ μ H vs ds ∧ WE' ⟨K, mg, ξ⟩ (m ds S) Q (fun cls dd H' => E cls dd H') μ H
structure FnD (P : Program) (w : World) (K : Frag) (mg : Str → Option Value) (base : Heap) (k : Nat) (x : Str) (st : Stmt) (ps : List Str) (m : List D → Sto → Res D) : Prop where
  ex : ∃ f fd, mg x = some (.ref f) ∧ Fun K x x st f fd ∧ Binds K fd ps [] ∧ FnOk P w K mg base (L2.CX P w) k f fd ps (spD K mg m)
section
variable {P : Program} {w : World} {K : Frag} {mg : Str → Option Value} {base : Heap}
theorem FnD.mono {j k : Nat} {x : Str} {st : Stmt} {ps : List Str} {m : List D → Sto → Res D} (F : FnD P w K mg base j x st ps m) (h : j ≤ k) : FnD P w K mg base k x st ps m :=
  let ⟨f, fd, a, b, c, d⟩ := F; ⟨f, fd, a, b, c, d.mono h⟩
theorem rg_start {F : Fx} {μ : List Addr} {H : Hp} {N : List Str} {vs : List V} {ds : List D} (r : RDs F μ H vs ds) : RG F μ H (L2.start N vs) (ds.map some ++ List.replicate (N.length - ds.length) none) := by
  refine ⟨by unfold L2.start; rw [List.length_append, List.length_append, List.length_map, List.length_map, List.length_replicate, List.length_replicate, r.length], fun i d e => ?_⟩
  by_cases h : i < ds.length
  · rw [List.getElem?_append_left (by rw [List.length_map]; exact h), List.getElem?_map] at e
    cases q : ds[i]? with
    | none => rw [q] at e; exact nomatch e
    | some d' =>
      rw [q] at e
      cases e
      obtain ⟨v, h1, h2⟩ := r.get q
      refine ⟨v, ?_, h2⟩
      unfold L2.start
      rw [List.getElem?_append_left (by rw [List.length_map, r.length]; exact h), List.getElem?_map, h1] <;> rfl
  · rw [List.getElem?_append_right (by rw [List.length_map]; omega), List.getElem?_replicate] at e
    split at e <;> cases e
end
/-! ### calls of defs -/
section
variable {X : Cx} {W : WX} {tg e a b c : Expr} {es : List Expr} {kws : List Keyword} {st : Stmt} {sts ts : List Stmt} {ma mb mc m : ME} {mr mk : MA} {m1 m2 : MS} {pos p p1 p2 p3 kpos : Pos} {nm : Option Str}
/-- f(e, .., k = v, ..): perm puts the written values, then the keywords', in the parameters' order; n, q: how many of each -/
def mCallK (f : List D → Sto → Res D) (n q : Nat) (perm : List Nat) (a k : MA) : ME := fun ρ S => (a ρ S).bind fun xs S1 => (k ρ S1).bind fun zs S2 => if xs.length = n ∧ zs.length = q then f (perm.filterMap ((xs ++ zs)[·]?)) S2 else .bad
/-! ### raise X('..') -/
structure XcOk (K : Frag) (mg : Str → Option Value) (x : Str) : Prop where
  ex : ∃ C : Addr, mg x = some (.ref C) ∧ PySem.W.excIn K C [.type "ValueError", .type "Exception", .type "BaseException", .type "object"] "ValueError.__new__" = true ∧ PySem.W.keepIn K (.ref C) = true ∧ PySem.W.subIn K (.ref C) (.type "BaseException") = some true ∧ PySem.W.typeIn K (.ref C) = some (.type "type")
def mRaise (c : Str) : MS := fun ρ S => .exc c [] ρ S
theorem ds_raise {x msg : Str} {jj : Nat} {pos2 : Pos} (C : XcOk X.K X.mg x) (hc : X.calm = true) (tk : Takes X W) (hg : Gl X x := by rfl) (hdb : (x == ("__debug__" : Str)) = false := by decide) :
    DS X W (.Raise (some (.Call (.Name x p) [.Constant (.str msg) jj p2] [] pos)) none pos2) (mRaise x) := by
  obtain ⟨C, h1, h2, h3, h4, h5⟩ := C
  exact ⟨_, ps_raise hc tk (pmk_own PySem.F.excBase_ValueError h2 h1 h3 (raises_own h4 h5) hg hdb), fun ξ μ σ H ρ S D g s h => h _ none σ μ H .refl s g ⟨h1, .inl ⟨rfl, rfl⟩⟩⟩
/-- x += e -/
def mAug (i : Nat) (f : Int → Int → Int) (m : ME) : MS := fun ρ S => match ρ[i]? with
  | some (some (.int a)) => ofRes (m ρ S) ρ fun d S1 => match d with
    | .int b => .nx (ρ.set i (some (.int (f a b)))) S1
    | _ => .bad
  | _ => .bad
end
end Dm
-- text DmIter
namespace Dm
open PySem L2 PySem.Spec PyProof.Rows
open PySem.W (Frag)
/-! ### enumerate of a tuple -/
theorem enumNew1 {v : Value} {o : Obj} {Hh : Heap → Prop} (B : Begins v o Hh) :
    Meets (Builtin.«enumerate.__new__» ⟨[.type "enumerate", v], []⟩) (fun _ R s => Hh s.heap ∧
      R (.ok (.ret (.ref (s.heap.push o).objs.size))) { s with heap := (s.heap.push o).push { cls := .type "enumerate", data := .fields #[.none, .bool false, .ref s.heap.objs.size, rawInt 0, .none, .none] } }) :=
  .of_wp fun prog w A R s hh => by
    obtain ⟨hp, g, d, tk, os⟩ := s
    obtain ⟨ha, hb⟩ := hh
    have hsub := sub_enumerate
    have q1 : ∀ {A' : Around} {E : Value → Shared → Prop} {Q : Value → Shared → Prop}, Q (.ref hp.objs.size) ⟨hp.push o, g, d, tk, os⟩ → wpAny (model prog w) A' (pyIter v) Q E ⟨hp, g, d, tk, os⟩ :=
      fun q => B.iter prog w _ _ ⟨hp, g, d, tk, os⟩ _ ha q
    wp_walk using q1
    refine wpAny_stack_any fun st => wpAny_pure ?_
    split
    · rename_i c _ _ _ _ _
      cases (c == Value.type "enumerate") <;> (wp_walk using q1; exact ⟨_, rfl, hb⟩)
    · (wp_walk using q1); exact ⟨_, rfl, hb⟩
theorem enumBegin1 {prog : Program} {w : World} {A : Around} {E : Value → Shared → Prop} {s : Shared} {v : Value} {o : Obj} {Hh : Heap → Prop} {Q : Value → Shared → Prop} (B : Begins v o Hh) (ha : Hh s.heap)
    (k : ∀ h', IsEnum h' (s.heap.objs.size + 1) s.heap.objs.size 0 .none → h'.get? s.heap.objs.size = some o → (∀ b u, s.heap.get? b = some u → h'.get? b = some u) → Q (.ref (s.heap.objs.size + 1)) { s with heap := h' }) :
    wpAny (model prog w) A (call (.type "enumerate") [v]) Q E s := by
  refine callType_new F.called_enumerate (by decide) (F.typeCall_enumerate_1 _) (F.newCall_enumerate_1 _) (fun obj => F.args_object_init_2 obj _) F.entry_enumerate_new (enumNew1 B) ⟨ha, ?_⟩
  have z : (s.heap.push o).objs.size = s.heap.objs.size + 1 := Heap.size_push ..
  have en := Heap.get?_push_size (s.heap.push o) (o := { cls := .type "enumerate", data := .fields #[.none, .bool false, .ref s.heap.objs.size, rawInt 0, .none, .none] }) rfl
  rw [z] at en
  show _ ∧ _
  rw [z]
  exact ⟨⟨_, en, rfl⟩, k _ en (Heap.get?_push_of_some _ (Heap.get?_push_size _ B.free)) fun b u q => Heap.get?_push_of_some _ (Heap.get?_push_of_some _ q)⟩
def IteT (K : Frag) (a : Addr) : It :=
  ⟨fun i H => ∃ (xs : List V) (x : V), SqT K H a xs ∧ xs[i]? = some x, fun i H v H' => ∃ T x, v = .ref T ∧ H T = none ∧ H' = upd H T (.tup [.int (i : Nat), x]) ∧ ∀ xs, SqT K H a xs → xs[i]? = some x, fun i H => ∃ xs : List V, SqT K H a xs ∧ xs.length ≤ i⟩
theorem turn_enumT {P : Program} {w : World} {K : Frag} {elts : List Expr} {kk : Nat} {tpos : Pos} (a e it : Addr) (hne : e ≠ it) :
    Turn P w K (.Tuple elts kk tpos) (IteT K a) [e, it] e (fun i h => (∃ old, IsEnum h e it ((i : Nat) : Int) old) ∧ h.IsTupleIter it a i) where
  mem := List.mem_cons_self
  obj := fun i h st b hb => by
    obtain ⟨⟨old, he⟩, ⟨o, ho, hc, hd⟩⟩ := st
    rcases List.mem_cons.mp hb with z | z
    · rw [z]; exact ⟨_, he, fun v q => nomatch q⟩
    · rw [List.mem_singleton.mp z]; exact ⟨o, ho, fun v q => by rw [hd] at q; cases q⟩
  keep := fun i h h' st k => by
    obtain ⟨⟨old, he⟩, ⟨o, ho, r⟩⟩ := st
    exact ⟨⟨old, k e List.mem_cons_self _ he⟩, ⟨o, k it (List.mem_cons_of_mem _ List.mem_cons_self) o ho, r⟩⟩
  item := by
    intro X hP hw hK hc i pins s σ H E I hf st hg
    subst hP hw hK
    obtain ⟨⟨old, he⟩, hit⟩ := st
    obtain ⟨xs, x, hq, hx⟩ := hg
    obtain ⟨its, rv, ht, hz⟩ := I.tuple hq
    obtain ⟨u, hu, ru⟩ := rv.get hx
    have hel : e < s.heap.objs.size := Heap.lt_size he
    have hil : it < s.heap.objs.size := by obtain ⟨_, q, _⟩ := hit; exact Heap.lt_size q
    have nai : a ≠ it := by
      rintro rfl
      obtain ⟨o1, q1, c1, _⟩ := ht
      obtain ⟨o2, q2, c2, _⟩ := hit
      rw [q1] at q2; cases q2
      rw [c1] at c2
      exact absurd (Value.type.inj c2) (by decide)
    have nae : e ∉ [it, a] := fun z => by
      rcases List.mem_cons.mp z with z | z
      · exact hne z
      · rw [List.mem_singleton.mp z] at he
        obtain ⟨o1, q1, c1, _⟩ := ht
        have he' : s.heap.get? a = some _ := he
        rw [q1] at he'; cases he'
        exact absurd (Value.type.inj c1) (by decide)
    have D := Draws.tuple (prog := X.prog) (w := X.w) (A := X.A.in1) (by exact I.ok.hd hc) it a nai its.toArray
    have hlt : i < its.toArray.size := by
      have q := (List.getElem?_eq_some_iff.mp hu).1
      rw [List.size_toArray]; exact q
    refine wpAny_pyNext_enum_itemD D he ⟨hit, ht⟩ hlt hne nae fun x' h' tk hx' ho hit' hT hsz hk => ?_
    have ex : x' = u := by
      have hx'' : its.toArray[i]? = some x' := hx'
      rw [List.getElem?_toArray, hu] at hx''
      exact (Option.some.inj hx'').symm
    subst ex
    refine ⟨_, rfl, wpAny_letOwnedTupleGo_enum (s := { s with heap := h', toks := tk + 1 }) ho fun h'' he' sb => ?_⟩
    have hT2 : h''.get? s.heap.objs.size = some { cls := .type "tuple", data := .seq #[.int i tk, x'] } := (sb.2 _ (Nat.ne_of_gt hel)).trans hT
    have new : ObjOk X.prog X.w (upd H s.heap.objs.size (.tup [.int (i : Nat), x])) h'' s.heap.objs.size (.tup [.int (i : Nat), x]) :=
      ⟨by rw [sizeLine_eq]; show 2 ≤ 16777216; decide, [.int i tk, x'], .cons ⟨_, rfl⟩ (.cons ru .nil), ⟨_, hT2, rfl, _, rfl⟩⟩
    have I1 : Inv X pins σ (upd H s.heap.objs.size (.tup [.int (i : Nat), x])) { s with heap := h'', toks := tk + 1 } :=
      I.turnedNew (ch := [e, it]) (fun b ob hb q => (sb.2 b fun z => hb (by rw [z]; exact List.mem_cons_self)).trans (hk b ob (fun z => hb (by rw [z]; exact List.mem_cons_self)) (fun z => hb (by rw [z]; exact List.mem_cons_of_mem _ List.mem_cons_self)) q)) hf (Nat.le_refl _) new
    refine ⟨.ref s.heap.objs.size, _, I1, rfl, ⟨_, x, rfl, I.hok.fresh (Nat.le_refl _), rfl, fun ys hy => by rw [I.tuple_inj hy hq]; exact hx⟩, ⟨⟨x', ?_⟩, ?_⟩, fun b hb => ?_⟩
    · have e1 : ((i + 1 : Nat) : Int) = (i : Int) + 1 := by omega
      rw [e1]; exact he'
    · obtain ⟨⟨o1, q1, r1⟩, _⟩ := hit'
      exact ⟨o1, (sb.2 it hne.symm).trans q1, r1⟩
    · have hb' : b < s.heap.objs.size := by
        rcases List.mem_cons.mp hb with z | z
        · rw [z]; exact hel
        · rw [List.mem_singleton.mp z]; exact hil
      rw [upd_ne (Nat.ne_of_lt hb')]
      exact (hf b hb).1
  done := by
    intro X hP hw hK hc i pins s σ H E I hf st hg
    subst hP hw hK
    obtain ⟨⟨old, he⟩, hit⟩ := st
    obtain ⟨xs, hq, hx⟩ := hg
    obtain ⟨its, rv, ht, hz⟩ := I.tuple hq
    obtain ⟨f0, f1, f2, f3, f4, f5⟩ := hf it (List.mem_cons_of_mem _ List.mem_cons_self)
    have hl := rv.length
    have nx : its.toArray[i]? = none := by
      rw [List.getElem?_toArray]
      exact List.getElem?_eq_none_iff.mpr (by omega)
    have D : Draws X.prog X.w X.A.in1 it [it, a] i (fun _ _ => False) (fun j hh => j = i ∧ hh.IsTupleIter it a i ∧ hh.IsTuple a its.toArray) :=
      { live := fun j hh z => let ⟨o, ho, _⟩ := z.2.1; ⟨o, ho⟩
        frame := fun j hh h' z k => by
          obtain ⟨z1, ⟨o1, e1, r1⟩, ⟨o2, e2, r2⟩⟩ := z
          exact ⟨z1, ⟨o1, k it List.mem_cons_self o1 e1, r1⟩, ⟨o2, k a (List.mem_cons_of_mem _ List.mem_cons_self) o2 e2, r2⟩⟩
        item := fun j s Q E hj z => absurd z.1 (Nat.ne_of_lt hj)
        done := fun s Q E z kE => wpAny_nextOf_tuple_end (I.ok.hd hc) z.2.1 z.2.2 nx kE }
    exact wpAny_pyNext_enum_endD D he ⟨rfl, hit, ht⟩ fun h' eb => ⟨rfl, I.turned (t' := s.toks) (fun b o hb q => eb b o hb q) f0 f1 f3 f4 f5⟩
  self := fun A i s Q E st k => let ⟨⟨_, he⟩, _⟩ := st; wpAny_pyIter_enum he k
def iEnumT (K : Frag) (ta : TA) : TI := fun σ H R => ta σ H fun vs H1 => ∃ a xs, vs = [.ref a] ∧ SqT K H1 a xs ∧ R (IteT K a) H1
theorem pi_enumT {X : Cx} {e : Expr} {ta : TA} {p pos tpos : Pos} {elts : List Expr} {kk : Nat} (hg : Gl X "enumerate") (hm : X.mg "enumerate" = none) (ha : PA X [e] ta) (hs : starEach [e] X.env = [(false, eval e X.env)] := by rfl) :
    PI X (.Tuple elts kk tpos) (.Call (.Name "enumerate" p) [e] [] pos) (iEnumT X.K ta) := by
  refine ⟨fun pins s σ H R I hw => ?_⟩
  refine Call_ (ld_blt I hg hm boot_enumerate (PyProof.Rows.callWith_type1 (thn (ha.run pos pins s σ H _ I hw) fun us s1 hh => ?_) hs rfl))
  obtain ⟨vs, H1, I1, r1, a, xs, ex, hq, q⟩ := hh
  subst ex
  cases r1 with
  | cons r rr =>
    cases rr
    cases r
    obtain ⟨its, rv, ht, hz⟩ := I1.tuple hq
    refine enumBegin1 (begins_tuple a its.toArray) ht fun h' he ho hk => wpAny_pyIter_enum he ?_
    have I2 : Inv X pins σ H1 { s1 with heap := h' } := I1.kept (t' := s1.toks) hk
    refine ⟨s1.heap.objs.size + 1, [s1.heap.objs.size + 1, s1.heap.objs.size], _, _, H1, rfl, I2, turn_enumT a (s1.heap.objs.size + 1) s1.heap.objs.size (Nat.succ_ne_self _), ⟨⟨.none, he⟩, ⟨_, ho, rfl, rfl⟩⟩, fun b hb => ?_, q⟩
    have hle : s1.heap.objs.size ≤ b := by
      rcases List.mem_cons.mp hb with z | z
      · rw [z]; exact Nat.le_succ _
      · rw [List.mem_singleton.mp z]; exact Nat.le_refl _
    exact I1.fpOk hle (I1.hok.fresh hle)
/-- enumerate(v): a tuple, a list that stands still -/
def enumD (ds : List D) : List D := ds.zipIdx.map fun p => .tup [.int (p.2 : Nat), p.1]
theorem enumD_length {ds : List D} : (enumD ds).length = ds.length := by unfold enumD; rw [List.length_map, List.length_zipIdx]
theorem enumD_get {ds : List D} {i : Nat} {d : D} (h : (enumD ds)[i]? = some d) : ∃ x, ds[i]? = some x ∧ d = .tup [.int (i : Nat), x] := by
  unfold enumD at h
  rw [List.getElem?_map, List.getElem?_zipIdx] at h
  cases q : ds[i]? with
  | none => rw [q] at h; exact nomatch h
  | some x =>
    rw [q] at h
    refine ⟨x, rfl, ?_⟩
    have h' := Option.some.inj h
    rw [← h', Nat.zero_add]
def iEnumS (m : ME) : MA := fun ρ S => (m ρ S).bind fun d S1 => match d with
  | .tup ds => .ok (enumD ds) S1
  | .lst ds => .ok (enumD ds) S1
  | _ => .bad
section
variable {X : Cx} {W : WX} {tg e a b c : Expr} {m : ME} {pos p tpos : Pos}
theorem di_enum {elts : List Expr} {kk : Nat} (h : DE X W e m) (hm : X.mg "enumerate" = none) (hg : Gl X "enumerate" := by rfl) (hs : starEach [e] X.env = [(false, eval e X.env)] := by rfl)
    (hs1 : starEach [e] X.env = (false, eval e X.env) :: starEach [] X.env := by rfl) : DI X W (.Tuple elts kk tpos) (.Call (.Name "enumerate" p) [e] [] pos) (iEnumS m) := by
  obtain ⟨te, pe, k⟩ := h
  refine ⟨_, piOr (piSized (pi_enumT hg hm (pa_cons pe pa_nil hs1) hs)) (piSized (pi_enum hg hm (pa_cons pe pa_nil hs1) hs)), fun ξ μ σ H ρ S R g s h => ?_⟩
  cases e1 : m ρ S with
  | bad => unfold iEnumS at h; rw [e1] at h; exact h.elim
  | exc c fs S1 =>
    unfold iEnumS at h; rw [e1] at h
    refine .inl (k ξ μ σ H ρ S _ g s ?_)
    rw [e1]; exact h
  | ok d S1 =>
    cases d with
    | tup ds =>
      refine .inl (k ξ μ σ H ρ S _ g s ?_)
      unfold iEnumS at h
      rw [e1] at h ⊢
      intro v μ1 H1 u1 s1 r1
      cases r1 with
      | @tup a xs _ f r =>
        refine ⟨a, xs, rfl, f.sq, fun z => h _ μ1 H1 u1 s1 ⟨by rw [enumD_length, ← r.length]; exact z a xs (.inr f.sq), fun F' μ' H' S' i ex u s hi => ⟨fun d hd => ?_, fun hi => ?_⟩⟩⟩
        · obtain ⟨x, hx, rfl⟩ := enumD_get hd
          obtain ⟨v, h1, h2⟩ := r.get hx
          refine ⟨⟨xs, v, (f.up u).sq, h1⟩, fun y H'' yy => ?_⟩
          obtain ⟨T, x', e2, e3, e4, e5⟩ := yy
          subst e2 e4
          have q := e5 xs (f.up u).sq
          rw [h1] at q; cases q
          exact ⟨.fresh e3, s.fresh e3, .tup (.inl ⟨.inl upd_same, s.out e3, s.outX e3⟩) (.cons (.int _) (.cons ((h2.mv (.ext ex u)).up (.fresh e3)) .nil))⟩
        · rw [enumD_length] at hi
          exact ⟨xs, (f.up u).sq, by rw [r.length, hi]; exact Nat.le_refl _⟩
    | lst ds =>
      refine .inr (k ξ μ σ H ρ S _ g s ?_)
      unfold iEnumS at h
      rw [e1] at h ⊢
      intro v μ1 H1 u1 s1 r1
      cases r1 with
      | @lst a xs _ f r =>
        refine ⟨a, xs, rfl, f.sq, fun z => h _ μ1 H1 u1 s1 ⟨by rw [enumD_length, ← r.length]; exact z a xs (.inl f.sq), fun F' μ' H' S' i ex u s hi => ⟨fun d hd => ?_, fun hi => ?_⟩⟩⟩
        · obtain ⟨x, hx, rfl⟩ := enumD_get hd
          obtain ⟨v, h1, h2⟩ := r.get hx
          refine ⟨⟨xs, v, (f.up u).sq, h1⟩, fun y H'' yy => ?_⟩
          obtain ⟨T, x', e2, e3, e4, e5⟩ := yy
          subst e2 e4
          have q := e5 xs (f.up u).sq
          rw [h1] at q; cases q
          exact ⟨.fresh e3, s.fresh e3, .tup (.inl ⟨.inl upd_same, s.out e3, s.outX e3⟩) (.cons (.int _) (.cons ((h2.mv (.ext ex u)).up (.fresh e3)) .nil))⟩
        · rw [enumD_length] at hi
          exact ⟨xs, (f.up u).sq, by rw [r.length, hi]; exact Nat.le_refl _⟩
    | _ => unfold iEnumS at h; rw [e1] at h; exact h.elim
end
end Dm
-- text DmRev
namespace Dm
open PySem L2 PySem.Spec PyProof.Rows
open PySem.W (Frag)
/-! ### t[::-1] of a tuple -/
section
variable {prog : Program} {w : World} {A : Around} {E : Value → Shared → Prop} {s : Shared}
theorem backPlaces (n : Nat) : Builtin.Slice.sliceAdjust none none (-1) (n : Int) = ((n : Int) - 1, -1) ∧ Builtin.Slice.slicePlaces ((n : Int) - 1) (-1) (-1) = n := by
  refine ⟨rfl, ?_⟩
  unfold Builtin.Slice.slicePlaces
  rw [if_neg (by decide)]
  by_cases hn : n = 0
  · subst hn; decide
  · rw [if_pos (by omega)]
    have e : ((n : Int) - 1 - -1 - 1) / (- -1) = (n : Int) - 1 := by
      rw [show (- -1 : Int) = 1 from rfl, Int.ediv_one]; omega
    rw [e]; omega
theorem fm_congr {α β : Type} {f g : α → Option β} : ∀ l : List α, (∀ x ∈ l, f x = g x) → l.filterMap f = l.filterMap g
  | [], _ => rfl
  | x :: l, h => by rw [List.filterMap_cons, List.filterMap_cons, h x List.mem_cons_self, fm_congr l fun y hy => h y (List.mem_cons_of_mem _ hy)]
theorem backPick (xs : Array Value) : ((List.range xs.size).filterMap fun (m : Nat) => xs[(((xs.size : Nat) : Int) - 1 + (m : Int) * -1).toNat]?) = xs.toList.reverse := by
  refine List.ext_getElem? fun k => ?_
  have e : ((List.range xs.size).filterMap fun (m : Nat) => xs[(((xs.size : Nat) : Int) - 1 + (m : Int) * -1).toNat]?) = (List.range xs.size).map fun m => xs.toList.reverse.getD m .none := by
    rw [← List.filterMap_eq_map]
    refine fm_congr _ fun m hm => ?_
    have hl : m < xs.size := List.mem_range.mp hm
    have e1 : (((xs.size : Nat) : Int) - 1 + (m : Int) * -1).toNat = xs.size - 1 - m := by omega
    rw [e1]
    have hr : m < xs.toList.reverse.length := by rw [List.length_reverse, Array.length_toList]; exact hl
    have h2 : xs.size - 1 - m < xs.size := by omega
    rw [Array.getElem?_eq_getElem h2]
    show some _ = some (xs.toList.reverse.getD m .none)
    rw [List.getD_eq_getElem?_getD, List.getElem?_eq_getElem hr, List.getElem_reverse]
    simp
  rw [e, List.getElem?_map]
  by_cases hk : k < xs.size
  · rw [List.getElem?_range hk]
    have hr : k < xs.toList.reverse.length := by rw [List.length_reverse, Array.length_toList]; exact hk
    rw [List.getElem?_eq_getElem hr]
    show some (xs.toList.reverse.getD k .none) = _
    rw [List.getD_eq_getElem?_getD, List.getElem?_eq_getElem hr] <;> rfl
  · rw [List.getElem?_eq_none (by rw [List.length_range]; omega), List.getElem?_eq_none (by rw [List.length_reverse, Array.length_toList]; omega)] <;> rfl
theorem backSlice {t sl : Addr} {items : Array Value} {vl vu vs : Value} {Q : Value → Shared → Prop} (ht : IsTup s.heap t items) (hs : s.heap.IsSliceOf sl vl vu vs) (pl : IsPart vl none) (pu : IsPart vu none) (ps : IsPart vs (some (-1)))
    (h : Q (.ref s.heap.objs.size) { s with heap := s.heap.push { cls := .type "tuple", data := .seq items.toList.reverse.toArray } }) (hsz : items.size ≤ sizeLine) : wpAny (model prog w) A (getItem (.ref t) (.ref sl)) Q E s := by
  have fits : sizeOk (.seq items.toList.reverse.toArray) := by
    show items.toList.reverse.toArray.size ≤ sizeLine
    rw [List.size_toArray, List.length_reverse, Array.length_toList]; exact hsz
  obtain ⟨os, hos, hcs, hds⟩ := id hs
  have tS : s.TypeIs (.ref sl) "slice" := ⟨os, hos, hcs⟩
  unfold getItem
  try with_reducible refine wpAny_holding ?_
  first | refine wpAny_bind (wpAny_pure ?_) | skip
  refine wpAny_bind (wpAny_sequenceKey ht.typeIs (by decide) ?_)
  refine wpAny_bind (wpAny_callSpecial?_slot (name := Str.ofString "__getitem__") ht.typeIs PyProof.Rows.slot_tuple_getitem (wpAny_call_entry PyProof.Rows.slot_tuple_getitem ht.typeIs entry_tuple_getitem ?_ (args_tuple_getitem _ _)))
  show wpAny _ _ (Builtin.Tuple.tupleItemsOf (.ref t) >>= _) _ _ s
  refine wpAny_bind (tupleItemsOf_ ht (wpAny_bind (wpAny_typeOf tS ?_)))
  rw [if_pos (by decide)]
  have app : ∀ {Q' : Int × Int × Nat → Shared → Prop} {E' : Value → Shared → Prop} {A' : Around}, Q' ((items.size : Int) - 1, -1, items.size) s → wpAny (model prog w) A' (Builtin.Slice.sliceApplied (.ref sl) (pure (items.size : Int))) Q' E' s := fun {Q' E' A'} hq => by
    unfold Builtin.Slice.sliceApplied Builtin.Slice.sliceFields
    refine wpAny_bind (wpAny_bind (wpAny_field hos hds (x := vl) rfl (wpAny_bind (wpAny_field hos hds (x := vu) rfl (wpAny_bind (wpAny_field hos hds (x := vs) rfl (wpAny_pure ?_)))))))
    refine wpAny_bind (HT.slicePart_ ps ?_)
    show wpAny _ _ (if ((-1 : Int) == 0) = true then _ else _) _ _ s
    rw [if_neg (by decide)]
    refine wpAny_bind (HT.slicePart_ pl (wpAny_bind (HT.slicePart_ pu (wpAny_bind (wpAny_pure ?_)))))
    show wpAny _ _ (match Builtin.Slice.sliceAdjust none none (-1) (items.size : Int) with | (lo, hi) => pure (lo, (-1 : Int), Builtin.Slice.slicePlaces lo hi (-1))) _ _ s
    rw [(backPlaces items.size).1]
    show wpAny _ _ (pure ((items.size : Int) - 1, (-1 : Int), Builtin.Slice.slicePlaces ((items.size : Int) - 1) (-1) (-1))) _ _ s
    rw [(backPlaces items.size).2]
    exact wpAny_pure hq
  refine wpAny_bind (app ?_)
  have no : ¬ ((((items.size : Int) - 1) == 0 && (-1 : Int) == 1 && items.size == items.size) = true) := by
    intro q
    rw [Bool.and_eq_true, Bool.and_eq_true] at q
    exact absurd q.1.2 (by decide)
  show wpAny _ _ (if (((items.size : Int) - 1) == 0 && (-1 : Int) == 1 && items.size == items.size) = true then _ else _) _ _ s
  rw [if_neg no]
  rw [backPick]
  first
    | exact wpAny_bind (m := Builtin.Tuple.tupleExact _) (wpAny_newObj_type (wpAny_pure ⟨_, rfl, wpAny_pure h⟩) fits)
    | exact wpAny_bind (m := Builtin.Tuple.tupleExact _) (wpAny_newObj_type (wpAny_bind (wpAny_pure (wpAny_pure ⟨_, rfl, wpAny_pure h⟩))) fits)
    | exact wpAny_bind (wpAny_bind (m := Builtin.Tuple.tupleExact _) (wpAny_newObj_type (wpAny_pure (wpAny_pure ⟨_, rfl, wpAny_pure h⟩)) fits))
    | exact wpAny_bind (wpAny_bind (m := Builtin.Tuple.tupleExact _) (wpAny_newObj_type (wpAny_pure ⟨_, rfl, wpAny_pure h⟩) fits))
end
def tBackT (K : Frag) (te : TE) : TE := fun σ H Q => te σ H fun x H1 => ∃ a xs, x = .ref a ∧ SqT K H1 a xs ∧ ∀ p, H1 p = none → Q (.ref p) (upd H1 p (.tup xs.reverse))
section
variable {X : Cx} {W : WX} {e : Expr} {m : ME} {te : TE} {k : Nat} {p1 p2 p3 pos : Pos}
theorem pe_backT (he : PE X e te) : PE X (.Subscript e (.Slice none none (some (.UnaryOp .USub (.Constant (.int 1) k p1) p2)) p3) pos) (tBackT X.K te) := by
  refine ⟨fun pins s σ H Q I hw => ?_⟩
  refine Subscript_ (thn (he.run pins s σ H _ I hw) fun v s1 hh => ?_)
  obtain ⟨x, H1, I1, r1, a, xs, ex, hx, q⟩ := hh
  subst ex
  cases r1
  have stp : PO X (some (.UnaryOp .USub (.Constant (.int 1) k p1) p2)) (tPart (tUn (rU fun i => .int (-i)) (tC (.int 1)))) := po_some (pe_un un_neg pe_int)
  refine wpAny_Slice (thn (po_none.run pins s1 σ H1 (fun o H2 => o = none ∧ H2 = H1) I1 ⟨rfl, rfl⟩) fun vl s2 hh => ?_)
  obtain ⟨l, H2, I2, pl, el, e2⟩ := hh
  subst el e2
  refine thn (po_none.run pins s2 σ H2 (fun o H3 => o = none ∧ H3 = H2) I2 ⟨rfl, rfl⟩) fun vu s3 hh => ?_
  obtain ⟨u, H3, I3, pu, eu, e3⟩ := hh
  subst eu e3
  refine thn (stp.run pins s3 σ H3 (fun o H4 => o = some (-1) ∧ H4 = H3) I3 ⟨1, rfl, -1, rfl, rfl, rfl⟩) fun vs s4 hh => ?_
  obtain ⟨o, H4, I4, ps, eo, e4⟩ := hh
  subst eo e4
  have I5 : Inv X pins σ H4 { s4 with heap := s4.heap.push { cls := .type "slice", data := .fields #[vl, vu, vs] } } := I4.kept (t' := s4.toks) fun b ob q => Heap.get?_push_of_some _ q
  obtain ⟨its, r, ht, hz⟩ := I5.tuple hx
  have hlen := r.length
  show wpAny (model X.prog X.w) X.A (subscriptTail e (.Slice none none (some (.UnaryOp .USub (.Constant (.int 1) k p1) p2)) p3) (.ref a) (.ref s4.heap.objs.size)) (EP X pins σ Q) X.xe { s4 with heap := s4.heap.push { cls := .type "slice", data := .fields #[vl, vu, vs] } }
  refine tail_any (ops := [.ref a, .ref s4.heap.objs.size]) ht.typeIs (PyProof.Rows.slot_tuple_getitem.lookup) ?_ (by with_unfolding_all rfl)
  refine backSlice ht (Heap.IsSliceOf.new _ vl vu vs) pl pu ps ?_ (by rw [List.size_toArray]; omega)
  refine ⟨.ref _, _, I5.laid (t' := s4.toks) (o := .tup xs.reverse) (fun b ob q => Heap.get?_push_of_some _ q) (Nat.le_refl _) ?_, rfl, q _ (I5.hok.fresh (Nat.le_refl _))⟩
  exact ⟨by rw [List.length_reverse]; exact hz, its.reverse, r.reverse, ⟨_, Heap.get?_push_size _ rfl, rfl, _, rfl⟩⟩
def mBack (m : ME) : ME := fun ρ S => (m ρ S).bind fun x S1 => match x with
  | .tup ds => .ok (.tup ds.reverse) S1
  | _ => .bad
end
end Dm
-- text DmEnd
namespace Dm
open PySem L2 PySem.Spec PyProof.Rows
open PySem.W (Frag)
theorem d_fold {X : Cx} {W : WX} {e : Expr} {m : ME} {d : D} (h : DE X W e m) (hm : ∀ ρ S, m ρ S = .ok d S) : DE X W e (mK d) := by
  have q : m = mK d := funext fun ρ => funext fun S => hm ρ S
  rw [← q]; exact h
def LawTrue (m : List D → Sto → Res D) : Prop := ∀ ns : List Int, ns.length ≤ 63 → ∃ S', m [.lst (ns.map .int)] [] = .ok (.bl true) S'
def spLaw (K : Frag) : Sp := fun vs H Q _ => ∃ (a : Addr) (ns : List Int), vs = [.ref a] ∧ SqL K H a (ns.map V.int) ∧ ns.length ≤ 63 ∧ ∀ H', Q (.bl true) H'
section
variable {P : Program} {w : World} {K : Frag} {mg : Str → Option Value} {base : Heap}
theorem rds_ints {F : Fx} {μ : List Addr} {H : Hp} : ∀ ns : List Int, RDs F μ H (ns.map V.int) (ns.map D.int)
  | [] => .nil
  | n :: ns => .cons (.int n) (rds_ints ns)
theorem cx_no {P : Program} {w : World} {H : Hp} {s s' : Shared} {e : Value} (z : L2.CX P w [] H s (fun _ _ _ => False) e s') : False := by
  obtain ⟨_, _, _, _, _, _, _, _, _, _, _, _, z⟩ := z
  exact z
end
end Dm
-- text DmMore
namespace Dm
open PySem L2
open PySem.W (Frag)
section
variable {X : Cx} {W : WX} {tg e a b c : Expr} {es : List Expr} {ma mb mc m : ME} {pos p p1 p2 p3 : Pos}
/-! ### a list some times -/
def mRepL (a : MA) (b : ME) : MA := fun ρ S => (a ρ S).bind fun xs S1 => (b ρ S1).bind fun y S2 => match y with
  | .int k => if k < 1000000 ∧ xs.length * k.toNat ≤ 16777216 ∧ -1000000 < k then .ok (List.replicate k.toNat xs).flatten S2 else .bad
  | _ => .bad
theorem RDs.rep {F : Fx} {μ : List Addr} {H : Hp} {vs : List V} {ds : List D} (h : RDs F μ H vs ds) : ∀ k : Nat, RDs F μ H (List.replicate k vs).flatten (List.replicate k ds).flatten
  | 0 => .nil
  | k + 1 => by
    rw [List.replicate_succ, List.replicate_succ, List.flatten_cons, List.flatten_cons]
    exact RDs.append h (RDs.rep h k)
theorem mv_hold {ξ : List Addr} {μ μ1 : List Addr} {H H1 : Hp} {p : Addr} {xs : List V} (u1 : Up μ H μ1 H1) (hp : H p = none) (e1 : H1 p = some (.lst xs)) : Mv (fx X ξ) μ H ((fx X ξ).hold p) μ1 H1 :=
  ⟨fun {a xs} q => by
    rcases q.up u1 with ⟨z, n, nx⟩ | z
    · rcases q with ⟨z0, _⟩ | z0
      · refine .inl ⟨z, n, fun m => (List.mem_cons.mp m).elim (fun e => ?_) nx⟩
        subst e
        rcases z0 with z0 | ⟨o, z0⟩ <;> (rw [hp] at z0; cases z0)
      · exact .inr z0
    · exact .inr z, fun {a xs} q => by
    rcases q.up u1 with ⟨z, n, nx⟩ | z
    · rcases q with ⟨z0, _⟩ | z0
      · refine .inl ⟨z, n, fun m => (List.mem_cons.mp m).elim (fun e => ?_) nx⟩
        subst e
        rcases z0 with z0 | ⟨o, z0⟩ <;> (rw [hp] at z0; cases z0)
      · exact .inr z0
    · exact .inr z, fun q => u1.get q, rfl, fun q => q.upHold u1 hp⟩
theorem dl_rep {na : MA} (ha : DL X W a na) (hb : DE X W b mb) : DL X W (.BinOp a .Mult b pos) (mRepL na mb) := by
  obtain ⟨ta, pa, ka⟩ := ha
  obtain ⟨tb, pb, kb⟩ := hb
  refine ⟨_, pe_op op_rep pa pb, fun ξ μ σ H ρ S Q g s h => ka ξ μ σ H ρ S _ g s (WL'.bindL h fun ds S1 p xs μ1 H1 u1 hp s1 r1 e1 h1 => ?_)⟩
  refine kb (p :: ξ) μ1 σ H1 ρ S1 _ ?_ s1 ?_
  · exact ⟨g.len, fun i d e => by
      obtain ⟨v, h, r⟩ := (g.up u1).at_ i d e
      obtain ⟨v', h', r'⟩ := g.at_ i d e
      rw [h] at h'; cases h'
      exact ⟨v, h, r'.mv (mv_hold u1 hp e1)⟩⟩
  cases e : mb ρ S1 with
  | bad => rw [e] at h1; exact h1.elim
  | exc c fs S2 =>
    rw [e] at h1
    exact fun cls dd μ' H' u' s' x' => h1 cls dd μ' H' u' (RS.free (F := fx X ξ) (p := p) s') (XR.hold (F := fx X ξ) (p := p) x')
  | ok y S2 =>
    rw [e] at h1
    intro v μ2 H2 u2 s2 r2
    have hpq : p ∉ μ1 := (s1.xi p List.mem_cons_self).1
    have ep := u2.keep _ _ e1 hpq
    cases y with
    | int k =>
      cases r2
      by_cases c : k < 1000000 ∧ ds.length * k.toNat ≤ 16777216 ∧ -1000000 < k
      · have h1 : WL' (fx X ξ) (if k < 1000000 ∧ ds.length * k.toNat ≤ 16777216 ∧ -1000000 < k then Res.ok (List.replicate k.toNat ds).flatten S2 else .bad) Q (fun cls dd H' => W cls dd σ H') μ1 H1 := h1
        rw [if_pos c] at h1
        refine ⟨p, k, xs, rfl, rfl, ep, by omega, by omega, by rw [r1.length, sizeLine_eq]; exact c.2.1, fun r hr => ?_⟩
        have rr : RDs (fx X ξ) μ2 H2 (List.replicate k.toNat xs).flatten (List.replicate k.toNat ds).flatten := RDs.rep ((r1.mv .free).up u2) _
        have ss : RS (fx X ξ) μ2 H2 S2 := RS.free (F := fx X ξ) (p := p) s2
        have nr : r ∉ μ1 := fun z => ss.out hr (u2.mem z)
        exact h1 r _ μ2 _ (u2.trans (.fresh hr)) (u2.back hr nr) (ss.holds hr) (rr.mv (.holds hr)) upd_same
      · have h1 : WL' (fx X ξ) (if k < 1000000 ∧ ds.length * k.toNat ≤ 16777216 ∧ -1000000 < k then Res.ok (List.replicate k.toNat ds).flatten S2 else .bad) Q (fun cls dd H' => W cls dd σ H') μ1 H1 := h1
        rw [if_neg c] at h1
        exact h1.elim
    | _ => exact h1.elim
/-! ### a comprehension that is kept by a name -/
abbrev RdL (X : Cx) (W : WX) (te : TE) (mr : MA) : Prop := ∀ ξ μ σ H ρ S Q, RG (fx X ξ) μ H σ ρ → RS (fx X ξ) μ H S → WL' (fx X ξ) (mr ρ S) Q (fun cls dd H' => W cls dd σ H') μ H → te σ H Q
abbrev RdE (X : Cx) (W : WX) (te : TE) (m : ME) : Prop := ∀ ξ μ σ H ρ S Q, RG (fx X ξ) μ H σ ρ → RS (fx X ξ) μ H S → WE' (fx X ξ) (m ρ S) Q (fun cls dd H' => W cls dd σ H') μ H → te σ H Q
theorem rd_fz {te : TE} {mr : MA} (k : RdL X W te mr) : RdE X W te (mFz mr) := by
  intro ξ μ σ H ρ S Q g s h
  refine k ξ μ σ H ρ S Q g s ?_
  unfold mFz at h
  cases e : mr ρ S with
  | bad => rw [e] at h; exact h.elim
  | exc c fs S' => rw [e] at h; exact h
  | ok ds S' =>
    rw [e] at h
    exact fun q xs μ' H' u' hq s' r' e' => h _ μ' H' u' s'.free (.lst (.inl ⟨.inl e', (s'.xi q List.mem_cons_self).1, s.outX hq⟩) (r'.mv .free))
/-- .. the ways to keep it: as it is, or as a cell -/
theorem ds_setLc {mr : MA} (i : Nat) {y : Str} {py spos : Pos} {elt : Expr} {ifs : List Expr} {scope : Scope} {own : List (Str × Nat)} {f : D → Rho → Option Rho} {is : List Nat} {mt me : ME} {mw : MA → ME} (hw : ∀ {te : TE} {mr : MA}, RdL X W te mr → RdE X W te (mw mr)) (hc : X.calm = true) (hN : X.N.Nodup) (hi : DI X W tg e mr) (ok : BlkOk X.N X.env.scope scope own)
    (hg : ∀ (s : Shared) (H : Hp) (C : Addr) (cl : List (Str × Addr)) (fp : List Addr), DG (X.blk s H scope (compEnvC scope cl C X.env) fp) tg f is)
    (ht : ∀ (s : Shared) (H : Hp) (C : Addr) (cl : List (Str × Addr)) (fp : List Addr), DTs (X.blk s H scope (compEnvC scope cl C X.env) fp) W0 ifs mt)
    (he : ∀ (s : Shared) (H : Hp) (C : Addr) (cl : List (Str × Addr)) (fp : List Addr), DE (X.blk s H scope (compEnvC scope cl C X.env) fp) W0 elt me)
    (hv : ∀ i ∈ is, i ∈ own.map (·.2) := by decide) (hy : X.N[i]? = some y := by rfl) (hyl : X.env.scope.names.lookup y = some .local := by rfl)
    (hsw : swapsWith (.ListComp elt [⟨tg, e, ifs, 0⟩] scope pos) (some (.Name y py)) spos.line X.env = pure true := by rfl) (hs : ∀ x, foldedSetIterable e X.env x = pure x := by intro _; rfl) :
    DS X W (.Assign [.Name y py] (.ListComp elt [⟨tg, e, ifs, 0⟩] scope pos) spos) (mAsg i (mw (mLc mr f mt me (own.map (·.2))))) := by
  obtain ⟨wi, pi, ki⟩ := hi
  obtain ⟨tg', pg, kg⟩ := dg_all (Xf := blkOf X scope) (K := X.K) (mg := X.mg) (fun _ => rfl) (fun _ => rfl) fun i => hg i.1 i.2.1 i.2.2.1 i.2.2.2.1 i.2.2.2.2
  obtain ⟨tt, pt, kt⟩ := dts_all (Xf := blkOf X scope) (K := X.K) (mg := X.mg) (fun _ => rfl) (fun _ => rfl) fun i => ht i.1 i.2.1 i.2.2.1 i.2.2.2.1 i.2.2.2.2
  obtain ⟨te, pe, ke⟩ := de_all (Xf := blkOf X scope) (K := X.K) (mg := X.mg) (fun _ => rfl) (fun _ => rfl) fun i => he i.1 i.2.1 i.2.2.1 i.2.2.2.1 i.2.2.2.2
  have rd : RdL X W (tLc wi tg' tt te (own.map (·.2))) (mLc mr f mt me (own.map (·.2))) := fun ξ μ σ H ρ S Q g s h => lc_read (fun R => ki ξ μ σ H ρ S R g s) kg kt ke hv g s h
  refine ⟨_, ps_setLc (i := i) hc hN hy hyl hsw pi ok (fun s H C cl fp => pg (s, H, C, cl, fp)) (fun s H C cl fp => pt (s, H, C, cl, fp)) (fun s H C cl fp => pe (s, H, C, cl, fp)) hs, fun ξ μ σ H ρ S D g s h => ?_⟩
  exact hw rd ξ μ σ H ρ S _ g s (WS'.bind g h fun x S1 v μ1 H1 u1 s1 r1 h1 => h1 _ μ1 H1 .refl s1 ((g.up u1).set i r1))
/-! ### a kept list and a new one behind it -/
def mCatC (a : ME) (b : MA) : MA := fun ρ S => (a ρ S).bind fun x S1 => (b ρ S1).bind fun ys S2 => match x with
  | .cell n => match S2[n]? with
    | some (.lst xs) => if xs.length + ys.length ≤ 16777216 then .ok (xs ++ ys) S2 else .bad
    | _ => .bad
  | _ => .bad
end
end Dm
-- text DmCat
namespace Dm
open PySem L2 PySem.Spec PyProof.Rows
open PySem.W (Frag)
section
variable {X : Cx} {W : WX} {tg e a b c : Expr} {es : List Expr} {ma mb mc m : ME} {pos p p1 p2 p3 : Pos}
def rCatB (K : Frag) : R2 := fun x y H Q => ∃ l b xs zs, x = .ref l ∧ y = .ref b ∧ SqL K H l xs ∧ SqL K H b zs ∧ xs.length + zs.length ≤ sizeLine ∧ ∀ p, H p = none → Q (.ref p) (upd H p (.lst (xs ++ zs)))
theorem op_catB : OpR X (binaryOp .Add) (rCatB X.K) := by
  intro pins s σ H x y v u Q I rx ry h
  obtain ⟨l, b, xs, zs, rfl, rfl, hl, hb, hz, q⟩ := h
  cases rx
  cases ry
  obtain ⟨its, r, ⟨o, n, ho, hc, hd, hs⟩, z⟩ := I.list hl
  obtain ⟨its2, r2, ⟨o2, n2, ho2, hc2, hd2, hs2⟩, z2⟩ := I.list hb
  obtain ⟨cls, dd, data, sl⟩ := o
  obtain ⟨cls2, dd2, data2, sl2⟩ := o2
  simp only at hc hd hs hc2 hd2 hs2
  subst hc hd hs hc2 hd2 hs2
  have ea : its.toArray ++ its2.toArray = (its ++ its2).toArray := by simp
  refine concat_meets ⟨_, ho, rfl⟩ ⟨_, ho2, rfl⟩ noFill_list_add seq_list_add PySem.F.slot_list_add PySem.F.entry_list_add (PySem.F.args_list_add_2 _ _) (list_addW l b its.toArray its2.toArray n n2 none none sl sl2 (by rw [List.size_toArray, List.size_toArray, ← r.length, ← r2.length]; exact hz)) ⟨ho, ho2, ?_⟩
  rw [ea]
  exact ⟨.ref _, _, I.lnew (t' := s.toks) (r.append r2) (by rw [List.length_append]; exact hz), rfl, q _ I.fresh⟩
/-- a list that stands somewhere and a new one behind it -/
def mCatV (a : ME) (b : MA) : MA := fun ρ S => (a ρ S).bind fun x S1 => (b ρ S1).bind fun ys S2 => match lstOf S2 x with
  | some xs => if xs.length + ys.length ≤ 16777216 then .ok (xs ++ ys) S2 else .bad
  | none => .bad
theorem dl_catV {nb : MA} (ha : DE X W a ma) (hb : DL X W b nb) : DL X W (.BinOp a .Add b pos) (mCatV ma nb) := by
  obtain ⟨ta, pa, ka⟩ := ha
  obtain ⟨tb, pb, kb⟩ := hb
  refine ⟨_, pe_op op_catB pa pb, fun ξ μ σ H ρ S Q g s h => ka ξ μ σ H ρ S _ g s (WL'.bind h fun x S1 v μ1 H1 u1 s1 r1 h1 => ?_)⟩
  refine kb ξ μ1 σ H1 ρ S1 _ (g.up u1) s1 (WL'.bindL h1 fun es S2 q ys μ2 H2 u2 hq s2 r2 e2 h2 => ?_)
  cases c : lstOf S2 x with
  | none => simp only [c] at h2; exact h2.elim
  | some ds =>
    simp only [c] at h2
    have ss : RS (fx X ξ) μ2 H2 S2 := RS.free (F := fx X ξ) (p := q) s2
    obtain ⟨l, xs, rfl, h4, r3⟩ := RD.lstS ss (r1.up u2) c
    by_cases l : ds.length + es.length ≤ 16777216
    · rw [if_pos l] at h2
      refine ⟨_, q, xs, ys, rfl, rfl, h4, SqL.of e2, by rw [r3.length, r2.length, sizeLine_eq]; exact l, fun r hr => ?_⟩
      have rr : RDs (fx X ξ) μ2 H2 (xs ++ ys) (ds ++ es) := RDs.append r3 (RDs.free (F := fx X ξ) (p := q) _ r2)
      exact h2 r _ μ2 _ (.fresh hr) hr (ss.holds hr) (rr.mv (.holds hr)) upd_same
    · rw [if_neg l] at h2
      exact h2.elim
end
end Dm
-- text DmAll

-- text Hw
namespace Dm
open PySem L2
noncomputable section
def m_is_integer : List D → Sto → Res D := mDef 1 1 (mRet (mAnd (mIsi .int (mVar 0)) (mNot (mIsi .bl (mVar 0)))))
def m_is_zone : List D → Sto → Res D := mDef 1 5 (mSeq (mIfS (mOr (mNot (mIsi .tup (mVar 0))) (mOp gNe (mCallB gLen (mCons (mVar 0) mNil)) (mK (.int 2)))) (mRet (mK (.bl false))) mNop) (mSeq (mAsgG (tgT 2 (tgCons (tgN 1) (tgCons (tgN 2) tgNil))) (mVar 0)) (mSeq (mIfS (mOr (mNot (mIsi .tup (mVar 1))) (mNot (mChain gLe gLe (mK (.int 1)) (mCallB gLen (mCons (mVar 1) mNil)) (mK (.int 3))))) (mRet (mK (.bl false))) mNop) (mSeq (mFor (iSeq (mVar 1)) (tgN 3) (mIfS (mOr (mNot (mCall m_is_integer (mCons (mVar 3) mNil))) (mNot (mChain gLe gLe (mUn gNeg (mK (.int 900))) (mVar 3) (mK (.int 900))))) (mRet (mK (.bl false))) mNop)) (mSeq (mFor (iRange2 (mCons (mK (.int 1)) (mCons (mCallB gLen (mCons (mVar 1) mNil)) mNil))) (tgN 4) (mIfS (mOp gLe (mOp gIx (mVar 1) (mVar 4)) (mOp gIx (mVar 1) (mOp gSub (mVar 4) (mK (.int 1))))) (mRet (mK (.bl false))) mNop)) (mRet (mAnd (mCall m_is_integer (mCons (mVar 2) mNil)) (mChain gLt gLe (mOp gSub (mOp gIx (mVar 1) (mK (.int (-1)))) (mOp gIx (mVar 1) (mK (.int 0)))) (mVar 2) (mK (.int 1000000))))))))))
def m_need_zone : List D → Sto → Res D := mDef 1 1 (mIfS (mNot (mCall m_is_zone (mCons (mVar 0) mNil))) (mRaise "InvalidZone") mNop)
def m_is_offset : List D → Sto → Res D := mDef 2 2 (mRet (mAnd (mCall m_is_integer (mCons (mVar 1) mNil)) (mOp (gIn false) (mVar 1) (mOp gIx (mVar 0) (mK (.int 0))))))
def m_is_mark : List D → Sto → Res D := mDef 2 2 (mRet (mAnd (mIsi .tup (mVar 1)) (mAnd (mOp gEq (mCallB gLen (mCons (mVar 1) mNil)) (mK (.int 2))) (mAnd (mCall m_is_integer (mCons (mOp gIx (mVar 1) (mK (.int 0))) mNil)) (mCall m_is_offset (mCons (mVar 0) (mCons (mOp gIx (mVar 1) (mK (.int 1))) mNil)))))))
def m_is_table : List D → Sto → Res D := mDef 2 6 (mSeq (mDrop (mCall m_need_zone (mCons (mVar 0) mNil))) (mSeq (mIfS (mOr (mNot (mIsi .tup (mVar 1))) (mOr (mOp gNe (mCallB gLen (mCons (mVar 1) mNil)) (mK (.int 2))) (mNot (mCall m_is_offset (mCons (mVar 0) (mCons (mOp gIx (mVar 1) (mK (.int 0))) mNil)))))) (mRet (mK (.bl false))) mNop) (mSeq (mAsgG (tgT 2 (tgCons (tgN 2) (tgCons (tgN 3) tgNil))) (mVar 1)) (mSeq (mIfS (mNot (mIsi .tup (mVar 3))) (mRet (mK (.bl false))) mNop) (mSeq (mFor (iEnumS (mVar 3)) (tgT 2 (tgCons (tgN 4) (tgCons (tgN 5) tgNil))) (mSeq (mIfS (mOr (mNot (mCall m_is_mark (mCons (mVar 0) (mCons (mVar 5) mNil)))) (mOp gEq (mOp gIx (mVar 5) (mK (.int 1))) (mVar 2))) (mRet (mK (.bl false))) mNop) (mSeq (mIfS (mAnd (mOp gGt (mVar 4) (mK (.int 0))) (mOp gLt (mOp gSub (mOp gIx (mVar 5) (mK (.int 0))) (mOp gIx (mOp gIx (mVar 3) (mOp gSub (mVar 4) (mK (.int 1)))) (mK (.int 0)))) (mOp gIx (mVar 0) (mK (.int 1))))) (mRet (mK (.bl false))) mNop) (mAsg 2 (mOp gIx (mVar 5) (mK (.int 1))))))) (mRet (mK (.bl true))))))))
def m_need_table : List D → Sto → Res D := mDef 2 2 (mIfS (mNot (mCall m_is_table (mCons (mVar 0) (mCons (mVar 1) mNil)))) (mRaise "InvalidTable") mNop)
end
end Dm
-- text DmSort
namespace Dm
open PySem L2 PySem.Spec PyProof.Rows
open PySem.W (Frag)
/-! ### sorted of ints, of pairs of ints -/
def insP (x : Int × Int) : List (Int × Int) → List (Int × Int)
  | [] => [x]
  | y :: r => if SrtO.lexB y x then y :: insP x r else x :: y :: r
def srtP : List (Int × Int) → List (Int × Int)
  | [] => []
  | x :: r => insP x (srtP r)
def insN (x : Int) : List Int → List Int
  | [] => [x]
  | y :: r => if y < x then y :: insN x r else x :: y :: r
def srtN : List Int → List Int
  | [] => []
  | x :: r => insN x (srtN r)
theorem IsPair.inj {h : Heap} {v : Value} {x y x' y' : Int} (a : Srt.IsPair h v x y) (b : Srt.IsPair h v x' y') : x = x' ∧ y = y' := by
  obtain ⟨a1, o, t, u, n, rfl, e1, e2, e3⟩ := a
  obtain ⟨a2, o', t', u', n', e0, f1, f2, f3⟩ := b
  cases e0
  rw [e1] at f1; cases f1
  rw [e3] at f3
  cases f3
  exact ⟨rfl, rfl⟩
section
variable {X : Cx}
def intsOf : List D → Option (List Int)
  | [] => some []
  | .int i :: ds => (intsOf ds).map (i :: ·)
  | _ :: _ => none
def pairsOf : List D → Option (List (Int × Int))
  | [] => some []
  | .tup [.int i, .int j] :: ds => (pairsOf ds).map ((i, j) :: ·)
  | _ :: _ => none
def prD (p : Int × Int) : D := .tup [.int p.1, .int p.2]
theorem intsOf_eq : ∀ {ds : List D} {ns : List Int}, intsOf ds = some ns → ds = ns.map .int
  | [], ns, e => by cases e; rfl
  | d :: ds, ns, e => by
    cases d with
    | int i =>
      have e : (intsOf ds).map (i :: ·) = some ns := e
      cases q : intsOf ds with
      | none => rw [q] at e; exact nomatch e
      | some m =>
        rw [q] at e; cases e
        rw [intsOf_eq q] <;> rfl
    | _ => exact nomatch e
@[simp] theorem intsOf_map {ns : List Int} : intsOf (ns.map .int) = some ns := by
  induction ns with
  | nil => rfl
  | cons n ns ih => rw [List.map_cons]; show (intsOf _).map _ = _; rw [ih] <;> rfl
@[simp] theorem pairsOf_map {ps : List (Int × Int)} : pairsOf (ps.map prD) = some ps := by
  induction ps with
  | nil => rfl
  | cons n ns ih => rw [List.map_cons]; show (pairsOf _).map _ = _; rw [ih] <;> rfl
def sortD (ds : List D) : Option (List D) := match intsOf ds with
  | some ns => some ((srtN ns).map .int)
  | none => (pairsOf ds).map fun ps => (srtP ps).map prD
def gSort : Sto → List D → Option (List D) := fun S ds => match ds with
  | [d] => (lstOf S d).bind sortD
  | _ => none
theorem rdsInts {F : Fx} {μ : List Addr} {H : Hp} {ns : List Int} : ∀ {vs : List V}, RDs F μ H vs (ns.map .int) → vs = ns.map V.int := by
  induction ns with
  | nil => intro vs r; cases r; rfl
  | cons p ps ih =>
    intro vs r
    cases r with
    | cons a b =>
      cases a
      rw [ih b] <;> rfl
theorem CallR.or {f : Value} {r r' : List V → Hp → VK → Prop} (h : CallR X f r) (h' : CallR X f r') : CallR X f (fun vs H Q => r vs H Q ∨ r' vs H Q) := by
  intro pins s σ H vs us Q I rv z
  rcases z with z | z
  · exact h pins s σ H vs us Q I rv z
  · exact h' pins s σ H vs us Q I rv z
end
@[simp] theorem gSort_ints {S : Sto} {d : D} {ns : List Int} (h : lstOf S d = some (ns.map .int)) : gSort S [d] = some ((srtN ns).map .int) := by
  show (lstOf S d).bind sortD = _
  rw [h]
  show sortD _ = _
  unfold sortD
  rw [intsOf_map]
end Dm
-- text DmWp
namespace Dm
open PySem L2
/-! ### what a word does -/
abbrev EX := Str → List (Str × D) → Sto → Prop
abbrev EXO := Str → List (Str × D) → Rho → Sto → Prop
def NoE : EX := fun _ _ _ => False
def NoEO : EXO := fun _ _ _ _ => False
/-- what is wished of an exception: of an expression's at these slots; of a def's body -/
def eAt (E : EXO) (ρ : Rho) : EX := fun c fs S => E c fs ρ S
def eOut (E : EX) : EXO := fun c fs _ S => E c fs S
@[simp] theorem eAt_out {E : EX} {ρ : Rho} : eAt (eOut E) ρ = E := rfl
@[simp] theorem eAt_no {ρ : Rho} : eAt NoEO ρ = NoE := rfl
@[simp] theorem eOut_no : eOut NoE = NoEO := rfl
@[simp] theorem noE_app {c : Str} {fs : List (Str × D)} {S : Sto} : NoE c fs S = False := rfl
@[simp] theorem noEO_app {c : Str} {fs : List (Str × D)} {ρ : Rho} {S : Sto} : NoEO c fs ρ S = False := rfl
def Res.DoesE {α : Type} (r : Res α) (E : EX) (Q : α → Sto → Prop) : Prop := match r with
  | .ok a S => Q a S
  | .exc c fs S => E c fs S
  | .bad => False
def Out.DoesE (o : Out) (E : EXO) (N : Rho → Sto → Prop) (R : D → Sto → Prop) (B : Rho → Sto → Prop := fun _ _ => False) (C : Rho → Sto → Prop := fun _ _ => False) : Prop := match o with
  | .nx ρ S => N ρ S
  | .rt d S => R d S
  | .bk ρ S => B ρ S
  | .ct ρ S => C ρ S
  | .exc c fs ρ S => E c fs ρ S
  | .bad => False
abbrev Res.Does {α : Type} (r : Res α) (Q : α → Sto → Prop) : Prop := r.DoesE NoE Q
abbrev Out.Does (o : Out) (N : Rho → Sto → Prop) (R : D → Sto → Prop) (B : Rho → Sto → Prop := fun _ _ => False) (C : Rho → Sto → Prop := fun _ _ => False) : Prop := o.DoesE NoEO N R B C
section
variable {α β : Type} {a : α} {S : Sto} {ρ : Rho} {Q : α → Sto → Prop} {N B C : Rho → Sto → Prop} {R : D → Sto → Prop} {E : EX} {EO : EXO}
@[simp] theorem does_ok : (Res.ok a S).DoesE E Q = Q a S := rfl
@[simp] theorem does_bind {r : Res β} {f : β → Sto → Res α} : (r.bind f).DoesE E Q = r.DoesE E fun b S => (f b S).DoesE E Q := by cases r <;> rfl
@[simp] theorem bind_ok {f : α → Sto → Res β} : (Res.ok a S).bind f = f a S := rfl
@[simp] theorem ofRes_ok {k : α → Sto → Out} : ofRes (.ok a S) ρ k = k a S := rfl
@[simp] theorem does_ofRes {r : Res α} {k : α → Sto → Out} : (ofRes r ρ k).DoesE EO N R B C = r.DoesE (eAt EO ρ) fun a S => (k a S).DoesE EO N R B C := by cases r <;> rfl
@[simp] theorem does_nx : (Out.nx ρ S).DoesE EO N R B C = N ρ S := rfl
@[simp] theorem does_rt {d : D} : (Out.rt d S).DoesE EO N R B C = R d S := rfl
@[simp] theorem does_bk : (Out.bk ρ S).DoesE EO N R B C = B ρ S := rfl
@[simp] theorem does_ct : (Out.ct ρ S).DoesE EO N R B C = C ρ S := rfl
theorem Res.DoesE.mono {r : Res α} {Q Q' : α → Sto → Prop} (h : r.DoesE E Q) (k : ∀ a S, Q a S → Q' a S) : r.DoesE E Q' := by
  cases r with
  | ok a S => exact k a S h
  | _ => exact h
theorem Res.DoesE.monoE {r : Res α} {E' : EX} {Q Q' : α → Sto → Prop} (h : r.DoesE E Q) (e : ∀ c fs S, E c fs S → E' c fs S) (k : ∀ a S, Q a S → Q' a S) : r.DoesE E' Q' := by
  cases r with
  | ok a S => exact k a S h
  | exc c fs S => exact e _ _ _ h
  | bad => exact h
theorem Res.DoesE.toE {r : Res α} {Q : α → Sto → Prop} (h : r.DoesE NoE Q) : r.DoesE E Q := h.monoE (fun _ _ _ z => z.elim) fun _ _ z => z
theorem Res.Does.toE {r : Res α} {Q : α → Sto → Prop} (h : r.Does Q) : r.DoesE E Q := Res.DoesE.toE h
theorem Res.Does.mono {r : Res α} {Q Q' : α → Sto → Prop} (h : r.Does Q) (k : ∀ a S, Q a S → Q' a S) : r.Does Q' := Res.DoesE.mono h k
theorem Res.DoesE.eq {r : Res α} {Q : α → Sto → Prop} (h : r.DoesE NoE Q) : ∃ a S, r = .ok a S ∧ Q a S := by
  cases r with
  | ok a S => exact ⟨a, S, rfl, h⟩
  | _ => exact h.elim
theorem Res.Does.eq {r : Res α} {Q : α → Sto → Prop} (h : r.Does Q) : ∃ a S, r = .ok a S ∧ Q a S := Res.DoesE.eq h
theorem Out.DoesE.mono {o : Out} {N' B' C' : Rho → Sto → Prop} {R' : D → Sto → Prop} (h : o.DoesE EO N R B C) (hN : ∀ ρ S, N ρ S → N' ρ S) (hR : ∀ d S, R d S → R' d S) (hB : ∀ ρ S, B ρ S → B' ρ S) (hC : ∀ ρ S, C ρ S → C' ρ S) : o.DoesE EO N' R' B' C' := by
  cases o with
  | nx ρ S => exact hN _ _ h
  | rt d S => exact hR _ _ h
  | bk ρ S => exact hB _ _ h
  | ct ρ S => exact hC _ _ h
  | _ => exact h
theorem Out.Does.mono {o : Out} {N' B' C' : Rho → Sto → Prop} {R' : D → Sto → Prop} (h : o.Does N R B C) (hN : ∀ ρ S, N ρ S → N' ρ S) (hR : ∀ d S, R d S → R' d S) (hB : ∀ ρ S, B ρ S → B' ρ S) (hC : ∀ ρ S, C ρ S → C' ρ S) : o.Does N' R' B' C' := Out.DoesE.mono h hN hR hB hC
end
section
variable {S : Sto} {ρ : Rho} {Q : D → Sto → Prop} {N B C : Rho → Sto → Prop} {R : D → Sto → Prop} {E : EX} {EO : EXO}
@[simp] theorem does_seq {a b : MS} : (mSeq a b ρ S).DoesE EO N R B C = (a ρ S).DoesE EO (fun ρ S => (b ρ S).DoesE EO N R B C) R B C := by
  unfold mSeq
  cases a ρ S <;> rfl
@[simp] theorem does_asg {i : Nat} {m : ME} : (mAsg i m ρ S).DoesE EO N R B C = (m ρ S).DoesE (eAt EO ρ) fun d S => N (ρ.set i (some d)) S := by
  unfold mAsg
  rw [does_ofRes] <;> rfl
@[simp] theorem does_ret {m : ME} : (mRet m ρ S).DoesE EO N R B C = (m ρ S).DoesE (eAt EO ρ) R := by
  unfold mRet
  rw [does_ofRes] <;> rfl
@[simp] theorem does_retN : (mRetN ρ S).DoesE EO N R B C = R .non S := rfl
@[simp] theorem does_drop {m : ME} : (mDrop m ρ S).DoesE EO N R B C = (m ρ S).DoesE (eAt EO ρ) fun _ S => N ρ S := by
  unfold mDrop
  rw [does_ofRes] <;> rfl
@[simp] theorem does_nop : (mNop ρ S).DoesE EO N R B C = N ρ S := rfl
@[simp] theorem does_brk : (mBrk ρ S).DoesE EO N R B C = B ρ S := rfl
@[simp] theorem does_cont : (mCont ρ S).DoesE EO N R B C = C ρ S := rfl
/-- an if by what its test says -/
def BlQ (k : Bool → Sto → Prop) : D → Sto → Prop := fun d S => match d with
  | .bl b => k b S
  | _ => False
@[simp] theorem blQ_bl {k : Bool → Sto → Prop} {b : Bool} : BlQ k (.bl b) S = k b S := rfl
@[simp] theorem does_ifS {c : ME} {a b : MS} : (mIfS c a b ρ S).DoesE EO N R B C = (c ρ S).DoesE (eAt EO ρ) (BlQ fun k S => if k = true then (a ρ S).DoesE EO N R B C else (b ρ S).DoesE EO N R B C) := by
  unfold mIfS
  rw [does_ofRes]
  congr 1
  funext d S
  cases d with
  | bl k => cases k <;> rfl
  | _ => rfl
@[simp] theorem does_var {i : Nat} : (mVar i ρ S).DoesE E Q = match ρ[i]? with
    | some (some d) => Q d S
    | _ => False := by
  unfold mVar
  cases ρ[i]? with
  | none => rfl
  | some o => cases o <;> rfl
@[simp] theorem does_k {d : D} : (mK d ρ S).DoesE E Q = Q d S := rfl
@[simp] theorem var_eq {i : Nat} : mVar i ρ S = match ρ[i]? with
    | some (some d) => .ok d S
    | _ => .bad := rfl
@[simp] theorem k_eq {d : D} : mK d ρ S = .ok d S := rfl
def OptQ (o : Option D) (k : D → Prop) : Prop := match o with
  | some d => k d
  | none => False
@[simp] theorem optQ_some {d : D} {k : D → Prop} : OptQ (some d) k = k d := rfl
@[simp] theorem does_op {g : Sto → D → D → Option D} {a b : ME} : (mOp g a b ρ S).DoesE E Q = (a ρ S).DoesE E fun x S1 => (b ρ S1).DoesE E fun y S2 => OptQ (g S2 x y) fun z => Q z S2 := by
  unfold mOp
  rw [does_bind]
  congr 1
  funext x S1
  rw [does_bind]
  congr 1
  funext y S2
  cases g S2 x y <;> rfl
@[simp] theorem does_un {g : Sto → D → Option D} {a : ME} : (mUn g a ρ S).DoesE E Q = (a ρ S).DoesE E fun x S1 => OptQ (g S1 x) fun z => Q z S1 := by
  unfold mUn
  rw [does_bind]
  congr 1
  funext x S1
  cases g S1 x <;> rfl
@[simp] theorem does_and {a b : ME} : (mAnd a b ρ S).DoesE E Q = (a ρ S).DoesE E (BlQ fun k S1 => if k = true then (b ρ S1).DoesE E Q else Q (.bl false) S1) := by
  unfold mAnd
  rw [does_bind]
  congr 1
  funext d S
  cases d with
  | bl k => cases k <;> rfl
  | _ => rfl
@[simp] theorem does_or {a b : ME} : (mOr a b ρ S).DoesE E Q = (a ρ S).DoesE E (BlQ fun k S1 => if k = true then Q (.bl true) S1 else (b ρ S1).DoesE E Q) := by
  unfold mOr
  rw [does_bind]
  congr 1
  funext d S
  cases d with
  | bl k => cases k <;> rfl
  | _ => rfl
@[simp] theorem does_not {a : ME} : (mNot a ρ S).DoesE E Q = (a ρ S).DoesE E (BlQ fun k S1 => Q (.bl (!k)) S1) := by
  unfold mNot
  rw [does_bind]
  congr 1
  funext d S
  cases d <;> rfl
@[simp] theorem does_if {c a b : ME} : (mIf c a b ρ S).DoesE E Q = (c ρ S).DoesE E (BlQ fun k S1 => if k = true then (a ρ S1).DoesE E Q else (b ρ S1).DoesE E Q) := by
  unfold mIf
  rw [does_bind]
  congr 1
  funext d S
  cases d with
  | bl k => cases k <;> rfl
  | _ => rfl
@[simp] theorem does_nil {Q : List D → Sto → Prop} : (mNil ρ S).DoesE E Q = Q [] S := rfl
@[simp] theorem does_cons {a : ME} {r : MA} {Q : List D → Sto → Prop} : (mCons a r ρ S).DoesE E Q = (a ρ S).DoesE E fun x S1 => (r ρ S1).DoesE E fun xs S2 => Q (x :: xs) S2 := by
  unfold mCons
  rw [does_bind]
  congr 1
  funext x S1
  rw [does_bind] <;> rfl
@[simp] theorem does_tup {a : MA} : (mTup a ρ S).DoesE E Q = (a ρ S).DoesE E fun xs S1 => xs.length ≤ 16777216 ∧ Q (.tup xs) S1 := by
  unfold mTup
  rw [does_bind]
  congr 1
  funext xs S1
  by_cases h : xs.length ≤ 16777216
  · rw [if_pos h]; simp [h]
  · rw [if_neg h]; simp [h, Res.DoesE]
@[simp] theorem does_lst {a : MA} {Q : List D → Sto → Prop} : (mLst a ρ S).DoesE E Q = (a ρ S).DoesE E fun xs S1 => xs.length ≤ 16777216 ∧ Q xs S1 := by
  unfold mLst
  rw [does_bind]
  congr 1
  funext xs S1
  by_cases h : xs.length ≤ 16777216
  · rw [if_pos h]; simp [h]
  · rw [if_neg h]; simp [h, Res.DoesE]
@[simp] theorem does_fz {a : MA} : (mFz a ρ S).DoesE E Q = (a ρ S).DoesE E fun xs S1 => Q (.lst xs) S1 := by
  unfold mFz
  rw [does_bind] <;> rfl
@[simp] theorem does_new {a : MA} : (mNew a ρ S).DoesE E Q = (a ρ S).DoesE E fun xs S1 => Q (.cell S1.length) (S1 ++ [.lst xs]) := by
  unfold mNew
  rw [does_bind] <;> rfl
@[simp] theorem does_call {f : List D → Sto → Res D} {a : MA} : (mCall f a ρ S).DoesE E Q = (a ρ S).DoesE E fun xs S1 => (f xs S1).DoesE E Q := by
  unfold mCall
  rw [does_bind] <;> rfl
@[simp] theorem does_callB {g : Sto → List D → Option D} {a : MA} : (mCallB g a ρ S).DoesE E Q = (a ρ S).DoesE E fun xs S1 => OptQ (g S1 xs) fun z => Q z S1 := by
  unfold mCallB
  rw [does_bind]
  congr 1
  funext x S1
  cases g S1 x <;> rfl
@[simp] theorem does_callK {f : List D → Sto → Res D} {n q : Nat} {p : List Nat} {a k : MA} : (mCallK f n q p a k ρ S).DoesE E Q = (a ρ S).DoesE E fun xs S1 => (k ρ S1).DoesE E fun zs S2 => (xs.length = n ∧ zs.length = q) ∧ (f (p.filterMap ((xs ++ zs)[·]?)) S2).DoesE E Q := by
  unfold mCallK
  rw [does_bind]
  congr 1
  funext xs S1
  rw [does_bind]
  congr 1
  funext zs S2
  by_cases h : xs.length = n ∧ zs.length = q
  · rw [if_pos h]; simp [h]
  · rw [if_neg h]; simp [h, Res.DoesE]
@[simp] theorem does_chain {g g' : Sto → D → D → Option D} {a b c : ME} : (mChain g g' a b c ρ S).DoesE E Q = (a ρ S).DoesE E fun x S1 => (b ρ S1).DoesE E fun y S2 => OptQ (g S2 x y) fun z => BlQ (fun k S2 => if k = true then (c ρ S2).DoesE E fun w S3 => OptQ (g' S3 y w) fun z => Q z S3 else Q (.bl false) S2) z S2 := by
  unfold mChain
  rw [does_bind]
  congr 1
  funext x S1
  rw [does_bind]
  congr 1
  funext y S2
  cases g S2 x y with
  | none => rfl
  | some z =>
    cases z with
    | bl k =>
      cases k with
      | false => rfl
      | true =>
        show ((c ρ S2).bind _).DoesE E Q = _
        rw [does_bind]
        show _ = (c ρ S2).DoesE E _
        congr 1
        funext w S3
        cases g' S3 y w <;> rfl
    | _ => rfl
@[simp] theorem does_isi {T : Tn} {m : ME} : (mIsi T m ρ S).DoesE E Q = (m ρ S).DoesE E fun d S1 => OptQ ((tyOf S1 d).map fun t => .bl (isTn t T)) fun z => Q z S1 := by
  unfold mIsi
  rw [does_un]
@[simp] theorem does_isiT {T : List Tn} {m : ME} : (mIsiT T m ρ S).DoesE E Q = (m ρ S).DoesE E fun d S1 => OptQ ((tyOf S1 d).map fun t => .bl (T.any (isTn t ·))) fun z => Q z S1 := by
  unfold mIsiT
  rw [does_un]
@[simp] theorem does_asgG {f : D → Rho → Option Rho} {m : ME} : (mAsgG f m ρ S).DoesE EO N R B C = (m ρ S).DoesE (eAt EO ρ) fun d S1 => match f d ρ with
    | some ρ1 => N ρ1 S1
    | none => False := by
  unfold mAsgG
  rw [does_ofRes]
  congr 1
  funext d S1
  cases f d ρ <;> rfl
/-- a def -/
theorem does_def {np nN : Nat} {b : MS} {ds : List D} (h : ds.length = np) (hb : (b (ds.map some ++ List.replicate (nN - np) none) S).DoesE (eOut E) (fun _ S' => Q .non S') Q) : (mDef np nN b ds S).DoesE E Q := by
  unfold mDef
  rw [if_pos h]
  cases e : b (ds.map some ++ List.replicate (nN - np) none) S <;> rw [e] at hb <;> exact hb
@[simp] theorem does_for {mi : MA} {f : D → Rho → Option Rho} {mb : MS} : (mFor mi f mb ρ S).DoesE EO N R B C = (mi ρ S).DoesE (eAt EO ρ) fun ds S1 => (forL f mb ds ρ S1).DoesE EO N R B C := by
  unfold mFor
  rw [does_ofRes]
@[simp] theorem does_forL_nil {f : D → Rho → Option Rho} {mb : MS} : (forL f mb [] ρ S).DoesE EO N R B C = N ρ S := rfl
@[simp] theorem does_forL_cons {f : D → Rho → Option Rho} {mb : MS} {d : D} {r : List D} : (forL f mb (d :: r) ρ S).DoesE EO N R B C = match f d ρ with
    | none => False
    | some ρ1 => (mb ρ1 S).DoesE EO (fun ρ S => (forL f mb r ρ S).DoesE EO N R B C) R N (fun ρ S => (forL f mb r ρ S).DoesE EO N R B C) := by
  rw [forL]
  cases f d ρ with
  | none => rfl
  | some ρ1 =>
    simp only
    cases mb ρ1 S <;> rfl
/-- a loop by what holds ahead of each turn -/
theorem forL_does {f : D → Rho → Option Rho} {mb : MS} (I : List D → Rho → Sto → Prop) (step : ∀ d r ρ S, I (d :: r) ρ S → ∃ ρ1, f d ρ = some ρ1 ∧ (mb ρ1 S).DoesE EO (I r) R N (I r)) (stop : ∀ ρ S, I [] ρ S → N ρ S) :
    ∀ (ds : List D) (ρ : Rho) (S : Sto), I ds ρ S → (forL f mb ds ρ S).DoesE EO N R B C
  | [], ρ, S, h => stop ρ S h
  | d :: r, ρ, S, h => by
    obtain ⟨ρ1, e, k⟩ := step d r ρ S h
    unfold forL
    rw [e]
    simp only
    cases q : mb ρ1 S with
    | nx ρ2 S2 => rw [q] at k; exact forL_does I step stop r ρ2 S2 k
    | ct ρ2 S2 => rw [q] at k; exact forL_does I step stop r ρ2 S2 k
    | bk ρ2 S2 => rw [q] at k; exact k
    | rt d S2 => rw [q] at k; exact k
    | exc c fs ρ2 S2 => rw [q] at k; exact k
    | bad => rw [q] at k; exact k
theorem forL_cut {f : D → Rho → Option Rho} {mb : MS} (I : List D → Rho → Sto → Prop) (ds : List D) (start : I ds ρ S) (step : ∀ d r ρ S, I (d :: r) ρ S → ∃ ρ1, f d ρ = some ρ1 ∧ ∀ M : Rho → Sto → Prop, (∀ ρ S, I r ρ S → M ρ S) → (mb ρ1 S).DoesE EO M R N M) (stop : ∀ ρ S, I [] ρ S → N ρ S) :
    (forL f mb ds ρ S).DoesE EO N R B C :=
  forL_does I (fun d r ρ S h => let ⟨ρ1, e, k⟩ := step d r ρ S h; ⟨ρ1, e, k _ fun _ _ h => h⟩) stop ds ρ S start
@[simp] theorem does_iSeq {m : ME} {Q : List D → Sto → Prop} : (iSeq m ρ S).DoesE E Q = (m ρ S).DoesE E fun d S1 => match d with
    | .tup ds => Q ds S1
    | .lst ds => Q ds S1
    | _ => False := by
  unfold iSeq
  rw [does_bind]
  congr 1
  funext d S1
  cases d <;> rfl
@[simp] theorem does_iEnumS {m : ME} {Q : List D → Sto → Prop} : (iEnumS m ρ S).DoesE E Q = (m ρ S).DoesE E fun d S1 => match d with
    | .tup ds => Q (enumD ds) S1
    | .lst ds => Q (enumD ds) S1
    | _ => False := by
  unfold iEnumS
  rw [does_bind]
  congr 1
  funext d S1
  cases d <;> rfl
@[simp] theorem does_iRange1 {a : MA} {Q : List D → Sto → Prop} : (iRange1 a ρ S).DoesE E Q = (a ρ S).DoesE E fun ds S1 => match ds with
    | [.int j] => (j ≤ 16777216 ∧ -4611686018427387904 ≤ j) ∧ Q (rngD 0 j.toNat) S1
    | _ => False := by
  unfold iRange1
  rw [does_bind]
  congr 1
  funext ds S1
  split
  · rename_i j
    by_cases h : j ≤ 16777216 ∧ -4611686018427387904 ≤ j
    · rw [if_pos h]; simp [h]
    · rw [if_neg h]; simp [h, Res.DoesE]
  · rename_i h
    first
    | rfl
    | (split <;> first
      | rfl
      | (rename_i j; exact absurd rfl (h j)))
@[simp] theorem does_iRange2 {a : MA} {Q : List D → Sto → Prop} : (iRange2 a ρ S).DoesE E Q = (a ρ S).DoesE E fun ds S1 => match ds with
    | [.int i, .int j] => (-1000000000000 ≤ i ∧ i ≤ 1000000000000 ∧ -1000000000000 ≤ j ∧ j ≤ 1000000000000 ∧ j - i ≤ 16777216) ∧ Q (rngD i (j - i).toNat) S1
    | _ => False := by
  unfold iRange2
  rw [does_bind]
  congr 1
  funext ds S1
  split
  · rename_i i j
    by_cases h : -1000000000000 ≤ i ∧ i ≤ 1000000000000 ∧ -1000000000000 ≤ j ∧ j ≤ 1000000000000 ∧ j - i ≤ 16777216
    · rw [if_pos h]; simp [h]
    · rw [if_neg h]; simp [h, Res.DoesE]
  · rename_i h
    first
    | rfl
    | (split <;> first
      | rfl
      | (rename_i i j; exact absurd rfl (h i j)))
/-- what a comprehension gives -/
def LcQ (f : D → Rho → Option Rho) (mt me : ME) (ρ : Rho) (ds : List D) (S : Sto) (Q : List D → Sto → Prop) : Prop := ∃ ys S2, lcL f mt me ρ ds S = some (ys, S2) ∧ Q ys S2
@[simp] theorem lcQ_nil {f : D → Rho → Option Rho} {mt me : ME} {Q : List D → Sto → Prop} : LcQ f mt me ρ [] S Q = Q [] S := by
  refine propext ⟨?_, fun q => ⟨[], S, rfl, q⟩⟩
  rintro ⟨ys, S2, e, q⟩
  cases e
  exact q
@[simp] theorem lcQ_cons {f : D → Rho → Option Rho} {mt me : ME} {d : D} {r : List D} {Q : List D → Sto → Prop} : LcQ f mt me ρ (d :: r) S Q = match f d ρ with
    | none => False
    | some ρ1 => (mt ρ1 S).Does (BlQ fun k S1 => if k = true then (me ρ1 S1).Does fun y S2 => LcQ f mt me ρ r S2 fun ys S3 => Q (y :: ys) S3 else LcQ f mt me ρ r S1 Q) := by
  unfold LcQ
  rw [lcL]
  cases f d ρ with
  | none => simp
  | some ρ1 =>
    simp only
    cases mt ρ1 S with
    | ok v S1 =>
      cases v with
      | bl b =>
        cases b with
        | true =>
          simp only [does_ok, blQ_bl, if_true]
          cases me ρ1 S1 with
          | ok y S2 =>
            simp only [does_ok]
            cases lcL f mt me ρ r S2 with
            | none => simp
            | some z =>
              obtain ⟨ys, S3⟩ := z
              refine propext ⟨?_, ?_⟩
              · rintro ⟨ys', S', e, q⟩
                cases e
                exact ⟨_, _, rfl, q⟩
              · rintro ⟨ys', S', e, q⟩
                cases e
                exact ⟨_, _, rfl, q⟩
          | _ => simp [Res.DoesE]
        | false => simp [does_ok, blQ_bl]
      | _ => simp [does_ok, BlQ]
    | _ => simp [Res.DoesE]
@[simp] theorem does_yes {Q : D → Sto → Prop} : (mYes ρ S).DoesE E Q = Q (.bl true) S := rfl
@[simp] theorem does_lc {mi : MA} {f : D → Rho → Option Rho} {mt me : ME} {vs : List Nat} {Q : List D → Sto → Prop} : (mLc mi f mt me vs ρ S).DoesE E Q = (mi ρ S).DoesE E fun ds S1 => LcQ f mt me (wipeD ρ vs) ds S1 Q := by
  unfold mLc
  rw [does_bind]
  congr 1
  funext ds S1
  unfold LcQ
  cases e : lcL f mt me (wipeD ρ vs) ds S1 with
  | none => simp [Res.DoesE]
  | some r =>
    obtain ⟨ys, S2⟩ := r
    refine propext ⟨fun q => ⟨ys, S2, rfl, q⟩, ?_⟩
    rintro ⟨ys', S2', e', q⟩
    cases e'
    exact q
@[simp] theorem does_slT {a : ME} {lo hi : MO} : (mSlT a lo hi ρ S).DoesE E Q = (a ρ S).DoesE E fun x S1 => (lo ρ S1).DoesE E fun l S2 => (hi ρ S2).DoesE E fun h S3 => match x with
    | .tup ds => Q (.tup (cutD ds l h)) S3
    | _ => False := by
  unfold mSlT
  rw [does_bind]; congr 1; funext x S1
  rw [does_bind]; congr 1; funext l S2
  rw [does_bind]; congr 1; funext h S3
  cases x <;> rfl
@[simp] theorem does_slL {a : ME} {lo hi : MO} {Q : List D → Sto → Prop} : (mSlL a lo hi ρ S).DoesE E Q = (a ρ S).DoesE E fun x S1 => (lo ρ S1).DoesE E fun l S2 => (hi ρ S2).DoesE E fun h S3 => match lstOf S3 x with
    | some ds => Q (cutD ds l h) S3
    | none => False := by
  unfold mSlL
  rw [does_bind]; congr 1; funext x S1
  rw [does_bind]; congr 1; funext l S2
  rw [does_bind]; congr 1; funext h S3
  cases lstOf S3 x <;> rfl
@[simp] theorem does_part {m : ME} {Q : Option Int → Sto → Prop} : (mPart m ρ S).DoesE E Q = (m ρ S).DoesE E fun x S1 => match x with
    | .int i => Q (some i) S1
    | _ => False := by
  unfold mPart
  rw [does_bind]; congr 1; funext x S1
  cases x <;> rfl
@[simp] theorem does_noPart {Q : Option Int → Sto → Prop} : (mNoPart ρ S).DoesE E Q = Q none S := rfl
@[simp] theorem does_back {m : ME} : (mBack m ρ S).DoesE E Q = (m ρ S).DoesE E fun x S1 => match x with
    | .tup ds => Q (.tup ds.reverse) S1
    | _ => False := by
  unfold mBack
  rw [does_bind]; congr 1; funext x S1
  cases x <;> rfl
@[simp] theorem does_catL {a b : MA} {Q : List D → Sto → Prop} : (mCatL a b ρ S).DoesE E Q = (a ρ S).DoesE E fun xs S1 => (b ρ S1).DoesE E fun ys S2 => xs.length + ys.length ≤ 16777216 ∧ Q (xs ++ ys) S2 := by
  unfold mCatL
  rw [does_bind]; congr 1; funext xs S1
  rw [does_bind]; congr 1; funext ys S2
  by_cases h : xs.length + ys.length ≤ 16777216
  · rw [if_pos h]; simp [h]
  · rw [if_neg h]; simp [h, Res.DoesE]
@[simp] theorem does_app {o m : ME} : (mApp o m ρ S).DoesE EO N R B C = (o ρ S).DoesE (eAt EO ρ) fun x S1 => match x with
    | .cell n => ∃ ds0, S1[n]? = some (.lst ds0) ∧ (m ρ S1).DoesE (eAt EO ρ) fun d S2 => ∃ ds, S2[n]? = some (.lst ds) ∧ ds.length < 16777216 ∧ N ρ (S2.set n (.lst (ds ++ [d])))
    | _ => False := by
  unfold mApp
  rw [does_ofRes]; congr 1; funext x S1
  cases x with
  | cell n =>
    simp only
    cases e : S1[n]? with
    | none => simp [Out.DoesE]
    | some c =>
      cases c with
      | lst ds0 =>
        simp only [does_ofRes]
        refine propext ⟨fun q => ⟨ds0, rfl, q.mono fun d S2 z => ?_⟩, ?_⟩
        · revert z
          cases e2 : S2[n]? with
          | none => exact fun z => z.elim
          | some c2 =>
            cases c2 with
            | lst ds =>
              intro z
              by_cases l : ds.length < 16777216
              · simp only [if_pos l] at z
                exact ⟨ds, rfl, l, z⟩
              · simp only [if_neg l] at z
                exact z.elim
            | _ => exact fun z => z.elim
        · rintro ⟨ds', e', q⟩
          refine q.mono fun d S2 z => ?_
          obtain ⟨ds, e2, l, z⟩ := z
          simp only [e2, if_pos l]
          exact z
      | _ => simp [Out.DoesE]
  | _ => rfl
@[simp] theorem does_setIx {m o i : ME} : (mSetIx m o i ρ S).DoesE EO N R B C = (m ρ S).DoesE (eAt EO ρ) fun d S1 => (o ρ S1).DoesE (eAt EO ρ) fun x S2 => (i ρ S2).DoesE (eAt EO ρ) fun y S3 => match x, y with
    | .cell n, .int j => ∃ ds k, S3[n]? = some (.lst ds) ∧ ixN ds.length j = some k ∧ N ρ (S3.set n (.lst (ds.set k d)))
    | _, _ => False := by
  unfold mSetIx
  rw [does_ofRes]; congr 1; funext d S1
  rw [does_ofRes]; congr 1; funext x S2
  rw [does_ofRes]; congr 1; funext y S3
  cases x with
  | cell n =>
    cases y with
    | int j =>
      simp only
      cases e : S3[n]? with
      | none => simp [Out.DoesE]
      | some c =>
        cases c with
        | lst ds =>
          simp only
          cases e2 : ixN ds.length j with
          | none => simp [Out.DoesE, e2]
          | some k => simp [e2]
        | _ => simp [Out.DoesE]
    | _ => rfl
  | _ => rfl
@[simp] theorem does_aug {i : Nat} {f : Int → Int → Int} {m : ME} : (mAug i f m ρ S).DoesE EO N R B C = match ρ[i]? with
    | some (some (.int a)) => (m ρ S).DoesE (eAt EO ρ) fun d S1 => match d with
      | .int b => N (ρ.set i (some (.int (f a b)))) S1
      | _ => False
    | _ => False := by
  unfold mAug
  cases ρ[i]? with
  | none => rfl
  | some o =>
    cases o with
    | none => rfl
    | some d =>
      cases d with
      | int a =>
        simp only
        rw [does_ofRes]; congr 1; funext d S1
        cases d <;> rfl
      | _ => rfl
@[simp] theorem does_repL {a : MA} {b : ME} {Q : List D → Sto → Prop} : (mRepL a b ρ S).DoesE E Q = (a ρ S).DoesE E fun xs S1 => (b ρ S1).DoesE E fun y S2 => match y with
    | .int k => (k < 1000000 ∧ xs.length * k.toNat ≤ 16777216 ∧ -1000000 < k) ∧ Q (List.replicate k.toNat xs).flatten S2
    | _ => False := by
  unfold mRepL
  rw [does_bind]; congr 1; funext xs S1
  rw [does_bind]; congr 1; funext y S2
  cases y with
  | int k =>
    simp only
    by_cases h : k < 1000000 ∧ xs.length * k.toNat ≤ 16777216 ∧ -1000000 < k
    · rw [if_pos h]; simp [h]
    · rw [if_neg h]; simp [h, Res.DoesE]
  | _ => rfl
@[simp] theorem does_catC {a : ME} {b : MA} {Q : List D → Sto → Prop} : (mCatC a b ρ S).DoesE E Q = (a ρ S).DoesE E fun x S1 => (b ρ S1).DoesE E fun ys S2 => match x with
    | .cell n => ∃ xs, S2[n]? = some (.lst xs) ∧ xs.length + ys.length ≤ 16777216 ∧ Q (xs ++ ys) S2
    | _ => False := by
  unfold mCatC
  rw [does_bind]; congr 1; funext x S1
  rw [does_bind]; congr 1; funext ys S2
  cases x with
  | cell n =>
    simp only
    cases e : S2[n]? with
    | none => simp [Res.DoesE]
    | some c =>
      cases c with
      | lst xs =>
        simp only
        by_cases h : xs.length + ys.length ≤ 16777216
        · rw [if_pos h]; simp [h]
        · rw [if_neg h]; simp [h, Res.DoesE]
      | _ => simp [Res.DoesE]
  | _ => rfl
@[simp] theorem does_catV {a : ME} {b : MA} {Q : List D → Sto → Prop} : (mCatV a b ρ S).DoesE E Q = (a ρ S).DoesE E fun x S1 => (b ρ S1).DoesE E fun ys S2 => match lstOf S2 x with
    | some xs => xs.length + ys.length ≤ 16777216 ∧ Q (xs ++ ys) S2
    | none => False := by
  unfold mCatV
  rw [does_bind]; congr 1; funext x S1
  rw [does_bind]; congr 1; funext ys S2
  cases e : lstOf S2 x with
  | none => simp [Res.DoesE]
  | some xs =>
    simp only
    by_cases h : xs.length + ys.length ≤ 16777216
    · rw [if_pos h]; simp [h]
    · rw [if_neg h]; simp [h, Res.DoesE]
end
end Dm
-- text DmAny
namespace Dm
open PySem L2 PySem.Spec PyProof.Rows
open PySem.W (Frag)
/-! ### over what stands in a tuple, a list, a cell, as it stands at each turn -/
def ItA (F : Fx) (μ : List Addr) (H : Hp) (J : It) (p : D × Nat) : Prop := p.2 ≤ 16777216 ∧
  ∀ (F' : Fx) (μ' : List Addr) (H' : Hp) (S' : Sto) (i : Nat), Ext F F' H → Up μ H μ' H' → RS F' μ' H' S' → ∀ ds, seqOf S' p.1 = some ds →
    (∀ x, ds[i]? = some x → J.go i H' ∧ ∀ v H'', J.yld i H' v H'' → H'' = H' ∧ RD F' μ' H' v x) ∧ (i = ds.length → J.stop i H')
/-- the word: the thing and its length at the beginning -/
abbrev MP := Rho → Sto → Res (D × Nat)
def iAny (m : ME) : MP := fun ρ S => (m ρ S).bind fun d S1 => match seqOf S1 d with
  | some ds => .ok (d, ds.length) S1
  | none => .bad
structure DIA (X : Cx) (W : WX) (tg iter : Expr) (m : MP) : Prop where
  ex : ∃ wi, PI X tg iter wi ∧ ∀ ξ μ σ H ρ S R, RG (fx X ξ) μ H σ ρ → RS (fx X ξ) μ H S → WR (fx X ξ) (fun μ H (J : It) (p : D × Nat) => ItA (fx X ξ) μ H J p) (m ρ S) R (fun cls dd H' => W cls dd σ H') μ H → wi σ H R
section
variable {X : Cx} {W : WX} {tg e a b c : Expr} {es : List Expr} {st : Stmt} {sts ts : List Stmt} {ma mb mc m : ME} {mr : MA} {m1 m2 : MS} {pos p p1 p2 p3 : Pos}
theorem itA_tup {F : Fx} {μ : List Addr} {H : Hp} {a : Addr} {xs : List V} {ds : List D} (f : FzT F μ H a xs) (r : RDs F μ H xs ds) (z : Sized F.K H) : ItA F μ H (Itt F.K a) (.tup ds, ds.length) := by
  obtain ⟨h1, h2⟩ := itt_ok f r z
  refine ⟨h1, fun F' μ' H' S' i e u s es h => ?_⟩
  cases h
  refine ⟨fun x hx => ?_, fun hi => (h2 F' μ' H' S' i e u s (by omega)).2 hi⟩
  have hl := (List.getElem?_eq_some_iff.mp hx).1
  obtain ⟨k1, k2⟩ := (h2 F' μ' H' S' i e u s (by omega)).1 x hx
  refine ⟨k1, fun v H'' y => ?_⟩
  obtain ⟨e1, _⟩ := id y
  obtain ⟨_, _, k3⟩ := k2 v H'' y
  subst e1
  exact ⟨rfl, k3⟩
theorem itA_lst {F : Fx} {μ : List Addr} {H : Hp} {v : V} {d : D} {ds : List D} {S : Sto} {a : Addr} (ev : v = .ref a) (s : RS F μ H S) (r : RD F μ H v d) (e : lstOf S d = some ds) (z : Sized F.K H) : ItA F μ H (Itl F.K a) (d, ds.length) := by
  obtain ⟨a', xs, e1, h1, h2⟩ := RD.lstS s r e
  rw [ev] at e1; cases e1
  refine ⟨by rw [← h2.length]; exact z _ _ (.inl h1), fun F' μ' H' S' i ex u s' es h => ?_⟩
  have r' : RD F' μ' H' v d := r.mv (.ext ex u)
  have eL : lstOf S' d = some es := by
    cases d with
    | tup _ => exact nomatch e
    | lst _ => exact h
    | cell n => exact h
    | _ => exact nomatch e
  obtain ⟨a2, ys, e2, h3, h4⟩ := RD.lstS s' r' eL
  rw [ev] at e2; cases e2
  rw [ex.k] at h3
  refine ⟨fun x hx => ?_, fun hi => ⟨ys, h3, by rw [h4.length, hi]; exact Nat.le_refl _⟩⟩
  obtain ⟨w, h5, h6⟩ := h4.get hx
  refine ⟨⟨ys, w, h3, h5⟩, fun v' H'' y => ?_⟩
  obtain ⟨e3, y⟩ := y
  have q := y ys h3
  rw [h5] at q; cases q
  exact ⟨e3, h6⟩
theorem dia_any (h : DE X W e m) : DIA X W tg e (iAny m) := by
  obtain ⟨te, pe, k⟩ := h
  refine ⟨_, piOr (piSized (pi_tup pe)) (piSized (pi_list pe)), fun ξ μ σ H ρ S R g s h => ?_⟩
  cases e1 : m ρ S with
  | bad => unfold iAny at h; rw [e1] at h; exact h.elim
  | exc c fs S1 =>
    unfold iAny at h; rw [e1] at h
    refine .inl (k ξ μ σ H ρ S _ g s ?_)
    rw [e1]; exact h
  | ok d S1 =>
    unfold iAny at h
    rw [e1] at h
    have h : WR (fx X ξ) (fun μ H (J : It) (p : D × Nat) => ItA (fx X ξ) μ H J p) (match seqOf S1 d with | some ds => .ok (d, ds.length) S1 | none => .bad) R (fun cls dd H' => W cls dd σ H') μ H := h
    by_cases c : ∃ ds, d = .tup ds
    · obtain ⟨ds, rfl⟩ := c
      refine .inl (k ξ μ σ H ρ S _ g s ?_)
      rw [e1]
      intro v μ1 H1 u1 s1 r1
      cases r1 with
      | @tup a xs _ f r => exact ⟨a, rfl, ⟨xs, f.sq⟩, fun z => h _ μ1 H1 u1 s1 (itA_tup f r z)⟩
    · cases q : seqOf S1 d with
      | none => rw [q] at h; exact h.elim
      | some ds =>
        rw [q] at h
        refine .inr (k ξ μ σ H ρ S _ g s ?_)
        rw [e1]
        have eL : lstOf S1 d = some ds := by
          cases d with
          | tup es => exact absurd ⟨es, rfl⟩ c
          | lst _ => exact q
          | cell n => exact q
          | _ => exact nomatch q
        intro v μ1 H1 u1 s1 r1
        obtain ⟨a, xs, rfl, h3, h4⟩ := RD.lstS s1 r1 eL
        exact ⟨a, rfl, ⟨xs, h3⟩, fun z => h _ μ1 H1 u1 s1 (itA_lst rfl s1 r1 eL z)⟩
def forA (d : D) (f : D → Rho → Option Rho) (mb : MS) : Nat → Nat → Rho → Sto → Out
  | 0, _, _, _ => .bad
  | k + 1, i, ρ, S => match seqOf S d with
    | some ds => match ds[i]? with
      | none => if i = ds.length then .nx ρ S else .bad
      | some x => match f x ρ with
        | none => .bad
        | some ρ1 => match mb ρ1 S with
          | .nx ρ2 S2 => forA d f mb k (i + 1) ρ2 S2
          | .ct ρ2 S2 => forA d f mb k (i + 1) ρ2 S2
          | .bk ρ2 S2 => .nx ρ2 S2
          | .rt d S2 => .rt d S2
          | .exc c fs ρ2 S2 => .exc c fs ρ2 S2
          | .bad => .bad
    | none => .bad
def mForA (m : ME) (f : D → Rho → Option Rho) (mb : MS) : MS := fun ρ S => ofRes (iAny m ρ S) ρ fun p S1 => forA p.1 f mb (p.2 + 1) 0 ρ S1
theorem ds_forA {f : D → Rho → Option Rho} {is : List Nat} {mb : MS} (hp : PassesOwn (model X.prog X.w) X.A X.env X.xe) (hc : X.calm = true) (hi : DE X W e m) (hg : DG X tg f is) (hb : DSs X W sts mb)
    (hs : ∀ x, foldedSetIterable e X.env x = pure x := by intro _; rfl) : DS X W (.For tg e sts [] pos) (mForA m f mb) := by
  obtain ⟨wi, pi, ki⟩ := dia_any (tg := tg) hi
  obtain ⟨tg', pg, kg⟩ := hg
  obtain ⟨tb, pb, kb⟩ := hb
  refine ⟨_, ps_for hp hc pi pg pb hs, fun ξ μ σ H ρ S D g s h => ki ξ μ σ H ρ S _ g s (WS'.bind g h fun p S1 J μ1 H1 u1 s1 r1 h1 => ?_)⟩
  obtain ⟨d, n0⟩ := p
  refine ⟨fun i k σ' H' => ∃ μ' ρ' S', Up μ1 H1 μ' H' ∧ RS (fx X ξ) μ' H' S' ∧ RG (fx X ξ) μ' H' σ' ρ' ∧ WS' (fx X ξ) (forA d f mb k i ρ' S') D W μ' H',
    ⟨_, μ1, ρ, S1, .refl, s1, g.up u1, h1⟩, ?_⟩
  rintro i k σ' H' ⟨μ', ρ', S', u', s', g', w⟩
  cases k with
  | zero => exact w.elim
  | succ k =>
    unfold forA at w
    cases q' : seqOf S' d with
    | none => rw [q'] at w; exact w.elim
    | some es =>
      rw [q'] at w
      simp only at w
      obtain ⟨t1, t2⟩ := r1.2 (fx X ξ) μ' H' S' i .refl u' s' es q'
      cases q2 : es[i]? with
      | none =>
        rw [q2] at w
        simp only at w
        by_cases hi : i = es.length
        · rw [if_pos hi] at w
          exact .inl ⟨t2 hi, w σ' μ' H' .refl s' g'⟩
        · rw [if_neg hi] at w; exact w.elim
      | some x =>
        rw [q2] at w
        simp only at w
        obtain ⟨go, yl⟩ := t1 x q2
        cases ef : f x ρ' with
        | none => rw [ef] at w; exact w.elim
        | some ρ1 =>
          rw [ef] at w
          simp only at w
          refine .inr ⟨go, fun σ2 H2 => ∃ μ' ρ' S', Up μ1 H1 μ' H2 ∧ RS (fx X ξ) μ' H2 S' ∧ RG (fx X ξ) μ' H2 σ2 ρ' ∧ WS' (fx X ξ) (forA d f mb k (i + 1) ρ' S') D W μ' H2,
            fun σ2 H2 z => ⟨k, Nat.lt_succ_self k, z⟩, fun v H2 y => ?_⟩
          obtain ⟨y1, y2⟩ := yl v H2 y
          subst y1
          refine kg ξ μ' σ' _ ρ' v x ρ1 _ g' y2 ef fun σ2 g2 _ => ?_
          refine kb ξ μ' σ2 _ ρ1 S' _ g2 s' ?_
          cases eb : mb ρ1 S' with
          | nx ρ2 S2 =>
            rw [eb] at w
            exact fun σ3 μ3 H3 u3 s3 g3 => ⟨μ3, ρ2, S2, u'.trans u3, s3, g3, w.shift u3⟩
          | ct ρ2 S2 =>
            rw [eb] at w
            exact fun σ3 μ3 H3 u3 s3 g3 => ⟨μ3, ρ2, S2, u'.trans u3, s3, g3, w.shift u3⟩
          | bk ρ2 S2 => rw [eb] at w; exact w
          | rt d S2 => rw [eb] at w; exact w
          | exc c fs ρ2 S2 => rw [eb] at w; exact w
          | bad => rw [eb] at w; exact w
/-! ### comprehensions -/
def lcA (d : D) (f : D → Rho → Option Rho) (mt me : ME) (ρ : Rho) : Nat → Nat → Sto → Option (List D × Sto)
  | 0, _, _ => none
  | k + 1, i, S => match seqOf S d with
    | none => none
    | some ds => match ds[i]? with
      | none => if i = ds.length then some ([], S) else none
      | some x => match f x ρ with
        | none => none
        | some ρ1 => match mt ρ1 S with
          | .ok (.bl true) S1 => match me ρ1 S1 with
            | .ok y S2 => match lcA d f mt me ρ k (i + 1) S2 with
              | some (ys, S3) => some (y :: ys, S3)
              | none => none
            | _ => none
          | .ok (.bl false) S1 => lcA d f mt me ρ k (i + 1) S1
          | _ => none
def mLcA (m : ME) (f : D → Rho → Option Rho) (mt me : ME) (vs : List Nat) : MA := fun ρ S => (iAny m ρ S).bind fun p S1 => match lcA p.1 f mt me (wipeD ρ vs) (p.2 + 1) 0 S1 with
  | some (ys, S2) => .ok ys S2
  | none => .bad
theorem lcA_pos {d : D} {f : D → Rho → Option Rho} {mt me : ME} {ρ : Rho} {k i : Nat} {S : Sto} {r : List D × Sto} (h : lcA d f mt me ρ k i S = some r) : 0 < k := by
  cases k with
  | zero => exact nomatch h
  | succ k => exact Nat.succ_pos k
/-- the reading of a comprehension -/
theorem lcA_read {wi : TI} {tg' : TG} {tt : TT} {te : TE} {f : D → Rho → Option Rho} {is vs : List Nat} {ξ μ : List Addr} {σ : L2.St} {H : Hp} {ρ : Rho} {S : Sto} {Q : VK} {Wx : Value → Option Addr → Hp → Prop} {m mt me : ME}
    (ki : ∀ R, WR (fx X ξ) (fun μ H (J : It) (p : D × Nat) => ItA (fx X ξ) μ H J p) (iAny m ρ S) R Wx μ H → wi σ H R)
    (kg : ∀ ξ μ σ H ρ v d ρ' (Q : L2.St → Hp → Prop), RG (fx X ξ) μ H σ ρ → RD (fx X ξ) μ H v d → f d ρ = some ρ' → (∀ σ', RG (fx X ξ) μ H σ' ρ' → (∀ js : List Nat, (∀ i ∈ is, i ∈ js) → wipe σ' js = wipe σ js) → Q σ' H) → tg' v σ H Q)
    (kt : ∀ ξ μ σ H ρ S Q, RG (fx X ξ) μ H σ ρ → RS (fx X ξ) μ H S → WT' (fx X ξ) (mt ρ S) Q (fun cls dd H' => W0 cls dd σ H') μ H → tt σ H Q)
    (ke : ∀ ξ μ σ H ρ S Q, RG (fx X ξ) μ H σ ρ → RS (fx X ξ) μ H S → WE' (fx X ξ) (me ρ S) Q (fun cls dd H' => W0 cls dd σ H') μ H → te σ H Q)
    (hv : ∀ i ∈ is, i ∈ vs) (g : RG (fx X ξ) μ H σ ρ) (s : RS (fx X ξ) μ H S) (h : WL' (fx X ξ) (mLcA m f mt me vs ρ S) Q Wx μ H) : tLc wi tg' tt te vs σ H Q := by
  refine ki _ (WL'.bind h fun p S1 J μ1 H1 u1 s1 r1 h1 => ?_)
  obtain ⟨d, n0⟩ := p
  intro D hD
  obtain ⟨hz, r1⟩ := r1
  have hz : n0 ≤ 16777216 := hz
  have n1 : D ∉ μ1 := s1.out hD
  have x1 : D ∉ ξ := s1.outX hD
  have ext : Ext (fx X ξ) ((fx X ξ).hold D) H1 := ⟨rfl, rfl, fun a ha => (List.mem_cons.mp ha).elim (fun z => .inr (by rw [z]; exact hD)) .inl⟩
  have main : WL' (fx X ξ) (match lcA d f mt me (wipeD ρ vs) (n0 + 1) 0 S1 with
    | some (ys, S2) => Res.ok ys S2
    | none => .bad) Q Wx μ1 H1 := h1
  refine ⟨fun i k H' => ∃ μ' S' acc dacc, Up μ1 H1 μ' H' ∧ RS ((fx X ξ).hold D) μ' H' S' ∧ H' D = some (.lst acc) ∧ RDs ((fx X ξ).hold D) μ' H' acc dacc ∧ acc.length ≤ i ∧ i + k = n0 + 1 ∧
      ∃ ys S2, lcA d f mt me (wipeD ρ vs) k i S' = some (ys, S2) ∧ ∀ μ2 H2 xs, Up μ1 H1 μ2 H2 → RS ((fx X ξ).hold D) μ2 H2 S2 → RDs ((fx X ξ).hold D) μ2 H2 xs (dacc ++ ys) → H2 D = some (.lst xs) → Q (.ref D) H2,
    ⟨_, μ1, S1, [], [], .fresh hD, s1.holds hD, upd_same, .nil, Nat.le_refl _, Nat.zero_add _, ?_⟩, ?_⟩
  · cases q : lcA d f mt me (wipeD ρ vs) (n0 + 1) 0 S1 with
    | none => rw [q] at main; exact main.elim
    | some r =>
      obtain ⟨ys, S2⟩ := r
      rw [q] at main
      exact ⟨ys, S2, rfl, fun μ2 H2 xs u2 s2 r2 e2 => main D xs μ2 H2 u2 hD s2 r2 e2⟩
  rintro i k H' ⟨μ', S', acc, dacc, u', s', hacc, racc, hla, hi, ys, S2, eL, fin⟩
  cases k with
  | zero => exact nomatch eL
  | succ k =>
    unfold lcA at eL
    cases q' : seqOf S' d with
    | none => rw [q'] at eL; exact nomatch eL
    | some es =>
      rw [q'] at eL
      simp only at eL
      obtain ⟨t1, t2⟩ := r1 ((fx X ξ).hold D) μ' H' S' i ext u' s' es q'
      cases q2 : es[i]? with
      | none =>
        rw [q2] at eL
        simp only at eL
        by_cases e : i = es.length
        · rw [if_pos e] at eL
          cases eL
          exact .inl ⟨t2 e, fin μ' H' acc u' s' (by rw [List.append_nil]; exact racc) hacc⟩
        · rw [if_neg e] at eL; exact nomatch eL
      | some x0 =>
        rw [q2] at eL
        simp only at eL
        obtain ⟨go, yl⟩ := t1 x0 q2
        cases ef : f x0 (wipeD ρ vs) with
        | none => rw [ef] at eL; exact nomatch eL
        | some ρ1 =>
          rw [ef] at eL
          simp only at eL
          refine .inr ⟨go, fun H2 => ∃ μ' S' acc dacc, Up μ1 H1 μ' H2 ∧ RS ((fx X ξ).hold D) μ' H2 S' ∧ H2 D = some (.lst acc) ∧ RDs ((fx X ξ).hold D) μ' H2 acc dacc ∧ acc.length ≤ i + 1 ∧ (i + 1) + k = n0 + 1 ∧
              ∃ ys S2, lcA d f mt me (wipeD ρ vs) k (i + 1) S' = some (ys, S2) ∧ ∀ μ2 H2 xs, Up μ1 H1 μ2 H2 → RS ((fx X ξ).hold D) μ2 H2 S2 → RDs ((fx X ξ).hold D) μ2 H2 xs (dacc ++ ys) → H2 D = some (.lst xs) → Q (.ref D) H2,
            fun H2 z => ⟨k, Nat.lt_succ_self k, z⟩, fun x H2 y => ?_⟩
          obtain ⟨eH, r2⟩ := yl x H2 y
          subst eH
          have g2 : RG (fx X (D :: ξ)) μ' H2 (wipe σ vs) (wipeD ρ vs) := (((g.up u1).mv (.ext ext u'))).wipe vs
          refine kg (D :: ξ) μ' (wipe σ vs) H2 (wipeD ρ vs) x _ ρ1 _ g2 r2 ef fun σ3 g3 w3 => ?_
          have nD : D ∉ μ' := (s'.xi D List.mem_cons_self).1
          have ww : wipe (wipe σ vs) vs = wipe σ vs := by
            refine List.ext_getElem? fun k => ?_
            rw [wipe_get, wipe_get, wipe_length]
            by_cases q : k ∈ vs ∧ k < σ.length
            · rw [if_pos q, if_pos q]
            · rw [if_neg q, if_neg q]
          refine ⟨by rw [w3 vs hv, ww], ?_⟩
          refine kt (D :: ξ) μ' σ3 H2 ρ1 S' _ g3 s' ?_
          cases et : mt ρ1 S' with
          | bad => rw [et] at eL; exact nomatch eL
          | exc c fs S3 => rw [et] at eL; exact nomatch eL
          | ok dd S3 =>
            rw [et] at eL
            cases dd with
            | bl b =>
              intro μ3 H3 u3 s3
              have eD3 : H3 D = some (.lst acc) := u3.keep _ _ hacc nD
              cases b with
              | false =>
                exact ⟨μ3, S3, acc, dacc, u'.trans u3, s3, eD3, racc.up u3, Nat.le_succ_of_le hla, by omega, ys, S2, eL, fin⟩
              | true =>
                simp only at eL
                refine ke (D :: ξ) μ3 σ3 H3 ρ1 S3 _ (g3.up u3) s3 ?_
                cases ee : me ρ1 S3 with
                | bad => rw [ee] at eL; exact nomatch eL
                | exc c fs S4 => rw [ee] at eL; exact nomatch eL
                | ok y S4 =>
                  rw [ee] at eL
                  intro v μ4 H4 u4 s4 r4
                  simp only at eL
                  cases er : lcA d f mt me (wipeD ρ vs) k (i + 1) S4 with
                  | none => rw [er] at eL; exact nomatch eL
                  | some q =>
                    obtain ⟨zs, S5⟩ := q
                    have kp := lcA_pos er
                    rw [er] at eL
                    cases eL
                    have nD3 : D ∉ μ3 := (s3.xi D List.mem_cons_self).1
                    have eD4 : H4 D = some (.lst acc) := u4.keep _ _ eD3 nD3
                    refine ⟨acc, eD4, by rw [sizeLine_eq]; omega, μ4, S4, acc ++ [v], dacc ++ [y], ?_, RS.wr (F := fx X ξ) (p := D) s4, upd_same, RDs.mv (Mv.wr (F := fx X ξ) (p := D)) _ (RDs.append (F := (fx X ξ).hold D) ((racc.up u3).up u4) (.cons r4 .nil)), by rw [List.length_append, List.length_singleton]; omega, by omega, zs, S2, er, fun μ5 H5 xs u5 s5 r5 e5 => fin μ5 H5 xs u5 s5 (by rw [List.append_assoc] at r5; exact r5) e5⟩
                    have U := u'.trans (u3.trans u4)
                    exact ⟨U.pre, U.new, fun a o ha na => by
                      rw [upd_ne (ne_of_none ha hD)]
                      exact U.keep a o ha na⟩
            | _ => exact nomatch eL
theorem dl_lcA {elt : Expr} {ifs : List Expr} {scope : Scope} {own : List (Str × Nat)} {f : D → Rho → Option Rho} {is : List Nat} {mt me : ME} (hc : X.calm = true) (hN : X.N.Nodup) (hi : DE X W e m) (ok : BlkOk X.N X.env.scope scope own)
    (hg : ∀ (s : Shared) (H : Hp) (C : Addr) (cl : List (Str × Addr)) (fp : List Addr), DG (X.blk s H scope (compEnvC scope cl C X.env) fp) tg f is)
    (ht : ∀ (s : Shared) (H : Hp) (C : Addr) (cl : List (Str × Addr)) (fp : List Addr), DTs (X.blk s H scope (compEnvC scope cl C X.env) fp) W0 ifs mt)
    (he : ∀ (s : Shared) (H : Hp) (C : Addr) (cl : List (Str × Addr)) (fp : List Addr), DE (X.blk s H scope (compEnvC scope cl C X.env) fp) W0 elt me)
    (hv : ∀ i ∈ is, i ∈ own.map (·.2) := by decide) (hs : ∀ x, foldedSetIterable e X.env x = pure x := by intro _; rfl) : DL X W (.ListComp elt [⟨tg, e, ifs, 0⟩] scope pos) (mLcA m f mt me (own.map (·.2))) := by
  obtain ⟨wi, pi, ki⟩ := dia_any (tg := tg) hi
  obtain ⟨tg', pg, kg⟩ := dg_all (Xf := blkOf X scope) (K := X.K) (mg := X.mg) (fun _ => rfl) (fun _ => rfl) fun i => hg i.1 i.2.1 i.2.2.1 i.2.2.2.1 i.2.2.2.2
  obtain ⟨tt, pt, kt⟩ := dts_all (Xf := blkOf X scope) (K := X.K) (mg := X.mg) (fun _ => rfl) (fun _ => rfl) fun i => ht i.1 i.2.1 i.2.2.1 i.2.2.2.1 i.2.2.2.2
  obtain ⟨te, pe, ke⟩ := de_all (Xf := blkOf X scope) (K := X.K) (mg := X.mg) (fun _ => rfl) (fun _ => rfl) fun i => he i.1 i.2.1 i.2.2.1 i.2.2.2.1 i.2.2.2.2
  refine ⟨_, pe_lc hc hN pi ok (fun s H C cl fp => pg (s, H, C, cl, fp)) (fun s H C cl fp => pt (s, H, C, cl, fp)) (fun s H C cl fp => pe (s, H, C, cl, fp)) hs, fun ξ μ σ H ρ S Q g s h => ?_⟩
  exact lcA_read (fun R => ki ξ μ σ H ρ S R g s) kg kt ke hv g s h
end
/-! ### what they do -/
section
variable {S : Sto} {ρ : Rho} {N B C : Rho → Sto → Prop} {R : D → Sto → Prop} {f : D → Rho → Option Rho} {mt me : ME} {mb : MS} {E : EX} {EO : EXO}
theorem seqOf_fix {d : D} {ds : List D} (h : d = .tup ds ∨ d = .lst ds) (S : Sto) : seqOf S d = some ds := by
  rcases h with rfl | rfl <;> rfl
theorem forA_fix {d : D} {ds : List D} (h : d = .tup ds ∨ d = .lst ds) : ∀ (r pre : List D) (ρ : Rho) (S : Sto), ds = pre ++ r → forA d f mb (r.length + 1) pre.length ρ S = forL f mb r ρ S
  | [], pre, ρ, S, e => by
    unfold forA
    rw [seqOf_fix h]
    have e1 : ds[pre.length]? = none := by rw [e, List.append_nil]; exact List.getElem?_eq_none (Nat.le_refl _)
    simp only [e1]
    rw [if_pos (by rw [e, List.append_nil])] <;> rfl
  | x :: r, pre, ρ, S, e => by
    unfold forA
    rw [seqOf_fix h]
    have e1 : ds[pre.length]? = some x := by rw [e, List.getElem?_append_right (Nat.le_refl _), Nat.sub_self] <;> rfl
    simp only [e1]
    rw [forL]
    cases f x ρ with
    | none => rfl
    | some ρ1 =>
      simp only
      have q : ∀ ρ2 S2, forA d f mb (x :: r).length (pre.length + 1) ρ2 S2 = forL f mb r ρ2 S2 := fun ρ2 S2 => by
        have q := forA_fix h r (pre ++ [x]) ρ2 S2 (by rw [e, List.append_assoc] <;> rfl)
        rw [List.length_append, List.length_singleton] at q
        exact q
      cases mb ρ1 S <;> first | rfl | exact q _ _
def forAS (d : D) (f : D → Rho → Option Rho) (mb : MS) (ρ : Rho) (S : Sto) : Out := match seqOf S d with
  | some ds => forA d f mb (ds.length + 1) 0 ρ S
  | none => .bad
@[simp] theorem does_forA {m : ME} : (mForA m f mb ρ S).DoesE EO N R B C = (m ρ S).DoesE (eAt EO ρ) fun d S1 => (forAS d f mb ρ S1).DoesE EO N R B C := by
  unfold mForA
  rw [does_ofRes]
  unfold iAny
  rw [does_bind]
  congr 1
  funext d S1
  unfold forAS
  cases seqOf S1 d <;> rfl
@[simp] theorem forAS_tup {ds : List D} : forAS (.tup ds) f mb ρ S = forL f mb ds ρ S := forA_fix (.inl rfl) ds [] ρ S rfl
@[simp] theorem forAS_lst {ds : List D} : forAS (.lst ds) f mb ρ S = forL f mb ds ρ S := forA_fix (.inr rfl) ds [] ρ S rfl
/-- a comprehension over a cell that stays: an invariant of the stores; the items kept -/
def LcAQ (d : D) (f : D → Rho → Option Rho) (mt me : ME) (ρ : Rho) (n : Nat) (S : Sto) (Q : List D → Sto → Prop) : Prop := ∃ ys S', lcA d f mt me ρ (n + 1) 0 S = some (ys, S') ∧ Q ys S'
@[simp] theorem does_lcA {m : ME} {vs : List Nat} {Q : List D → Sto → Prop} : (mLcA m f mt me vs ρ S).DoesE E Q = (m ρ S).DoesE E fun d S1 => match seqOf S1 d with
    | some ds => LcAQ d f mt me (wipeD ρ vs) ds.length S1 Q
    | none => False := by
  unfold mLcA iAny
  rw [does_bind, does_bind]
  congr 1
  funext d S1
  cases seqOf S1 d with
  | none => rfl
  | some ds =>
    simp only [does_ok]
    unfold LcAQ
    cases e : lcA d f mt me (wipeD ρ vs) (ds.length + 1) 0 S1 with
    | none => simp [Res.DoesE]
    | some r =>
      obtain ⟨ys, S2⟩ := r
      refine propext ⟨fun q => ⟨ys, S2, rfl, q⟩, ?_⟩
      rintro ⟨ys', S2', e', q⟩
      cases e'
      exact q
theorem lcA_fix {d : D} {ds : List D} (h : d = .tup ds ∨ d = .lst ds) : ∀ (r pre : List D) (S : Sto), ds = pre ++ r → lcA d f mt me ρ (r.length + 1) pre.length S = lcL f mt me ρ r S
  | [], pre, S, e => by
    unfold lcA
    rw [seqOf_fix h]
    have e1 : ds[pre.length]? = none := by rw [e, List.append_nil]; exact List.getElem?_eq_none (Nat.le_refl _)
    simp only [e1]
    rw [if_pos (by rw [e, List.append_nil])] <;> rfl
  | x :: r, pre, S, e => by
    unfold lcA
    rw [seqOf_fix h]
    have e1 : ds[pre.length]? = some x := by rw [e, List.getElem?_append_right (Nat.le_refl _), Nat.sub_self] <;> rfl
    simp only [e1]
    rw [lcL]
    have q : ∀ S2, lcA d f mt me ρ (x :: r).length (pre.length + 1) S2 = lcL f mt me ρ r S2 := fun S2 => by
      have q := lcA_fix h r (pre ++ [x]) S2 (by rw [e, List.append_assoc] <;> rfl)
      rw [List.length_append, List.length_singleton] at q
      exact q
    cases f x ρ with
    | none => rfl
    | some ρ1 =>
      simp only
      cases mt ρ1 S with
      | ok d1 S1 =>
        cases d1 with
        | bl b =>
          cases b with
          | true =>
            simp only
            cases me ρ1 S1 with
            | ok y S2 =>
              simp only
              rw [q] <;> (cases lcL f mt me ρ r S2 <;> rfl)
            | _ => rfl
          | false => exact q S1
        | _ => rfl
      | _ => rfl
theorem lcAQ_fix {d : D} {ds : List D} {Q : List D → Sto → Prop} {n : Nat} (h : d = .tup ds ∨ d = .lst ds) (hn : n = ds.length) : LcAQ d f mt me ρ n S Q = LcQ f mt me ρ ds S Q := by
  subst hn
  unfold LcAQ LcQ
  have := lcA_fix (f := f) (mt := mt) (me := me) (ρ := ρ) h ds [] S rfl
  rw [show (([] : List D).length) = 0 from rfl] at this
  rw [this]
@[simp] theorem lcAQ_tup {ds : List D} {Q : List D → Sto → Prop} : LcAQ (.tup ds) f mt me ρ ds.length S Q = LcQ f mt me ρ ds S Q := lcAQ_fix (.inl rfl) rfl
@[simp] theorem lcAQ_lst {ds : List D} {Q : List D → Sto → Prop} : LcAQ (.lst ds) f mt me ρ ds.length S Q = LcQ f mt me ρ ds S Q := lcAQ_fix (.inr rfl) rfl
end
@[simp] theorem lcAQ_fixT {ds : List D} {f : D → Rho → Option Rho} {mt me : ME} {ρ : Rho} {n : Nat} {S : Sto} {Q : List D → Sto → Prop} {α : Type} {g : α → D} {as : List α} : LcAQ (.tup (as.map g)) f mt me ρ as.length S Q = LcQ f mt me ρ (as.map g) S Q := lcAQ_fix (.inl rfl) (by rw [List.length_map])
@[simp] theorem lcAQ_fixL {ds : List D} {f : D → Rho → Option Rho} {mt me : ME} {ρ : Rho} {n : Nat} {S : Sto} {Q : List D → Sto → Prop} {α : Type} {g : α → D} {as : List α} : LcAQ (.lst (as.map g)) f mt me ρ as.length S Q = LcQ f mt me ρ (as.map g) S Q := lcAQ_fix (.inr rfl) (by rw [List.length_map])
theorem seqOf_cell {S : Sto} {n : Nat} {ds : List D} (h : S[n]? = some (.lst ds)) : seqOf S (.cell n) = some ds := by
  show (match S[n]? with | some (Cell.lst ds) => some ds | _ => none) = _
  rw [h]
end Dm
-- text Hw2
namespace Dm
open PySem L2
end Dm
-- text DmSimp
namespace Dm
open PySem L2
section
variable {S : Sto} {k : D → Prop} {i j : Int} {ds es : List D} {n : Nat} {a b : Bool} {x y : Str}
@[simp] theorem optQ_none : OptQ none k = False := rfl
@[simp] theorem optQ_ite {c : Prop} [Decidable c] {d : D} : OptQ (if c then some d else none) k = (c ∧ k d) := by
  by_cases h : c
  · rw [if_pos h]; simp [h]
  · rw [if_neg h]; simp [h]
@[simp] theorem optQ_map {α : Type} {o : Option α} {f : α → D} : OptQ (o.map f) k = (match o with
    | some z => k (f z)
    | none => False) := by cases o <;> rfl
@[simp] theorem gI_int {f : Int → Int → D} : gI f S (.int i) (.int j) = some (f i j) := rfl
@[simp] theorem gIC_int {C : Int → Int → Prop} [∀ i j, Decidable (C i j)] {f : Int → Int → D} : gIC C f S (.int i) (.int j) = if C i j then some (f i j) else none := rfl
@[simp] theorem gAdd_int : gAdd S (.int i) (.int j) = some (.int (i + j)) := rfl
@[simp] theorem gAdd_tup : gAdd S (.tup ds) (.tup es) = if ds.length + es.length ≤ 16777216 then some (.tup (ds ++ es)) else none := rfl
@[simp] theorem gNeg_int : gNeg S (.int i) = some (.int (-i)) := rfl
@[simp] theorem gLen_tup : gLen S [.tup ds] = some (.int ds.length) := rfl
@[simp] theorem gLen_lst : gLen S [.lst ds] = some (.int ds.length) := rfl
theorem lstOf_cell (h : S[n]? = some (.lst ds)) : lstOf S (.cell n) = some ds := by simp only [lstOf, h]
theorem gLen_cell (h : S[n]? = some (.lst ds)) : gLen S [.cell n] = some (.int ds.length) := by
  show (lstOf S (.cell n)).map _ = _
  rw [lstOf_cell h] <;> rfl
@[simp] theorem gInt1_int : gInt1 S [.int i] = some (.int i) := rfl
@[simp] theorem gInt1_bl : gInt1 S [.bl b] = some (.int (if b then 1 else 0)) := rfl
@[simp] theorem gII_int {f : Int → Int → Int} : gII f S [.int i, .int j] = some (.int (f i j)) := rfl
@[simp] theorem gTuple_tup : gTuple S [.tup ds] = some (.tup ds) := rfl
@[simp] theorem gTuple_lst : gTuple S [.lst ds] = some (.tup ds) := rfl
theorem gTuple_cell (h : S[n]? = some (.lst ds)) : gTuple S [.cell n] = some (.tup ds) := by
  show (lstOf S (.cell n)).map _ = _
  rw [lstOf_cell h] <;> rfl
@[simp] theorem gIx_tup : gIx S (.tup ds) (.int i) = atI ds i := rfl
@[simp] theorem gIx_lst : gIx S (.lst ds) (.int i) = atI ds i := rfl
theorem gIx_cell (h : S[n]? = some (.lst ds)) : gIx S (.cell n) (.int i) = atI ds i := by
  show (lstOf S (.cell n)).bind _ = _
  rw [lstOf_cell h] <;> rfl
@[simp] theorem gEq_int : gEq S (.int i) (.int j) = some (.bl (i == j)) := rfl
@[simp] theorem gNe_int : gNe S (.int i) (.int j) = some (.bl (!(i == j))) := rfl
@[simp] theorem gEq_str : gEq S (.str x) (.str y) = some (.bl (x == y)) := rfl
@[simp] theorem gNe_str : gNe S (.str x) (.str y) = some (.bl (!(x == y))) := rfl
theorem shaped_bool (b : Bool) : SeqAt.shaped (.bool b) = true := by cases b <;> decide
@[simp] theorem gEq_bl : gEq S (.bl a) (.bl b) = some (.bl (a == b)) := by
  show (if SeqAt.shaped (.bool a) = true ∧ SeqAt.shaped (.bool b) = true then some (PyData.eqv (.bool a) (.bool b)) else none).map D.bl = _
  rw [if_pos ⟨shaped_bool a, shaped_bool b⟩]
  simp [PyData.eqv]
@[simp] theorem gNe_bl : gNe S (.bl a) (.bl b) = some (.bl (!(a == b))) := by
  show (if SeqAt.shaped (.bool a) = true ∧ SeqAt.shaped (.bool b) = true then some (PyData.eqv (.bool a) (.bool b)) else none).map (fun b => D.bl (!b)) = _
  rw [if_pos ⟨shaped_bool a, shaped_bool b⟩]
  simp [PyData.eqv]
@[simp] theorem gIsN_non {neg : Bool} {d : D} : gIsN neg S d .non = some (.bl (if neg then !isNon d else isNon d)) := rfl
@[simp] theorem isNon_non : isNon .non = true := rfl
@[simp] theorem isNon_bl : isNon (.bl b) = false := rfl
@[simp] theorem isNon_int : isNon (.int i) = false := rfl
@[simp] theorem isNon_str : isNon (.str x) = false := rfl
@[simp] theorem isNon_tup : isNon (.tup ds) = false := rfl
@[simp] theorem isNon_lst : isNon (.lst ds) = false := rfl
@[simp] theorem isNon_cell : isNon (.cell n) = false := rfl
@[simp] theorem tyOf_non : tyOf S .non = some .non := rfl
@[simp] theorem tyOf_bl : tyOf S (.bl b) = some .bl := rfl
@[simp] theorem tyOf_int : tyOf S (.int i) = some .int := rfl
@[simp] theorem tyOf_str : tyOf S (.str x) = some .str := rfl
@[simp] theorem tyOf_tup : tyOf S (.tup ds) = some .tup := rfl
@[simp] theorem tyOf_exv {c : Str} {fs : List (Str × Int)} : tyOf S (.exn c fs) = some .exn := rfl
@[simp] theorem tyOf_lst : tyOf S (.lst ds) = some .lst := rfl
@[simp] theorem seqOf_tup : seqOf S (.tup ds) = some ds := rfl
@[simp] theorem seqOf_lst : seqOf S (.lst ds) = some ds := rfl
@[simp] theorem lstOf_lst : lstOf S (.lst ds) = some ds := rfl
@[simp] theorem flatD_int : flatD (.int i) = true := rfl
@[simp] theorem eqF_int : eqF (.int i) (.int j) = (i == j) := rfl
@[simp] theorem tgN_eq {ρ : Rho} {d : D} {i : Nat} : tgN i d ρ = some (ρ.set i (some d)) := rfl
@[simp] theorem tgT_eq {ρ : Rho} {m : Nat} {f : List D → Rho → Option Rho} : tgT m f (.tup ds) ρ = if ds.length = m then f ds ρ else none := rfl
@[simp] theorem tgCons_eq {ρ : Rho} {d : D} {f : D → Rho → Option Rho} {g : List D → Rho → Option Rho} : tgCons f g (d :: ds) ρ = (f d ρ).bind fun ρ1 => g ds ρ1 := rfl
@[simp] theorem tgNil_eq {ρ : Rho} : tgNil [] ρ = some ρ := rfl
@[simp] theorem atI_zero {α : Type} {x : α} {xs : List α} : atI (x :: xs) 0 = some x := by simp [atI, ixN]
@[simp] theorem atI_one {α : Type} {x y : α} {xs : List α} : atI (x :: y :: xs) 1 = some y := by
  have h : (1 : Int) < ((xs.length + 1 + 1 : Nat) : Int) := by omega
  simp only [atI, ixN, List.length_cons, if_pos (show (0 : Int) ≤ 1 by decide), if_pos h] <;> rfl
@[simp] theorem atI_two {α : Type} {x y z : α} {xs : List α} : atI (x :: y :: z :: xs) 2 = some z := by
  have h : (2 : Int) < ((xs.length + 1 + 1 + 1 : Nat) : Int) := by omega
  simp only [atI, ixN, List.length_cons, if_pos (show (0 : Int) ≤ 2 by decide), if_pos h] <;> rfl
theorem atI_of {α : Type} {xs : List α} {i : Int} (h0 : 0 ≤ i) (h : i < xs.length) : atI xs i = xs[i.toNat]? := by
  simp [atI, ixN, h0, h]
theorem cdivw {i j : Int} (h0 : 0 < j) (h : j < 18446744073709551616) : CDivW i j := by
  refine ⟨h0, ?_⟩
  have h1 : j.natAbs < 2 ^ 64 := by omega
  have h2 : j.natAbs.log2 < 64 := (Nat.log2_lt (by omega)).mpr h1
  omega
theorem log2_le {a : Nat} {n : Nat} (h : a < 2 ^ n) : a.log2 ≤ n := by
  by_cases h0 : a = 0
  · subst h0
    rw [Nat.log2_zero]; exact Nat.zero_le _
  · exact Nat.le_of_lt ((Nat.log2_lt h0).mpr h)
theorem cmulw {i j : Int} (n m : Nat) (h : i.natAbs < 2 ^ n) (h' : j.natAbs < 2 ^ m) (hs : n + m < 1000000) : CMulW i j := by
  have h1 := log2_le h
  have h2 := log2_le h'
  show i.natAbs.log2 + j.natAbs.log2 < 1000000
  omega
theorem cmulw64 {i j : Int} (h : -18446744073709551616 < i ∧ i < 18446744073709551616) (h' : -18446744073709551616 < j ∧ j < 18446744073709551616) : CMulW i j := cmulw 64 64 (by omega) (by omega) (by decide)
end
end Dm
-- text DmDict
namespace Dm
open PySem L2 PySem.Spec PyProof.Rows
open PySem.W (Frag)
/-! ### dicts whose keys are ints and texts -/
def keyD : D → Option Key
  | .int i => some (.inl i)
  | .str x => some (.inr x)
  | _ => none
def valD (kvs : List (Key × D)) (k : Key) : Option D := (kvs.find? fun kv => decide (kv.1 = k)).map (·.2)
def putD (kvs : List (Key × D)) (k : Key) (v : D) : List (Key × D) :=
  if (kvs.any fun kv => decide (kv.1 = k)) = true then kvs.map (fun kv => if kv.1 = k then (kv.1, v) else kv) else kvs ++ [(k, v)]
def mergeD (kvs more : List (Key × D)) : List (Key × D) := more.foldl (fun acc kv => putD acc kv.1 kv.2) kvs
def dicOf (S : Sto) : D → Option (List (Key × D))
  | .cell n => match S[n]? with
    | some (.dic kvs) => some kvs
    | _ => none
  | _ => none
section
variable {F : Fx} {μ : List Addr} {H : Hp} {S : Sto}
theorem keyD_of {v : V} {d : D} {k : Key} (r : RD F μ H v d) (e : keyD d = some k) : v = kV k := by
  cases r with
  | int i => cases e; rfl
  | str x => cases e; rfl
  | _ => exact nomatch e
theorem valV_of {k : Key} : ∀ {vk : List (Key × V)} {kvs : List (Key × D)} {d : D}, KvR F μ H vk kvs → valD kvs k = some d → ∃ v, valV vk k = some v ∧ RD F μ H v d
  | _, _, d, .nil, e => by cases e
  | p :: vk, q :: kvs, d, .cons h r, e => by
    obtain ⟨h1, h2⟩ := h
    by_cases c : q.1 = k
    · have e1 : valD (q :: kvs) k = some q.2 := by simp [valD, List.find?_cons, c]
      have e2 : valV (p :: vk) k = some p.2 := valV_pos (by rw [h1]; exact c)
      rw [e1] at e; cases e
      exact ⟨_, e2, h2⟩
    · have e1 : valD (q :: kvs) k = valD kvs k := by simp [valD, List.find?_cons, c]
      have e2 : valV (p :: vk) k = valV vk k := by
        have : ¬ p.1 = k := by rw [h1]; exact c
        simp [valV, List.find?_cons, this]
      rw [e1] at e
      rw [e2]
      exact valV_of r e
theorem valV_none {k : Key} : ∀ {vk : List (Key × V)} {kvs : List (Key × D)}, KvR F μ H vk kvs → (valV vk k).isSome = (valD kvs k).isSome
  | _, _, .nil => rfl
  | p :: vk, q :: kvs, .cons h r => by
    obtain ⟨h1, h2⟩ := h
    by_cases c : q.1 = k
    · have e1 : valD (q :: kvs) k = some q.2 := by simp [valD, List.find?_cons, c]
      have e2 : valV (p :: vk) k = some p.2 := valV_pos (by rw [h1]; exact c)
      rw [e1, e2] <;> rfl
    · have e1 : valD (q :: kvs) k = valD kvs k := by simp [valD, List.find?_cons, c]
      have e2 : valV (p :: vk) k = valV vk k := by
        have : ¬ p.1 = k := by rw [h1]; exact c
        simp [valV, List.find?_cons, this]
      rw [e1, e2]
      exact valV_none r
theorem any_of {k : Key} : ∀ {vk : List (Key × V)} {kvs : List (Key × D)}, KvR F μ H vk kvs → (vk.any fun kv => decide (kv.1 = k)) = (kvs.any fun kv => decide (kv.1 = k))
  | _, _, .nil => rfl
  | p :: vk, q :: kvs, .cons h r => by rw [List.any_cons, List.any_cons, h.1, any_of r]
theorem kvr_map {k : Key} {v : V} {d : D} (hd : RD F μ H v d) : ∀ {vk : List (Key × V)} {kvs : List (Key × D)}, KvR F μ H vk kvs → KvR F μ H (vk.map fun kv => if kv.1 = k then (kv.1, v) else kv) (kvs.map fun kv => if kv.1 = k then (kv.1, d) else kv)
  | _, _, .nil => .nil
  | p :: vk, q :: kvs, .cons h r => by
    refine .cons ?_ (kvr_map hd r)
    obtain ⟨h1, h2⟩ := h
    by_cases c : q.1 = k
    · have c' : p.1 = k := by rw [h1]; exact c
      simp only [if_pos c, if_pos c']
      exact ⟨h1, hd⟩
    · have c' : ¬ p.1 = k := by rw [h1]; exact c
      simp only [if_neg c, if_neg c']
      exact ⟨h1, h2⟩
theorem kvr_snoc {p : Key × V} {q : Key × D} (h : p.1 = q.1 ∧ RD F μ H p.2 q.2) : ∀ {vk : List (Key × V)} {kvs : List (Key × D)}, KvR F μ H vk kvs → KvR F μ H (vk ++ [p]) (kvs ++ [q])
  | _, _, .nil => .cons h .nil
  | _, _, .cons a r => .cons a (kvr_snoc h r)
theorem kvr_put {k : Key} {v : V} {d : D} (hd : RD F μ H v d) {vk : List (Key × V)} {kvs : List (Key × D)} (r : KvR F μ H vk kvs) : KvR F μ H (putK vk k v) (putD kvs k d) := by
  unfold putK putD
  rw [any_of r]
  split
  · exact kvr_map hd r
  · exact kvr_snoc ⟨rfl, hd⟩ r
theorem kvr_merge : ∀ {vm : List (Key × V)} {more : List (Key × D)} {vk : List (Key × V)} {kvs : List (Key × D)}, KvR F μ H vm more → KvR F μ H vk kvs → KvR F μ H (mergeK vk vm) (mergeD kvs more)
  | _, _, _, _, .nil, r => r
  | p :: vm, q :: more, vk, kvs, .cons h t, r => by
    obtain ⟨h1, h2⟩ := h
    unfold mergeK mergeD
    rw [List.foldl_cons, List.foldl_cons, h1]
    exact kvr_merge t (kvr_put h2 r)
theorem kvr_mv {F' : Fx} {μ' : List Addr} {H' : Hp} (m : Mv F μ H F' μ' H') {vk : List (Key × V)} {kvs : List (Key × D)} (r : KvR F μ H vk kvs) : KvR F' μ' H' vk kvs := Paired.mapP r fun _ _ z => ⟨z.1, z.2.mv m⟩
theorem dic_at {v : V} {d : D} {kvs : List (Key × D)} (s : RS F μ H S) (r : RD F μ H v d) (e : dicOf S d = some kvs) : ∃ n a vk, d = .cell n ∧ v = .ref a ∧ μ[n]? = some a ∧ S[n]? = some (.dic kvs) ∧ H a = some (.dK vk) ∧ KvR F μ H vk kvs := by
  cases r with
  | @cell a n ea =>
    have e : (match S[n]? with | some (Cell.dic kvs) => some kvs | _ => none) = some kvs := e
    cases q : S[n]? with
    | none => rw [q] at e; exact nomatch e
    | some c =>
      rw [q] at e
      cases c with
      | dic kvs' =>
        cases e
        obtain ⟨vk, h1, h2⟩ := s.at_ n a _ ea q
        exact ⟨n, a, vk, rfl, rfl, ea, q, h1, h2⟩
      | _ => exact nomatch e
  | _ => exact nomatch e
/-- a reserved thing as a cell -/
theorem RS.asCellG {p : Addr} {c : Cell} (r : RS (F.hold p) μ H S) (hx : p ∉ F.ξ) (hc : CellOk F (μ ++ [p]) H p c) : RS F (μ ++ [p]) H (S ++ [c]) := by
  have np := (r.xi p List.mem_cons_self).1
  refine ⟨by rw [List.length_append, List.length_append, r.len] <;> rfl, ?_, fun n a c' e1 e2 => ?_, fun a ha => ⟨fun z => ?_, (r.xi a (List.mem_cons_of_mem _ ha)).2⟩⟩
  · refine List.nodup_append.mpr ⟨r.nd, by simp, fun a ha b hb => ?_⟩
    rw [List.mem_singleton.mp hb]
    rintro rfl
    exact np ha
  · by_cases hn : n < μ.length
    · rw [List.getElem?_append_left hn] at e1
      rw [List.getElem?_append_left (by rw [← r.len]; exact hn)] at e2
      exact (r.at_ n a c' e1 e2).mv .asCell rfl
    · have hn' : n = μ.length := by
        have q := (List.getElem?_eq_some_iff.mp e1).1
        rw [List.length_append, List.length_singleton] at q
        omega
      subst hn'
      rw [List.getElem?_append_right (Nat.le_refl _), Nat.sub_self] at e1
      rw [List.getElem?_append_right (by rw [r.len]; exact Nat.le_refl _), r.len, Nat.sub_self] at e2
      cases e1; cases e2
      exact hc
  · rcases List.mem_append.mp z with z | z
    · exact (r.xi a (List.mem_cons_of_mem _ ha)).1 z
    · rw [List.mem_singleton.mp z] at ha
      exact hx ha
end
section
variable {X : Cx} {W : WX} {tg e a b c o i : Expr} {es : List Expr} {mo mi ma mb mc m : ME} {mr : MA} {pos p p1 p2 p3 : Pos}
/-- d[k] -/
def gDIx : Sto → D → D → Option D := fun S x y => (dicOf S x).bind fun kvs => (keyD y).bind fun k => valD kvs k
/-- {} -/
def mDNew : ME := fun _ S => .ok (.cell S.length) (S ++ [.dic []])
/-- {k: v, ..} -/
abbrev MPs := Rho → Sto → Res (List (D × D))
def mPNil : MPs := fun _ S => .ok [] S
def mPCons (k v : ME) (r : MPs) : MPs := fun ρ S => (k ρ S).bind fun x S1 => (v ρ S1).bind fun y S2 => (r ρ S2).bind fun xs S3 => .ok ((x, y) :: xs) S3
def PrR (F : Fx) (μ : List Addr) (H : Hp) : List (V × V) → List (D × D) → Prop := Paired fun p q => RD F μ H p.1 q.1 ∧ RD F μ H p.2 q.2
structure DPs (X : Cx) (W : WX) (pos : Pos) (keys : List (Option Expr)) (values : List Expr) (m : MPs) : Prop where
  ex : ∃ trs, PPs X pos keys values trs ∧ ∀ ξ μ σ H ρ S Q, RG (fx X ξ) μ H σ ρ → RS (fx X ξ) μ H S → WR (fx X ξ) (PrR (fx X ξ)) (m ρ S) Q (fun cls dd H' => W cls dd σ H') μ H → tPairs trs σ H Q
theorem dps_nil : DPs X W pos [] [] mPNil := ⟨_, pps_nil, fun ξ μ σ H ρ S Q g s h => h [] μ H .refl s .nil⟩
theorem dps_cons {ks : List (Option Expr)} {vs : List Expr} {mr : MPs} (hk : DE X W a ma) (hv : DE X W b mb) (hr : DPs X W pos ks vs mr) : DPs X W pos (some a :: ks) (b :: vs) (mPCons ma mb mr) := by
  obtain ⟨ta, pa, ka⟩ := hk
  obtain ⟨tb, pb, kb⟩ := hv
  obtain ⟨tr, pr, kr⟩ := hr
  refine ⟨_, pps_cons pa pb pr, fun ξ μ σ H ρ S Q g s h => ka ξ μ σ H ρ S _ g s (WR.bind h fun x S1 v μ1 H1 u1 s1 r1 h1 => ?_)⟩
  refine kb ξ μ1 σ H1 ρ S1 _ (g.up u1) s1 (WR.bind h1 fun y S2 w μ2 H2 u2 s2 r2 h2 => ?_)
  refine kr ξ μ2 σ H2 ρ S2 _ (g.up (u1.trans u2)) s2 (WR.bind h2 fun ds S3 vs μ3 H3 u3 s3 r3 h3 => ?_)
  exact h3 _ μ3 H3 .refl s3 (.cons ⟨r1.up (u2.trans u3), r2.up u3⟩ r3)
def keysD : List (D × D) → Option (List (Key × D))
  | [] => some []
  | (k, v) :: r => (keyD k).bind fun k => (keysD r).map ((k, v) :: ·)
theorem keysD_of {F : Fx} {μ : List Addr} {H : Hp} : ∀ {ps : List (V × V)} {ds : List (D × D)} {kvs : List (Key × D)}, PrR F μ H ps ds → keysD ds = some kvs → ∃ vk : List (Key × V), ps = vk.map (fun kv => (kV kv.1, kv.2)) ∧ KvR F μ H vk kvs ∧ vk.length = kvs.length
  | _, _, kvs, .nil, e => by cases e; exact ⟨[], rfl, .nil, rfl⟩
  | p :: ps, (k, d) :: ds, kvs, .cons h r, e => by
    obtain ⟨h1, h2⟩ := h
    have e : (keyD k).bind (fun k => (keysD ds).map ((k, d) :: ·)) = some kvs := e
    cases q1 : keyD k with
    | none => rw [q1] at e; exact nomatch e
    | some k' =>
      cases q2 : keysD ds with
      | none => rw [q1, q2] at e; exact nomatch e
      | some more =>
        rw [q1, q2] at e; cases e
        obtain ⟨vk, e1, e2, e3⟩ := keysD_of r q2
        refine ⟨(k', p.2) :: vk, ?_, .cons ⟨rfl, h2⟩ e2, by rw [List.length_cons, List.length_cons, e3]⟩
        rw [List.map_cons, e1, ← keyD_of h1 q1]
def mDisp (m : MPs) : ME := fun ρ S => (m ρ S).bind fun ds S1 => match keysD ds with
  | some kvs => if kvs.length ≤ 15 then .ok (.cell S1.length) (S1 ++ [.dic (mergeD [] kvs)]) else .bad
  | none => .bad
theorem d_disp {keys : List (Option Expr)} {values : List Expr} {m : MPs} (h : DPs X W pos keys values m) (hall : keys.all (·.isSome) = true := by rfl) (hl : keys.length = values.length := by rfl) (h0 : keys ≠ [] := by exact List.cons_ne_nil _ _) (h15 : keys.length ≤ 15 := by decide) : DE X W (.Dict keys values pos) (mDisp m) := by
  obtain ⟨trs, ps, kp⟩ := h
  refine ⟨_, pe_disp ps hall hl h0 h15, fun ξ μ σ H ρ S Q g s h => fun p hp => ?_⟩
  have m0 : Mv (fx X ξ) μ H ((fx X ξ).hold p) μ (upd H p (.dK [])) := .holds hp
  have s1 : RS ((fx X ξ).hold p) μ (upd H p (.dK [])) S := s.holds hp
  have n0 : p ∉ μ := s.out hp
  refine kp (p :: ξ) μ σ (upd H p (.dK [])) ρ S _ (g.mv m0) s1 ?_
  unfold mDisp at h
  cases e : m ρ S with
  | bad => rw [e] at h; exact h.elim
  | exc cc fs S1 =>
    rw [e] at h
    have h : ∀ cls dd μ' H', Up μ H μ' H' → RS (fx X ξ) μ' H' S1 → XR (fx X ξ) μ' H' cls dd cc fs → W cls dd σ H' := h
    intro cls dd μ' H' u s' x
    have u' : Up μ H μ' H' := ⟨u.pre, fun a h1 h2 => by
      have := u.new a h1 h2
      by_cases c : a = p
      · rw [c]; exact hp
      · rw [upd_ne c] at this; exact this, fun a o' h1 h2 => u.keep a o' (by rw [upd_ne (ne_of_none h1 hp)]; exact h1) h2⟩
    exact h cls dd μ' H' u' (RS.free (F := fx X ξ) (p := p) s') ⟨x.1, x.2.imp id fun ⟨d, vfs, z1, z2, z3, z5, z4⟩ => ⟨d, vfs, z1, z2, z3, fun q => z5 (List.mem_cons_of_mem _ q), Paired.mapP z4 fun _ _ z => ⟨z.1, RD.free (F := fx X ξ) (p := p) _ z.2⟩⟩⟩
  | ok ds S1 =>
    rw [e] at h
    intro vps μ2 H2 u2 s2 r2
    have e2 : H2 p = some (.dK []) := u2.keep _ _ upd_same n0
    have np2 : p ∉ μ2 := (s2.xi p List.mem_cons_self).1
    have h : WE' (fx X ξ) (match keysD ds with | some kvs => if kvs.length ≤ 15 then .ok (.cell S1.length) (S1 ++ [.dic (mergeD [] kvs)]) else .bad | none => .bad) Q (fun cls dd H' => W cls dd σ H') μ H := h
    cases q : keysD ds with
    | none => rw [q] at h; exact h.elim
    | some kvs =>
      rw [q] at h
      simp only at h
      by_cases c : kvs.length ≤ 15
      · rw [if_pos c] at h
        obtain ⟨vk, e3, e4, e5⟩ := keysD_of r2 q
        refine ⟨e2, vk, e3, by omega, ?_⟩
        have s3 : RS ((fx X ξ).hold p) μ2 (upd H2 p (.dK (mergeK [] vk))) S1 := RS.wr (F := fx X ξ) (p := p) s2
        have e6 : KvR ((fx X ξ).hold p) μ2 (upd H2 p (.dK (mergeK [] vk))) (mergeK [] vk) (mergeD [] kvs) := kvr_mv (Mv.wr (F := fx X ξ) (p := p)) (kvr_merge e4 .nil)
        have s4 := RS.asCellG (F := fx X ξ) (c := .dic (mergeD [] kvs)) s3 (s.outX hp) ⟨_, upd_same, kvr_mv (Mv.asCell (F := fx X ξ) (p := p)) e6⟩
        refine h (.ref p) (μ2 ++ [p]) _ ?_ s4 (.cell (by rw [List.getElem?_append_right (by rw [s2.len]; exact Nat.le_refl _), s2.len, Nat.sub_self] <;> rfl))
        obtain ⟨ν, en⟩ := u2.pre
        refine ⟨⟨ν ++ [p], by rw [en, List.append_assoc]⟩, fun a ha hn => ?_, fun a o ha hn => ?_⟩
        · rcases List.mem_append.mp ha with z | z
          · have := u2.new a z hn
            by_cases c : a = p
            · rw [c]; exact hp
            · rw [upd_ne c] at this; exact this
          · rw [List.mem_singleton.mp z]; exact hp
        · rw [upd_ne (ne_of_none ha hp)]
          exact u2.keep a o (by rw [upd_ne (ne_of_none ha hp)]; exact ha) hn
      · rw [if_neg c] at h; exact h.elim
/-- d[k] = v -/
def mSetDx (m o i : ME) : MS := fun ρ S => ofRes (m ρ S) ρ fun d S1 => ofRes (o ρ S1) ρ fun x S2 => ofRes (i ρ S2) ρ fun y S3 => match x with
  | .cell n => match S3[n]?, keyD y with
    | some (.dic kvs), some k => if kvs.length < 16777216 then .nx ρ (S3.set n (.dic (putD kvs k d))) else .bad
    | _, _ => .bad
  | _ => .bad
end
/-! ### dict comprehensions -/
/-! ### what they do -/
section
variable {S : Sto} {ρ : Rho} {Q : D → Sto → Prop} {N B C : Rho → Sto → Prop} {R : D → Sto → Prop} {E : EX} {EO : EXO}
@[simp] theorem keyD_int {i : Int} : keyD (.int i) = some (.inl i) := rfl
@[simp] theorem keyD_str {x : Str} : keyD (.str x) = some (.inr x) := rfl
@[simp] theorem does_dnew : (mDNew ρ S).DoesE E Q = Q (.cell S.length) (S ++ [.dic []]) := rfl
@[simp] theorem does_pnil {Q : List (D × D) → Sto → Prop} : (mPNil ρ S).DoesE E Q = Q [] S := rfl
@[simp] theorem does_pcons {k v : ME} {r : MPs} {Q : List (D × D) → Sto → Prop} : (mPCons k v r ρ S).DoesE E Q = (k ρ S).DoesE E fun x S1 => (v ρ S1).DoesE E fun y S2 => (r ρ S2).DoesE E fun xs S3 => Q ((x, y) :: xs) S3 := by
  unfold mPCons
  rw [does_bind]; congr 1; funext x S1
  rw [does_bind]; congr 1; funext y S2
  rw [does_bind] <;> rfl
@[simp] theorem does_disp {m : MPs} : (mDisp m ρ S).DoesE E Q = (m ρ S).DoesE E fun ds S1 => match keysD ds with
    | some kvs => kvs.length ≤ 15 ∧ Q (.cell S1.length) (S1 ++ [.dic (mergeD [] kvs)])
    | none => False := by
  unfold mDisp
  rw [does_bind]; congr 1; funext ds S1
  cases keysD ds with
  | none => rfl
  | some kvs =>
    simp only
    by_cases h : kvs.length ≤ 15
    · rw [if_pos h]; simp [h]
    · rw [if_neg h]; simp [h, Res.DoesE]
@[simp] theorem does_setDx {m o i : ME} : (mSetDx m o i ρ S).DoesE EO N R B C = (m ρ S).DoesE (eAt EO ρ) fun d S1 => (o ρ S1).DoesE (eAt EO ρ) fun x S2 => (i ρ S2).DoesE (eAt EO ρ) fun y S3 => match x with
    | .cell n => match S3[n]?, keyD y with
      | some (.dic kvs), some k => kvs.length < 16777216 ∧ N ρ (S3.set n (.dic (putD kvs k d)))
      | _, _ => False
    | _ => False := by
  unfold mSetDx
  rw [does_ofRes]; congr 1; funext d S1
  rw [does_ofRes]; congr 1; funext x S2
  rw [does_ofRes]; congr 1; funext y S3
  cases x with
  | cell n =>
    simp only
    cases S3[n]? with
    | none => rfl
    | some c =>
      cases c with
      | dic kvs =>
        cases keyD y with
        | none => rfl
        | some k =>
          simp only
          by_cases h : kvs.length < 16777216
          · rw [if_pos h]; simp [h]
          · rw [if_neg h]; simp [h, Out.DoesE]
      | _ => rfl
  | _ => rfl
theorem dicOf_cell {n : Nat} {kvs : List (Key × D)} (h : S[n]? = some (.dic kvs)) : dicOf S (.cell n) = some kvs := by
  show (match S[n]? with | some (Cell.dic kvs) => some kvs | _ => none) = _
  rw [h]
theorem gDIx_cell {n : Nat} {kvs : List (Key × D)} {y : D} (h : S[n]? = some (.dic kvs)) : gDIx S (.cell n) y = (keyD y).bind fun k => valD kvs k := by
  unfold gDIx
  rw [dicOf_cell h] <;> rfl
end
end Dm
-- text DmKw
namespace Dm
open PySem L2 PySem.Spec PyProof.Rows
open PySem.W (Frag)
/-! ### constant data -/
mutual
inductive KD (K : Frag) : V → D → Prop
  | non : KD K .non .non
  | bl (b : Bool) : KD K (.bl b) (.bl b)
  | int (i : Int) : KD K (.int i) (.int i)
  | str (x : Str) : KD K (.str x) (.str x)
  | tup {a : Addr} {xs : List V} {ds : List D} : KT K a xs → KDs K xs ds → KD K (.ref a) (.tup ds)
inductive KDs (K : Frag) : List V → List D → Prop
  | nil : KDs K [] []
  | cons {v : V} {vs : List V} {d : D} {ds : List D} : KD K v d → KDs K vs ds → KDs K (v :: vs) (d :: ds)
end
mutual
theorem KD.rd {F : Fx} {μ : List Addr} {H : Hp} : ∀ {v : V} (d : D), KD F.K v d → RD F μ H v d
  | _, .non, h => by cases h; exact .non
  | _, .bl b, h => by cases h; exact .bl b
  | _, .int i, h => by cases h; exact .int i
  | _, .str x, h => by cases h; exact .str x
  | _, .tup ds, h => by
    cases h with
    | tup t r => exact .tup (.inr t) (KDs.rd ds r)
  | _, .lst _, h => by cases h
  | _, .cell _, h => by cases h
  | _, .glo _, h => by cases h
  | _, .exn _ _, h => by cases h
theorem KDs.rd {F : Fx} {μ : List Addr} {H : Hp} : ∀ {vs : List V} (ds : List D), KDs F.K vs ds → RDs F μ H vs ds
  | _, [], h => by cases h; exact .nil
  | _, d :: ds, h => by
    cases h with
    | cons a b => exact .cons (KD.rd d a) (KDs.rd ds b)
end
/-- the name stands for this -/
def GlK (K : Frag) (mg : Str → Option Value) (x : Str) (d : D) : Prop := ∃ u v, mg x = some u ∧ RelV v u ∧ KD K v d
theorem GlK.glD {X : Cx} {K : Frag} {mg : Str → Option Value} {x : Str} {d : D} (h : GlK K mg x d) (hK : X.K = K := by rfl) (hg : X.mg = mg := by rfl) : GlD X x d := by
  obtain ⟨u, v, h1, h2, h3⟩ := h
  exact ⟨u, v, by rw [hg]; exact h1, h2, fun ξ μ H => KD.rd (F := fx X ξ) d (by show KD X.K v d; rw [hK]; exact h3)⟩
theorem kt_mk {K : Frag} {a : Addr} {od : Option Addr} {its : Array Value} {n : Nat} {sl : Array (Option Value)} {xs : List V} (h : K.lookup a = some ⟨.type "tuple", od, .seq its n, sl⟩) (hz : its.size ≤ 1000) (r : Vals xs its.toList) : KT K a xs :=
  ⟨_, its, n, h, rfl, rfl, by rw [sizeLine_eq]; omega, r⟩
/-! ### defs with defaults -/
def mCallD (f : List D → Sto → Res D) (n q : Nat) (perm : List Nat) (dd : List D) (a k : MA) : ME := fun ρ S => (a ρ S).bind fun xs S1 => (k ρ S1).bind fun zs S2 => if xs.length = n ∧ zs.length = q then f (perm.filterMap ((xs ++ zs ++ dd)[·]?)) S2 else .bad
section
variable {S : Sto} {ρ : Rho} {Q : D → Sto → Prop} {E : EX} {EO : EXO}
@[simp] theorem does_callD {f : List D → Sto → Res D} {n q : Nat} {p : List Nat} {dd : List D} {a k : MA} : (mCallD f n q p dd a k ρ S).DoesE E Q = (a ρ S).DoesE E fun xs S1 => (k ρ S1).DoesE E fun zs S2 => (xs.length = n ∧ zs.length = q) ∧ (f (p.filterMap ((xs ++ zs ++ dd)[·]?)) S2).DoesE E Q := by
  unfold mCallD
  rw [does_bind]
  congr 1
  funext xs S1
  rw [does_bind]
  congr 1
  funext zs S2
  by_cases h : xs.length = n ∧ zs.length = q
  · rw [if_pos h]; simp [h]
  · rw [if_neg h]; simp [h, Res.DoesE]
end
end Dm
-- text DmSetD
namespace L2
open PySem PySem.Spec PyProof.Rows
end L2
namespace Dm
open PySem L2 PySem.Spec PyProof.Rows
end Dm
-- text Hw3
namespace Dm
open PySem L2
end Dm
-- text DmMisc
namespace Dm
open PySem L2
open PySem.W (Frag)
section
variable {X : Cx} {W : WX} {tg e a b c : Expr} {es : List Expr} {ma mb mc m : ME} {mr : MA} {pos p p1 p2 p3 : Pos}
/-! ### x, y = a, b -/
def mPar (i j : Nat) (a : MA) : MS := fun ρ S => ofRes (a ρ S) ρ fun ds S1 => match ds with
  | [d, d'] => .nx ((ρ.set i (some d)).set j (some d')) S1
  | _ => .bad
/-! ### x, y = a tuple, a list that stands still -/
def tgU (n : Nat) (f : List D → Rho → Option Rho) : D → Rho → Option Rho := fun d ρ => match d with
  | .tup ds => if ds.length = n then f ds ρ else none
  | .lst ds => if ds.length = n then f ds ρ else none
  | _ => none
theorem pgOr {X : Cx} {tg : Expr} {g g' : TG} (h : PG X tg g) (h' : PG X tg g') : PG X tg (fun v σ H Q => g v σ H Q ∨ g' v σ H Q) := ⟨fun pins s σ H v u Q I r hw => hw.elim (h.run pins s σ H v u Q I r) (h'.run pins s σ H v u Q I r)⟩
theorem dg_any {k n : Nat} {f : List D → Rho → Option Rho} {is : List Nat} {tp : Pos} (hc : X.calm = true) (h : DGs X es f is) (hn : (assignEach es X.env).length = n := by rfl) (hst : (assignEach es X.env).findIdx? (·.1) = none := by rfl) : DG X (.Tuple es k tp) (tgU n f) is := by
  obtain ⟨t, p, k⟩ := h
  refine ⟨_, pgOr (pg_tup hc p hn hst) (pg_lst hc p hn hst), fun ξ μ σ H ρ v d ρ' Q g r e kk => ?_⟩
  cases r with
  | @tup a xs ds fz r =>
    unfold tgU at e
    by_cases c : ds.length = n
    · simp only [if_pos c] at e
      exact .inl ⟨a, xs, rfl, fz.sq, by rw [r.length]; exact c, k ξ μ σ H ρ xs ds ρ' Q g r e kk⟩
    · simp only [if_neg c] at e
      exact nomatch e
  | @lst a xs ds fz r =>
    unfold tgU at e
    by_cases c : ds.length = n
    · simp only [if_pos c] at e
      exact .inr ⟨a, xs, rfl, fz.sq, by rw [r.length]; exact c, k ξ μ σ H ρ xs ds ρ' Q g r e kk⟩
    · simp only [if_neg c] at e
      exact nomatch e
  | _ => exact nomatch e
/-! ### sum, max, min of a list of ints -/
def gSum : Sto → List D → Option D := fun S ds => match ds with
  | [d] => (lstOf S d).bind fun es => (intsOf es).map fun ns => .int ns.sum
  | _ => none
theorem c_sum : CallD X (rSum X.K) gSum := by
  intro ξ μ H S ds vs z Q s r e k
  unfold gSum at e
  cases r with
  | nil => exact nomatch e
  | @cons v vs d ds r rr =>
    cases rr with
    | cons _ _ => exact nomatch e
    | nil =>
      simp only at e
      cases q : lstOf S d with
      | none => rw [q] at e; exact nomatch e
      | some es =>
        rw [q] at e
        have e : (intsOf es).map (fun ns => D.int ns.sum) = some z := e
        obtain ⟨a, xs, rfl, h1, h2⟩ := RD.lstS s r q
        cases c : intsOf es with
        | none => rw [c] at e; exact nomatch e
        | some ns =>
          rw [c] at e; cases e
          have ee := intsOf_eq c
          subst ee
          have ev := rdsInts h2
          subst ev
          exact ⟨a, ns, rfl, h1, k _ μ H .refl s (.int _)⟩
/-! ### a kept list some times -/
def mRepC (a b : ME) : MA := fun ρ S => (a ρ S).bind fun x S1 => (b ρ S1).bind fun y S2 => match x, y with
  | .cell n, .int k => match S2[n]? with
    | some (.lst xs) => if k < 1000000 ∧ xs.length * k.toNat ≤ 16777216 ∧ -1000000 < k then .ok (List.replicate k.toNat xs).flatten S2 else .bad
    | _ => .bad
  | _, _ => .bad
/-! ### list(range(a, b)) -/
noncomputable def mLstRg (a : MA) : MA := fun ρ S => (a ρ S).bind fun ds S1 => match ds with
  | [.int i, .int j] => @ite _ (-1000000000000000000 ≤ i ∧ i ≤ 1000000000000000000 ∧ -1000000000000000000 ≤ j ∧ j ≤ 1000000000000000000 ∧ j - i ≤ 16777216) (Classical.propDecidable _) (.ok (rngD i (j - i).toNat) S1) .bad
  | _ => .bad
end
/-! ### what they do -/
section
variable {S : Sto} {ρ : Rho} {N B C : Rho → Sto → Prop} {R : D → Sto → Prop} {E : EX} {EO : EXO}
@[simp] theorem does_par {i j : Nat} {a : MA} : (mPar i j a ρ S).DoesE EO N R B C = (a ρ S).DoesE (eAt EO ρ) fun ds S1 => match ds with
    | [d, d'] => N ((ρ.set i (some d)).set j (some d')) S1
    | _ => False := by
  unfold mPar
  rw [does_ofRes]; congr 1; funext ds S1
  match ds with
  | [] => rfl
  | [_] => rfl
  | [_, _] => rfl
  | _ :: _ :: _ :: _ => rfl
@[simp] theorem tgU_tup {m : Nat} {f : List D → Rho → Option Rho} {ds : List D} : tgU m f (.tup ds) ρ = if ds.length = m then f ds ρ else none := rfl
@[simp] theorem tgU_lst {m : Nat} {f : List D → Rho → Option Rho} {ds : List D} : tgU m f (.lst ds) ρ = if ds.length = m then f ds ρ else none := rfl
@[simp] theorem does_repC {a b : ME} {Q : List D → Sto → Prop} : (mRepC a b ρ S).DoesE E Q = (a ρ S).DoesE E fun x S1 => (b ρ S1).DoesE E fun y S2 => match x, y with
    | .cell n, .int k => ∃ xs, S2[n]? = some (.lst xs) ∧ (k < 1000000 ∧ xs.length * k.toNat ≤ 16777216 ∧ -1000000 < k) ∧ Q (List.replicate k.toNat xs).flatten S2
    | _, _ => False := by
  unfold mRepC
  rw [does_bind]; congr 1; funext x S1
  rw [does_bind]; congr 1; funext y S2
  cases x with
  | cell n =>
    cases y with
    | int k =>
      simp only
      cases e : S2[n]? with
      | none => simp [Res.DoesE]
      | some c =>
        cases c with
        | lst xs =>
          simp only
          by_cases h : k < 1000000 ∧ xs.length * k.toNat ≤ 16777216 ∧ -1000000 < k
          · rw [if_pos h]; simp [h]
          · rw [if_neg h]; simp [h, Res.DoesE]
        | _ => simp [Res.DoesE]
    | _ => rfl
  | _ => cases y <;> rfl
@[simp] theorem does_lstRg {a : MA} {Q : List D → Sto → Prop} : (mLstRg a ρ S).DoesE E Q = (a ρ S).DoesE E fun ds S1 => match ds with
    | [.int i, .int j] => (-1000000000000000000 ≤ i ∧ i ≤ 1000000000000000000 ∧ -1000000000000000000 ≤ j ∧ j ≤ 1000000000000000000 ∧ j - i ≤ 16777216) ∧ Q (rngD i (j - i).toNat) S1
    | _ => False := by
  unfold mLstRg
  rw [does_bind]; congr 1; funext ds S1
  match ds with
  | [] => rfl
  | [d] => cases d <;> rfl
  | [d, d'] =>
    cases d with
    | int i =>
      cases d' with
      | int j =>
        simp only
        by_cases h : -1000000000000000000 ≤ i ∧ i ≤ 1000000000000000000 ∧ -1000000000000000000 ≤ j ∧ j ≤ 1000000000000000000 ∧ j - i ≤ 16777216
        · rw [if_pos h]; simp [h]
        · rw [if_neg h]; simp [h, Res.DoesE]
      | _ => rfl
    | _ => cases d' <;> rfl
  | d :: d' :: _ :: _ => cases d <;> (try rfl) <;> cases d' <;> rfl
theorem gSum_ints {d : D} {ns : List Int} (h : lstOf S d = some (ns.map .int)) : gSum S [d] = some (.int ns.sum) := by
  show (lstOf S d).bind _ = _
  rw [h]
  show (intsOf (ns.map D.int)).map _ = _
  rw [intsOf_map] <;> rfl
end
end Dm
-- text Hw4
namespace Dm
open PySem L2
end Dm
-- text DmBack
namespace Dm
open PySem L2
section
variable {X : Cx} {W : WX} {e : Expr} {m : ME} {te te' : TE} {k : Nat} {p1 p2 p3 pos : Pos}
theorem peOr (h : PE X e te) (h' : PE X e te') : PE X e (fun σ H Q => te σ H Q ∨ te' σ H Q) := ⟨fun pins s σ H Q I hw => hw.elim (h.run pins s σ H Q I) (h'.run pins s σ H Q I)⟩
/-- x[::-1], a tuple or a list -/
def mBackA (m : ME) : ME := fun ρ S => (m ρ S).bind fun x S1 => match x with
  | .tup ds => .ok (.tup ds.reverse) S1
  | x => match lstOf S1 x with
    | some ds => .ok (.lst ds.reverse) S1
    | none => .bad
theorem d_backA (h : DE X W e m) : DE X W (.Subscript e (.Slice none none (some (.UnaryOp .USub (.Constant (.int 1) k p1) p2)) p3) pos) (mBackA m) := by
  obtain ⟨te, pe, ke⟩ := h
  refine ⟨_, peOr (pe_backT pe) (pe_revL pe), fun ξ μ σ H ρ S Q g s h => ?_⟩
  unfold mBackA at h
  cases e1 : m ρ S with
  | bad => rw [e1] at h; exact h.elim
  | exc c fs S1 =>
    rw [e1] at h
    refine .inl (ke ξ μ σ H ρ S _ g s ?_)
    rw [e1]; exact h
  | ok d S1 =>
    rw [e1] at h
    by_cases c : ∃ ds, d = .tup ds
    · obtain ⟨ds, rfl⟩ := c
      refine .inl (ke ξ μ σ H ρ S _ g s ?_)
      rw [e1]
      intro v μ1 H1 u1 s1 r1
      cases r1 with
      | @tup a xs _ f r =>
        exact ⟨a, xs, rfl, f.sq, fun p hp => h _ μ1 _ (u1.trans (.fresh hp)) (s1.fresh hp) (.tup (.inl ⟨.inl upd_same, s1.out hp, s1.outX hp⟩) (r.reverse.up (.fresh hp)))⟩
    · have h : WE' (fx X ξ) (match lstOf S1 d with | some ds => .ok (.lst ds.reverse) S1 | none => .bad) Q (fun cls dd H' => W cls dd σ H') μ H := by
        cases d with
        | tup ds => exact absurd ⟨ds, rfl⟩ c
        | _ => exact h
      refine .inr (ke ξ μ σ H ρ S _ g s ?_)
      rw [e1]
      intro v μ1 H1 u1 s1 r1
      cases q : lstOf S1 d with
      | none => rw [q] at h; exact h.elim
      | some ds =>
        rw [q] at h
        obtain ⟨a, xs, rfl, h3, r3⟩ := RD.lstS s1 r1 q
        exact ⟨a, xs, rfl, h3, fun p hp => h _ μ1 _ (u1.trans (.fresh hp)) (s1.fresh hp) (.lst (.inl ⟨.inl upd_same, s1.out hp, s1.outX hp⟩) (r3.reverse.up (.fresh hp)))⟩
end
section
variable {S : Sto} {ρ : Rho} {Q : D → Sto → Prop} {E : EX} {EO : EXO}
@[simp] theorem does_backA {m : ME} : (mBackA m ρ S).DoesE E Q = (m ρ S).DoesE E fun x S1 => match x with
    | .tup ds => Q (.tup ds.reverse) S1
    | x => match lstOf S1 x with
      | some ds => Q (.lst ds.reverse) S1
      | none => False := by
  unfold mBackA
  rw [does_bind]; congr 1; funext x S1
  cases x with
  | lst ds => rfl
  | cell n => 
    simp only
    cases lstOf S1 (.cell n) <;> rfl
  | _ => rfl
end
end Dm
-- text Hw5
namespace Dm
open PySem L2
end Dm
-- text DmSet
namespace Dm
open PySem L2 PySem.Spec PyProof.Rows
/-! ### set(xs), xs a list of ints, so that it can be sorted -/
section
variable {P : Program} {w : World} {A : Around} {E : Value → Shared → Prop} {s : Shared}
/-- an empty set as it is made -/
def bare (w : World) : Obj := { cls := .type "set", dict := none, data := .set #[] 0 (.fresh 0 0 (!w.params.followText "set-order")) }
end
end Dm
-- text DmSet2
namespace Dm
open PySem L2 PySem.Spec PyProof.Rows
open PySem.W (Frag)
/-! ### the members of a list, ascending, each once -/
def insU (x : Int) : List Int → List Int
  | [] => [x]
  | y :: r => if x < y then x :: y :: r else if x = y then y :: r else y :: insU x r
def uniq : List Int → List Int
  | [] => []
  | x :: r => insU x (uniq r)
section
variable {X : Cx} {W : WX} {e : Expr} {m : ME} {p p1 p2 pos : Pos}
def gSortSet : Sto → D → Option (List D) := fun S d => (lstOf S d).bind fun es => (intsOf es).bind fun ns => if ns.length ≤ 4000 ∧ (uniq ns).length < 64 then some ((uniq ns).map .int) else none
def mSortSet (m : ME) : MA := fun ρ S => (m ρ S).bind fun d S1 => match gSortSet S1 d with
  | some ds => .ok ds S1
  | none => .bad
end
section
variable {S : Sto} {ρ : Rho} {E : EX}
@[simp] theorem does_sortSet {m : ME} {Q : List D → Sto → Prop} : (mSortSet m ρ S).DoesE E Q = (m ρ S).DoesE E fun d S1 => match gSortSet S1 d with
    | some ds => Q ds S1
    | none => False := by
  unfold mSortSet
  rw [does_bind]; congr 1; funext d S1
  cases gSortSet S1 d <;> rfl
end
end Dm
-- text Hw6
namespace Dm
open PySem L2
end Dm
-- text DmIn2
namespace Dm
open PySem L2 PySem.Spec PyProof.Rows
open PySem.W (Frag)
/-! ### x in xs, both nested plain data -/
end Dm
-- text DmTab
namespace Dm
open PySem L2 PySem.Spec PyProof.Rows
open PySem.W (Frag)
/-! ### a dict of the module with text keys, its values plain -/
inductive KEs (K : Frag) (P : Params) : List DictEntry → List (Str × D) → Prop
  | nil : KEs K P [] []
  | cons {e : DictEntry} {r : List DictEntry} {x : Str} {t : Tok} {v : V} {d : D} {kvs : List (Str × D)} : e.key = .str x t → e.hash = PyData.keyHash P x → RelV v e.val → KD K v d → KEs K P r kvs → KEs K P (e :: r) ((x, d) :: kvs)
def tbLook : List (Str × D) → Str → Option D
  | [], _ => none
  | (x, d) :: r, z => if x = z then some d else tbLook r z
theorem KEs.lit {K : Frag} {P : Params} : ∀ {es : List DictEntry} {kvs : List (Str × D)}, KEs K P es kvs → PySem.W.KeysLit P es
  | _, _, .nil => trivial
  | _, _, .cons h1 h2 _ _ r => ⟨⟨_, _, h1, h2⟩, r.lit⟩
theorem KEs.noRef {K : Frag} {P : Params} : ∀ {es : List DictEntry} {kvs : List (Str × D)}, KEs K P es kvs → es.any (·.refKey) = false
  | _, _, .nil => rfl
  | _, _, .cons h1 _ _ _ r => by
    rw [List.any_cons, r.noRef, Bool.or_false]
    unfold DictEntry.refKey
    rw [h1]
theorem KEs.find {K : Frag} {P : Params} (z : Str) : ∀ {es : List DictEntry} {kvs : List (Str × D)}, KEs K P es kvs →
    match tbLook kvs z with
    | some d => ∃ e v, es.find? (·.key.isStr z) = some e ∧ RelV v e.val ∧ KD K v d
    | none => es.find? (·.key.isStr z) = none
  | _, _, .nil => rfl
  | _, _, .cons (e := e) (x := x) (t := t) (v := v) (d := d) (kvs := kvs) h1 h2 h3 h4 r => by
    have ih := KEs.find z r
    unfold tbLook
    by_cases c : x = z
    · rw [if_pos c]
      refine ⟨e, v, ?_, h3, h4⟩
      rw [List.find?_cons_of_pos]
      rw [h1, PySem.W.isStr_of]
      show (x == z) = true
      rw [c]; exact beq_self_eq_true _
    · rw [if_neg c]
      have n : ¬ (e.key.isStr z) = true := by
        rw [h1, PySem.W.isStr_of]
        intro q
        exact c (of_decide_eq_true (by simpa [Value.isStrOf] using q))
      rw [List.find?_cons_of_neg (p := fun q : DictEntry => q.key.isStr z) n]
      exact ih
/-- the name stands for this dict -/
def GlT (K : Frag) (w : World) (mg : Str → Option Value) (x : Str) (kvs : List (Str × D)) : Prop :=
  ∃ d es n, mg x = some (.ref d) ∧ K.lookup d = some ⟨.type "dict", none, .dict es n, #[]⟩ ∧ (d == sysModules) = false ∧ KEs K w.params es.toList kvs
def mTbIn (neg : Bool) (kvs : List (Str × D)) (a : ME) : ME := fun ρ S => (a ρ S).bind fun x S1 => match x with
  | .str z => .ok (.bl (if neg then !(tbLook kvs z).isSome else (tbLook kvs z).isSome)) S1
  | _ => .bad
def mTbIx (kvs : List (Str × D)) (a : ME) : ME := fun ρ S => (a ρ S).bind fun x S1 => match x with
  | .str z => match tbLook kvs z with
    | some d => .ok d S1
    | none => .bad
  | _ => .bad
theorem nsIn_tab {K : Frag} {P : Params} {d : Addr} {es : Array DictEntry} {n : Nat} {kvs : List (Str × D)} (l : K.lookup d = some ⟨.type "dict", none, .dict es n, #[]⟩) (k : KEs K P es.toList kvs) (z : Str) :
    match tbLook kvs z with
    | some dd => ∃ u v, PySem.W.nsIn K d z = some (some u) ∧ RelV v u ∧ KD K v dd
    | none => PySem.W.nsIn K d z = some none := by
  have h := KEs.find z k
  unfold PySem.W.nsIn
  rw [l]
  cases q : tbLook kvs z with
  | some dd =>
    rw [q] at h
    obtain ⟨e, v, h1, h2, h3⟩ := h
    refine ⟨e.val, v, ?_, h2, h3⟩
    simp only [h1]
  | none =>
    rw [q] at h
    have h' : es.toList.find? (·.key.isStr z) = none := h
    simp only [h', k.noRef, Bool.false_eq_true, if_false]
section
variable {X : Cx} {W : WX} {a : Expr} {ma : ME} {pos p : Pos}
theorem tb_name {x : Str} {kvs : List (Str × D)} (hg : Gl X x) (h : GlT X.K X.w X.mg x kvs) (hd : (x == ("__debug__" : Str)) = false := by decide) :
    ∃ (d : Addr) (es : Array DictEntry) (n : Nat), KDict X.K X.w d es n ∧ KEs X.K X.w.params es.toList kvs ∧ PE X (.Name x p) (fun _ H Q => Q (.ref d) H) := by
  obtain ⟨d, es, n, h1, h2, h3, h4⟩ := h
  exact ⟨d, es, n, ⟨h2, h4.lit, h3⟩, h4, pe_glob hg h1 rfl hd⟩
theorem dt_tbnot {x : Str} {kvs : List (Str × D)} (hg : Gl X x) (h : GlT X.K X.w X.mg x kvs) (ha : DE X W a ma) (hd : (x == ("__debug__" : Str)) = false := by decide) (hm : behindInMarks .NotIn (.Name x p) = false := by first | exact nomark _ | rfl) : DT X W (.Compare a [.NotIn] [.Name x p] pos) (mTbIn true kvs ma) := by
  obtain ⟨ta, pa, ka⟩ := ha
  obtain ⟨d, es, n, hD, hK, pn⟩ := tb_name (p := p) hg h hd
  refine ⟨_, pt_cmpR (op_notIn_kd hD) pa pn hm, fun ξ μ σ H ρ S Q g s h => ka ξ μ σ H ρ S _ g s (WR.bind (WT'.val h) fun y S1 v μ1 H1 u1 s1 r1 h1 => ?_)⟩
  cases r1 with
  | str z =>
    have q := nsIn_tab hD.at_ hK z
    cases e : tbLook kvs z with
    | some dd =>
      simp only [e] at q h1
      obtain ⟨u, v', q1, q2, q3⟩ := q
      exact ⟨z, some u, rfl, rfl, q1, h1 _ μ1 H1 .refl s1 (.bl _)⟩
    | none =>
      simp only [e] at q h1
      exact ⟨z, none, rfl, rfl, q, h1 _ μ1 H1 .refl s1 (.bl _)⟩
  | _ => exact h1.elim
theorem d_tbix {x : Str} {kvs : List (Str × D)} (hg : Gl X x) (h : GlT X.K X.w X.mg x kvs) (ha : DE X W a ma) (hd : (x == ("__debug__" : Str)) = false := by decide) (hs : PlainIx a := by exact fun _ _ => rfl) : DE X W (.Subscript (.Name x p) a pos) (mTbIx kvs ma) := by
  obtain ⟨ta, pa, ka⟩ := ha
  obtain ⟨d, es, n, hD, hK, pn⟩ := tb_name (p := p) hg h hd
  refine ⟨_, pe_ix ix_kdict pn pa hs, fun ξ μ σ H ρ S Q g s h => ka ξ μ σ H ρ S _ g s (WR.bind h fun y S1 v μ1 H1 u1 s1 r1 h1 => ?_)⟩
  cases r1 with
  | str z =>
    have q := nsIn_tab hD.at_ hK z
    cases e : tbLook kvs z with
    | some dd =>
      simp only [e] at q h1
      obtain ⟨u, v', q1, q2, q3⟩ := q
      exact ⟨d, z, v', rfl, rfl, ⟨es, n, u, hD.at_, hD.lit, q1, q2⟩, h1 _ μ1 H1 .refl s1 (KD.rd (F := fx X ξ) dd q3)⟩
    | none =>
      simp only [e] at h1
      exact h1.elim
  | _ => exact h1.elim
end
end Dm
-- text DmG
namespace Dm
open PySem L2 PySem.Spec PyProof.Rows
open PySem.W (Frag)
/-! ### room under which no repr is under way -/
structure RoomG (k : Nat) (A : Around) : Prop extends Room k A where
  gd : A.guards = some []
theorem RoomG.mono {j k : Nat} {A : Around} (r : RoomG k A) (h : j ≤ k) : RoomG j A := ⟨r.toRoom.mono h, r.gd⟩
theorem RoomG.deeper {k : Nat} {A : Around} (r : RoomG (k + 1) A) (env : Env) : RoomG k (A.deeper env) := ⟨r.toRoom.deeper env, r.gd⟩
theorem roomG_top {k : Nat} (h : Room k callerA) : RoomG k callerA := ⟨h, rfl⟩
structure FnG (P : Program) (w : World) (K : Frag) (mg : Str → Option Value) (base : Heap) (CX : CXT) (k : Nat) (f : Addr) (fd : FuncData) (ps : List Str) (sp : Sp) : Prop where
  len : ∀ vs H Q E, sp vs H Q E → vs.length = ps.length
  run : ∀ (A : Around) (outer : List Env) (s : Shared) (H : Hp) (args : Args) (us : List Value) (vs : List V) (Q : VK) (E : XK), RoomG k A → Env0 P w K mg base A outer s H → BindsTo s fd args (ps.zip us) → Vals vs us → sp vs H Q E →
    codeAny (model P w) A (.call (.ref f) args) (CR CX outer P w H s Q E) s
section
variable {P : Program} {w : World} {K : Frag} {mg : Str → Option Value} {base : Heap} {CX : CXT} {k : Nat} {f : Addr} {fd : FuncData} {ps N : List Str} {sp : Sp}
theorem FnG.mono {j : Nat} (F : FnG P w K mg base CX j f fd ps sp) (h : j ≤ k) : FnG P w K mg base CX k f fd ps sp := ⟨F.len, fun A outer s H args us vs Q E hr => F.run A outer s H args us vs Q E (hr.mono h)⟩
theorem FnG.imp {sp' : Sp} (F : FnG P w K mg base CX k f fd ps sp) (h : ∀ vs H Q E, sp' vs H Q E → sp vs H Q E) : FnG P w K mg base CX k f fd ps sp' :=
  ⟨fun vs H Q E q => F.len vs H Q E (h _ _ _ _ q), fun A outer s H args us vs Q E hr he hb hv hs => F.run A outer s H args us vs Q E hr he hb hv (h _ _ _ _ hs)⟩
/-- the end of a body, told by how it ended -/
theorem ce_of {X : Cx} {outer : List Env} {s s' : Shared} {H H' : Hp} {σ : L2.St} {Q : VK} {v : V} {u : Value} (J : Inv X [] σ H' s') (hP : X.prog = P) (hw : X.w = w) (hs : X.s_0 = s) (hH : X.H_0 = H) (ho : X.fs = frs outer) (hx : X.ex = []) (rv : RelV v u) (q : Q v H') : CE outer P w H s Q u s' := by
  subst hP hw hs hH
  have un := J.base
  rw [ho, hx] at un
  exact ⟨v, H', J.os, J.bare, un, J.hok, rv, q⟩
/-- a def by its body -/
theorem fng_body {name qual : Str} {params : Arguments} {body : List Stmt} {scope : Scope} {dV kV doc pm cdv ct oc : Value} {an od : Option Addr} {osl : Array (Option Value)} (lk : K.lookup f = some ⟨oc, od, .func (PySem.W.fnOf name qual params body scope dV kV doc pm an cdv ct), osl⟩)
    (hcd : PySem.W.codeIn K cdv qual = true) (S : FnScope N ps scope) (len : ∀ vs H Q E, sp vs H Q E → vs.length = ps.length)
    (hbody : ∀ (A : Around) (outer : List Env) (s : Shared) (H : Hp) (vs : List V) (Q : VK) (E : XK), RoomG k (A.deeper (envOfC qual scope s.heap.objs.size f cdv)) → sp vs H Q E →
      ∃ t, PSs (cxOf CX P w K mg base N qual scope f cdv A outer s H E) body t ∧ t { nx := fun _ H' => Q .non H', rt := Q } (L2.start N vs) H) :
    FnG P w K mg base CX (k + 1) f (PySem.W.fnOf name qual params body scope dV kV doc pm an cdv ct) ps sp where
  len := len
  run A outer s H args us vs Q E hr e0 hb r hsp := by
    have up : ∀ b o, base.get? b = some o → s.heap.get? b = some o := fun b o e => (e0.bs b o e).1
    have known : ∀ y ∈ ps.zip us, scope.names.lookup y.1 = some .local ∨ (scope.names.lookup y.1 = some .cell ∧ ((cellsFrom (s.heap.objs.size + 1) scope.names []).lookup y.1).isSome = true) := by
      rintro ⟨n, v⟩ hy
      exact (S.par n (List.of_mem_zip hy).1).imp id fun q => ⟨q, PySem.W.cellsFrom_some _ _ _ (.inl q)⟩
    obtain ⟨t, ht, hq⟩ := hbody A outer s H vs Q E (hr.deeper _) hsp
    refine codeAny_call_function hr.toRoom.depth (e0.mod.kin.keeps up _ _ lk) rfl S.co S.gen rfl (PySem.W.codeRec_of (e0.mod.kin.keeps up) hcd) (hb _ _ _ _ (wpAny_newFunctionEnv_cells S.kind known ?_))
    rintro env rfl s1 x
    refine ⟨(e0.mod.nolimit.keeps up).keeps x.toInCall.keep, codeAny_func (wpAny_mono (ht.run [] s1 (L2.start N vs) H _ (inv_start S hr.toRoom.hd e0 (len _ _ _ _ hsp) r x) hq) ?_ fun _ _ hs => hs)⟩
    intro fl s' hs
    match fl, hs with
    | .ret u, ⟨v, σ', H', J, rv, q⟩ => exact ce_of (outer := outer) J rfl rfl rfl rfl rfl rfl rv q
    | .next, ⟨σ', H', J, q⟩ => exact ce_of (outer := outer) (v := V.non) (u := Value.none) J rfl rfl rfl rfl rfl rfl rfl q
    | .brk, ⟨_, _, _, q⟩ => exact False.elim q
    | .cont, ⟨_, _, _, q⟩ => exact False.elim q
theorem fung_ok {x qual : Str} {st : Stmt} (F : Fun K x qual st f fd) (S : FnScope N ps (defScope st)) (len : ∀ vs H Q E, sp vs H Q E → vs.length = ps.length)
    (hbody : ∀ (cdv : Value) (A : Around) (outer : List Env) (s : Shared) (H : Hp) (vs : List V) (Q : VK) (E : XK), RoomG k (A.deeper (envOfC qual (defScope st) s.heap.objs.size f cdv)) → sp vs H Q E →
      ∃ t, PSs (cxOf CX P w K mg base N qual (defScope st) f cdv A outer s H E) (defBody st) t ∧ t { nx := fun _ H' => Q .non H', rt := Q } (L2.start N vs) H) : FnG P w K mg base CX (k + 1) f fd ps sp := by
  obtain ⟨oc, od, kV, doc, pm, an, cdv, ct, osl, rfl, lk, hcd⟩ := F.ex
  exact fng_body lk hcd S len (hbody cdv)
end
structure FnDG (P : Program) (w : World) (K : Frag) (mg : Str → Option Value) (base : Heap) (k : Nat) (x : Str) (st : Stmt) (ps : List Str) (m : List D → Sto → Res D) : Prop where
  ex : ∃ f fd, mg x = some (.ref f) ∧ Fun K x x st f fd ∧ Binds K fd ps [] ∧ FnG P w K mg base (L2.CX P w) k f fd ps (spD K mg m)
section
variable {X : Cx} {CX : CXT} {k : Nat} {f : Addr} {fd : FuncData} {ps : List Str} {sp : Sp} {dvs : List V} {ds : List Value} {E : L2.St → XK} {x : Str} {p pos : Pos} {e : Expr} {es : List Expr} {t : TA}
theorem run_fnSG {pins : List (Addr × Obj)} {σ : L2.St} {H : Hp} {s : Shared} {Q : VK} {us : List Value} {vs : List V} (F : FnG X.prog X.w X.K X.mg X.base CX k f fd ps sp) (hr : RoomG k X.A) (hb : Binds X.K fd ps ds) (hd : Vals dvs ds) (hx : PassesAt CX X σ (E σ))
    (I : Inv X pins σ H s) (r : Vals vs us) (h : sp (vs ++ dvs) H Q (E σ)) : wpAny (model X.prog X.w) X.A (call (.ref f) us) (EP X pins σ Q) X.xe s := by
  have r2 := r.append hd
  refine wpAny_call (codeAny_mono (F.run X.A X.stack s H ⟨us, []⟩ (us ++ ds) (vs ++ dvs) Q (E σ) hr I.env0 (hb s us I.kIn (r2.length.symm.trans (F.len _ _ _ _ h))) r2 h) fun r s' hq => ?_)
  match r, hq with
  | .error e, q => exact hx pins H s e s' I q
  | .ok (.ret u), q => exact I.after q
  | .ok .next, q => exact False.elim q
  | .ok .brk, q => exact False.elim q
  | .ok .cont, q => exact False.elim q
theorem pe_callSG (F : FnG X.prog X.w X.K X.mg X.base CX k f fd ps sp) (hr : RoomG k X.A) (hg : Gl X x) (hm : X.mg x = some (.ref f)) (hk : PySem.W.keepIn X.K (.ref f) = true) (hb : Binds X.K fd ps ds) (hd : Vals dvs ds) (hx : ∀ σ, PassesAt CX X σ (E σ))
    (ha : PA X (e :: es) t) (hdb : (x == ("__debug__" : Str)) = false := by decide) (he : starEach (e :: es) X.env = (false, eval e X.env) :: starEach es X.env := by rfl) (hpl : (backTo pos (starEach es X.env)).any (·.1) = false := by rfl) :
    PE X (.Call (.Name x p) (e :: es) [] pos) (tCallSD sp dvs E t) where
  run pins s σ H Q I h := wpAny_Call_Name_kw (ld_glob I hg hm (PySem.W.callWith_K (h₀ := X.base) I.ok.mod.kin hk (thn (ha.run pos pins s σ H _ I h) fun us s1 ⟨vs, H1, I1, r, q⟩ => ⟨I1.kIn, run_fnSG F hr hb hd (hx σ) I1 r q⟩) he hpl) hdb)
end
section
variable {P : Program} {w : World} {K : Frag} {mg : Str → Option Value} {base : Heap}
theorem FnDG.mono {j k : Nat} {x : Str} {st : Stmt} {ps : List Str} {m : List D → Sto → Res D} (F : FnDG P w K mg base j x st ps m) (h : j ≤ k) : FnDG P w K mg base k x st ps m :=
  let ⟨f, fd, a, b, c, d⟩ := F; ⟨f, fd, a, b, c, d.mono h⟩
theorem fnd_mkG {x : Str} {st : Stmt} {f : Addr} {fd : FuncData} {N ps : List Str} {k np nN : Nat} {mb : MS} (hm : mg x = some (.ref f)) (F : Fun K x x st f fd) (B : Binds K fd ps []) (S : FnScope N ps (defScope st)) (hnp : ps.length = np) (hnN : N.length = nN)
    (hb : ∀ (cdv : Value) (A : Around) (outer : List Env) (s : Shared) (H : Hp) (E : XK), RoomG k (A.deeper (envOfC x (defScope st) s.heap.objs.size f cdv)) →
      DSs (cxOf (L2.CX P w) P w K mg base N x (defScope st) f cdv A outer s H E) (fun cls d _ H => E cls d H) (defBody st) mb) : FnDG P w K mg base (k + 1) x st ps (mDef np nN mb) := by
  subst hnp hnN
  refine ⟨f, fd, hm, F, B, fung_ok F S (fun vs H Q E h => ?_) (fun cdv A outer s H vs Q E hr h => ?_)⟩
  · obtain ⟨ξ, μ, ds, S0, s0, r0, w0⟩ := h
    unfold mDef at w0
    by_cases c : ds.length = ps.length
    · rw [r0.length]; exact c
    · rw [if_neg c] at w0; exact w0.elim
  · obtain ⟨ξ, μ, ds, S0, s0, r0, w0⟩ := h
    obtain ⟨ts, pt, kt⟩ := hb cdv A outer s H E hr
    refine ⟨ts, pt, ?_⟩
    unfold mDef at w0
    by_cases c : ds.length = ps.length
    · rw [if_pos c] at w0
      refine kt ξ μ _ H _ S0 _ (rg_start r0) s0 ?_
      show WS' ⟨K, mg, ξ⟩ _ _ _ μ H
      rw [c]
      cases e : mb (ds.map some ++ List.replicate (N.length - ps.length) none) S0 with
      | nx ρ S' => rw [e] at w0; exact fun σ μ' H' u s g => w0 _ μ' H' u s .non
      | rt d S' => rw [e] at w0; exact w0
      | exc c fs ρ S' => rw [e] at w0; exact fun cls dd σ μ' H' u s g x => w0 cls dd μ' H' u s x
      | bk ρ S' => rw [e] at w0; exact w0.elim
      | ct ρ S' => rw [e] at w0; exact w0.elim
      | bad => rw [e] at w0; exact w0.elim
    · rw [if_neg c] at w0; exact w0.elim
theorem law_okG {x sp : Str} {st : Stmt} {f : Addr} {fd : FuncData} {k : Nat} {m : List D → Sto → Res D} (hm : mg x = some (.ref f)) (F : Fun K x x st f fd) (G : FnDG P w K mg base k x st [sp] m) (h : LawTrue m) :
    FnG P w K mg base (L2.CX P w) k f fd [sp] (spLaw K) := by
  obtain ⟨f', fd', hm', F', B', G'⟩ := G
  rw [hm] at hm'
  cases hm'
  have e : fd = fd' := by
    obtain ⟨oc, od, kV, doc, pm, an, cdv, ct, osl, e1, lk, hcd⟩ := F.ex
    obtain ⟨oc', od', kV', doc', pm', an', cdv', ct', osl', e1', lk', hcd'⟩ := F'.ex
    rw [lk] at lk'
    have q := Option.some.inj lk'
    injection q with q1 q2 q3 q4
    injection q3
  subst e
  refine G'.imp fun vs H Q E hh => ?_
  obtain ⟨a, ns, rfl, hS, hl, q⟩ := hh
  obtain ⟨S', e⟩ := h ns hl
  refine ⟨[], [], [.lst (ns.map .int)], [], ⟨rfl, .nil, (fun n a c e _ => nomatch e), (fun a h => nomatch h)⟩, .cons (.lst ?_ (rds_ints ns)) .nil, ?_⟩
  · exact hS.imp (fun z => ⟨z, List.not_mem_nil, List.not_mem_nil⟩) id
  · rw [e]
    intro v μ' H' u s r
    cases r
    exact q H'
end
section
variable {X : Cx} {W : WX} {tg e a b c : Expr} {es : List Expr} {kws : List Keyword} {kw : Keyword} {st : Stmt} {sts ts : List Stmt} {ma mb mc m : ME} {mr mk : MA} {m1 m2 : MS} {pos p p1 p2 p3 kpos : Pos} {nm : Option Str}
theorem d_callG {j k : Nat} {x : Str} {ps : List Str} {f : List D → Sto → Res D} (F : FnDG X.prog X.w X.K X.mg X.base j x st ps f) (hr : RoomG k X.A) (tk : Takes X W) (ha : DA X W (e :: es) mr) (hj : j ≤ k := by decide) (hg : Gl X x := by rfl)
    (hdb : (x == ("__debug__" : Str)) = false := by decide) (he : starEach (e :: es) X.env = (false, eval e X.env) :: starEach es X.env := by rfl) (hpl : (backTo pos (starEach es X.env)).any (·.1) = false := by rfl) :
    DE X W (.Call (.Name x p) (e :: es) [] pos) (mCall f mr) := by
  obtain ⟨fa, fd, hm, Fu, B, G⟩ := F
  obtain ⟨ta, pa, ka⟩ := ha
  refine ⟨_, pe_callSG G (hr.mono hj) hg hm Fu.kp B .nil (fun σ => passAt tk σ) pa hdb he hpl, fun ξ μ σ H ρ S Q g s h => ka ξ μ σ H ρ S _ g s (WR.bind h fun xs S1 vs μ1 H1 u1 s1 r1 h1 => ?_)⟩
  rw [List.append_nil]
  exact ⟨ξ, μ1, xs, S1, s1, r1, h1⟩
end
end Dm
-- text DmGEnd
namespace Dm
open PySem L2 PySem.Spec PyProof.Rows
open PySem.W (Frag)
/-- of all addresses the script's alone may be tracked, frozen, and then the written part does not know it -/
def Lone (K : Frag) (a : Addr) (H : Hp) : Prop := ∀ b, H b = none ∨ (b = a ∧ K.lookup a = none ∧ ∃ o xs, H b = some (.frz o (.lst xs)))
section
variable {P : Program} {w : World} {K : Frag} {mg mb : Str → Option Value} {k : Nat} {fa a : Addr} {fd : FuncData} {x : Str} {s : Shared} {vs : List Value} {ns : List Int} {H : Hp}
theorem Lone.free (L : Lone K a H) (KX : K.In s.heap) {b : Addr} {o : Obj} (h : K.lookup b = some o) : H b = none := by
  rcases L b with q | ⟨rfl, q, _⟩
  · exact q
  · rw [q] at h; cases h
theorem Lone.dic (L : Lone K a H) (ha : s.heap.get? a = some { cls := .type "list", data := .seq vs.toArray }) {b : Addr} {o : Obj} {es : Array DictEntry} {n : Nat} (h : s.heap.get? b = some o) (hd : o.data = .dict es n) : H b = none := by
  rcases L b with q | ⟨rfl, _, _⟩
  · exact q
  · rw [ha] at h
    cases h
    cases (show Data.seq vs.toArray _ = Data.dict es n from hd)
theorem Lone.nsp (L : Lone K a H) (ha : s.heap.get? a = some { cls := .type "list", data := .seq vs.toArray }) {b : Addr} {m : Str → Option Value} (h : s.heap.Ns b m) : (hidT s.heap H).Ns b m := by
  obtain ⟨o, es, ep, h1, h2, h3⟩ := h
  exact ⟨o, es, ep, hidT_get h1 (L.dic ha h1 h2), h2, h3⟩
/-- the call of the law, from an abstract heap -/
theorem lone_call (L : Lone K a H) (KX : K.In s.heap) (hns : s.heap.Ns mainGlobals mg) (hb : s.heap.Ns builtinsNs mb) (hbb : ∀ x : Str, x ≠ "__name__" → mb x = bootBuiltins x) (hlim : s.heap.NoLimit) (hg : s.gens = #[])
    (ha : s.heap.get? a = some { cls := .type "list", data := .seq vs.toArray }) (hr : RoomG k callerA) (F : ∀ base : Heap, K.In base → base.Ns mainGlobals mg → FnG P w K mg base (L2.CX P w) k fa fd [x] (spLaw K))
    (hbind : ∀ (s : Shared) (u : Value), BindsTo s fd ⟨[u], []⟩ [(x, u)]) (hS : SqL K H a (ns.map V.int)) (hl : ns.length ≤ 63) (hok : HOk P w H s.heap) :
    codeAny (model P w) callerA (.call (.ref fa) ⟨[.ref a], []⟩) (fun r s' => r = .ok (.ret (.bool true)) ∧ OldK s.heap s'.heap ∧ s'.os = s.os ∧ AllBare s'.gens) s := by
  have hK : K.In (hidT s.heap H) := fun b o e => hidT_get (KX b o e) (L.free KX e)
  obtain ⟨mc, l1, l2⟩ := hlim
  have e0 : Env0 P w K mg (hidT s.heap H) callerA [] s H := {
    frames := rfl
    mod := ⟨hK, L.nsp ha hns, ⟨mb, L.nsp ha hb, hbb⟩, ⟨mc, L.nsp ha l1, l2⟩⟩
    bs := fun b o e => of_hidT e
    bsz := Nat.le_of_eq (hidT_size _ _)
    funs := trivial
    frf := fun b hb => absurd (show b ∈ ([] : List Addr) from hb) List.not_mem_nil
    hok := hok
    bare := .of_eq hg }
  have sp : spLaw K [.ref a] H (fun v _ => v = .bl true) fun _ _ _ => False := ⟨a, ns, rfl, hS, hl, fun _ => rfl⟩
  refine codeAny_mono ((F _ hK (L.nsp ha hns)).run callerA [] s H ⟨[.ref a], []⟩ [.ref a] [.ref a] _ _ hr e0 (hbind s (.ref a)) (.cons rfl .nil) sp) ?_
  intro r s' h
  match r, h with
  | .error e, h => exact (cx_no h).elim
  | .ok .next, h => exact False.elim h
  | .ok .brk, h => exact False.elim h
  | .ok .cont, h => exact False.elim h
  | .ok (.ret u), ⟨v, H', os, bare, un, hok', rv, q⟩ =>
    obtain rfl : v = .bl true := q
    obtain rfl : u = Value.bool true := rv
    refine ⟨rfl, OldK.of_keep fun b o e => ?_, os, bare⟩
    rcases L b with q | ⟨_, _, ob, xs, q⟩
    · exact un.keep b o e q (fun z => absurd (show b ∈ ([] : List Addr) from z) List.not_mem_nil) List.not_mem_nil
    · have e1 := (hok b _ q).1
      have e2 := (hok' b _ (un.frzs b ob _ q)).1
      rw [e] at e1
      cases e1
      exact e2
/-- the call of the law -/
theorem law_callG (KX : K.In s.heap) (hns : s.heap.Ns mainGlobals mg) (hb : s.heap.Ns builtinsNs mb) (hbb : ∀ x : Str, x ≠ "__name__" → mb x = bootBuiltins x) (hlim : s.heap.NoLimit) (hg : s.gens = #[])
    (ha : s.heap.get? a = some { cls := .type "list", data := .seq vs.toArray }) (hi : IntsAre vs ns) (hl : ns.length ≤ 63) (hr : RoomG k callerA) (F : ∀ base : Heap, K.In base → base.Ns mainGlobals mg → FnG P w K mg base (L2.CX P w) k fa fd [x] (spLaw K))
    (hbind : ∀ (s : Shared) (u : Value), BindsTo s fd ⟨[u], []⟩ [(x, u)]) :
    codeAny (model P w) callerA (.call (.ref fa) ⟨[.ref a], []⟩) (fun r s' => r = .ok (.ret (.bool true)) ∧ OldK s.heap s'.heap ∧ s'.os = s.os ∧ AllBare s'.gens) s := by
  have rv := vals_ints hi
  have hz : ns.length ≤ sizeLine := Nat.le_trans hl (by decide)
  by_cases hk : K.lookup a = none
  · let H : Hp := fun b => if b = a then some (.frz { cls := .type "list", data := .seq vs.toArray } (.lst (ns.map V.int))) else none
    have Ha : H a = some (.frz { cls := .type "list", data := .seq vs.toArray } (.lst (ns.map V.int))) := if_pos rfl
    refine lone_call (H := H) (ns := ns) (vs := vs) (fun b => ?_) KX hns hb hbb hlim hg ha hr F hbind (.inl (.inr ⟨_, Ha⟩)) hl fun b u z => ?_
    · by_cases hb : b = a
      · subst hb
        exact .inr ⟨rfl, hk, _, _, Ha⟩
      · exact .inl (if_neg hb)
    · by_cases hb : b = a
      · subst hb
        rw [Ha] at z
        cases z
        exact ⟨ha, by rw [List.length_map]; exact hz, vs, _, rv, ha⟩
      · rw [show H b = none from if_neg hb] at z
        cases z
  · obtain ⟨o, ho⟩ := Option.ne_none_iff_exists'.mp hk
    have e := KX a o ho
    rw [ha] at e
    cases e
    refine lone_call (H := fun _ => none) (ns := ns) (vs := vs) (fun b => .inl rfl) KX hns hb hbb hlim hg ha hr F hbind ?_ hl fun b u z => nomatch z
    exact .inr ⟨_, vs.toArray, _, ho, rfl, rfl, rfl, by rw [List.size_toArray, hi.length]; exact hz, by simpa using rv⟩
end
theorem walkG_of {l : PySem.W.OpenLaw} {k : Nat} {q : Program} {loose : List Str} {XP : (Str → Option Value) → Heap → Prop} {YP : World → Heap → Prop} {d : DefRec} {K : Params → Frag} {x : Str}
    (hn : l.most = some 63) (hdf : d.params.defaults = []) (hr : Room k callerA) (hY : ∀ (w : World) (h : Heap), YP w h → (K w.params).In h)
    (F : ∀ (w : World) (mg : Str → Option Value) (fa : Addr) (h : Heap), (K w.params).In h → h.Ns mainGlobals mg → mg d.name = some (.ref fa) →
      ∃ fd : FuncData, (∀ (s : Shared) (u : Value), BindsTo s fd ⟨[u], []⟩ [(x, u)]) ∧
        ∀ base : Heap, (K w.params).In base → base.Ns mainGlobals mg → FnG l.prog w (K w.params) mg base (L2.CX l.prog w) k fa fd [x] (spLaw (K w.params))) :
    PySem.W.WalkO q loose XP YP l.row.toRowW d [] (fun f vs => PySem.call f vs) := by
  refine Att.attach_call hn hdf fun w s₀ s₁ mg mb fa o pm cd doc a vs ns G Y ho hd hcd hmg hobj hints hlen hg => ?_
  obtain ⟨fd, hb, hF⟩ := F w mg fa _ (hY w _ Y) G.T.g hmg
  exact law_callG (hY w _ Y) G.T.g G.T.b G.T.builtins G.T.nolimit hg hobj hints hlen (roomG_top hr) hF hb
end Dm
-- text DmRepr
namespace Dm
open PySem L2 PySem.Spec PyProof.Rows
open PySem.W (Frag)
/-! ### repr of plain data -/
def reprOk (d : PyData) : Prop := d.showable = true ∧ d.hasDict = false ∧ d.shown.length ≤ sizeLine ∧ d.depth ≤ 64
def rRepr (K : Frag) : List V → Hp → VK → Prop := fun xs H Q => ∃ x d, xs = [x] ∧ Dp K H x d ∧ reprOk d ∧ Q (.str d.shown) H
/-! cells within, their items plain -/
mutual
def toPyC (S : Sto) : D → Option PyData
  | .non => some .none
  | .bl b => some (.bool b)
  | .int i => some (.int i)
  | .str x => some (.str x)
  | .tup ds => (toPysC S ds).map .tuple
  | .lst ds => (toPysC S ds).map .list
  | .cell n => match S[n]? with
    | some (.lst ds) => (toPys ds).map .list
    | _ => none
  | .glo _ => none
  | .exn _ _ => none
def toPysC (S : Sto) : List D → Option (List PyData)
  | [] => some []
  | d :: ds => (toPyC S d).bind fun p => (toPysC S ds).map fun ps => p :: ps
end
section
variable {F : Fx} {μ : List Addr} {H : Hp} {S : Sto}
mutual
theorem dpC_of (s : RS F μ H S) : ∀ {v : V} (d : D) {p : PyData}, RD F μ H v d → toPyC S d = some p → Dp F.K H v p
  | _, .non, p, r, e => by cases r; cases e; exact .non
  | _, .bl b, p, r, e => by cases r; cases e; exact .bl b
  | _, .int i, p, r, e => by cases r; cases e; exact .int i
  | _, .str x, p, r, e => by cases r; cases e; exact .str x
  | _, .tup ds, p, r, e => by
    cases r with
    | tup f r =>
      unfold toPyC at e
      cases q : toPysC S ds with
      | none => rw [q] at e; exact nomatch e
      | some ps =>
        rw [q] at e; cases e
        exact .tup f.sq (dpsC_of s ds r q)
  | _, .lst ds, p, r, e => by
    cases r with
    | lst f r =>
      unfold toPyC at e
      cases q : toPysC S ds with
      | none => rw [q] at e; exact nomatch e
      | some ps =>
        rw [q] at e; cases e
        exact .lst f.sq (dpsC_of s ds r q)
  | _, .cell n, p, r, e => dpS_of s r (by unfold toPyC at e; unfold toPyS; exact e)
  | _, .glo _, p, r, e => nomatch e
  | _, .exn _ _, p, r, e => nomatch e
theorem dpsC_of (s : RS F μ H S) : ∀ {vs : List V} (ds : List D) {ps : List PyData}, RDs F μ H vs ds → toPysC S ds = some ps → DpAll F.K H vs ps
  | _, [], ps, r, e => by cases r; cases e; exact .nil
  | _, d :: ds, ps, r, e => by
    cases r with
    | cons a b =>
      unfold toPysC at e
      cases q : toPyC S d with
      | none => rw [q] at e; exact nomatch e
      | some p =>
        rw [q] at e
        cases q' : toPysC S ds with
        | none => rw [q'] at e; exact nomatch e
        | some ps' =>
          rw [q'] at e; cases e
          exact .cons (dpC_of s d a q) (dpsC_of s ds b q')
end
end
open Classical in
noncomputable def gRepr : Sto → List D → Option D := fun S ds => match ds with
  | [x] => match toPyC S x with
    | some d => if reprOk d then some (.str d.shown) else none
    | none => none
  | _ => none
section
variable {X : Cx}
theorem cr_repr {k : Nat} (hr : RoomG k X.A) : CallR X (.builtin "repr") (rRepr X.K) := by
  intro pins s σ H xs us Q I r h
  obtain ⟨x, d, rfl, hd, ⟨h1, h2, h3, h4⟩, q⟩ := h
  obtain ⟨u, rfl, rx⟩ := vals1 r
  obtain ⟨as, rd⟩ := Dp.reads I d x u hd rx
  have hu : X.A.units + (d.depth + 1) < cLine := by
    have := hr.toRoom.un
    omega
  have done : ∀ (h' : Heap) (t : Tok) (tk : Nat), (∀ b o, s.heap.get? b = some o → h'.get? b = some o) → EP X pins σ Q (.str d.shown t) { s with heap := h', toks := tk } := fun h' t tk hk => ⟨.str d.shown, H, I.kept hk, ⟨t, rfl⟩, q⟩
  cases rd with
  | none =>
    simp only [PyData.shown] at done
    exact PySem.P.repr_of_none (done s.heap _ _ fun _ _ e => e)
  | bool b =>
    simp only [PyData.shown] at done
    exact PySem.P.repr_of_bool (done s.heap _ _ fun _ _ e => e)
  | int i t =>
    simp only [PyData.shown] at done
    exact PySem.P.repr_of_int (by simpa [PyData.showable] using h1) (done s.heap _ _ fun _ _ e => e)
  | str y t =>
    simp only [PyData.shown] at done h3
    exact PySem.P.repr_of_str (done s.heap _ _ fun _ _ e => e) h3
  | list a1 a2 a3 a4 => exact repr_of_reads' (.list a1 a2 a3 a4) h1 (fun z => by rw [h2] at z; cases z) hr.gd hu (fun _ _ e => e) (fun h' t tk hk => done h' t tk hk) h3
  | tuple a1 a2 a3 a4 => exact repr_of_reads' (.tuple a1 a2 a3 a4) h1 (fun z => by rw [h2] at z; cases z) hr.gd hu (fun _ _ e => e) (fun h' t tk hk => done h' t tk hk) h3
  | dict a1 a2 a3 a4 a5 => simp only [PyData.hasDict] at h2; cases h2
theorem c_repr : CallD X (rRepr X.K) gRepr := by
  intro ξ μ H S ds vs z Q s r e k
  unfold gRepr at e
  cases r with
  | nil => exact nomatch e
  | @cons v vs d ds r rr =>
    cases rr with
    | cons _ _ => exact nomatch e
    | nil =>
      simp only at e
      cases q : toPyC S d with
      | none => simp only [q] at e; exact nomatch e
      | some p =>
        simp only [q] at e
        split at e
        · rename_i hp
          cases e
          exact ⟨v, p, rfl, dpC_of s d r q, hp, k _ μ H .refl s (.str _)⟩
        · exact nomatch e
end
end Dm
-- text DmPar3
namespace Dm
open PySem L2 PySem.Spec PyProof.Rows
open PySem.W (Frag)
/-! ### x, y, z = a, b, c -/
def mPar3 (i j l : Nat) (a : MA) : MS := fun ρ S => ofRes (a ρ S) ρ fun ds S1 => match ds with
  | [d, d', d''] => .nx (((ρ.set i (some d)).set j (some d')).set l (some d'')) S1
  | _ => .bad
section
variable {S : Sto} {ρ : Rho} {N B C : Rho → Sto → Prop} {R : D → Sto → Prop} {E : EX} {EO : EXO}
@[simp] theorem does_par3 {i j l : Nat} {a : MA} : (mPar3 i j l a ρ S).DoesE EO N R B C = (a ρ S).DoesE (eAt EO ρ) fun ds S1 => match ds with
    | [d, d', d''] => N (((ρ.set i (some d)).set j (some d')).set l (some d'')) S1
    | _ => False := by
  unfold mPar3
  rw [does_ofRes]; congr 1; funext ds S1
  match ds with
  | [] => rfl
  | [_] => rfl
  | [_, _] => rfl
  | [_, _, _] => rfl
  | _ :: _ :: _ :: _ :: _ => rfl
@[simp] theorem does_tbin {neg : Bool} {kvs : List (Str × D)} {a : ME} {Q : D → Sto → Prop} : (mTbIn neg kvs a ρ S).DoesE E Q = (a ρ S).DoesE E fun x S1 => match x with
    | .str z => Q (.bl (if neg then !(tbLook kvs z).isSome else (tbLook kvs z).isSome)) S1
    | _ => False := by
  unfold mTbIn
  rw [does_bind]; congr 1; funext x S1
  cases x <;> rfl
@[simp] theorem does_tbix {kvs : List (Str × D)} {a : ME} {Q : D → Sto → Prop} : (mTbIx kvs a ρ S).DoesE E Q = (a ρ S).DoesE E fun x S1 => match x with
    | .str z => ∃ d, tbLook kvs z = some d ∧ Q d S1
    | _ => False := by
  unfold mTbIx
  rw [does_bind]; congr 1; funext x S1
  cases x with
  | str z =>
    simp only
    cases e : tbLook kvs z with
    | some d => simp
    | none => exact propext ⟨fun h => h.elim, fun ⟨_, h, _⟩ => nomatch h⟩
  | _ => rfl
end
end Dm
-- text Hw7
namespace Dm
open PySem L2
noncomputable section
def m_is_zones : List D → Sto → Res D := mDef 1 2 (mSeq (mIfS (mOr (mNot (mIsi .tup (mVar 0))) (mNot (mChain gLe gLe (mK (.int 1)) (mCallB gLen (mCons (mVar 0) mNil)) (mK (.int 2))))) (mRet (mK (.bl false))) mNop) (mRet (mCallB gAll (mCons (mFz (mLcA (mVar 0) (tgN 1) mYes (mCall m_is_zone (mCons (mVar 1) mNil)) [1])) mNil))))
def m_need_zones : List D → Sto → Res D := mDef 1 1 (mIfS (mNot (mCall m_is_zones (mCons (mVar 0) mNil))) (mRaise "InvalidZones") mNop)
def m_is_part : List D → Sto → Res D := mDef 4 4 (mSeq (mIfS (mOp gEq (mVar 2) (mK (.str "fold"))) (mRet (mAnd (mIsi .str (mVar 3)) (mOp (gIn false) (mVar 3) (mK (.tup [(.str "early"), (.str "late"), (.str "refuse")]))))) mNop) (mSeq (mIfS (mOp gEq (mVar 2) (mK (.str "gap"))) (mRet (mAnd (mIsi .str (mVar 3)) (mOp (gIn false) (mVar 3) (mK (.tup [(.str "ahead"), (.str "behind"), (.str "refuse")]))))) mNop) (mSeq (mIfS (mNot (mCall m_is_integer (mCons (mVar 3) mNil))) (mRet (mK (.bl false))) mNop) (mSeq (mIfS (mOp gEq (mVar 2) (mK (.str "place"))) (mRet (mChain gLe gLt (mK (.int 0)) (mVar 3) (mCallB gLen (mCons (mVar 0) mNil)))) mNop) (mSeq (mIfS (mOp gEq (mVar 2) (mK (.str "minutes"))) (mRet (mChain gLe gLe (mUn gNeg (mK (.int 100000))) (mVar 3) (mK (.int 100000)))) mNop) (mSeq (mIfS (mNot (mChain gLe gLt (mK (.int 0)) (mVar 3) (mCallB gLen (mCons (mVar 1) mNil)))) (mRet (mK (.bl false))) mNop) (mSeq (mIfS (mOp gEq (mVar 2) (mK (.str "point"))) (mRet (mOp gNe (mOp gIx (mVar 1) (mVar 3)) (mK (.str "span")))) mNop) (mRet (mOp gEq (mOp gIx (mVar 1) (mVar 3)) (mVar 2))))))))))
def m_is_step : List D → Sto → Res D := mDef 3 6 (mSeq (mIfS (mOr (mNot (mIsi .tup (mVar 2))) (mOp gEq (mCallB gLen (mCons (mVar 2) mNil)) (mK (.int 0)))) (mRet (mK (.bl false))) mNop) (mSeq (mIfS (mOr (mNot (mIsi .str (mOp gIx (mVar 2) (mK (.int 0))))) (mTbIn true [("read", (.tup [(.str "moment"), (.str "place")])), ("find", (.tup [(.str "reading"), (.str "place"), (.str "fold"), (.str "gap")])), ("offset", (.tup [(.str "moment"), (.str "place")])), ("edition", (.tup [(.str "moment"), (.str "place")])), ("plus", (.tup [(.str "moment"), (.str "span")])), ("less", (.tup [(.str "reading"), (.str "span")])), ("add", (.tup [(.str "point"), (.str "minutes")]))] (mOp gIx (mVar 2) (mK (.int 0))))) (mRet (mK (.bl false))) mNop) (mSeq (mAsg 3 (mTbIx [("read", (.tup [(.str "moment"), (.str "place")])), ("find", (.tup [(.str "reading"), (.str "place"), (.str "fold"), (.str "gap")])), ("offset", (.tup [(.str "moment"), (.str "place")])), ("edition", (.tup [(.str "moment"), (.str "place")])), ("plus", (.tup [(.str "moment"), (.str "span")])), ("less", (.tup [(.str "reading"), (.str "span")])), ("add", (.tup [(.str "point"), (.str "minutes")]))] (mOp gIx (mVar 2) (mK (.int 0))))) (mSeq (mIfS (mOp gNe (mCallB gLen (mCons (mVar 2) mNil)) (mOp gAdd (mCallB gLen (mCons (mVar 3) mNil)) (mK (.int 1)))) (mRet (mK (.bl false))) mNop) (mRet (mCallB gAll (mCons (mFz (mLc (iEnumS (mVar 3)) (tgU 2 (tgCons (tgN 4) (tgCons (tgN 5) tgNil))) mYes (mCall m_is_part (mCons (mVar 0) (mCons (mVar 1) (mCons (mVar 5) (mCons (mOp gIx (mVar 2) (mOp gAdd (mVar 4) (mK (.int 1)))) mNil))))) [4, 5])) mNil)))))))
def m_kind_made : List D → Sto → Res D := mDef 2 2 (mSeq (mIfS (mOp gEq (mOp gIx (mVar 1) (mK (.int 0))) (mK (.str "add"))) (mRet (mOp gIx (mVar 0) (mOp gIx (mVar 1) (mK (.int 1))))) mNop) (mRet (mTbIx [("read", (.str "reading")), ("find", (.str "moment")), ("offset", (.str "span")), ("edition", (.str "moment")), ("plus", (.str "reading")), ("less", (.str "moment"))] (mOp gIx (mVar 1) (mK (.int 0))))))
def m_kinds_of : List D → Sto → Res D := mDef 1 3 (mSeq (mAsg 1 (mNew (mLst (mCons (mK (.str "moment")) mNil)))) (mSeq (mForA (mVar 0) (tgN 2) (mApp (mVar 1) (mCall m_kind_made (mCons (mVar 1) (mCons (mVar 2) mNil))))) (mRet (mVar 1))))
def m_is_program : List D → Sto → Res D := mDef 2 4 (mSeq (mDrop (mCall m_need_zones (mCons (mVar 0) mNil))) (mSeq (mIfS (mOr (mNot (mIsi .tup (mVar 1))) (mOp gGt (mCallB gLen (mCons (mVar 1) mNil)) (mK (.int 8)))) (mRet (mK (.bl false))) mNop) (mSeq (mAsg 2 (mNew (mLst (mCons (mK (.str "moment")) mNil)))) (mSeq (mForA (mVar 1) (tgN 3) (mSeq (mIfS (mNot (mCall m_is_step (mCons (mVar 0) (mCons (mVar 2) (mCons (mVar 3) mNil))))) (mRet (mK (.bl false))) mNop) (mApp (mVar 2) (mCall m_kind_made (mCons (mVar 2) (mCons (mVar 3) mNil)))))) (mRet (mOp gLt (mCallB gLen (mCons (mFz (mLcA (mVar 1) (tgN 3) (mOp gEq (mOp gIx (mVar 3) (mK (.int 0))) (mK (.str "edition"))) (mVar 3) [3])) mNil)) (mK (.int 2))))))))
def m_need_program : List D → Sto → Res D := mDef 2 2 (mIfS (mNot (mCall m_is_program (mCons (mVar 0) (mCons (mVar 1) mNil)))) (mRaise "InvalidProgram") mNop)
def m_kinds : List D → Sto → Res D := mDef 2 2 (mSeq (mDrop (mCall m_need_zones (mCons (mVar 0) mNil))) (mSeq (mDrop (mCall m_need_program (mCons (mVar 0) (mCons (mVar 1) mNil)))) (mRet (mCall m_kinds_of (mCons (mVar 1) mNil)))))
def m_law_bag_of : List D → Sto → Res D := mDef 1 1 (mRet (mNew (mLst (mCons (mCallB gMax2 (mCons (mK (.int 0)) (mCons (mOp gSub (mVar 0) (mK (.int 1000000000000000000))) mNil))) (mCons (mOp gMod (mCallB gInt1 (mCons (mVar 0) mNil)) (mK (.int 2305843009213693951))) (mCons (mK (.int 0)) mNil))))))
def m_law_pick : List D → Sto → Res D := mDef 2 3 (mSeq (mIfS (mOp gGt (mOp gIx (mVar 0) (mK (.int 0))) (mK (.int 0))) (mSeq (mAsg 2 (mOp gMod (mCallB gInt1 (mCons (mOp gIx (mVar 0) (mK (.int 0))) mNil)) (mVar 1))) (mSeq (mSetIx (mOp gFdiv (mOp gIx (mVar 0) (mK (.int 0))) (mVar 1)) (mVar 0) (mK (.int 0))) (mRet (mVar 2)))) mNop) (mSeq (mSetIx (mOp gAdd (mOp gIx (mVar 0) (mK (.int 2))) (mK (.int 1))) (mVar 0) (mK (.int 2))) (mSeq (mAsg 2 (mOp gMul (mOp gAdd (mOp gIx (mVar 0) (mK (.int 1))) (mOp gMul (mK (.int 104729)) (mOp gIx (mVar 0) (mK (.int 2))))) (mOp gAdd (mOp gAdd (mOp gIx (mVar 0) (mK (.int 1))) (mOp gMul (mK (.int 15485863)) (mOp gIx (mVar 0) (mK (.int 2))))) (mK (.int 11))))) (mSeq (mAsg 2 (mOp gMod (mCallB gInt1 (mCons (mVar 2) mNil)) (mK (.int 2305843009213693951)))) (mSeq (mAsg 2 (mOp gAdd (mOp gMul (mVar 2) (mVar 2)) (mOp gMul (mK (.int 7)) (mOp gIx (mVar 0) (mK (.int 2)))))) (mRet (mOp gMod (mCallB gInt1 (mCons (mOp gFdiv (mOp gMod (mCallB gInt1 (mCons (mVar 2) mNil)) (mK (.int 2305843009213693951))) (mK (.int 4099))) mNil)) (mVar 1))))))))
def m_law_any_belt : List D → Sto → Res D := mDef 2 10 (mSeq (mAsg 2 (mCallB gMin2 (mCons (mVar 1) (mCons (mOp gIx (mFz (mLst (mCons (mK (.int 2)) (mCons (mK (.int 3)) (mCons (mK (.int 2)) (mCons (mK (.int 1)) (mCons (mK (.int 3)) (mCons (mK (.int 2)) mNil)))))))) (mCall m_law_pick (mCons (mVar 0) (mCons (mK (.int 6)) mNil)))) mNil)))) (mSeq (mAsg 3 (mOp gIx (mFz (mLst (mCons (mK (.int 1)) (mCons (mK (.int 60)) (mCons (mK (.int 3)) (mCons (mK (.int 600)) (mCons (mK (.int 20)) (mCons (mK (.int 1800)) mNil)))))))) (mCall m_law_pick (mCons (mVar 0) (mCons (mK (.int 6)) mNil))))) (mSeq (mAsg 3 (mCallB gMax2 (mCons (mK (.int 1)) (mCons (mOp gFdiv (mVar 3) (mCallB gMax2 (mCons (mK (.int 1)) (mCons (mOp gSub (mVar 2) (mK (.int 1))) mNil)))) mNil)))) (mSeq (mAsg 4 (mFz (mLc (iRange1 (mCons (mOp gSub (mVar 2) (mK (.int 1))) mNil)) (tgN 9) mYes (mOp gSub (mVar 3) (mOp gMul (mCall m_law_pick (mCons (mVar 0) (mCons (mVar 3) mNil))) (mCall m_law_pick (mCons (mVar 0) (mCons (mK (.int 2)) mNil))))) [9]))) (mSeq (mAsg 5 (mNew (mLst (mCons (mOp gSub (mCall m_law_pick (mCons (mVar 0) (mCons (mOp gSub (mK (.int 1801)) (mCallB gSum (mCons (mVar 4) mNil))) mNil))) (mK (.int 900))) mNil)))) (mSeq (mForA (mVar 4) (tgN 6) (mApp (mVar 5) (mOp gAdd (mOp gIx (mVar 5) (mK (.int (-1)))) (mVar 6)))) (mSeq (mAsg 7 (mOp gAdd (mCallB gSum (mCons (mVar 4) mNil)) (mK (.int 1)))) (mSeq (mAsg 8 (mFz (mLst (mCons (mK (.int 0)) (mCons (mK (.int 1)) (mCons (mK (.int 40)) (mCons (mOp gSub (mK (.int 1000000)) (mVar 7)) (mCons (mCall m_law_pick (mCons (mVar 0) (mCons (mK (.int 2000)) mNil))) (mCons (mK (.int 100)) (mCons (mCall m_law_pick (mCons (mVar 0) (mCons (mOp gSub (mK (.int 1000001)) (mVar 7)) mNil))) mNil)))))))))) (mRet (mTup (mCons (mCallB gTuple (mCons (mVar 5) mNil)) (mCons (mOp gAdd (mVar 7) (mOp gIx (mVar 8) (mCall m_law_pick (mCons (mVar 0) (mCons (mK (.int 7)) mNil))))) mNil))))))))))))
def m_law_any_belts : List D → Sto → Res D := mDef 2 3 (mRet (mCallB gTuple (mCons (mFz (mLc (iRange1 (mCons (mOp gAdd (mK (.int 1)) (mCall m_law_pick (mCons (mVar 0) (mCons (mK (.int 2)) mNil)))) mNil)) (tgN 2) mYes (mCall m_law_any_belt (mCons (mVar 0) (mCons (mVar 1) mNil))) [2])) mNil)))
def m_law_same_v2 : List D → Sto → Res D := mDef 2 2 (mRet (mOp gEq (mCallB gRepr (mCons (mVar 0) mNil)) (mCallB gRepr (mCons (mVar 1) mNil))))
def m_law_spot : List D → Sto → Res D := mDef 3 5 (mSeq (mAsg 3 (mFz (mLc (iRange1 (mCons (mCallB gLen (mCons (mVar 1) mNil)) mNil)) (tgN 4) (mOr (mOp gEq (mOp gIx (mVar 1) (mVar 4)) (mVar 2)) (mAnd (mOp gEq (mVar 2) (mK (.str "point"))) (mOp gNe (mOp gIx (mVar 1) (mVar 4)) (mK (.str "span"))))) (mVar 4) [4]))) (mSeq (mIfS (mOp gEq (mCall m_law_pick (mCons (mVar 0) (mCons (mK (.int 2)) mNil))) (mK (.int 0))) (mRet (mOp gIx (mVar 3) (mK (.int (-1))))) mNop) (mRet (mOp gIx (mVar 3) (mCall m_law_pick (mCons (mVar 0) (mCons (mCallB gLen (mCons (mVar 3) mNil)) mNil)))))))
def m_law_minutes : List D → Sto → Res D := mDef 3 8 (mSeq (mIfS (mOp gEq (mVar 2) (mK (.int 1))) (mRet (mOp gSub (mCall m_law_pick (mCons (mVar 0) (mCons (mK (.int 5)) mNil))) (mK (.int 2)))) mNop) (mSeq (mAsgG (tgU 2 (tgCons (tgN 3) (tgCons (tgN 4) tgNil))) (mOp gIx (mVar 1) (mCall m_law_pick (mCons (mVar 0) (mCons (mCallB gLen (mCons (mVar 1) mNil)) mNil))))) (mSeq (mAsg 5 (mOp gSub (mOp gIx (mVar 3) (mK (.int (-1)))) (mOp gIx (mVar 3) (mK (.int 0))))) (mSeq (mAsg 6 (mFz (mLst (mCons (mK (.int 1)) (mCons (mVar 4) (mCons (mVar 5) (mCons (mK (.int 60)) (mCons (mK (.int 100000)) (mCons (mCall m_law_pick (mCons (mVar 0) (mCons (mK (.int 100000)) mNil))) (mCons (mK (.int 300)) (mCons (mOp gSub (mVar 4) (mVar 5)) (mCons (mOp gAdd (mVar 4) (mVar 5)) mNil)))))))))))) (mSeq (mAsg 7 (mCallB gMin2 (mCons (mK (.int 100000)) (mCons (mOp gSub (mOp gAdd (mOp gIx (mVar 6) (mCall m_law_pick (mCons (mVar 0) (mCons (mK (.int 9)) mNil)))) (mCall m_law_pick (mCons (mVar 0) (mCons (mK (.int 3)) mNil)))) (mK (.int 1))) mNil)))) (mRet (mOp gMul (mVar 7) (mOp gSub (mK (.int 1)) (mOp gMul (mK (.int 2)) (mCall m_law_pick (mCons (mVar 0) (mCons (mK (.int 2)) mNil))))))))))))
def m_law_any_rules : List D → Sto → Res D := mDef 1 1 (mRet (mTup (mCons (mOp gIx (mFz (mLst (mCons (mK (.str "early")) (mCons (mK (.str "late")) (mCons (mK (.str "refuse")) mNil))))) (mCall m_law_pick (mCons (mVar 0) (mCons (mK (.int 3)) mNil)))) (mCons (mOp gIx (mFz (mLst (mCons (mK (.str "ahead")) (mCons (mK (.str "behind")) (mCons (mK (.str "refuse")) mNil))))) (mCall m_law_pick (mCons (mVar 0) (mCons (mK (.int 3)) mNil)))) mNil))))
def m_law_less_room : List D → Sto → Res D := mDef 2 3 (mSeq (mAsg 2 (mCallB gInt1 (mCons (mOp (gIn false) (mOp gIx (mVar 1) (mK (.int 0))) (mFz (mLst (mCons (mK (.str "read")) (mCons (mK (.str "find")) (mCons (mK (.str "offset")) (mCons (mK (.str "edition")) mNil))))))) mNil))) (mRet (mFz (mLst (mCons (mOp gSub (mOp gIx (mVar 0) (mK (.int 0))) (mVar 2)) (mCons (mOp gSub (mOp gIx (mVar 0) (mK (.int 1))) (mCallB gInt1 (mCons (mOp gEq (mOp gIx (mVar 1) (mK (.int 0))) (mK (.str "find"))) mNil))) (mCons (mOp gSub (mOp gIx (mVar 0) (mK (.int 2))) (mCallB gInt1 (mCons (mOp gEq (mOp gIx (mVar 1) (mK (.int 0))) (mK (.str "edition"))) mNil))) (mCons (mOp gIx (mVar 0) (mK (.int 3))) mNil))))))))
end
end Dm
-- text DmMin
namespace Dm
open PySem L2 PySem.Spec PyProof.Rows
open PySem.W (Frag)
/-! ### min of a list of ints -/
section
variable {X : Cx} {W : WX}
/-! ### key in a dict -/
/-! ### xs.clear() -/
def mClear (o : ME) : MS := fun ρ S => ofRes (o ρ S) ρ fun x S1 => match x with
  | .cell n => match S1[n]? with
    | some (.lst _) => .nx ρ (S1.set n (.lst []))
    | _ => .bad
  | _ => .bad
end
section
variable {S : Sto} {ρ : Rho} {N B C : Rho → Sto → Prop} {R : D → Sto → Prop} {E : EX} {EO : EXO}
@[simp] theorem does_clear {o : ME} : (mClear o ρ S).DoesE EO N R B C = (o ρ S).DoesE (eAt EO ρ) fun x S1 => match x with
    | .cell n => (∃ xs, S1[n]? = some (.lst xs)) ∧ N ρ (S1.set n (.lst []))
    | _ => False := by
  unfold mClear
  rw [does_ofRes]; congr 1; funext x S1
  cases x with
  | cell n =>
    simp only
    cases q : S1[n]? with
    | none => exact propext ⟨fun h => h.elim, fun ⟨⟨_, h⟩, _⟩ => nomatch h⟩
    | some c =>
      cases c with
      | lst ds => exact propext ⟨fun h => ⟨⟨_, rfl⟩, h⟩, fun h => h.2⟩
      | _ => exact propext ⟨fun h => h.elim, fun ⟨⟨_, h⟩, _⟩ => nomatch h⟩
  | _ => rfl
end
end Dm
-- text DmTry
/-! try .. except X (as n): the caught exception stands in the heap as a value -/
namespace Dm
open PySem L2 PySem.Spec PyProof.Rows
open PySem.W (Frag)
section
variable {X : Cx} {pins : List (Addr × Obj)} {σ : L2.St} {H : Hp} {s : Shared}
theorem _root_.L2.Inv.track {a : Addr} {o : HO} (I : Inv X pins σ H s) (h0 : X.s_0.heap.get? a = none) (hn : H a = none) (hL : a ≠ X.env.locals) (hC : ∀ x c, X.env.cells.lookup x = some c → c ≠ a) (hp : ∀ p ∈ X.pn ++ pins, p.1 ≠ a)
    (new : ObjOk X.prog X.w (upd H a o) s.heap a o) : Inv X pins σ (upd H a o) s := by
  have n0 : ∀ {b : Addr} {u : Obj}, X.s_0.heap.get? b = some u → b ≠ a := fun {b u} e z => by
    rw [z, h0] at e; cases e
  have nH : ∀ {b : Addr} {u : HO}, H b = some u → b ≠ a := fun {b u} e z => by
    rw [z, hn] at e; cases e
  refine ⟨I.ok, I.os, I.bare, ⟨I.base.keep, I.base.slot, fun b u e n hx => ?_, I.base.there, fun b xs e => ?_, fun b u xs e => ?_, fun b ps e => ?_⟩, I.loc, I.cell, ?_, fun x c e => ?_, fun p hq => ?_, fun b u e => ?_, I.len⟩
  · rw [upd_ne (n0 e)]
    exact I.base.free b u e n hx
  · have q := I.base.tups b xs e
    rw [upd_ne (nH q)]
    exact q
  · have q := I.base.frzs b u xs e
    rw [upd_ne (nH q)]
    exact q
  · obtain ⟨m, q⟩ := I.base.tbls b ps e
    exact ⟨m, by rw [upd_ne (nH q)]; exact q⟩
  · rw [upd_ne (Ne.symm hL)]
    exact I.free
  · rw [upd_ne (hC x c e)]
    exact I.freeC x c e
  · obtain ⟨e, n, ne, nf, d⟩ := I.pin p hq
    exact ⟨e, by rw [upd_ne (hp p hq)]; exact n, ne, nf, d⟩
  · by_cases hb : b = a
    · subst hb
      rw [upd_same] at e
      cases e
      exact new
    · rw [upd_ne hb] at e
      exact (I.hok b u e).stay (fun c v _ q => q) (fun c q => by rw [upd_ne (nH q)]; exact q) fun c xs q => by rw [upd_ne (nH q)]; exact q
theorem _root_.L2.Inv.suiteV (I : Inv X pins σ H s) (a : Addr) : Inv (X.suite a (X.pn ++ pins)) [] σ H s :=
  ⟨I.ok.suite _ _, I.os, I.bare, I.base, I.loc, I.cell, I.free, I.freeC, fun p hp => by rw [List.append_nil] at hp; exact I.pin p hp, I.hok, I.len⟩
theorem _root_.L2.Inv.unsuiteV {a : Addr} {pn' : List (Addr × Obj)} (I : Inv (X.suite a (X.pn ++ pins)) pn' σ H s) (ok : X.Ok) : Inv X pins σ H s :=
  ⟨ok, I.os, I.bare, I.base, I.loc, I.cell, I.free, I.freeC, fun p hp => I.pin p (List.mem_append_left _ hp), I.hok, I.len⟩
end
theorem exV_ok {P : Program} {w : World} {H : Hp} {h : Heap} {a : Addr} {cls : Value} {d : Option Addr} {oe : Obj} {vs : Array Value} (e : h.get? a = some oe) (z : Zc cls d oe) (hd : oe.data = .fields vs) : ObjOk P w H h a (ExV cls d a) :=
  ⟨⟨oe, vs, e, z, hd⟩, ⟨oe, e⟩, fun _ _ ⟨o, v, q, r⟩ k => ⟨o, v, k o q, r⟩⟩
/-- the slot of a clause's name: what is wished for behind the suite, the slots at its start -/
def endsI (oi : Option Nat) (D : Ends) : Ends := match oi with
  | none => D
  | some i => { nx := fun σ' H' => D.nx (σ'.set i none) H', rt := D.rt, bk := fun σ' H' => D.bk (σ'.set i none) H', ct := fun σ' H' => D.ct (σ'.set i none) H' }
def slotI (oi : Option Nat) (σ : L2.St) (a : Addr) : L2.St := match oi with
  | none => σ
  | some i => σ.set i (some (.ref a))
def wTry (K : Frag) (Wout : WX) (D : Ends) : List (Value × Option Nat × TS) → WX
  | [] => Wout
  | (c, oi, ts) :: r => fun cls d σ H => ∃ b, PySem.W.exmOne K cls c = some b ∧ (b = true → ∀ a, H a = none → ts (endsI oi D) (slotI oi σ a) (upd H a (ExV cls d a))) ∧ (b = false → wTry K Wout D r cls d σ H)
inductive HdsV (X : Cx) : List ExceptHandler → List (Value × Option Nat × TS) → Prop
  | nil : HdsV X [] []
  | one {x : Str} {c : Value} {ts : TS} {b₀ : Stmt} {suite : List Stmt} {np pos' : Pos} {hds : List ExceptHandler} {l : List (Value × Option Nat × TS)} (hc : Names X x c)
      (hsu : ∀ (a : Addr) (pn : List (Addr × Obj)), PSs (X.suite a pn) (b₀ :: suite) ts) (r : HdsV X hds l) : HdsV X (.ExceptHandler (some (.Name x np)) none (b₀ :: suite) pos' :: hds) ((c, none, ts) :: l)
  | as {x n : Str} {c : Value} {i : Nat} {ts : TS} {b₀ : Stmt} {suite : List Stmt} {np pos' : Pos} {hds : List ExceptHandler} {l : List (Value × Option Nat × TS)} (hc : Names X x c) (hi : X.N[i]? = some n) (hln : X.env.kindOf n = some .local)
      (hsu : ∀ (a : Addr) (pn : List (Addr × Obj)), PSs (X.suite a pn) (b₀ :: suite) ts) (r : HdsV X hds l) : HdsV X (.ExceptHandler (some (.Name x np)) (some n) (b₀ :: suite) pos' :: hds) ((c, some i, ts) :: l)
section
variable {X : Cx} {body : List Stmt} {h₀ : ExceptHandler} {hds : List ExceptHandler} {l : List (Value × Option Nat × TS)} {pos : Pos} {tb : WX → TS} {Wout : WX}
theorem ps_tryV (hx : X.ex = []) (hs : X.stack = X.env :: X.outer) (hf : X.env.frame = some X.env.locals) (hN : X.N.Nodup) (tk : Takes X Wout)
    (hb : ∀ (W : WX) (pn : List (Addr × Obj)) (xe : Value → Shared → Prop), Takes (X.tr pn xe) W → PassesOwn (model X.prog X.w) X.A X.env xe → PSs (X.tr pn xe) body (tb W))
    (hh : HdsV X (h₀ :: hds) l) : PS X (.Try body (h₀ :: hds) [] [] pos) (fun D σ H => tb (wTry X.K Wout D l) D σ H) := by
  refine ⟨fun pins s σ H D I h => ?_⟩
  have ok := I.ok
  have hfr : X.A.frames = some (X.env :: X.outer) := by rw [ok.frames, hs]
  refine wpAny_Try_except ?_
  refine wpAny_mono ((hb (wTry X.K Wout D l) (X.pn ++ pins) (fun e s₁ => wpAny (model X.prog X.w) X.A (noteFrame e X.env) (fun _ s₂ => wpAny (model X.prog X.w) X.A (setFlight e none) (fun _ s₃ =>
    wpAny (model X.prog X.w) X.A (handleBy e X.env (h₀ :: hds)) (SP X pins D) X.xe s₃) X.xe s₂) X.xe s₁) (fun u s' xx => ?_) PassesOwn.looking).run [] s σ H D (I.toTry _) h) (fun f s1 hsp => ?_) (fun e s1 he => he)
  · -- the catch
    obtain ⟨a, B, sI, pins', σ', H', cls, d, rfl, J', nb, up, sky, na, os, ag, w⟩ := xx
    have J : Inv X pins σ' H' sI := J'.ofTry ok
    have sky' : Sky B (X.env :: X.outer) a (Zc cls d) X.env.locals s'.heap := by rw [← hs]; exact sky
    show wpAny (model X.prog X.w) X.A (noteFrame (.ref a) X.env) _ _ _
    refine Sky.land Zc.steady hfr hf sky' fun h3 fl3 up3 => ?_
    have J3 : Inv X pins σ' H' { s' with heap := h3 } := J.landed nb fl3.1 (up.trans up3) os ag
    obtain ⟨oe3, vs3, he3, hz3, hd3⟩ := fl3.there
    have notFr : ∀ {h : Heap} {o : Obj} {vs : Array Value}, h.FunFrames B (X.env :: X.outer) → h.get? a = some o → o.data = .fields vs → a ∉ frs (X.env :: X.outer) := fun {h o vs} ff e dd hm => by
      obtain ⟨_, o', e', hnf⟩ := ff.mem hm
      rw [e] at e'; cases e'
      exact hnf _ dd
    have nfr := notFr fl3.2.2.1 he3 hd3
    have nL : a ≠ X.env.locals := fun z => nfr (List.mem_filterMap.mpr ⟨X.env, List.mem_cons_self, by rw [hf, z]⟩)
    have nF : a ∉ X.fs := fun hm => by
      obtain ⟨e, he, q⟩ := List.mem_filterMap.mp hm
      exact nfr (List.mem_filterMap.mpr ⟨e, List.mem_cons_of_mem _ he, q⟩)
    have nI : sI.heap.get? a = none := by
      cases e : sI.heap.get? a with
      | none => rfl
      | some o =>
        have z := nb a o e (by rw [hs]; exact nfr)
        rw [fl3.2.1] at z
        cases z
    have n0 : X.s_0.heap.get? a = none := by
      cases e : X.s_0.heap.get? a with
      | none => rfl
      | some o =>
        obtain ⟨o', z⟩ := J.base.there a o e (by rw [hx]; exact fun z => nomatch z)
        rw [nI] at z; cases z
    have nC : ∀ x c, X.env.cells.lookup x = some c → c ≠ a := fun x c e z => by
      obtain ⟨v, o, ho, hd⟩ := J.cell x c e
      rw [z, nI] at ho; cases ho
    have nP : ∀ p ∈ X.pn ++ pins, p.1 ≠ a := fun p hp z => by
      obtain ⟨e, _⟩ := J.pin p hp
      rw [z, nI] at e; cases e
    have S3 := J3.suiteV a
    have go : ∀ {hds' : List ExceptHandler} {l' : List (Value × Option Nat × TS)}, HdsV X hds' l' → wTry X.K Wout D l' cls d σ' H' →
        wpAny (model X.prog X.w) X.A (handleBy (.ref a) X.env hds') (SP X pins D) X.xe { s' with heap := h3 } := by
      intro hds' l' hk
      induction hk with
      | nil =>
        intro w
        refine wpAny_handleBy_nil ?_
        obtain ⟨k1, k2, k3, oe, vs, T, oT, ts', he, hz, hd, h1, hr⟩ := id fl3
        unfold PySem.passOn
        refine wpAny_bind (wpAny_field he hd h1 ?_)
        rw [if_neg (show ¬ ((Value.ref T == Value.none) = true) from by simp)]
        have fin : wpAny (model X.prog X.w) X.A (setFlight (.ref a) X.env.frame) (fun _ s4 => wpAny (model X.prog X.w) X.A (throw (.ref a) : Sem Flow) (SP X pins D) X.xe s4) X.xe { s' with heap := h3 } := by
          rw [hf]
          refine HandSPX.setFlight_upZ fl3 fun h4 hh4 up4 => wpAny_throw (tk _ _ ?_)
          exact ⟨a, B, sI, pins, σ', H', cls, d, rfl, J, nb, (up.trans up3).trans up4, .inr (.inr (by rw [hs]; exact hh4)), na, os, ag, w⟩
        first
          | exact wpAny_bind (wpAny_pure (wpAny_bind fin))
          | exact wpAny_bind fin
      | @one x c ts b₀ suite np pos' hds2 l2 hc hsu r ih =>
        intro w
        obtain ⟨b, hb1, hyes, hno⟩ := w
        refine wpAny_handleBy_cons (codeAny_handlers_test ?_) (by intro q; cases q)
        have LT : PySem.W.Looks (model X.prog X.w) h3 (typeOf (.ref a)) cls := fun A Q E s k q => wpAny_typeOf_ref (k _ _ he3) (by rw [hz3.1]; exact q)
        have LM := PySem.W.exm_one (M := model X.prog X.w) (J3.kIn) LT hb1
        have test : ∀ {Q : Value → Shared → Prop} {E : Value → Shared → Prop}, Q c { s' with heap := h3 } → wpAny (model X.prog X.w) (X.A.mark (some (.ref a))) (eval (.Name x np) X.env) Q E { s' with heap := h3 } := fun {Q E} q => by
          obtain ⟨hg, hdbg, hm | ⟨hm, hv, hnn⟩⟩ := hc
          · exact ld_glob (X := X.suite a (X.pn ++ pins)) S3 hg hm q hdbg
          · exact ld_blt (X := X.suite a (X.pn ++ pins)) S3 hg hm hv q hnn hdbg
        refine test (LM.here ?_)
        cases b with
        | true =>
          refine codeAny_handlers_suite ?_
          refine HandSPX.lands_againZ fl3 fun h4 fl4 up4 => ?_
          have J4 : Inv X pins σ' H' { s' with heap := h4 } := J.landed nb fl4.1 ((up.trans up3).trans up4) os ag
          obtain ⟨oe4, vs4, he4, hz4, hd4⟩ := fl4.there
          have J5 := Inv.track J4 n0 na nL nC nP (o := ExV cls d a) (exV_ok he4 hz4 hd4)
          have S4 := J5.suiteV a
          refine wpAny_mono ((hsu a (X.pn ++ pins)).run [] _ _ _ _ S4 (hyes rfl a na)) (fun f s6 hsp => ?_) (fun _ _ z => False.elim z)
          cases f with
          | next =>
            obtain ⟨σ6, H6, S6, q6⟩ := hsp
            exact ⟨_, _, S6.unsuiteV ok, q6⟩
          | brk =>
            obtain ⟨σ6, H6, S6, q6⟩ := hsp
            exact ⟨_, _, S6.unsuiteV ok, q6⟩
          | cont =>
            obtain ⟨σ6, H6, S6, q6⟩ := hsp
            exact ⟨_, _, S6.unsuiteV ok, q6⟩
          | ret u =>
            obtain ⟨v6, σ6, H6, S6, r6, q6⟩ := hsp
            exact ⟨_, _, _, S6.unsuiteV ok, r6, q6⟩
        | false =>
          show wpAny _ X.A (handleBy (.ref a) X.env hds2) _ _ _
          exact ih (hno rfl)
      | @as x n c i ts b₀ suite np pos' hds2 l2 hc hi hln hsu r ih =>
        intro w
        obtain ⟨b, hb1, hyes, hno⟩ := w
        have hloc : Loc X.env.scope n := .inl hln
        refine wpAny_handleBy_cons (codeAny_handlers_test ?_) (by intro q; cases q)
        have LT : PySem.W.Looks (model X.prog X.w) h3 (typeOf (.ref a)) cls := fun A Q E s k q => wpAny_typeOf_ref (k _ _ he3) (by rw [hz3.1]; exact q)
        have LM := PySem.W.exm_one (M := model X.prog X.w) (J3.kIn) LT hb1
        have test : ∀ {Q : Value → Shared → Prop} {E : Value → Shared → Prop}, Q c { s' with heap := h3 } → wpAny (model X.prog X.w) (X.A.mark (some (.ref a))) (eval (.Name x np) X.env) Q E { s' with heap := h3 } := fun {Q E} q => by
          obtain ⟨hg, hdbg, hm | ⟨hm, hv, hnn⟩⟩ := hc
          · exact ld_glob (X := X.suite a (X.pn ++ pins)) S3 hg hm q hdbg
          · exact ld_blt (X := X.suite a (X.pn ++ pins)) S3 hg hm hv q hnn hdbg
        refine test (LM.here ?_)
        cases b with
        | true =>
          refine codeAny_handlers_suite_as ?_
          refine HandSPX.lands_againZ fl3 fun h4 fl4 up4 => ?_
          have J4 : Inv X pins σ' H' { s' with heap := h4 } := J.landed nb fl4.1 ((up.trans up3).trans up4) os ag
          obtain ⟨oe4, vs4, he4, hz4, hd4⟩ := fl4.there
          have J5 := Inv.track J4 n0 na nL nC nP (o := ExV cls d a) (exV_ok he4 hz4 hd4)
          have S4 := J5.suiteV a
          refine store_ok (X := X.suite a (X.pn ++ pins)) (v := .ref a) S4 hN hi hloc rfl (fun s5 S5 => ?_) (.inr hln)
          refine wpAny_mono ((hsu a (X.pn ++ pins)).run [] s5 _ _ _ S5 (hyes rfl a na)) (fun f s6 hsp => ?_) (fun _ _ z => False.elim z)
          have end_ : ∀ {σ6 : L2.St} {H6 : Hp} {Q : Shared → Prop}, Inv (X.suite a (X.pn ++ pins)) [] σ6 H6 s6 → (∀ s7, Inv X pins (σ6.set i none) H6 s7 → Q s7) →
              wpAny (model X.prog X.w) X.A (do bindName X.env n .none; unbindBehindTheSuite X.env n pos') (fun _ s7 => Q s7) X.xe s6 := fun {σ6 H6 Q} S6 hq => gone_ok (S6.unsuiteV ok) hN hi hln hq
          cases f with
          | next =>
            obtain ⟨σ6, H6, S6, q6⟩ := hsp
            exact end_ S6 fun s7 J7 => ⟨_, _, J7, q6⟩
          | brk =>
            obtain ⟨σ6, H6, S6, q6⟩ := hsp
            exact end_ S6 fun s7 J7 => ⟨_, _, J7, q6⟩
          | cont =>
            obtain ⟨σ6, H6, S6, q6⟩ := hsp
            exact end_ S6 fun s7 J7 => ⟨_, _, J7, q6⟩
          | ret u =>
            obtain ⟨v6, σ6, H6, S6, r6, q6⟩ := hsp
            exact end_ S6 fun s7 J7 => ⟨_, _, _, J7, r6, q6⟩
        | false =>
          show wpAny _ X.A (handleBy (.ref a) X.env hds2) _ _ _
          exact ih (hno rfl)
    exact go hh w
  · cases f with
    | next =>
      obtain ⟨σ', H', J', q⟩ := hsp
      exact wpAny_execs_nil ⟨σ', H', J'.ofTry ok, q⟩
    | brk =>
      obtain ⟨σ', H', J', q⟩ := hsp
      exact ⟨σ', H', J'.ofTry ok, q⟩
    | cont =>
      obtain ⟨σ', H', J', q⟩ := hsp
      exact ⟨σ', H', J'.ofTry ok, q⟩
    | ret u =>
      obtain ⟨v, σ', H', J', r, q⟩ := hsp
      exact ⟨v, σ', H', J'.ofTry ok, r, q⟩
end
/-! ### the words -/
/-- of the program's error classes all stand directly under HourError -/
def xSub (c h : Str) : Bool := c == h || h == "HourError" || h == "ValueError" || h == "Exception"
def intFsOf : List (Str × D) → Option (List (Str × Int))
  | [] => some []
  | (f, .int i) :: r => (intFsOf r).map fun l => (f, i) :: l
  | _ :: _ => none
def setI (oi : Option Nat) (ρ : Rho) (d : D) : Rho := match oi with
  | none => ρ
  | some i => ρ.set i (some d)
def clearI (oi : Option Nat) (ρ : Rho) : Rho := match oi with
  | none => ρ
  | some i => ρ.set i none
def dropI (oi : Option Nat) : Out → Out
  | .nx ρ S => .nx (clearI oi ρ) S
  | .rt d S => .rt d S
  | .bk ρ S => .bk (clearI oi ρ) S
  | .ct ρ S => .ct (clearI oi ρ) S
  | .exc _ _ _ _ => .bad
  | .bad => .bad
def catchD (c : Str) (fs : List (Str × D)) (ns : List (Str × Int)) : List (Str × Option Nat × MS) → Rho → Sto → Out
  | [], ρ, S => .exc c fs ρ S
  | (h, oi, ms) :: r, ρ, S => if xSub c h = true then dropI oi (ms (setI oi ρ (.exn c ns)) S) else catchD c fs ns r ρ S
def mTry (cs : List Str) (hs : List (Str × Option Nat × MS)) (mb : MS) : MS := fun ρ S => match mb ρ S with
  | .exc c fs ρ1 S1 => match intFsOf fs with
    | some ns => if c ∈ cs then catchD c fs ns hs ρ1 S1 else .bad
    | none => .bad
  | o => o
/-- what the written part says of the classes that may be raised here -/
def SubOk (K : Frag) (mg : Str → Option Value) (cs : List Str) (x : Str) (v : Value) : Prop := ∀ c, c ∈ cs → ∃ Cc, mg c = some Cc ∧ PySem.W.exmOne K Cc v = some (xSub c x)
/-- the class x of a clause -/
structure TrOk (K : Frag) (mg : Str → Option Value) (cs : List Str) (x : Str) : Prop where
  ex : ∃ v : Value, mg x = some v ∧ SubOk K mg cs x v
/-- the classes are own error classes, of no plain type -/
structure PlOk (K : Frag) (mg : Str → Option Value) (cs : List Str) : Prop where
  ex : ∀ c, c ∈ cs → ∃ cls, mg c = some cls ∧ PlX K cls
inductive HdsD (X : Cx) (cs : List Str) : List ExceptHandler → List (Str × Option Nat × MS) → Prop
  | nil : HdsD X cs [] []
  | one {x : Str} {v : Value} {ms : MS} {b₀ : Stmt} {suite : List Stmt} {np pos' : Pos} {hds : List ExceptHandler} {l : List (Str × Option Nat × MS)} (hc : Names X x v) (sub : SubOk X.K X.mg cs x v)
      (hsu : ∀ (a : Addr) (pn : List (Addr × Obj)), Takes (X.suite a pn) W0 → DSs (X.suite a pn) W0 (b₀ :: suite) ms) (r : HdsD X cs hds l) : HdsD X cs (.ExceptHandler (some (.Name x np)) none (b₀ :: suite) pos' :: hds) ((x, none, ms) :: l)
  | as {x n : Str} {v : Value} (i : Nat) {ms : MS} {b₀ : Stmt} {suite : List Stmt} {np pos' : Pos} {hds : List ExceptHandler} {l : List (Str × Option Nat × MS)} (hc : Names X x v) (sub : SubOk X.K X.mg cs x v) (pl : PlOk X.K X.mg cs) (hi : X.N[i]? = some n) (hln : X.env.kindOf n = some .local)
      (hsu : ∀ (a : Addr) (pn : List (Addr × Obj)), Takes (X.suite a pn) W0 → DSs (X.suite a pn) W0 (b₀ :: suite) ms) (r : HdsD X cs hds l) : HdsD X cs (.ExceptHandler (some (.Name x np)) (some n) (b₀ :: suite) pos' :: hds) ((x, some i, ms) :: l)
theorem hds_one {X : Cx} {cs : List Str} {x : Str} {ms : MS} {b₀ : Stmt} {suite : List Stmt} {np pos' : Pos} {hds : List ExceptHandler} {l : List (Str × Option Nat × MS)} (T : TrOk X.K X.mg cs x)
    (hsu : ∀ (a : Addr) (pn : List (Addr × Obj)), Takes (X.suite a pn) W0 → DSs (X.suite a pn) W0 (b₀ :: suite) ms) (r : HdsD X cs hds l) (hg : Gl X x := by rfl) (hd : (x == ("__debug__" : Str)) = false := by decide) :
    HdsD X cs (.ExceptHandler (some (.Name x np)) none (b₀ :: suite) pos' :: hds) ((x, none, ms) :: l) :=
  let ⟨_, h1, h2⟩ := T; .one ⟨hg, hd, .inl h1⟩ h2 hsu r
section
variable {F : Fx} {μ : List Addr} {H : Hp}
theorem intFsOf_some : ∀ {fs : List (Str × D)} {ns : List (Str × Int)}, intFsOf fs = some ns → fs = ns.map fun p => (p.1, D.int p.2)
  | [], ns, e => by cases e; rfl
  | (f, d) :: r, ns, e => by
    cases d with
    | int i =>
      unfold intFsOf at e
      cases q : intFsOf r with
      | none => rw [q] at e; cases e
      | some l =>
        rw [q] at e
        cases e
        rw [List.map_cons, ← intFsOf_some q]
    | _ => cases e
theorem fsr_ints : ∀ {ns : List (Str × Int)} {vfs : List (Str × V)}, FsR F μ H vfs (ns.map fun p => (p.1, D.int p.2)) → vfs = intFs ns
  | [], _, h => by cases h; rfl
  | (f, i) :: r, [], h => by cases h
  | (f, i) :: r, (g, v) :: vfs, h => by
    cases h with
    | cons a b =>
      obtain ⟨h1, h2⟩ := a
      have h3 : g = f := h1
      have h4 : RD F μ H v (.int i) := h2
      clear h1 h2
      subst h3
      cases h4
      rw [fsr_ints b]
      rfl
theorem ws_drop {oi : Option Nat} {r : Out} {D : Ends} {W : WX} (h : WS' F (dropI oi r) D W μ H) : WS' F r (endsI oi D) W0 μ H := by
  cases r with
  | nx ρ S =>
    intro σ μ' H' u s g
    cases oi with
    | none => exact h σ μ' H' u s g
    | some i => exact h (σ.set i none) μ' H' u s (g.forget (σ' := σ) i)
  | rt d S =>
    intro v μ' H' u s g
    cases oi with
    | none => exact h v μ' H' u s g
    | some i => exact h v μ' H' u s g
  | bk ρ S =>
    intro σ μ' H' u s g
    cases oi with
    | none => exact h σ μ' H' u s g
    | some i => exact h (σ.set i none) μ' H' u s (g.forget (σ' := σ) i)
  | ct ρ S =>
    intro σ μ' H' u s g
    cases oi with
    | none => exact h σ μ' H' u s g
    | some i => exact h (σ.set i none) μ' H' u s (g.forget (σ' := σ) i)
  | exc c fs ρ S => exact h.elim
  | bad => exact h
theorem takes_w0 {X : Cx} : Takes X W0 := fun _ _ ⟨_, _, _, _, _, _, _, _, _, _, _, _, _, _, _, _, w⟩ => w.elim
/-- one reading for all contexts of a family -/
theorem dss_all {ι : Type} {Xf : ι → Cx} {body : List Stmt} {m : MS} {K : Frag} {mg : Str → Option Value} {W : WX} (hK : ∀ i, (Xf i).K = K) (hg : ∀ i, (Xf i).mg = mg) (h : ∀ i, DSs (Xf i) W body m) :
    ∃ ts : TS, (∀ i, PSs (Xf i) body ts) ∧ ∀ ξ μ σ H ρ S D, RG ⟨K, mg, ξ⟩ μ H σ ρ → RS ⟨K, mg, ξ⟩ μ H S → WS' ⟨K, mg, ξ⟩ (m ρ S) D W μ H → ts D σ H := by
  refine ⟨fun D σ H => ∀ i, ∃ ts, PSs (Xf i) body ts ∧ ts D σ H, fun i => ⟨fun pins s σ H D I hw => ?_⟩, fun ξ μ σ H ρ S D g s hw i => ?_⟩
  · obtain ⟨ts, p, q⟩ := hw i
    exact p.run pins s σ H D I q
  · obtain ⟨ts, p, k⟩ := h i
    refine ⟨ts, p, k ξ μ σ H ρ S D ?_ ?_ ?_⟩
    all_goals (unfold fx; rw [hK, hg]; assumption)
theorem catch_read {X : Cx} {cs : List Str} {hds : List ExceptHandler} {l : List (Str × Option Nat × MS)} {W : WX} (hh : HdsD X cs hds l) :
    ∃ L : List (Value × Option Nat × TS), HdsV X hds L ∧ ∀ ξ μ σ H ρ S c ns cls dd En, c ∈ cs → RS (fx X ξ) μ H S → RG (fx X ξ) μ H σ ρ → XR (fx X ξ) μ H cls dd c (ns.map fun p => (p.1, D.int p.2)) →
      WS' (fx X ξ) (catchD c (ns.map fun p => (p.1, D.int p.2)) ns l ρ S) En W μ H → wTry X.K W En L cls dd σ H := by
  induction hh with
  | nil =>
    refine ⟨[], .nil, fun ξ μ σ H ρ S c ns cls dd D hc s g x h => ?_⟩
    exact h cls dd σ μ H .refl s g x
  | @one x v ms b₀ suite np pos' hds l hc sub hsu r ih =>
    obtain ⟨L, hL, kL⟩ := ih
    obtain ⟨ts, pts, kts⟩ := dss_all (Xf := fun i : Addr × List (Addr × Obj) => X.suite i.1 i.2) (K := X.K) (mg := X.mg) (W := W0) (fun _ => rfl) (fun _ => rfl) fun i => hsu i.1 i.2 takes_w0
    refine ⟨(v, none, ts) :: L, .one hc (fun a pn => pts (a, pn)) hL, fun ξ μ σ H ρ S c ns cls dd D hm s g x h => ?_⟩
    obtain ⟨Cc, e1, e2⟩ := sub c hm
    obtain rfl : Cc = cls := Option.some.inj (e1.symm.trans x.1)
    refine ⟨_, e2, fun e a na => ?_, fun e => ?_⟩
    · unfold catchD at h
      rw [if_pos e] at h
      have u : Up μ H μ (upd H a (ExV Cc dd a)) := .fresh na
      refine kts ξ μ _ _ _ S _ (g.up u) (s.fresh na) (ws_drop (WS'.shift u h))
    · unfold catchD at h
      rw [if_neg (by rw [e]; exact Bool.false_ne_true)] at h
      exact kL ξ μ σ H ρ S c ns Cc dd D hm s g x h
  | @as x n v i ms b₀ suite np pos' hds l hc sub pl hi hln hsu r ih =>
    obtain ⟨L, hL, kL⟩ := ih
    obtain ⟨ts, pts, kts⟩ := dss_all (Xf := fun i : Addr × List (Addr × Obj) => X.suite i.1 i.2) (K := X.K) (mg := X.mg) (W := W0) (fun _ => rfl) (fun _ => rfl) fun i => hsu i.1 i.2 takes_w0
    refine ⟨(v, some i, ts) :: L, .as hc hi hln (fun a pn => pts (a, pn)) hL, fun ξ μ σ H ρ S c ns cls dd D hm s g x h => ?_⟩
    obtain ⟨Cc, e1, e2⟩ := sub c hm
    obtain rfl : Cc = cls := Option.some.inj (e1.symm.trans x.1)
    refine ⟨_, e2, fun e a na => ?_, fun e => ?_⟩
    · unfold catchD at h
      rw [if_pos e] at h
      have u : Up μ H μ (upd H a (ExV Cc dd a)) := .fresh na
      have rv : RD (fx X ξ) μ (upd H a (ExV Cc dd a)) (.ref a) (.exn c ns) := by
        obtain ⟨cl2, e3, e4⟩ := pl.ex c hm
        obtain rfl : cl2 = Cc := Option.some.inj (e3.symm.trans e1)
        refine .exn ⟨cl2, dd, ⟨e1, e4⟩, ⟨upd_same, s.out na, s.outX na⟩, ?_⟩
        rcases x.2 with ⟨z1, z2⟩ | ⟨d, vfs, z1, z2, z3, z4, z5⟩
        · refine .inl ⟨?_, z2⟩
          cases ns with
          | nil => rfl
          | cons p ns => cases z1
        · refine .inr ⟨d, _, z1, ?_, .inr rfl, z3, z4⟩
          rw [upd_ne (ne_of_none z2 na), z2, fsr_ints z5]
      refine kts ξ μ _ _ _ S _ ((g.up u).set i rv) (s.fresh na) (ws_drop (WS'.shift u h))
    · unfold catchD at h
      rw [if_neg (by rw [e]; exact Bool.false_ne_true)] at h
      exact kL ξ μ σ H ρ S c ns Cc dd D hm s g x h
end
section
variable {X : Cx} {W : WX} {e : Expr} {body : List Stmt} {h₀ : ExceptHandler} {hds : List ExceptHandler} {l : List (Str × Option Nat × MS)} {pos : Pos} {mb : MS} {m : ME}
theorem ds_try {cs : List Str} (hN : X.N.Nodup) (tk : Takes X W) (hb : ∀ (W : WX) (pn : List (Addr × Obj)) (xe : Value → Shared → Prop), Takes (X.tr pn xe) W → DSs (X.tr pn xe) W body mb)
    (hh : HdsD X cs (h₀ :: hds) l) (hs : X.stack = X.env :: X.outer := by rfl) (hf : X.env.frame = some X.env.locals := by rfl) (hx : X.ex = [] := by rfl) : DS X W (.Try body (h₀ :: hds) [] [] pos) (mTry cs l mb) := by
  obtain ⟨L, hL, kL⟩ := catch_read (W := W) hh
  have hbody : ∀ W' : WX, ∃ ts : TS, (∀ i : { p : List (Addr × Obj) × (Value → Shared → Prop) // Takes (X.tr p.1 p.2) W' }, PSs (X.tr i.1.1 i.1.2) body ts) ∧ ∀ ξ μ σ H ρ S D, RG (fx X ξ) μ H σ ρ → RS (fx X ξ) μ H S → WS' (fx X ξ) (mb ρ S) D W' μ H → ts D σ H :=
    fun W' => dss_all (Xf := fun i : { p : List (Addr × Obj) × (Value → Shared → Prop) // Takes (X.tr p.1 p.2) W' } => X.tr i.1.1 i.1.2) (K := X.K) (mg := X.mg) (W := W') (fun _ => rfl) (fun _ => rfl) fun i => hb W' i.1.1 i.1.2 i.2
  refine ⟨_, ps_tryV (tb := fun W' => Classical.choose (hbody W')) (Wout := W) hx hs hf hN tk (fun W' pn xe tk' _ => (Classical.choose_spec (hbody W')).1 ⟨(pn, xe), tk'⟩) hL, fun ξ μ σ H ρ S D g s h => ?_⟩
  refine (Classical.choose_spec (hbody _)).2 ξ μ σ H ρ S D g s ?_
  unfold mTry at h
  cases q : mb ρ S with
  | nx ρ1 S1 => rw [q] at h; exact h
  | rt d S1 => rw [q] at h; exact h
  | bk ρ1 S1 => rw [q] at h; exact h
  | ct ρ1 S1 => rw [q] at h; exact h
  | bad => rw [q] at h; exact h.elim
  | exc c fs ρ1 S1 =>
    rw [q] at h
    simp only at h
    cases e : intFsOf fs with
    | none => rw [e] at h; exact h.elim
    | some ns =>
      rw [e] at h
      simp only at h
      by_cases hc : c ∈ cs
      · rw [if_pos hc] at h
        rw [intFsOf_some e] at h ⊢
        intro cls dd σ1 μ1 H1 u1 s1 g1 x1
        exact kL ξ μ1 σ1 H1 ρ1 S1 c ns cls dd D hc s1 g1 x1 (WS'.shift u1 h)
      · rw [if_neg hc] at h
        exact h.elim
end
end Dm
-- text DmRaise
/-! raise X(e, ..) of a class with its own __init__; e.f; isinstance(e, X) -/
namespace Dm
open PySem L2 PySem.Spec PyProof.Rows
open PySem.W (Frag)
/-! ### H.__init__(self, ..), H a class of the program over ValueError -/
structure HiOk (K : Frag) (mg : Str → Option Value) (h : Str) : Prop where
  ex : ∃ (D : Addr) (mc : Value), mg h = some (.ref D) ∧ PySem.W.readsIn K D mc = true ∧ PySem.W.specialIn K (.ref D) "__getattribute__" = some (some (.builtin "type.__getattribute__")) ∧ PySem.W.findCls K (.ref D) mc "__init__" = some (.val (.builtin "ValueError.__init__"))
section
variable {X : Cx} {e : Expr} {es : List Expr} {ta : TA} {f h : Str} {p p' p1 p2 pos : Pos}
theorem pe_hinit {pl : Sem Bool} (hg : Gl X h) (T : HiOk X.K X.mg h) (ha : PA X (e :: es) ta) (hdb : (h == ("__debug__" : Str)) = false := by decide)
    (hc : eval (.Call (.Attribute (.Name h p1) "__init__" p2) (e :: es) [] pos) X.env = (do
      let ov ← eval (.Name h p1) X.env
      standAt p2.atName
      let (f, first) ← holding [ov] (getMethod ov "__init__" pl)
      callWith pos f first (backTo pos (starEach (e :: es) X.env)) (backToKw pos (keywordEach [] X.env))) := by rfl)
    (he : starEach (e :: es) X.env = (false, eval e X.env) :: starEach es X.env := by rfl) (hpl : (backTo pos (starEach es X.env)).any (·.1) = false := by rfl) :
    PE X (.Call (.Attribute (.Name h p1) "__init__" p2) (e :: es) [] pos) (tVeI X.K ta) := by
  obtain ⟨D, mc, hm, hr, hga, hv⟩ := T
  refine ⟨fun pins s σ H Q I h => ?_⟩
  refine PySem.W.methodCall_KW (ld_glob I hg hm ?_ hdb) hc
  refine PySem.W.method_cls I.kIn hga (PySem.W.cls_value I.kIn hr hv (by decide +kernel) ?_)
  show wpAny _ _ (callWith pos (Value.builtin "ValueError.__init__") [] (backTo pos (starEach (e :: es) X.env)) []) _ _ _
  refine PyProof.Rows.callWith_method1 (thn (ha.run pos pins _ σ H _ (I.tok _) h) fun us s1 ⟨vs, H1, I1, r1, a, C, ws, ev, hl, T, ea, q⟩ => ?_) he hpl
  subst ev
  cases r1 with
  | @cons _ u0 _ ur ra rw' =>
    obtain rfl : u0 = Value.ref a := ra
    have hlen : ur.length ≤ sizeLine := by
      rw [← Paired.length rw', sizeLine_eq]
      omega
    exact oinit_ok T I1 ea hlen fun s' J => ⟨.non, H1, J, rfl, q⟩
end
/-! ### the class's own __init__ -/
def spInit (K : Frag) (C : Addr) (ns : List Str) : Sp := fun vs H Q E => ∃ a ys, vs = .ref a :: ys ∧ ys.length = ns.length ∧ H a = some (exo a C none) ∧
  ∀ H' d, H d = none → d ≠ a → H' a = some (exo a C (some d)) → H' d = some (exd d (ns.zip ys).reverse) → (∀ b, b ≠ a → b ≠ d → H' b = H b) → Q .non H'
def tInit1 (K : Frag) (f msg : Str) : TS := tSeq (tDrop (tVeI K (tCons (tVar 0) (tCons (tC (.str msg)) tNil)))) (tOst K f (tVar 0) (tVar 1))
structure XiOk (P : Program) (w : World) (K : Frag) (mg : Str → Option Value) (base : Heap) (k : Nat) (x : Str) (ns : List Str) : Prop where
  ex : ∃ (C fI : Addr) (fd : FuncData) (ps : List Str), mg x = some (.ref C) ∧ OexC K C ∧ PySem.W.findIn K (.ref C) "__init__" = some (some (.ref fI)) ∧ PySem.W.typeIn K (.ref fI) = some (.type "function") ∧ Binds K fd ps [] ∧
    FnOk P w K mg base (L2.CX P w) k fI fd ps (spInit K C ns)
section
variable {P : Program} {w : World} {K : Frag} {mg : Str → Option Value} {base : Heap} {C fI : Addr} {fd : FuncData} {x f g msg qual : Str} {st : Stmt}
theorem xi_mk1 (hm : mg x = some (.ref C)) (T : OexC K C) (iC : PySem.W.findIn K (.ref C) "__init__" = some (some (.ref fI))) (tI : PySem.W.typeIn K (.ref fI) = some (.type "function")) (F : Fun K "__init__" qual st fI fd) (B : Binds K fd ["self", f] [])
    (S : FnScope ["self", f] ["self", f] (defScope st)) (hno : PySem.W.findIn K (.ref C) f = some none)
    (hb : ∀ (cdv : Value) (A : Around) (outer : List Env) (s : Shared) (H : Hp) (E : XK), PSs (cxOf (L2.CX P w) P w K mg base ["self", f] qual (defScope st) fI cdv A outer s H E) (defBody st) (tInit1 K f msg)) : XiOk P w K mg base 1 x [f] := by
  refine ⟨C, fI, fd, _, hm, T, iC, tI, B, F.okX S (fun vs H Q E h => ?_) (fun cdv A outer s H vs Q E hr h => ?_)⟩
  · obtain ⟨a, ys, rfl, hl, _⟩ := h
    simp at hl
    simp [hl]
  · obtain ⟨a, ys, rfl, hl, ha, hq⟩ := h
    match ys, hl with
    | [y], _ =>
      refine ⟨_, hb cdv A outer s H E, ?_⟩
      refine ⟨.ref a, rfl, ?_⟩
      refine ⟨a, C, [.str msg], rfl, (by simp), T, ha, ?_⟩
      refine ⟨y, rfl, .ref a, rfl, a, C, rfl, T, hno, .inl ⟨ha, fun dx n ne => ?_⟩⟩
      refine hq _ dx n ne upd_same ?_ fun b h1 h2 => ?_
      · rw [upd_ne ne, upd_same]; rfl
      · rw [upd_ne h1, upd_ne h2]
end
def mRaiseX (c : Str) (ns : List Str) (ma : MA) : MS := fun ρ S => ofRes (ma ρ S) ρ fun ds S1 => if ds.length = ns.length then .exc c (ns.zip ds).reverse ρ S1 else .bad
theorem paired_zip {α β γ : Type} {R : α → β → Prop} : ∀ {ns : List γ} {xs : List α} {ys : List β}, Paired R xs ys → Paired (fun p q => p.1 = q.1 ∧ R p.2 q.2) (ns.zip xs) (ns.zip ys)
  | [], _, _, _ => by simp; exact .nil
  | _ :: _, [], _, h => by cases h; simp; exact .nil
  | n :: ns, x :: xs, _, h => by
    cases h with
    | cons a b =>
      simp only [List.zip_cons_cons]
      exact .cons ⟨rfl, a⟩ (paired_zip b)
theorem paired_append {α β : Type} {R : α → β → Prop} : ∀ {xs xs' : List α} {ys ys' : List β}, Paired R xs ys → Paired R xs' ys' → Paired R (xs ++ xs') (ys ++ ys')
  | [], _, _, _, h, k => by cases h; exact k
  | _ :: _, _, _, _, h, k => by
    cases h with
    | cons a b => exact .cons a (paired_append b k)
theorem paired_reverse {α β : Type} {R : α → β → Prop} : ∀ {xs : List α} {ys : List β}, Paired R xs ys → Paired R xs.reverse ys.reverse
  | [], _, h => by cases h; exact .nil
  | _ :: _, _, h => by
    cases h with
    | cons a b =>
      rw [List.reverse_cons, List.reverse_cons]
      exact paired_append (paired_reverse b) (.cons a .nil)
theorem rds_pairX {F : Fx} {μ : List Addr} {H : Hp} : ∀ {vs : List V} {ds : List D}, RDs F μ H vs ds → Paired (fun v d => RD F μ H v d) vs ds
  | _, [], h => by cases h; exact .nil
  | _, d :: ds, h => by
    cases h with
    | cons a b => exact .cons a (rds_pairX b)
section
variable {X : Cx} {W : WX} {e : Expr} {es : List Expr} {mr : MA} {m : ME} {p p1 p2 pos pos2 : Pos}
/-! ### e.f -/
def gXf (c f : Str) (_ : Sto) : D → Option D
  | .exn c' fs => if c' = c then (fs.lookup f).map D.int else none
  | _ => none
end
/-! ### isinstance(e, X) -/
/-! ### X(e, ..) as a value -/
theorem pe_of_mk {X : Cx} {e : Expr} {t : L2.St → Hp → XK → Prop} (he : PMk X e t) : PE X e (fun σ H Q => t σ H fun cls d H1 => ∀ a, H1 a = none → Q (.ref a) (upd H1 a (ExV cls d a))) := by
  refine ⟨fun pins s σ H Q I h => wpAny_mono (he pins s σ H _ I h) (fun u s1 hu => ?_) fun _ _ x => x⟩
  obtain ⟨a, oe, vs, sI, H', cls, d, rfl, J, k, hne, ha, hz, hd, h1, na, os, ag, r, q⟩ := hu
  exact ⟨.ref a, upd H' a (ExV cls d a), J.call' (ch := []) os (Un.laidN k hne na) (J.hok.laidN k na (exV_ok ha hz hd)) ag (fun b z => nomatch z), rfl, q a na⟩
def newFs (ns : List Str) (ds : List D) : List (Str × Int) := (intFsOf (ns.zip ds).reverse).getD []
def mNewX (c : Str) (ns : List Str) (ma : MA) : ME := fun ρ S => (ma ρ S).bind fun ds S1 => if ds.length = ns.length then .ok (.exn c (newFs ns ds)) S1 else .bad
def mNew0 (c : Str) : ME := fun _ S => .ok (.exn c []) S
section
variable {X : Cx} {W : WX} {e : Expr} {es : List Expr} {mr : MA} {m : ME} {p p1 p2 pos pos2 : Pos}
theorem d_newX {j k : Nat} {x : Str} {ns : List Str} (C : XiOk X.prog X.w X.K X.mg X.base j x ns) (P : PlOk X.K X.mg [x]) (hr : Room k X.A) (ha : DA X W (e :: es) mr) (hj : j + 1 ≤ k := by decide) (hn : ns.length ≤ 1000 := by decide) (hg : Gl X x := by rfl) (hdb : (x == ("__debug__" : Str)) = false := by decide)
    (he : starEach (e :: es) X.env = (false, eval e X.env) :: starEach es X.env := by rfl) (hpl : (backTo pos (starEach es X.env)).any (·.1) = false := by rfl) :
    DE X W (.Call (.Name x p) (e :: es) [] pos) (mNewX x ns mr) := by
  obtain ⟨C, fI, fd, ps, hm, T, iC, tI, B, F⟩ := C
  obtain ⟨cls, e3, e4⟩ := P.ex x List.mem_cons_self
  obtain rfl : cls = .ref C := Option.some.inj (e3.symm.trans hm)
  obtain ⟨ta, pa, ka⟩ := ha
  refine ⟨_, pe_of_mk (pmk_oex (dvs := []) T iC tI F (hr.mono hj) B .nil (fun _ _ _ _ _ _ _ h => (let ⟨_, _, _, _, _, _, _, _, _, _, _, _, z⟩ := h; z.elim)) hg hm pa hdb he hpl), fun ξ μ σ H ρ S Q g s h => ka ξ μ σ H ρ S _ g s (WR.bind h fun ds S1 vs μ1 H1 u1 s1 r1 h1 => ?_)⟩
  by_cases c : ds.length = ns.length
  · rw [if_pos c] at h1
    have hl := r1.length
    rw [List.append_nil]
    refine ⟨by rw [hl, c]; exact hn, fun a na => ⟨a, vs, rfl, by rw [hl, c], upd_same, fun H' d hd da e1 e2 e5 => ⟨rfl, d, _, e1, e2, ?_, ?_⟩⟩⟩
    · rw [upd_ne da] at hd; exact hd
    · rw [upd_ne da] at hd
      have eq : upd (L2.del H' a) d (.xd (ns.zip vs).reverse) = upd H1 d (.xd (ns.zip vs).reverse) := by
        funext b
        by_cases hb : b = d
        · rw [hb, upd_same, upd_same]
        · rw [upd_ne hb, upd_ne hb]
          by_cases ha : b = a
          · rw [ha, del_same, na]
          · rw [del_ne ha, e5 b ha hb, upd_ne ha]
      rw [eq]
      intro a' na'
      have s2 := s1.fresh (o := .xd (ns.zip vs).reverse) hd
      have ne : d ≠ a' := fun z => by rw [z, upd_same] at na'; cases na'
      refine h1 _ μ1 _ ((Up.fresh hd).trans (.fresh na')) (s2.fresh na') (.exn ⟨_, some d, ⟨hm, e4⟩, ⟨upd_same, s2.out na', s2.outX na'⟩, .inr ⟨d, _, rfl, by rw [upd_ne ne, upd_same], ?_, s1.out hd, s1.outX hd⟩⟩)
      unfold newFs
      cases q : intFsOf (ns.zip ds).reverse with
      | none => exact .inl rfl
      | some l =>
        refine .inr (fsr_ints (F := fx X ξ) (μ := μ1) (H := H1) ?_)
        have ee := intFsOf_some q
        show Paired _ _ _
        rw [Option.getD_some, ← ee]
        exact paired_reverse (paired_zip (rds_pairX r1))
  · rw [if_neg c] at h1; exact h1.elim
end
section
variable {S : Sto} {ρ : Rho} {E : EX} {Q : D → Sto → Prop}
@[simp] theorem does_new0 {c : Str} : (mNew0 c ρ S).DoesE E Q = Q (.exn c []) S := rfl
@[simp] theorem does_newX {c : Str} {ns : List Str} {ma : MA} : (mNewX c ns ma ρ S).DoesE E Q = (ma ρ S).DoesE E fun ds S1 => ds.length = ns.length ∧ Q (.exn c (newFs ns ds)) S1 := by
  unfold mNewX
  rw [does_bind]; congr 1; funext ds S1
  by_cases h : ds.length = ns.length
  · rw [if_pos h]; simp [h]
  · rw [if_neg h]; simp [h, Res.DoesE]
end
end Dm
-- text Hw8
namespace Dm
open PySem L2
noncomputable section
def m_law_next_words : List D → Sto → Res D := mDef 2 3 (mSeq (mAsg 2 (mFz (mCatL (mCatL (mLst (mCons (mK (.str "add")) mNil)) (mRepL (mLst (mCons (mK (.str "plus")) mNil)) (mCallB gInt1 (mCons (mOp (gIn false) (mK (.str "span")) (mVar 0)) mNil)))) (mRepL (mLst (mCons (mK (.str "less")) mNil)) (mCallB gInt1 (mCons (mAnd (mOp (gIn false) (mK (.str "span")) (mVar 0)) (mOp (gIn false) (mK (.str "reading")) (mVar 0))) mNil)))))) (mSeq (mIfS (mOp gGt (mOp gIx (mVar 1) (mK (.int 0))) (mK (.int 0))) (mSeq (mAsg 2 (mFz (mCatL (mCatV (mVar 2) (mLst (mCons (mK (.str "add")) (mCons (mK (.str "add")) (mCons (mK (.str "read")) (mCons (mK (.str "read")) (mCons (mK (.str "read")) (mCons (mK (.str "offset")) mNil)))))))) (mRepL (mLst (mCons (mK (.str "edition")) mNil)) (mCallB gMin2 (mCons (mK (.int 2)) (mCons (mOp gIx (mVar 1) (mK (.int 2))) mNil))))))) (mAsg 2 (mFz (mCatV (mVar 2) (mRepL (mLst (mCons (mK (.str "find")) mNil)) (mCallB gInt1 (mCons (mOp gMul (mK (.int 9)) (mCallB gInt1 (mCons (mAnd (mOp gGt (mOp gIx (mVar 1) (mK (.int 1))) (mK (.int 0))) (mOp (gIn false) (mK (.str "reading")) (mVar 0))) mNil))) mNil))))))) mNop) (mRet (mVar 2))))
def m_law_any_deed : List D → Sto → Res D := mDef 4 7 (mSeq (mAsg 4 (mCall m_law_next_words (mCons (mVar 2) (mCons (mVar 3) mNil)))) (mSeq (mAsg 5 (mOp gIx (mVar 4) (mCall m_law_pick (mCons (mVar 0) (mCons (mCallB gLen (mCons (mVar 4) mNil)) mNil))))) (mSeq (mIfS (mOp gEq (mVar 5) (mK (.str "add"))) (mRet (mTup (mCons (mK (.str "add")) (mCons (mCall m_law_spot (mCons (mVar 0) (mCons (mVar 2) (mCons (mK (.str "point")) mNil)))) (mCons (mCall m_law_minutes (mCons (mVar 0) (mCons (mVar 1) (mCons (mOp gIx (mVar 3) (mK (.int 3))) mNil)))) mNil))))) mNop) (mSeq (mIfS (mOp gEq (mVar 5) (mK (.str "plus"))) (mRet (mTup (mCons (mK (.str "plus")) (mCons (mCall m_law_spot (mCons (mVar 0) (mCons (mVar 2) (mCons (mK (.str "moment")) mNil)))) (mCons (mCall m_law_spot (mCons (mVar 0) (mCons (mVar 2) (mCons (mK (.str "span")) mNil)))) mNil))))) mNop) (mSeq (mIfS (mOp gEq (mVar 5) (mK (.str "less"))) (mRet (mTup (mCons (mK (.str "less")) (mCons (mCall m_law_spot (mCons (mVar 0) (mCons (mVar 2) (mCons (mK (.str "reading")) mNil)))) (mCons (mCall m_law_spot (mCons (mVar 0) (mCons (mVar 2) (mCons (mK (.str "span")) mNil)))) mNil))))) mNop) (mSeq (mAsg 6 (mCall m_law_pick (mCons (mVar 0) (mCons (mCallB gLen (mCons (mVar 1) mNil)) mNil)))) (mSeq (mIfS (mOp gEq (mVar 5) (mK (.str "find"))) (mRet (mOp gAdd (mTup (mCons (mK (.str "find")) (mCons (mCall m_law_spot (mCons (mVar 0) (mCons (mVar 2) (mCons (mK (.str "reading")) mNil)))) (mCons (mVar 6) mNil)))) (mCall m_law_any_rules (mCons (mVar 0) mNil)))) mNop) (mRet (mTup (mCons (mVar 5) (mCons (mCall m_law_spot (mCons (mVar 0) (mCons (mVar 2) (mCons (mK (.str "moment")) mNil)))) (mCons (mVar 6) mNil))))))))))))
def m_law_kind_made : List D → Sto → Res D := mDef 2 2 (mSeq (mIfS (mOp gEq (mOp gIx (mVar 1) (mK (.int 0))) (mK (.str "add"))) (mRet (mOp gIx (mVar 0) (mOp gIx (mVar 1) (mK (.int 1))))) mNop) (mSeq (mIfS (mOp gEq (mOp gIx (mVar 1) (mK (.int 0))) (mK (.str "offset"))) (mRet (mK (.str "span"))) mNop) (mSeq (mIfS (mOr (mOp gEq (mOp gIx (mVar 1) (mK (.int 0))) (mK (.str "read"))) (mOp gEq (mOp gIx (mVar 1) (mK (.int 0))) (mK (.str "plus")))) (mRet (mK (.str "reading"))) mNop) (mRet (mK (.str "moment"))))))
def m_law_kind_row : List D → Sto → Res D := mDef 1 3 (mSeq (mAsg 1 (mNew (mLst (mCons (mK (.str "moment")) mNil)))) (mSeq (mForA (mVar 0) (tgN 2) (mApp (mVar 1) (mCall m_law_kind_made (mCons (mVar 1) (mCons (mVar 2) mNil))))) (mRet (mVar 1))))
def m_law_longer_plan : List D → Sto → Res D := mDef 5 7 (mSeq (mFor (iRange1 (mCons (mVar 3) mNil)) (tgN 5) (mSeq (mAsg 6 (mCall m_law_any_deed (mCons (mVar 0) (mCons (mVar 1) (mCons (mCall m_law_kind_row (mCons (mVar 2) mNil)) (mCons (mVar 4) mNil)))))) (mSeq (mAsg 4 (mCall m_law_less_room (mCons (mVar 4) (mCons (mVar 6) mNil)))) (mAsg 2 (mOp gAdd (mVar 2) (mTup (mCons (mVar 6) mNil))))))) (mRet (mVar 2)))
def m_law_any_plan : List D → Sto → Res D := mDef 4 5 (mSeq (mAsg 4 (mOp gSub (mVar 2) (mOp gIx (mFz (mLst (mCons (mK (.int 0)) (mCons (mK (.int 0)) (mCons (mK (.int 1)) (mCons (mK (.int 2)) (mCons (mK (.int 3)) (mCons (mCall m_law_pick (mCons (mVar 0) (mCons (mOp gAdd (mVar 2) (mK (.int 1))) mNil))) mNil)))))))) (mCall m_law_pick (mCons (mVar 0) (mCons (mK (.int 6)) mNil)))))) (mRet (mCall m_law_longer_plan (mCons (mVar 0) (mCons (mVar 1) (mCons (mTup mNil) (mCons (mVar 4) (mCons (mVar 3) mNil))))))))
end
end Dm
-- text Hw9
namespace Dm
open PySem L2
end Dm
-- text DmLc2
namespace Dm
open PySem L2
open PySem.W (Frag)
/-! ### comprehensions of two generators -/
def lcL2 (f : D → Rho → Option Rho) (mt : ME) (mi1 : ME) (f1 : D → Rho → Option Rho) (mt1 me : ME) (vs1 : List Nat) (ρ : Rho) : List D → Sto → Option (List D × Sto)
  | [], S => some ([], S)
  | d :: r, S => match f d ρ with
    | none => none
    | some ρ1 => match mt ρ1 S with
      | .ok (.bl true) S1 => match iAny mi1 ρ1 S1 with
        | .ok p1 S2 => match lcA p1.1 f1 mt1 me (wipeD ρ1 vs1) (p1.2 + 1) 0 S2 with
          | some (ys, S3) => match lcL2 f mt mi1 f1 mt1 me vs1 ρ r S3 with
            | some (zs, S4) => some (ys ++ zs, S4)
            | none => none
          | none => none
        | _ => none
      | .ok (.bl false) S1 => lcL2 f mt mi1 f1 mt1 me vs1 ρ r S1
      | _ => none
def mLc2 (mi : MA) (f : D → Rho → Option Rho) (mt : ME) (mi1 : ME) (f1 : D → Rho → Option Rho) (mt1 me : ME) (vs vs1 : List Nat) : MA := fun ρ S => (mi ρ S).bind fun ds S1 => match lcL2 f mt mi1 f1 mt1 me vs1 (wipeD ρ vs) ds S1 with
  | some (ys, S2) => if ys.length ≤ 16777216 then .ok ys S2 else .bad
  | none => .bad
def lcA2 (d : D) (f : D → Rho → Option Rho) (mt : ME) (mi1 : ME) (f1 : D → Rho → Option Rho) (mt1 me : ME) (vs1 : List Nat) (ρ : Rho) : Nat → Nat → Sto → Option (List D × Sto)
  | 0, _, _ => none
  | k + 1, i, S => match seqOf S d with
    | none => none
    | some ds => match ds[i]? with
      | none => if i = ds.length then some ([], S) else none
      | some x => match f x ρ with
        | none => none
        | some ρ1 => match mt ρ1 S with
          | .ok (.bl true) S1 => match iAny mi1 ρ1 S1 with
            | .ok p1 S2 => match lcA p1.1 f1 mt1 me (wipeD ρ1 vs1) (p1.2 + 1) 0 S2 with
              | some (ys, S3) => match lcA2 d f mt mi1 f1 mt1 me vs1 ρ k (i + 1) S3 with
                | some (zs, S4) => some (ys ++ zs, S4)
                | none => none
              | none => none
            | _ => none
          | .ok (.bl false) S1 => lcA2 d f mt mi1 f1 mt1 me vs1 ρ k (i + 1) S1
          | _ => none
def mLcA2 (m : ME) (f : D → Rho → Option Rho) (mt : ME) (mi1 : ME) (f1 : D → Rho → Option Rho) (mt1 me : ME) (vs vs1 : List Nat) : MA := fun ρ S => (iAny m ρ S).bind fun p S1 => match lcA2 p.1 f mt mi1 f1 mt1 me vs1 (wipeD ρ vs) (p.2 + 1) 0 S1 with
  | some (ys, S2) => if ys.length ≤ 16777216 then .ok ys S2 else .bad
  | none => .bad
theorem Mv.comp {F : Fx} {μ μ1 μ2 : List Addr} {H H1 H2 : Hp} (a : Mv F μ H F μ1 H1) (b : Mv F μ1 H1 F μ2 H2) : Mv F μ H F μ2 H2 := ⟨fun h => b.t (a.t h), fun h => b.l (a.l h), fun h => b.c (a.c h), rfl, fun h => b.x (a.x h)⟩
/-! ### what they do -/
section
variable {S : Sto} {ρ : Rho} {f f1 : D → Rho → Option Rho} {mt mt1 me : ME} {mi : MA} {mi1 : ME} {E : EX}
def LcQ2 (f : D → Rho → Option Rho) (mt : ME) (mi1 : ME) (f1 : D → Rho → Option Rho) (mt1 me : ME) (vs1 : List Nat) (ρ : Rho) (ds : List D) (S : Sto) (Q : List D → Sto → Prop) : Prop := ∃ ys S2, lcL2 f mt mi1 f1 mt1 me vs1 ρ ds S = some (ys, S2) ∧ Q ys S2
@[simp] theorem does_lc2 {vs vs1 : List Nat} {Q : List D → Sto → Prop} : (mLc2 mi f mt mi1 f1 mt1 me vs vs1 ρ S).DoesE E Q = (mi ρ S).DoesE E fun ds S1 => LcQ2 f mt mi1 f1 mt1 me vs1 (wipeD ρ vs) ds S1 fun ys S2 => ys.length ≤ 16777216 ∧ Q ys S2 := by
  unfold mLc2
  rw [does_bind]
  congr 1
  funext ds S1
  unfold LcQ2
  cases e : lcL2 f mt mi1 f1 mt1 me vs1 (wipeD ρ vs) ds S1 with
  | none => refine propext ⟨fun h => h.elim, fun ⟨_, _, h, _⟩ => nomatch h⟩
  | some r =>
    obtain ⟨ys, S2⟩ := r
    refine propext ⟨fun q => ?_, ?_⟩
    · simp only at q
      by_cases c : ys.length ≤ 16777216
      · rw [if_pos c] at q
        exact ⟨ys, S2, rfl, c, q⟩
      · rw [if_neg c] at q
        exact q.elim
    · rintro ⟨ys', S2', e', c, q⟩
      cases e'
      simp only
      rw [if_pos c]
      exact q
def LcAQ2 (d : D) (f : D → Rho → Option Rho) (mt : ME) (mi1 : ME) (f1 : D → Rho → Option Rho) (mt1 me : ME) (vs1 : List Nat) (ρ : Rho) (n : Nat) (S : Sto) (Q : List D → Sto → Prop) : Prop := ∃ ys S2, lcA2 d f mt mi1 f1 mt1 me vs1 ρ (n + 1) 0 S = some (ys, S2) ∧ Q ys S2
@[simp] theorem does_lcA2 {m : ME} {vs vs1 : List Nat} {Q : List D → Sto → Prop} : (mLcA2 m f mt mi1 f1 mt1 me vs vs1 ρ S).DoesE E Q = (m ρ S).DoesE E fun d S1 => match seqOf S1 d with
    | some ds => LcAQ2 d f mt mi1 f1 mt1 me vs1 (wipeD ρ vs) ds.length S1 fun ys S2 => ys.length ≤ 16777216 ∧ Q ys S2
    | none => False := by
  unfold mLcA2 iAny
  rw [does_bind, does_bind]
  congr 1
  funext d S1
  cases seqOf S1 d with
  | none => rfl
  | some ds =>
    simp only [does_ok]
    unfold LcAQ2
    cases e : lcA2 d f mt mi1 f1 mt1 me vs1 (wipeD ρ vs) (ds.length + 1) 0 S1 with
    | none => refine propext ⟨fun h => h.elim, fun ⟨_, _, h, _⟩ => nomatch h⟩
    | some r =>
      obtain ⟨ys, S2⟩ := r
      refine propext ⟨fun q => ?_, ?_⟩
      · simp only at q
        by_cases c : ys.length ≤ 16777216
        · rw [if_pos c] at q
          exact ⟨ys, S2, rfl, c, q⟩
        · rw [if_neg c] at q
          exact q.elim
      · rintro ⟨ys', S2', e', c, q⟩
        cases e'
        simp only
        rw [if_pos c]
        exact q
end
end Dm
-- text Hw10
namespace Dm
open PySem L2
end Dm
-- text DmPop
namespace Dm
open PySem L2
open PySem.W (Frag)
/-! ### xs.pop(), xs.reverse() as statements -/
section
variable {X : Cx} {W : WX}
def mPopS (o : ME) : MS := fun ρ S => ofRes (o ρ S) ρ fun x S1 => match x with
  | .cell n => match S1[n]? with
    | some (.lst ds) => if ds = [] then .bad else .nx ρ (S1.set n (.lst ds.dropLast))
    | _ => .bad
  | _ => .bad
def mRevS (o : ME) : MS := fun ρ S => ofRes (o ρ S) ρ fun x S1 => match x with
  | .cell n => match S1[n]? with
    | some (.lst ds) => .nx ρ (S1.set n (.lst ds.reverse))
    | _ => .bad
  | _ => .bad
end
section
variable {S : Sto} {ρ : Rho} {N B C : Rho → Sto → Prop} {R : D → Sto → Prop} {EO : EXO}
@[simp] theorem does_popS {o : ME} : (mPopS o ρ S).DoesE EO N R B C = (o ρ S).DoesE (eAt EO ρ) fun x S1 => match x with
    | .cell n => ∃ xs, S1[n]? = some (.lst xs) ∧ xs ≠ [] ∧ N ρ (S1.set n (.lst xs.dropLast))
    | _ => False := by
  unfold mPopS
  rw [does_ofRes]; congr 1; funext x S1
  cases x with
  | cell n =>
    simp only
    cases q : S1[n]? with
    | none => exact propext ⟨fun h => h.elim, fun ⟨_, h, _⟩ => nomatch h⟩
    | some c =>
      cases c with
      | lst ds =>
        by_cases hd : ds = []
        · simp only [if_pos hd]
          refine propext ⟨fun h => h.elim, fun ⟨xs, h, h2, _⟩ => ?_⟩
          cases h
          exact absurd hd h2
        · simp only [if_neg hd]
          refine propext ⟨fun h => ⟨ds, rfl, hd, h⟩, fun ⟨xs, h, _, h3⟩ => ?_⟩
          cases h
          exact h3
      | _ => exact propext ⟨fun h => h.elim, fun ⟨_, h, _⟩ => nomatch h⟩
  | _ => rfl
@[simp] theorem does_revS {o : ME} : (mRevS o ρ S).DoesE EO N R B C = (o ρ S).DoesE (eAt EO ρ) fun x S1 => match x with
    | .cell n => ∃ xs, S1[n]? = some (.lst xs) ∧ N ρ (S1.set n (.lst xs.reverse))
    | _ => False := by
  unfold mRevS
  rw [does_ofRes]; congr 1; funext x S1
  cases x with
  | cell n =>
    simp only
    cases q : S1[n]? with
    | none => exact propext ⟨fun h => h.elim, fun ⟨_, h, _⟩ => nomatch h⟩
    | some c =>
      cases c with
      | lst ds =>
        refine propext ⟨fun h => ⟨ds, rfl, h⟩, fun ⟨xs, h, h3⟩ => ?_⟩
        cases h
        exact h3
      | _ => exact propext ⟨fun h => h.elim, fun ⟨_, h, _⟩ => nomatch h⟩
  | _ => rfl
end
end Dm
-- text Hw11
namespace Dm
open PySem L2
end Dm
-- text DmCatW
namespace Dm
open PySem L2 PySem.Spec PyProof.Rows
open PySem.W (Frag)
section
variable {X : Cx} {W : WX} {tg a b : Expr} {ma mb : ME} {pos : Pos} {E : EX}
/-- two lists that stand, one behind the other -/
def mCatW (a b : ME) : MA := fun ρ S => (a ρ S).bind fun x S1 => (b ρ S1).bind fun y S2 => match lstOf S2 x, lstOf S2 y with
  | some xs, some ys => if xs.length + ys.length ≤ 16777216 then .ok (xs ++ ys) S2 else .bad
  | _, _ => .bad
variable {ρ : Rho} {S : Sto}
@[simp] theorem does_catW {a b : ME} {Q : List D → Sto → Prop} : (mCatW a b ρ S).DoesE E Q = (a ρ S).DoesE E fun x S1 => (b ρ S1).DoesE E fun y S2 => match lstOf S2 x, lstOf S2 y with
    | some xs, some ys => xs.length + ys.length ≤ 16777216 ∧ Q (xs ++ ys) S2
    | _, _ => False := by
  unfold mCatW
  rw [does_bind]; congr 1; funext x S1
  rw [does_bind]; congr 1; funext y S2
  cases e : lstOf S2 x with
  | none => simp [Res.DoesE]
  | some xs =>
    cases e' : lstOf S2 y with
    | none => simp [Res.DoesE]
    | some ys =>
      simp only
      by_cases h : xs.length + ys.length ≤ 16777216
      · rw [if_pos h]; simp [h]
      · rw [if_neg h]; simp [h, Res.DoesE]
end
end Dm
-- text Hw12
namespace Dm
open PySem L2
end Dm
-- text DmTupMul
namespace Dm
open PySem L2 PySem.Spec PyProof.Rows
open PySem.W (Frag)
/-! ### a tuple some times -/
def gMulT : Sto → D → D → Option D := fun _ x y => match x, y with
  | .tup ds, .int k => if ds.length ≠ 0 ∧ 2 ≤ k ∧ k ≤ 1000 ∧ ds.length ≤ 1000 then some (.tup (List.replicate k.toNat ds).flatten) else none
  | _, _ => none
section
variable {X : Cx}
theorem o_mulT : OpD X (rRepT X.K) gMulT := by
  intro ξ μ H S x y v u z Q s rx ry e k
  cases rx with
  | @tup a xs ds f r =>
    cases ry with
    | int i =>
      unfold gMulT at e
      simp only at e
      by_cases c : ds.length ≠ 0 ∧ 2 ≤ i ∧ i ≤ 1000 ∧ ds.length ≤ 1000
      · rw [if_pos c] at e
        cases e
        refine ⟨a, i, xs, rfl, rfl, f.sq, fun q => c.1 (by rw [← r.length, q]; rfl), c.2.1, c.2.2.1, by rw [r.length]; exact c.2.2.2, fun p hp => ?_⟩
        exact k _ μ _ (.fresh hp) (s.fresh hp) (.tup (.inl ⟨.inl upd_same, s.out hp, s.outX hp⟩) ((RDs.rep r i.toNat).up (.fresh hp)))
      · rw [if_neg c] at e; exact nomatch e
    | _ => exact nomatch e
  | _ => cases ry <;> exact nomatch e
end
@[simp] theorem gMulT_tup {S : Sto} {ds : List D} {k : Int} : gMulT S (.tup ds) (.int k) = if ds.length ≠ 0 ∧ 2 ≤ k ∧ k ≤ 1000 ∧ ds.length ≤ 1000 then some (.tup (List.replicate k.toNat ds).flatten) else none := rfl
end Dm
-- text Hw13
namespace Dm
open PySem L2
noncomputable section
def m_law_is_whole : List D → Sto → Res D := mDef 1 1 (mRet (mAnd (mIsi .int (mVar 0)) (mNot (mIsi .bl (mVar 0)))))
def m_law_odd : List D → Sto → Res D := mDef 3 4 (mSeq (mAsg 3 (mFz (mLst (mCons (mK .non) (mCons (mK (.bl true)) (mCons (mK (.bl false)) (mCons (mK (.str "")) (mCons (mK (.str "0")) (mCons (mK (.str "read")) (mCons (mK (.str "late")) (mCons (mK (.str "behind")) (mCons (mK (.str "refuse")) (mCons (mK (.str "Early")) (mCons (mK (.str "gap")) (mCons (mTup mNil) (mCons (mFz (mLst mNil)) (mCons (mTup (mCons (mK (.int 0)) mNil)) (mCons (mFz (mLst (mCons (mK (.int 0)) mNil))) (mCons (mK (.int (-1))) (mCons (mK (.int 0)) mNil)))))))))))))))))))) (mSeq (mAsg 3 (mFz (mCatV (mVar 3) (mLst (mCons (mK (.int 1)) (mCons (mK (.int 2)) (mCons (mVar 2) (mCons (mOp gAdd (mVar 2) (mK (.int 1))) (mCons (mCallB gLen (mCons (mVar 1) mNil)) (mCons (mK (.int 100000)) (mCons (mK (.int 100001)) (mCons (mK (.int (-100000))) (mCons (mK (.int (-100001))) (mCons (mK (.int 1000000000000000000000000000000)) (mCons (mNewX "Refused" ["step"] (mCons (mK (.int 1)) mNil)) (mCons (mK (.str "plus")) mNil)))))))))))))))) (mRet (mOp gIx (mVar 3) (mCall m_law_pick (mCons (mVar 0) (mCons (mCallB gLen (mCons (mVar 3) mNil)) mNil)))))))
end
end Dm
-- text DmGet
namespace Dm
open PySem L2 PySem.Spec PyProof.Rows
open PySem.W (Frag)
section
variable {X : Cx} {W : WX} {a o e f : Expr} {mo me mf ma : ME} {apos cpos pos p2 : Pos}
/-! ### d.get(k, x) -/
def mGet2 (mo mk mx : ME) : ME := fun ρ S => (mo ρ S).bind fun d S1 => match dicOf S1 d with
  | none => .bad
  | some _ => (mk ρ S1).bind fun y S2 => (mx ρ S2).bind fun z S3 => match dicOf S3 d, keyD y with
    | some kvs, some k => .ok ((valD kvs k).getD z) S3
    | _, _ => .bad
theorem d_get (hu : X.A.units + 64 < cLine) (ho : DE X W o mo) (he : DE X W e me) (hf : DE X W f mf) (h1 : attributeBase o "get" X.env (eval o X.env) = eval o X.env := by rfl)
    (h2 : ((backTo cpos (starEach [e, f] X.env)).all (fun x => !x.1) && (backToKw cpos (keywordEach [] X.env)).all (fun x => x.1.isSome) && decide (([e, f] : List Expr).length + ([] : List Keyword).length + (if ([] : List Keyword).isEmpty then 0 else 1) < 30)) = true := by rfl)
    (h3 : (apos.endLine == cpos.line) = true := by rfl) (h4 : backTo cpos (starEach [e, f] X.env) = [(false, eval e X.env), (false, eval f X.env)] := by rfl) :
    DE X W (.Call (.Attribute o "get" apos) [e, f] [] cpos) (mGet2 mo me mf) := by
  obtain ⟨to, po, ko⟩ := ho
  obtain ⟨te, pe, ke⟩ := he
  obtain ⟨tf, pf, kf⟩ := hf
  refine ⟨_, pe_dget2 (by omega) po pe pf ⟨h1, h2, h3, h4⟩, fun ξ μ σ H ρ S Q g s h => ko ξ μ σ H ρ S _ g s (WR.bind h fun x S1 v μ1 H1 u1 s1 r1 w1 => ?_)⟩
  cases q0 : dicOf S1 x with
  | none => rw [q0] at w1; exact w1.elim
  | some kvs0 =>
    rw [q0] at w1
    obtain ⟨n0, a0, vk0, rfl, rfl, ea0, es0, e30, e40⟩ := dic_at s1 r1 q0
    refine ⟨a0, rfl, .inl ⟨_, .inl e30⟩, ?_⟩
    refine ke ξ μ1 σ H1 ρ S1 _ (g.up u1) s1 (WR.bind w1 fun y S2 w μ2 H2 u2 s2 r2 w2 => ?_)
    refine kf ξ μ2 σ H2 ρ S2 _ (g.up (u1.trans u2)) s2 (WR.bind w2 fun z S3 w' μ3 H3 u3 s3 r3 w3 => ?_)
    cases q1 : dicOf S3 (.cell n0) with
    | none => rw [q1] at w3; exact w3.elim
    | some kvs =>
      cases q2 : keyD y with
      | none => rw [q1, q2] at w3; exact w3.elim
      | some k =>
        rw [q1, q2] at w3
        simp only at w3
        obtain ⟨n, a, vk, en, ev, ea, es, e3, e4⟩ := dic_at s3 (r1.up (u2.trans u3)) q1
        have ev : a0 = a := by injection ev
        subst ev
        have ek := keyD_of (r2.up u3) q2
        subst ek
        refine ⟨_, DGet.k e3, ?_⟩
        cases q3 : valD kvs k with
        | none =>
          rw [q3] at w3
          have hn := valV_none (k := k) e4
          rw [q3] at hn
          have hn' : valV vk k = none := by
            cases c : valV vk k with
            | none => rfl
            | some _ => rw [c] at hn; cases hn
          rw [hn']
          exact w3 _ μ3 H3 .refl s3 r3
        | some d =>
          rw [q3] at w3
          obtain ⟨zz, e5, e6⟩ := valV_of e4 q3
          rw [e5]
          exact w3 _ μ3 H3 .refl s3 e6
/-! ### texts: s + t, s[i:j] -/
def gCatS : Sto → D → D → Option D := fun _ x y => match x, y with
  | .str a, .str b => if a.length + b.length ≤ 16777216 then some (.str (a ++ b)) else none
  | _, _ => none
theorem o_catS : OpD X rCatS gCatS := by
  intro ξ μ H S x y v u z Q s rx ry e k
  cases rx with
  | str a =>
    cases ry with
    | str b =>
      unfold gCatS at e
      simp only at e
      by_cases c : a.length + b.length ≤ 16777216
      · rw [if_pos c] at e
        cases e
        exact ⟨a, b, rfl, rfl, by rw [sizeLine_eq]; exact c, k _ μ H .refl s (.str _)⟩
      · rw [if_neg c] at e; exact nomatch e
    | _ => exact nomatch e
  | _ => cases ry <;> exact nomatch e
variable {lo hi : Option Expr} {ml mh : MO}
def mSlS (a : ME) (lo hi : MO) : ME := fun ρ S => (a ρ S).bind fun x S1 => (lo ρ S1).bind fun l S2 => (hi ρ S2).bind fun h S3 => match x with
  | .str z => if z.length ≤ 16777216 then .ok (.str (cutS z l h)) S3 else .bad
  | _ => .bad
theorem d_slS (ha : DE X W a ma) (hl : DO X W lo ml) (hh : DO X W hi mh) : DE X W (.Subscript a (.Slice lo hi none p2) pos) (mSlS ma ml mh) := by
  obtain ⟨ta, pa, ka⟩ := ha
  obtain ⟨tl, pl, kl⟩ := hl
  obtain ⟨th, ph, kh⟩ := hh
  refine ⟨_, pe_slice sl_str pa pl ph, fun ξ μ σ H ρ S Q g s h => ka ξ μ σ H ρ S _ g s (WR.bind h fun x S1 v μ1 H1 u1 s1 r1 h1 => ?_)⟩
  refine kl ξ μ1 σ H1 ρ S1 _ (g.up u1) s1 (WR.bind h1 fun l S2 l' μ2 H2 u2 s2 r2 h2 => ?_)
  subst r2
  refine kh ξ μ2 σ H2 ρ S2 _ (g.up (u1.trans u2)) s2 (WR.bind h2 fun u S3 u' μ3 H3 u3 s3 r3 h3 => ?_)
  subst r3
  cases r1 with
  | str z =>
    simp only at h3
    by_cases c : z.length ≤ 16777216
    · rw [if_pos c] at h3
      exact ⟨z, rfl, by rw [sizeLine_eq]; exact c, h3 _ μ3 H3 .refl s3 (.str _)⟩
    · rw [if_neg c] at h3; exact h3.elim
  | _ => exact h3.elim
end
section
variable {S : Sto} {ρ : Rho} {E : EX} {Q : D → Sto → Prop}
@[simp] theorem does_get2 {mo mk mx : ME} : (mGet2 mo mk mx ρ S).DoesE E Q = (mo ρ S).DoesE E fun d S1 => match dicOf S1 d with
    | none => False
    | some _ => (mk ρ S1).DoesE E fun y S2 => (mx ρ S2).DoesE E fun z S3 => match dicOf S3 d, keyD y with
      | some kvs, some k => Q ((valD kvs k).getD z) S3
      | _, _ => False := by
  unfold mGet2
  rw [does_bind]; congr 1; funext d S1
  cases dicOf S1 d with
  | none => rfl
  | some kvs0 =>
    simp only
    rw [does_bind]; congr 1; funext y S2
    rw [does_bind]; congr 1; funext z S3
    cases dicOf S3 d with
    | none => rfl
    | some kvs =>
      cases keyD y with
      | none => rfl
      | some k => rfl
@[simp] theorem gCatS_str {a b : Str} : gCatS S (.str a) (.str b) = if a.length + b.length ≤ 16777216 then some (.str (a ++ b)) else none := rfl
@[simp] theorem does_slS {a : ME} {lo hi : MO} : (mSlS a lo hi ρ S).DoesE E Q = (a ρ S).DoesE E fun x S1 => (lo ρ S1).DoesE E fun l S2 => (hi ρ S2).DoesE E fun h S3 => match x with
    | .str z => z.length ≤ 16777216 ∧ Q (.str (cutS z l h)) S3
    | _ => False := by
  unfold mSlS
  rw [does_bind]; congr 1; funext x S1
  rw [does_bind]; congr 1; funext l S2
  rw [does_bind]; congr 1; funext h S3
  cases x with
  | str z =>
    simp only
    by_cases c : z.length ≤ 16777216
    · rw [if_pos c]; simp [c]
    · rw [if_neg c]; simp [c, Res.DoesE]
  | _ => rfl
end
end Dm
-- text Hw14
namespace Dm
open PySem L2
noncomputable section
def m_law_is_deed : List D → Sto → Res D := mDef 3 4 (mSeq (mIfS (mOr (mNot (mIsi .tup (mVar 2))) (mOr (mOp gLt (mCallB gLen (mCons (mVar 2) mNil)) (mK (.int 3))) (mNot (mIsi .str (mOp gIx (mVar 2) (mK (.int 0))))))) (mRet (mK (.bl false))) mNop) (mSeq (mIfS (mOp (gIn true) (mOp gIx (mVar 2) (mK (.int 0))) (mFz (mLst (mCons (mK (.str "read")) (mCons (mK (.str "find")) (mCons (mK (.str "offset")) (mCons (mK (.str "edition")) (mCons (mK (.str "plus")) (mCons (mK (.str "less")) (mCons (mK (.str "add")) mNil)))))))))) (mRet (mK (.bl false))) mNop) (mSeq (mIfS (mOr (mOp gNe (mCallB gLen (mCons (mVar 2) mNil)) (mOp gAdd (mK (.int 3)) (mOp gMul (mK (.int 2)) (mCallB gInt1 (mCons (mOp gEq (mOp gIx (mVar 2) (mK (.int 0))) (mK (.str "find"))) mNil))))) (mOr (mNot (mCall m_law_is_whole (mCons (mOp gIx (mVar 2) (mK (.int 1))) mNil))) (mNot (mCall m_law_is_whole (mCons (mOp gIx (mVar 2) (mK (.int 2))) mNil))))) (mRet (mK (.bl false))) mNop) (mSeq (mIfS (mOr (mOp gLt (mOp gIx (mVar 2) (mK (.int 1))) (mK (.int 0))) (mOp gGe (mOp gIx (mVar 2) (mK (.int 1))) (mCallB gLen (mCons (mVar 1) mNil)))) (mRet (mK (.bl false))) mNop) (mSeq (mAsg 3 (mOp gIx (mVar 1) (mOp gIx (mVar 2) (mK (.int 1))))) (mSeq (mIfS (mOp gEq (mOp gIx (mVar 2) (mK (.int 0))) (mK (.str "add"))) (mRet (mAnd (mOp gNe (mVar 3) (mK (.str "span"))) (mAnd (mOp gLe (mK (.int (-100000))) (mOp gIx (mVar 2) (mK (.int 2)))) (mOp gLe (mOp gIx (mVar 2) (mK (.int 2))) (mK (.int 100000)))))) mNop) (mSeq (mIfS (mOr (mOp gNe (mVar 3) (mGet2 (mDisp (mPCons (mK (.str "find")) (mK (.str "reading")) (mPCons (mK (.str "less")) (mK (.str "reading")) mPNil))) (mOp gIx (mVar 2) (mK (.int 0))) (mK (.str "moment")))) (mOp gLt (mOp gIx (mVar 2) (mK (.int 2))) (mK (.int 0)))) (mRet (mK (.bl false))) mNop) (mSeq (mIfS (mOr (mOp gEq (mOp gIx (mVar 2) (mK (.int 0))) (mK (.str "plus"))) (mOp gEq (mOp gIx (mVar 2) (mK (.int 0))) (mK (.str "less")))) (mRet (mAnd (mOp gLt (mOp gIx (mVar 2) (mK (.int 2))) (mCallB gLen (mCons (mVar 1) mNil))) (mOp gEq (mOp gIx (mVar 1) (mOp gIx (mVar 2) (mK (.int 2)))) (mK (.str "span"))))) mNop) (mSeq (mIfS (mOp gGe (mOp gIx (mVar 2) (mK (.int 2))) (mCallB gLen (mCons (mVar 0) mNil))) (mRet (mK (.bl false))) mNop) (mSeq (mIfS (mOp gNe (mOp gIx (mVar 2) (mK (.int 0))) (mK (.str "find"))) (mRet (mK (.bl true))) mNop) (mSeq (mIfS (mOr (mNot (mIsi .str (mOp gIx (mVar 2) (mK (.int 3))))) (mNot (mIsi .str (mOp gIx (mVar 2) (mK (.int 4)))))) (mRet (mK (.bl false))) mNop) (mRet (mAnd (mOp (gIn false) (mOp gIx (mVar 2) (mK (.int 3))) (mFz (mLst (mCons (mK (.str "early")) (mCons (mK (.str "late")) (mCons (mK (.str "refuse")) mNil)))))) (mOp (gIn false) (mOp gIx (mVar 2) (mK (.int 4))) (mFz (mLst (mCons (mK (.str "ahead")) (mCons (mK (.str "behind")) (mCons (mK (.str "refuse")) mNil)))))))))))))))))))
def m_law_is_plan : List D → Sto → Res D := mDef 2 4 (mSeq (mIfS (mOr (mNot (mIsi .tup (mVar 1))) (mOp gGt (mCallB gLen (mCons (mVar 1) mNil)) (mK (.int 8)))) (mRet (mK (.bl false))) mNop) (mSeq (mAsg 2 (mNew (mLst (mCons (mK (.str "moment")) mNil)))) (mSeq (mForA (mVar 1) (tgN 3) (mSeq (mIfS (mNot (mCall m_law_is_deed (mCons (mVar 0) (mCons (mVar 2) (mCons (mVar 3) mNil))))) (mRet (mK (.bl false))) mNop) (mApp (mVar 2) (mCall m_law_kind_made (mCons (mVar 2) (mCons (mVar 3) mNil)))))) (mRet (mOp gLt (mCallB gLen (mCons (mFz (mLcA (mVar 1) (tgN 3) (mOp gEq (mOp gIx (mVar 3) (mK (.int 0))) (mK (.str "edition"))) (mVar 3) [3])) mNil)) (mK (.int 2)))))))
def m_law_bent_deed : List D → Sto → Res D := mDef 4 7 (mSeq (mAsg 4 (mCall m_law_pick (mCons (mVar 0) (mCons (mK (.int 8)) mNil)))) (mSeq (mAsg 5 (mCall m_law_pick (mCons (mVar 0) (mCons (mCallB gLen (mCons (mVar 2) mNil)) mNil)))) (mSeq (mAsg 6 (mOp gIx (mVar 2) (mVar 5))) (mSeq (mIfS (mOp gLt (mVar 4) (mK (.int 4))) (mRet (mOp gAdd (mOp gAdd (mSlT (mVar 2) mNoPart (mPart (mVar 5))) (mTup (mCons (mCall m_law_odd (mCons (mVar 0) (mCons (mVar 1) (mCons (mVar 3) mNil)))) mNil))) (mSlT (mVar 2) (mPart (mOp gAdd (mVar 5) (mK (.int 1)))) mNoPart))) mNop) (mSeq (mIfS (mOp gEq (mVar 4) (mK (.int 4))) (mRet (mOp gAdd (mSlT (mVar 2) mNoPart (mPart (mVar 5))) (mSlT (mVar 2) (mPart (mOp gAdd (mVar 5) (mK (.int 1)))) mNoPart))) mNop) (mSeq (mIfS (mOp gEq (mVar 4) (mK (.int 5))) (mRet (mOp gAdd (mOp gAdd (mSlT (mVar 2) mNoPart (mPart (mVar 5))) (mTup (mCons (mCall m_law_odd (mCons (mVar 0) (mCons (mVar 1) (mCons (mVar 3) mNil)))) mNil))) (mSlT (mVar 2) (mPart (mVar 5)) mNoPart))) mNop) (mSeq (mIfS (mOp gEq (mVar 4) (mK (.int 6))) (mRet (mOp gIx (mFz (mLst (mCons (mCall m_law_odd (mCons (mVar 0) (mCons (mVar 1) (mCons (mVar 3) mNil)))) (mCons (mFz (mCallBL gList (mCons (mVar 2) mNil))) (mCons (mFz (mLst (mCons (mVar 2) mNil))) (mCons (mTup (mCons (mVar 2) mNil)) mNil)))))) (mCall m_law_pick (mCons (mVar 0) (mCons (mK (.int 4)) mNil))))) mNop) (mSeq (mIfS (mIsi .str (mVar 6)) (mAsg 6 (mOp gIx (mFz (mLst (mCons (mOp gCatS (mVar 6) (mK (.str " "))) (mCons (mSlS (mVar 6) mNoPart (mPart (mK (.int (-1))))) (mCons (mOp gCatS (mVar 6) (mVar 6)) (mCons (mOp gCatS (mK (.str "s")) (mVar 6)) mNil)))))) (mCall m_law_pick (mCons (mVar 0) (mCons (mK (.int 4)) mNil))))) (mAsg 6 (mOp gSub (mK (.int 0)) (mVar 6)))) (mRet (mOp gAdd (mOp gAdd (mSlT (mVar 2) mNoPart (mPart (mVar 5))) (mTup (mCons (mVar 6) mNil))) (mSlT (mVar 2) (mPart (mOp gAdd (mVar 5) (mK (.int 1)))) mNoPart)))))))))))
def m_law_bent_plan : List D → Sto → Res D := mDef 3 7 (mSeq (mAsg 3 (mCall m_law_pick (mCons (mVar 0) (mCons (mOp gAdd (mCallB gLen (mCons (mVar 2) mNil)) (mK (.int 1))) mNil)))) (mSeq (mIfS (mOp gGt (mCall m_law_pick (mCons (mVar 0) (mCons (mK (.int 4)) mNil))) (mK (.int 0))) (mSeq (mAsg 4 (mTup (mCons (mK (.str "add")) (mCons (mK (.int 0)) (mCons (mK (.int 1)) mNil))))) (mSeq (mIfS (mOp gLt (mVar 3) (mCallB gLen (mCons (mVar 2) mNil))) (mAsg 4 (mOp gIx (mVar 2) (mVar 3))) mNop) (mRet (mOp gAdd (mOp gAdd (mSlT (mVar 2) mNoPart (mPart (mVar 3))) (mTup (mCons (mCall m_law_bent_deed (mCons (mVar 0) (mCons (mVar 1) (mCons (mVar 4) (mCons (mVar 3) mNil))))) mNil))) (mSlT (mVar 2) (mPart (mOp gAdd (mVar 3) (mK (.int 1)))) mNoPart))))) mNop) (mSeq (mAsg 5 (mOp gIx (mTup (mCons (mTup (mCons (mK (.str "edition")) (mCons (mK (.int 0)) (mCons (mK (.int 0)) mNil)))) (mCons (mTup (mCons (mK (.str "add")) (mCons (mK (.int 0)) (mCons (mK (.int 0)) mNil)))) (mCons (mTup (mCons (mK (.str "read")) (mCons (mK (.int 0)) (mCons (mK (.int 0)) mNil)))) (mCons (mTup (mCons (mK (.str "offset")) (mCons (mK (.int 0)) (mCons (mOp gSub (mCallB gLen (mCons (mVar 1) mNil)) (mK (.int 1))) mNil)))) mNil))))) (mCall m_law_pick (mCons (mVar 0) (mCons (mK (.int 4)) mNil))))) (mSeq (mAsg 6 (mFz (mLst (mCons (mFz (mCallBL gList (mCons (mVar 2) mNil))) (mCons (mOp gAdd (mVar 2) (mVar 2)) (mCons (mBackA (mVar 2)) (mCons (mSlT (mVar 2) (mPart (mK (.int 1))) mNoPart) (mCons (mOp gMulT (mTup (mCons (mVar 5) mNil)) (mK (.int 9))) (mCons (mOp gAdd (mOp gAdd (mSlT (mVar 2) mNoPart (mPart (mVar 3))) (mTup (mCons (mVar 5) mNil))) (mSlT (mVar 2) (mPart (mVar 3)) mNoPart)) (mCons (mTup (mCons (mVar 2) mNil)) mNil)))))))))) (mSeq (mAsg 6 (mFz (mCatV (mVar 6) (mLst (mCons (mOp gAdd (mVar 2) (mTup (mCons (mTup (mCons (mK (.str "edition")) (mCons (mK (.int 0)) (mCons (mK (.int 0)) mNil)))) mNil))) (mCons (mCall m_law_odd (mCons (mVar 0) (mCons (mVar 1) (mCons (mVar 3) mNil)))) (mCons (mOp gAdd (mOp gMulT (mTup (mCons (mVar 5) mNil)) (mK (.int 8))) (mSlT (mVar 2) mNoPart (mPart (mK (.int 1))))) (mCons (mOp gAdd (mVar 2) (mTup (mCons (mK .non) mNil))) mNil)))))))) (mRet (mOp gIx (mVar 6) (mCall m_law_pick (mCons (mVar 0) (mCons (mCallB gLen (mCons (mVar 6) mNil)) mNil))))))))))
def m_law_kinds_told : List D → Sto → Res D := mDef 2 3 (mSeq (mAsg 2 (mK .non)) (mSeq (mTry ["InvalidProgram", "InvalidZones"] [("InvalidProgram", none, (mAsg 2 (mK (.str "InvalidProgram")))), ("HourError", none, (mAsg 2 (mK (.str "another"))))] (mAsg 2 (mCall m_kinds (mCons (mVar 0) (mCons (mVar 1) mNil))))) (mRet (mVar 2))))
def m_law_k19_programs_looked_at : List D → Sto → Res D := mDef 1 8 (mSeq (mFor (iSeq (mFz (mCatL (mLst (mCons (mK (.int 815301944720563118095547720318866420195573310284466719)) mNil)) (mSlL (mVar 0) mNoPart (mPart (mK (.int 40))))))) (tgN 1) (mSeq (mAsg 2 (mCall m_law_bag_of (mCons (mVar 1) mNil))) (mSeq (mAsg 3 (mCall m_law_any_belts (mCons (mVar 2) (mCons (mK (.int 3)) mNil)))) (mSeq (mAsg 4 (mCall m_law_any_plan (mCons (mVar 2) (mCons (mVar 3) (mCons (mK (.int 8)) (mCons (mFz (mLst (mCons (mK (.int 8)) (mCons (mK (.int 8)) (mCons (mK (.int 1)) (mCons (mK (.int 0)) mNil)))))) mNil)))))) (mFor (iSeq (mFz (mLst (mCons (mVar 4) (mCons (mCall m_law_bent_plan (mCons (mVar 2) (mCons (mVar 3) (mCons (mVar 4) mNil)))) (mCons (mVar 4) (mCons (mCall m_law_bent_plan (mCons (mVar 2) (mCons (mVar 3) (mCons (mVar 4) mNil)))) mNil))))))) (tgN 5) (mSeq (mAsg 6 (mFz (mLst mNil))) (mSeq (mIfS (mIsi .lst (mVar 5)) (mAsg 6 (mFz (mCallBL gList (mCons (mVar 5) mNil)))) mNop) (mSeq (mAsg 7 (mCall m_law_is_plan (mCons (mVar 3) (mCons (mVar 5) mNil)))) (mSeq (mIfS (mNot (mCall m_law_same_v2 (mCons (mCall m_is_program (mCons (mVar 3) (mCons (mVar 5) mNil))) (mCons (mVar 7) mNil)))) (mRet (mK (.bl false))) mNop) (mSeq (mIfS (mNot (mCall m_law_same_v2 (mCons (mCall m_law_kinds_told (mCons (mVar 3) (mCons (mVar 5) mNil))) (mCons (mIf (mVar 7) (mCall m_law_kind_row (mCons (mVar 5) mNil)) (mK (.str "InvalidProgram"))) mNil)))) (mRet (mK (.bl false))) mNop) (mIfS (mAnd (mIsi .lst (mVar 5)) (mOp gNe (mVar 5) (mVar 6))) (mRet (mK (.bl false))) mNop))))))))))) (mRet (mK (.bl true))))
end
end Dm
-- text V_k19
namespace V
open PySem L2 PySem.Spec PyProof.Rows Dm
open PySem.W (Frag)
theorem rvR {a : Addr} : L2.RelV (.ref a) (.ref a) := rfl
theorem rvS {x : Str} {t : Tok} : L2.RelV (.str x) (.str x t) := ⟨t, rfl⟩
def top (i : Nat) : Stmt := PySem.Challenge.pw_hoursmeant_k19_programs_looked_at.main.body.getD i (.Pass ⟨0, 0, 0, 0⟩)
theorem kit_plain {K : PySem.W.Frag} {D : Addr} {x : String} (hx : PySem.W.kitMeta x = true) (h : PySem.W.mroIn K D (.type x) = some false) : PySem.W.kitOne K (.ref D) (.type x) = some false := by
  unfold PySem.W.kitOne PySem.W.kitCls
  have e : ((Value.ref D) == (Value.type x)) = false := rfl
  rw [e, if_neg Bool.false_ne_true]
  simp only
  rw [if_pos hx]
  exact h
structure Txt (K : Frag) (mg : Str → Option Value) (w : World) : Prop where
  n_all : mg "all" = none
  n_bool : mg "bool" = none
  n_enumerate : mg "enumerate" = none
  n_int : mg "int" = none
  n_isinstance : mg "isinstance" = none
  n_len : mg "len" = none
  n_list : mg "list" = none
  n_max : mg "max" = none
  n_min : mg "min" = none
  n_range : mg "range" = none
  n_repr : mg "repr" = none
  n_str : mg "str" = none
  n_sum : mg "sum" = none
  n_tuple : mg "tuple" = none
  v_FOLDS : GlK K mg "FOLDS" (.tup [(.str "early"), (.str "late"), (.str "refuse")])
  v_GAPS : GlK K mg "GAPS" (.tup [(.str "ahead"), (.str "behind"), (.str "refuse")])
  v_MADE : GlT K w mg "MADE" [("read", (.str "reading")), ("find", (.str "moment")), ("offset", (.str "span")), ("edition", (.str "moment")), ("plus", (.str "reading")), ("less", (.str "moment"))]
  v_MOST_MINUTES : ∃ t, mg "MOST_MINUTES" = some (.int (100000) t)
  v_MOST_OFFSET : ∃ t, mg "MOST_OFFSET" = some (.int (900) t)
  v_MOST_SPACING : ∃ t, mg "MOST_SPACING" = some (.int (1000000) t)
  v_MOST_STEPS : ∃ t, mg "MOST_STEPS" = some (.int (8) t)
  v_PARTS : GlT K w mg "PARTS" [("read", (.tup [(.str "moment"), (.str "place")])), ("find", (.tup [(.str "reading"), (.str "place"), (.str "fold"), (.str "gap")])), ("offset", (.tup [(.str "moment"), (.str "place")])), ("edition", (.tup [(.str "moment"), (.str "place")])), ("plus", (.tup [(.str "moment"), (.str "span")])), ("less", (.tup [(.str "reading"), (.str "span")])), ("add", (.tup [(.str "point"), (.str "minutes")]))]
  x_InvalidProgram : XcOk K mg "InvalidProgram"
  x_InvalidZones : XcOk K mg "InvalidZones"
  p__Rd7 : PlOk K mg ["Refused"]
  t_HourError_ImIs26 : TrOk K mg ["InvalidProgram", "InvalidZones"] "HourError"
  t_InvalidProgram_ImIs26 : TrOk K mg ["InvalidProgram", "InvalidZones"] "InvalidProgram"
section
variable {P : Program} {w : World} {K : Frag} {mg : Str → Option Value} {base : Heap}
theorem Txt.c_FOLDS (T : Txt K mg w) {X : Cx} (hK : X.K = K := by rfl) (h : X.mg = mg := by rfl) : GlD X "FOLDS" (.tup [(.str "early"), (.str "late"), (.str "refuse")]) := T.v_FOLDS.glD hK h
theorem Txt.c_GAPS (T : Txt K mg w) {X : Cx} (hK : X.K = K := by rfl) (h : X.mg = mg := by rfl) : GlD X "GAPS" (.tup [(.str "ahead"), (.str "behind"), (.str "refuse")]) := T.v_GAPS.glD hK h
theorem Txt.c_MADE (T : Txt K mg w) {X : Cx} (hK : X.K = K := by rfl) (h : X.mg = mg := by rfl) (hw : X.w = w := by rfl) : GlT X.K X.w X.mg "MADE" [("read", (.str "reading")), ("find", (.str "moment")), ("offset", (.str "span")), ("edition", (.str "moment")), ("plus", (.str "reading")), ("less", (.str "moment"))] := by
  rw [hK, h, hw]
  exact T.v_MADE
theorem Txt.c_MOST_MINUTES (T : Txt K mg w) {X : Cx} (h : X.mg = mg := by rfl) : GlD X "MOST_MINUTES" (.int 100000) := by
  obtain ⟨t, e⟩ := T.v_MOST_MINUTES
  exact ⟨_, .int _, by rw [h]; exact e, ⟨t, rfl⟩, fun _ _ _ => .int _⟩
theorem Txt.c_MOST_OFFSET (T : Txt K mg w) {X : Cx} (h : X.mg = mg := by rfl) : GlD X "MOST_OFFSET" (.int 900) := by
  obtain ⟨t, e⟩ := T.v_MOST_OFFSET
  exact ⟨_, .int _, by rw [h]; exact e, ⟨t, rfl⟩, fun _ _ _ => .int _⟩
theorem Txt.c_MOST_SPACING (T : Txt K mg w) {X : Cx} (h : X.mg = mg := by rfl) : GlD X "MOST_SPACING" (.int 1000000) := by
  obtain ⟨t, e⟩ := T.v_MOST_SPACING
  exact ⟨_, .int _, by rw [h]; exact e, ⟨t, rfl⟩, fun _ _ _ => .int _⟩
theorem Txt.c_MOST_STEPS (T : Txt K mg w) {X : Cx} (h : X.mg = mg := by rfl) : GlD X "MOST_STEPS" (.int 8) := by
  obtain ⟨t, e⟩ := T.v_MOST_STEPS
  exact ⟨_, .int _, by rw [h]; exact e, ⟨t, rfl⟩, fun _ _ _ => .int _⟩
theorem Txt.c_PARTS (T : Txt K mg w) {X : Cx} (hK : X.K = K := by rfl) (h : X.mg = mg := by rfl) (hw : X.w = w := by rfl) : GlT X.K X.w X.mg "PARTS" [("read", (.tup [(.str "moment"), (.str "place")])), ("find", (.tup [(.str "reading"), (.str "place"), (.str "fold"), (.str "gap")])), ("offset", (.tup [(.str "moment"), (.str "place")])), ("edition", (.tup [(.str "moment"), (.str "place")])), ("plus", (.tup [(.str "moment"), (.str "span")])), ("less", (.tup [(.str "reading"), (.str "span")])), ("add", (.tup [(.str "point"), (.str "minutes")]))] := by
  rw [hK, h, hw]
  exact T.v_PARTS
abbrev s_is_integer : Stmt := top 10
theorem sc_is_integer : FnScope ["value"] ["value"] (defScope s_is_integer) := ⟨rfl, rfl, rfl, by decide +kernel, rfl, by decide +kernel, by decide +kernel⟩
theorem fn_is_integer (T : Txt K mg w) {f : Addr} {fd : FuncData} (hm : mg "is_integer" = some (.ref f)) (F : Fun K "is_integer" "is_integer" s_is_integer f fd) : FnDG P w K mg base 1 "is_integer" s_is_integer ["value"] m_is_integer := by
  refine fnd_mkG (np := 1) (nN := 1) (k := 0) hm F (F.binds fun _ _ _ _ _ _ us hl => match us, hl with | [_], _ => rfl) sc_is_integer rfl rfl fun cdv A outer s H E hr => ?_
  have tk : Takes (cxOf (L2.CX P w) P w K mg base ["value"] "is_integer" (defScope s_is_integer) f cdv A outer s H E) (fun cls d _ H => E cls d H) := takes_of rfl rfl rfl rfl
  exact (dss_one (ds_ret (d_and (d_isi .int (d_var 0) T.n_isinstance T.n_int) (d_one (d_not (d_isi .bl (d_var 0) T.n_isinstance T.n_bool))))))
abbrev s_is_zone : Stmt := top 11
theorem sc_is_zone : FnScope ["value", "offsets", "spacing", "offset", "k"] ["value"] (defScope s_is_zone) := ⟨rfl, rfl, rfl, by decide +kernel, rfl, by decide +kernel, by decide +kernel⟩
theorem fn_is_zone (T : Txt K mg w) {f : Addr} {fd : FuncData} (hm : mg "is_zone" = some (.ref f)) (F : Fun K "is_zone" "is_zone" s_is_zone f fd) (G_is_integer : FnDG P w K mg base 1 "is_integer" s_is_integer ["value"] m_is_integer) : FnDG P w K mg base 2 "is_zone" s_is_zone ["value"] m_is_zone := by
  refine fnd_mkG (np := 1) (nN := 5) (k := 1) hm F (F.binds fun _ _ _ _ _ _ us hl => match us, hl with | [_], _ => rfl) sc_is_zone rfl rfl fun cdv A outer s H E hr => ?_
  have tk : Takes (cxOf (L2.CX P w) P w K mg base ["value", "offsets", "spacing", "offset", "k"] "is_zone" (defScope s_is_zone) f cdv A outer s H E) (fun cls d _ H => E cls d H) := takes_of rfl rfl rfl rfl
  exact (dss_cons (ds_if (DT.w (dw_or (dt_not (dt_val (d_isi .tup (d_var 0) T.n_isinstance T.n_tuple))) (dw_or1 (dt_cmp (op_neA hr.units) o_ne (d_callB call_len c_len T.n_len (da_cons (d_var 0) da_nil)) d_int)))) (dss_one (ds_ret d_bl)) dss_nil) (dss_cons (ds_asg (d_var 0) (dg_tup rfl (dgs_cons (dg_name 1 sc_is_zone.nd) (dgs_cons (dg_name 2 sc_is_zone.nd) dgs_nil)))) (dss_cons (ds_if (DT.w (dw_or (dt_not (dt_val (d_isi .tup (d_var 1) T.n_isinstance T.n_tuple))) (dw_or1 (dt_not (dt_chain op_le op_le o_le o_le d_int (d_callB call_len c_len T.n_len (da_cons (d_var 1) da_nil)) d_int))))) (dss_one (ds_ret d_bl)) dss_nil) (dss_cons (ds_for (passes_of rfl) rfl (di_seq (d_var 1)) (dg_name 3 sc_is_zone.nd) (dss_one (ds_if (DT.w (dw_or (dt_not (dt_val (d_callG G_is_integer hr tk (da_cons (d_var 3) da_nil)))) (dw_or1 (dt_not (dt_chain op_le op_le o_le o_le (d_un un_neg o_neg (d_glob rfl (T.c_MOST_OFFSET))) (d_var 3) (d_glob rfl (T.c_MOST_OFFSET))))))) (dss_one (ds_ret d_bl)) dss_nil))) (dss_cons (ds_for (passes_of rfl) rfl (di_range2 (da_cons d_int (da_cons (d_callB call_len c_len T.n_len (da_cons (d_var 1) da_nil)) da_nil)) T.n_range) (dg_name 4 sc_is_zone.nd) (dss_one (ds_if (dt_cmp op_le o_le (d_ix ix_seq o_ix (d_var 1) (d_var 4)) (d_ix ix_seq o_ix (d_var 1) (d_op op_sub o_sub (d_var 4) d_int))) (dss_one (ds_ret d_bl)) dss_nil))) (dss_one (ds_ret (d_and (d_callG G_is_integer hr tk (da_cons (d_var 2) da_nil)) (d_one (d_chain op_lt op_le o_lt o_le (d_op op_sub o_sub (d_ix ix_seq o_ix (d_var 1) (d_fold (d := .int (-1)) (d_un un_neg o_neg d_int) (fun _ _ => rfl))) (d_ix ix_seq o_ix (d_var 1) d_int)) (d_var 2) (d_glob rfl (T.c_MOST_SPACING))))))))))))
abbrev s_is_zones : Stmt := top 12
theorem sc_is_zones : FnScope ["value", "zone"] ["value"] (defScope s_is_zones) := ⟨rfl, rfl, rfl, by decide +kernel, rfl, by decide +kernel, by decide +kernel⟩
theorem fn_is_zones (T : Txt K mg w) {f : Addr} {fd : FuncData} (hm : mg "is_zones" = some (.ref f)) (F : Fun K "is_zones" "is_zones" s_is_zones f fd) (G_is_zone : FnDG P w K mg base 2 "is_zone" s_is_zone ["value"] m_is_zone) : FnDG P w K mg base 3 "is_zones" s_is_zones ["value"] m_is_zones := by
  refine fnd_mkG (np := 1) (nN := 2) (k := 2) hm F (F.binds fun _ _ _ _ _ _ us hl => match us, hl with | [_], _ => rfl) sc_is_zones rfl rfl fun cdv A outer s H E hr => ?_
  have tk : Takes (cxOf (L2.CX P w) P w K mg base ["value", "zone"] "is_zones" (defScope s_is_zones) f cdv A outer s H E) (fun cls d _ H => E cls d H) := takes_of rfl rfl rfl rfl
  exact (dss_cons (ds_if (DT.w (dw_or (dt_not (dt_val (d_isi .tup (d_var 0) T.n_isinstance T.n_tuple))) (dw_or1 (dt_not (dt_chain op_le op_le o_le o_le d_int (d_callB call_len c_len T.n_len (da_cons (d_var 0) da_nil)) d_int))))) (dss_one (ds_ret d_bl)) dss_nil) (dss_one (ds_ret (d_callB (cr_all rfl) c_all T.n_all (da_cons (d_fz (dl_lcA (own := [("zone", 1)]) rfl sc_is_zones.nd (d_var 0) (blkOk_by (own := [("zone", 1)]) (N := ["value", "zone"]) (sc := defScope s_is_zones) (by decide +kernel)) (fun _ _ _ _ _ => (dg_name 1 sc_is_zones.nd)) (fun _ _ _ _ _ => dts_nil) (fun _ _ _ _ _ => (d_callG G_is_zone hr takes0 (da_cons (d_var 1) da_nil))))) da_nil)))))
abbrev s_need_zones : Stmt := top 13
theorem sc_need_zones : FnScope ["zones"] ["zones"] (defScope s_need_zones) := ⟨rfl, rfl, rfl, by decide +kernel, rfl, by decide +kernel, by decide +kernel⟩
theorem fn_need_zones (T : Txt K mg w) {f : Addr} {fd : FuncData} (hm : mg "need_zones" = some (.ref f)) (F : Fun K "need_zones" "need_zones" s_need_zones f fd) (G_is_zones : FnDG P w K mg base 3 "is_zones" s_is_zones ["value"] m_is_zones) : FnDG P w K mg base 4 "need_zones" s_need_zones ["zones"] m_need_zones := by
  refine fnd_mkG (np := 1) (nN := 1) (k := 3) hm F (F.binds fun _ _ _ _ _ _ us hl => match us, hl with | [_], _ => rfl) sc_need_zones rfl rfl fun cdv A outer s H E hr => ?_
  have tk : Takes (cxOf (L2.CX P w) P w K mg base ["zones"] "need_zones" (defScope s_need_zones) f cdv A outer s H E) (fun cls d _ H => E cls d H) := takes_of rfl rfl rfl rfl
  exact (dss_one (ds_if (dt_not (dt_val (d_callG G_is_zones hr tk (da_cons (d_var 0) da_nil)))) (dss_one (ds_raise T.x_InvalidZones rfl tk)) dss_nil))
abbrev s_is_part : Stmt := top 19
theorem sc_is_part : FnScope ["zones", "before", "part", "value"] ["zones", "before", "part", "value"] (defScope s_is_part) := ⟨rfl, rfl, rfl, by decide +kernel, rfl, by decide +kernel, by decide +kernel⟩
theorem fn_is_part (T : Txt K mg w) {f : Addr} {fd : FuncData} (hm : mg "is_part" = some (.ref f)) (F : Fun K "is_part" "is_part" s_is_part f fd) (G_is_integer : FnDG P w K mg base 1 "is_integer" s_is_integer ["value"] m_is_integer) : FnDG P w K mg base 2 "is_part" s_is_part ["zones", "before", "part", "value"] m_is_part := by
  refine fnd_mkG (np := 4) (nN := 4) (k := 1) hm F (F.binds fun _ _ _ _ _ _ us hl => match us, hl with | [_, _, _, _], _ => rfl) sc_is_part rfl rfl fun cdv A outer s H E hr => ?_
  have tk : Takes (cxOf (L2.CX P w) P w K mg base ["zones", "before", "part", "value"] "is_part" (defScope s_is_part) f cdv A outer s H E) (fun cls d _ H => E cls d H) := takes_of rfl rfl rfl rfl
  exact (dss_cons (ds_if (dt_cmp (op_eqA hr.units) o_eq (d_var 2) d_str) (dss_one (ds_ret (d_and (d_isi .str (d_var 3) T.n_isinstance T.n_str) (d_one (d_cmp op_in_seq o_in (d_var 3) (d_glob rfl (T.c_FOLDS)) (by rfl)))))) dss_nil) (dss_cons (ds_if (dt_cmp (op_eqA hr.units) o_eq (d_var 2) d_str) (dss_one (ds_ret (d_and (d_isi .str (d_var 3) T.n_isinstance T.n_str) (d_one (d_cmp op_in_seq o_in (d_var 3) (d_glob rfl (T.c_GAPS)) (by rfl)))))) dss_nil) (dss_cons (ds_if (dt_not (dt_val (d_callG G_is_integer hr tk (da_cons (d_var 3) da_nil)))) (dss_one (ds_ret d_bl)) dss_nil) (dss_cons (ds_if (dt_cmp (op_eqA hr.units) o_eq (d_var 2) d_str) (dss_one (ds_ret (d_chain op_le op_lt o_le o_lt d_int (d_var 3) (d_callB call_len c_len T.n_len (da_cons (d_var 0) da_nil))))) dss_nil) (dss_cons (ds_if (dt_cmp (op_eqA hr.units) o_eq (d_var 2) d_str) (dss_one (ds_ret (d_chain op_le op_le o_le o_le (d_un un_neg o_neg (d_glob rfl (T.c_MOST_MINUTES))) (d_var 3) (d_glob rfl (T.c_MOST_MINUTES))))) dss_nil) (dss_cons (ds_if (dt_not (dt_chain op_le op_lt o_le o_lt d_int (d_var 3) (d_callB call_len c_len T.n_len (da_cons (d_var 1) da_nil)))) (dss_one (ds_ret d_bl)) dss_nil) (dss_cons (ds_if (dt_cmp (op_eqA hr.units) o_eq (d_var 2) d_str) (dss_one (ds_ret (d_cmp (op_neA hr.units) o_ne (d_ix ix_seq o_ix (d_var 1) (d_var 3)) d_str))) dss_nil) (dss_one (ds_ret (d_cmp (op_eqA hr.units) o_eq (d_ix ix_seq o_ix (d_var 1) (d_var 3)) (d_var 2)))))))))))
abbrev s_is_step : Stmt := top 20
theorem sc_is_step : FnScope ["zones", "before", "value", "parts", "k", "part"] ["zones", "before", "value"] (defScope s_is_step) := ⟨rfl, rfl, rfl, by decide +kernel, rfl, by decide +kernel, by decide +kernel⟩
theorem fn_is_step (T : Txt K mg w) {f : Addr} {fd : FuncData} (hm : mg "is_step" = some (.ref f)) (F : Fun K "is_step" "is_step" s_is_step f fd) (G_is_part : FnDG P w K mg base 2 "is_part" s_is_part ["zones", "before", "part", "value"] m_is_part) : FnDG P w K mg base 3 "is_step" s_is_step ["zones", "before", "value"] m_is_step := by
  refine fnd_mkG (np := 3) (nN := 6) (k := 2) hm F (F.binds fun _ _ _ _ _ _ us hl => match us, hl with | [_, _, _], _ => rfl) sc_is_step rfl rfl fun cdv A outer s H E hr => ?_
  have tk : Takes (cxOf (L2.CX P w) P w K mg base ["zones", "before", "value", "parts", "k", "part"] "is_step" (defScope s_is_step) f cdv A outer s H E) (fun cls d _ H => E cls d H) := takes_of rfl rfl rfl rfl
  exact (dss_cons (ds_if (DT.w (dw_or (dt_not (dt_val (d_isi .tup (d_var 2) T.n_isinstance T.n_tuple))) (dw_or1 (dt_cmp (op_eqA hr.units) o_eq (d_callB call_len c_len T.n_len (da_cons (d_var 2) da_nil)) d_int)))) (dss_one (ds_ret d_bl)) dss_nil) (dss_cons (ds_if (DT.w (dw_or (dt_not (dt_val (d_isi .str (d_ix ix_seq o_ix (d_var 2) d_int) T.n_isinstance T.n_str))) (dw_or1 (dt_tbnot rfl (T.c_PARTS) (d_ix ix_seq o_ix (d_var 2) d_int))))) (dss_one (ds_ret d_bl)) dss_nil) (dss_cons (ds_set 3 sc_is_step.nd (d_tbix rfl (T.c_PARTS) (d_ix ix_seq o_ix (d_var 2) d_int))) (dss_cons (ds_if (dt_cmp (op_neA hr.units) o_ne (d_callB call_len c_len T.n_len (da_cons (d_var 2) da_nil)) (d_op op_addD o_add (d_callB call_len c_len T.n_len (da_cons (d_var 3) da_nil)) d_int)) (dss_one (ds_ret d_bl)) dss_nil) (dss_one (ds_ret (d_callB (cr_all rfl) c_all T.n_all (da_cons (d_fz (dl_lc (own := [("k", 4), ("part", 5)]) rfl sc_is_step.nd (di_enum (d_var 3) T.n_enumerate) (blkOk_by (own := [("k", 4), ("part", 5)]) (N := ["zones", "before", "value", "parts", "k", "part"]) (sc := defScope s_is_step) (by decide +kernel)) (fun _ _ _ _ _ => (dg_any rfl (dgs_cons (dg_name 4 sc_is_step.nd) (dgs_cons (dg_name 5 sc_is_step.nd) dgs_nil)))) (fun _ _ _ _ _ => dts_nil) (fun _ _ _ _ _ => (d_callG G_is_part hr takes0 (da_cons (d_var 0) (da_cons (d_var 1) (da_cons (d_var 5) (da_cons (d_ix ix_seq o_ix (d_var 2) (d_op op_addD o_add (d_var 4) d_int)) da_nil)))))))) da_nil))))))))
abbrev s_kind_made : Stmt := top 21
theorem sc_kind_made : FnScope ["before", "step"] ["before", "step"] (defScope s_kind_made) := ⟨rfl, rfl, rfl, by decide +kernel, rfl, by decide +kernel, by decide +kernel⟩
theorem fn_kind_made (T : Txt K mg w) {f : Addr} {fd : FuncData} (hm : mg "kind_made" = some (.ref f)) (F : Fun K "kind_made" "kind_made" s_kind_made f fd) : FnDG P w K mg base 1 "kind_made" s_kind_made ["before", "step"] m_kind_made := by
  refine fnd_mkG (np := 2) (nN := 2) (k := 0) hm F (F.binds fun _ _ _ _ _ _ us hl => match us, hl with | [_, _], _ => rfl) sc_kind_made rfl rfl fun cdv A outer s H E hr => ?_
  have tk : Takes (cxOf (L2.CX P w) P w K mg base ["before", "step"] "kind_made" (defScope s_kind_made) f cdv A outer s H E) (fun cls d _ H => E cls d H) := takes_of rfl rfl rfl rfl
  exact (dss_cons (ds_if (dt_cmp (op_eqA hr.units) o_eq (d_ix ix_seq o_ix (d_var 1) d_int) d_str) (dss_one (ds_ret (d_ix ix_seq o_ix (d_var 0) (d_ix ix_seq o_ix (d_var 1) d_int)))) dss_nil) (dss_one (ds_ret (d_tbix rfl (T.c_MADE) (d_ix ix_seq o_ix (d_var 1) d_int)))))
abbrev s_kinds_of : Stmt := top 22
theorem sc_kinds_of : FnScope ["program", "made", "step"] ["program"] (defScope s_kinds_of) := ⟨rfl, rfl, rfl, by decide +kernel, rfl, by decide +kernel, by decide +kernel⟩
theorem fn_kinds_of (T : Txt K mg w) {f : Addr} {fd : FuncData} (hm : mg "kinds_of" = some (.ref f)) (F : Fun K "kinds_of" "kinds_of" s_kinds_of f fd) (G_kind_made : FnDG P w K mg base 1 "kind_made" s_kind_made ["before", "step"] m_kind_made) : FnDG P w K mg base 2 "kinds_of" s_kinds_of ["program"] m_kinds_of := by
  refine fnd_mkG (np := 1) (nN := 3) (k := 1) hm F (F.binds fun _ _ _ _ _ _ us hl => match us, hl with | [_], _ => rfl) sc_kinds_of rfl rfl fun cdv A outer s H E hr => ?_
  have tk : Takes (cxOf (L2.CX P w) P w K mg base ["program", "made", "step"] "kinds_of" (defScope s_kinds_of) f cdv A outer s H E) (fun cls d _ H => E cls d H) := takes_of rfl rfl rfl rfl
  exact (dss_cons (ds_set 1 sc_kinds_of.nd (d_new (dl_lst (da_cons d_str da_nil)))) (dss_cons (ds_forA (passes_of rfl) rfl (d_var 0) (dg_name 2 sc_kinds_of.nd) (dss_one (ds_app (d_var 1) (d_callG G_kind_made hr tk (da_cons (d_var 1) (da_cons (d_var 2) da_nil))) (fun a b => ps_expr (pe_bm PySem.F.plainAttrs_list PySem.F.slot_list_append PySem.F.type_list_append mt_append a (pa_cons b pa_nil)))))) (dss_one (ds_ret (d_var 1)))))
abbrev s_is_program : Stmt := top 23
theorem sc_is_program : FnScope ["zones", "value", "before", "step"] ["zones", "value"] (defScope s_is_program) := ⟨rfl, rfl, rfl, by decide +kernel, rfl, by decide +kernel, by decide +kernel⟩
theorem fn_is_program (T : Txt K mg w) {f : Addr} {fd : FuncData} (hm : mg "is_program" = some (.ref f)) (F : Fun K "is_program" "is_program" s_is_program f fd) (G_kind_made : FnDG P w K mg base 1 "kind_made" s_kind_made ["before", "step"] m_kind_made) (G_is_step : FnDG P w K mg base 3 "is_step" s_is_step ["zones", "before", "value"] m_is_step) (G_need_zones : FnDG P w K mg base 4 "need_zones" s_need_zones ["zones"] m_need_zones) : FnDG P w K mg base 5 "is_program" s_is_program ["zones", "value"] m_is_program := by
  refine fnd_mkG (np := 2) (nN := 4) (k := 4) hm F (F.binds fun _ _ _ _ _ _ us hl => match us, hl with | [_, _], _ => rfl) sc_is_program rfl rfl fun cdv A outer s H E hr => ?_
  have tk : Takes (cxOf (L2.CX P w) P w K mg base ["zones", "value", "before", "step"] "is_program" (defScope s_is_program) f cdv A outer s H E) (fun cls d _ H => E cls d H) := takes_of rfl rfl rfl rfl
  exact (dss_cons (ds_expr (d_callG G_need_zones hr tk (da_cons (d_var 0) da_nil))) (dss_cons (ds_if (DT.w (dw_or (dt_not (dt_val (d_isi .tup (d_var 1) T.n_isinstance T.n_tuple))) (dw_or1 (dt_cmp op_gt o_gt (d_callB call_len c_len T.n_len (da_cons (d_var 1) da_nil)) (d_glob rfl (T.c_MOST_STEPS)))))) (dss_one (ds_ret d_bl)) dss_nil) (dss_cons (ds_set 2 sc_is_program.nd (d_new (dl_lst (da_cons d_str da_nil)))) (dss_cons (ds_forA (passes_of rfl) rfl (d_var 1) (dg_name 3 sc_is_program.nd) (dss_cons (ds_if (dt_not (dt_val (d_callG G_is_step hr tk (da_cons (d_var 0) (da_cons (d_var 2) (da_cons (d_var 3) da_nil)))))) (dss_one (ds_ret d_bl)) dss_nil) (dss_one (ds_app (d_var 2) (d_callG G_kind_made hr tk (da_cons (d_var 2) (da_cons (d_var 3) da_nil))) (fun a b => ps_expr (pe_bm PySem.F.plainAttrs_list PySem.F.slot_list_append PySem.F.type_list_append mt_append a (pa_cons b pa_nil))))))) (dss_one (ds_ret (d_cmp op_lt o_lt (d_callB call_len c_len T.n_len (da_cons (d_fz (dl_lcA (own := [("step", 3)]) rfl sc_is_program.nd (d_var 1) (blkOk_by (own := [("step", 3)]) (N := ["zones", "value", "before", "step"]) (sc := defScope s_is_program) (by decide +kernel)) (fun _ _ _ _ _ => (dg_name 3 sc_is_program.nd)) (fun _ _ _ _ _ => (dts_one (dt_cmp (op_eqA hr.units) o_eq (d_ix ix_seq o_ix (d_var 3) d_int) d_str))) (fun _ _ _ _ _ => (d_var 3)))) da_nil)) d_int)))))))
abbrev s_need_program : Stmt := top 24
theorem sc_need_program : FnScope ["zones", "program"] ["zones", "program"] (defScope s_need_program) := ⟨rfl, rfl, rfl, by decide +kernel, rfl, by decide +kernel, by decide +kernel⟩
theorem fn_need_program (T : Txt K mg w) {f : Addr} {fd : FuncData} (hm : mg "need_program" = some (.ref f)) (F : Fun K "need_program" "need_program" s_need_program f fd) (G_is_program : FnDG P w K mg base 5 "is_program" s_is_program ["zones", "value"] m_is_program) : FnDG P w K mg base 6 "need_program" s_need_program ["zones", "program"] m_need_program := by
  refine fnd_mkG (np := 2) (nN := 2) (k := 5) hm F (F.binds fun _ _ _ _ _ _ us hl => match us, hl with | [_, _], _ => rfl) sc_need_program rfl rfl fun cdv A outer s H E hr => ?_
  have tk : Takes (cxOf (L2.CX P w) P w K mg base ["zones", "program"] "need_program" (defScope s_need_program) f cdv A outer s H E) (fun cls d _ H => E cls d H) := takes_of rfl rfl rfl rfl
  exact (dss_one (ds_if (dt_not (dt_val (d_callG G_is_program hr tk (da_cons (d_var 0) (da_cons (d_var 1) da_nil))))) (dss_one (ds_raise T.x_InvalidProgram rfl tk)) dss_nil))
abbrev s_kinds : Stmt := top 25
theorem sc_kinds : FnScope ["zones", "program"] ["zones", "program"] (defScope s_kinds) := ⟨rfl, rfl, rfl, by decide +kernel, rfl, by decide +kernel, by decide +kernel⟩
theorem fn_kinds (T : Txt K mg w) {f : Addr} {fd : FuncData} (hm : mg "kinds" = some (.ref f)) (F : Fun K "kinds" "kinds" s_kinds f fd) (G_kinds_of : FnDG P w K mg base 2 "kinds_of" s_kinds_of ["program"] m_kinds_of) (G_need_program : FnDG P w K mg base 6 "need_program" s_need_program ["zones", "program"] m_need_program) (G_need_zones : FnDG P w K mg base 4 "need_zones" s_need_zones ["zones"] m_need_zones) : FnDG P w K mg base 7 "kinds" s_kinds ["zones", "program"] m_kinds := by
  refine fnd_mkG (np := 2) (nN := 2) (k := 6) hm F (F.binds fun _ _ _ _ _ _ us hl => match us, hl with | [_, _], _ => rfl) sc_kinds rfl rfl fun cdv A outer s H E hr => ?_
  have tk : Takes (cxOf (L2.CX P w) P w K mg base ["zones", "program"] "kinds" (defScope s_kinds) f cdv A outer s H E) (fun cls d _ H => E cls d H) := takes_of rfl rfl rfl rfl
  exact (dss_cons (ds_expr (d_callG G_need_zones hr tk (da_cons (d_var 0) da_nil))) (dss_cons (ds_expr (d_callG G_need_program hr tk (da_cons (d_var 0) (da_cons (d_var 1) da_nil)))) (dss_one (ds_ret (d_callG G_kinds_of hr tk (da_cons (d_var 1) da_nil))))))
abbrev s__law_bag_of : Stmt := top 27
theorem sc__law_bag_of : FnScope ["_law_cell"] ["_law_cell"] (defScope s__law_bag_of) := ⟨rfl, rfl, rfl, by decide +kernel, rfl, by decide +kernel, by decide +kernel⟩
theorem fn__law_bag_of (T : Txt K mg w) {f : Addr} {fd : FuncData} (hm : mg "_law_bag_of" = some (.ref f)) (F : Fun K "_law_bag_of" "_law_bag_of" s__law_bag_of f fd) : FnDG P w K mg base 1 "_law_bag_of" s__law_bag_of ["_law_cell"] m_law_bag_of := by
  refine fnd_mkG (np := 1) (nN := 1) (k := 0) hm F (F.binds fun _ _ _ _ _ _ us hl => match us, hl with | [_], _ => rfl) sc__law_bag_of rfl rfl fun cdv A outer s H E hr => ?_
  have tk : Takes (cxOf (L2.CX P w) P w K mg base ["_law_cell"] "_law_bag_of" (defScope s__law_bag_of) f cdv A outer s H E) (fun cls d _ H => E cls d H) := takes_of rfl rfl rfl rfl
  exact (dss_one (ds_ret (d_new (dl_lst (da_cons (d_callB (call_max2 rfl) c_II T.n_max (da_cons d_int (da_cons (d_op op_sub o_sub (d_var 0) (d_fold (d := .int 1000000000000000000) (d_op op_pow o_pow d_int d_int) (fun _ _ => rfl))) da_nil))) (da_cons (d_op op_mod o_mod (d_callTy call_int1 c_int1 T.n_int (da_cons (d_var 0) da_nil)) d_int) (da_cons d_int da_nil)))))))
abbrev s__law_pick : Stmt := top 28
theorem sc__law_pick : FnScope ["_law_bag", "_law_many", "_law_here"] ["_law_bag", "_law_many"] (defScope s__law_pick) := ⟨rfl, rfl, rfl, by decide +kernel, rfl, by decide +kernel, by decide +kernel⟩
theorem fn__law_pick (T : Txt K mg w) {f : Addr} {fd : FuncData} (hm : mg "_law_pick" = some (.ref f)) (F : Fun K "_law_pick" "_law_pick" s__law_pick f fd) : FnDG P w K mg base 1 "_law_pick" s__law_pick ["_law_bag", "_law_many"] m_law_pick := by
  refine fnd_mkG (np := 2) (nN := 3) (k := 0) hm F (F.binds fun _ _ _ _ _ _ us hl => match us, hl with | [_, _], _ => rfl) sc__law_pick rfl rfl fun cdv A outer s H E hr => ?_
  have tk : Takes (cxOf (L2.CX P w) P w K mg base ["_law_bag", "_law_many", "_law_here"] "_law_pick" (defScope s__law_pick) f cdv A outer s H E) (fun cls d _ H => E cls d H) := takes_of rfl rfl rfl rfl
  exact (dss_cons (ds_if (dt_cmp op_gt o_gt (d_ix ix_seq o_ix (d_var 0) d_int) d_int) (dss_cons (ds_set 2 sc__law_pick.nd (d_op op_mod o_mod (d_callTy call_int1 c_int1 T.n_int (da_cons (d_ix ix_seq o_ix (d_var 0) d_int) da_nil)) (d_var 1))) (dss_cons (ds_setIx (d_op op_fdivW o_fdiv (d_ix ix_seq o_ix (d_var 0) d_int) (d_var 1)) (d_var 0) d_int) (dss_one (ds_ret (d_var 2))))) dss_nil) (dss_cons (ds_setIx (d_op op_addD o_add (d_ix ix_seq o_ix (d_var 0) d_int) d_int) (d_var 0) d_int) (dss_cons (ds_set 2 sc__law_pick.nd (d_op op_mulW o_mul (d_op op_addD o_add (d_ix ix_seq o_ix (d_var 0) d_int) (d_op op_mulW o_mul d_int (d_ix ix_seq o_ix (d_var 0) d_int))) (d_op op_addD o_add (d_op op_addD o_add (d_ix ix_seq o_ix (d_var 0) d_int) (d_op op_mulW o_mul d_int (d_ix ix_seq o_ix (d_var 0) d_int))) d_int))) (dss_cons (ds_set 2 sc__law_pick.nd (d_op op_mod o_mod (d_callTy call_int1 c_int1 T.n_int (da_cons (d_var 2) da_nil)) d_int)) (dss_cons (ds_set 2 sc__law_pick.nd (d_op op_addD o_add (d_op op_mulW o_mul (d_var 2) (d_var 2)) (d_op op_mulW o_mul d_int (d_ix ix_seq o_ix (d_var 0) d_int)))) (dss_one (ds_ret (d_op op_mod o_mod (d_callTy call_int1 c_int1 T.n_int (da_cons (d_op op_fdivW o_fdiv (d_op op_mod o_mod (d_callTy call_int1 c_int1 T.n_int (da_cons (d_var 2) da_nil)) d_int) d_int) da_nil)) (d_var 1)))))))))
abbrev s__law_any_belt : Stmt := top 29
theorem sc__law_any_belt : FnScope ["_law_bag", "_law_upto", "_law_many", "_law_wide", "_law_gaps", "_law_shifts", "_law_gap_here", "_law_least", "_law_more", "_law_k"] ["_law_bag", "_law_upto"] (defScope s__law_any_belt) := ⟨rfl, rfl, rfl, by decide +kernel, rfl, by decide +kernel, by decide +kernel⟩
theorem fn__law_any_belt (T : Txt K mg w) {f : Addr} {fd : FuncData} (hm : mg "_law_any_belt" = some (.ref f)) (F : Fun K "_law_any_belt" "_law_any_belt" s__law_any_belt f fd) (G__law_pick : FnDG P w K mg base 1 "_law_pick" s__law_pick ["_law_bag", "_law_many"] m_law_pick) : FnDG P w K mg base 2 "_law_any_belt" s__law_any_belt ["_law_bag", "_law_upto"] m_law_any_belt := by
  refine fnd_mkG (np := 2) (nN := 10) (k := 1) hm F (F.binds fun _ _ _ _ _ _ us hl => match us, hl with | [_, _], _ => rfl) sc__law_any_belt rfl rfl fun cdv A outer s H E hr => ?_
  have tk : Takes (cxOf (L2.CX P w) P w K mg base ["_law_bag", "_law_upto", "_law_many", "_law_wide", "_law_gaps", "_law_shifts", "_law_gap_here", "_law_least", "_law_more", "_law_k"] "_law_any_belt" (defScope s__law_any_belt) f cdv A outer s H E) (fun cls d _ H => E cls d H) := takes_of rfl rfl rfl rfl
  exact (dss_cons (ds_set 2 sc__law_any_belt.nd (d_callB (call_min2 rfl) c_II T.n_min (da_cons (d_var 1) (da_cons (d_ix ix_seq o_ix (d_fz (dl_lst (da_cons d_int (da_cons d_int (da_cons d_int (da_cons d_int (da_cons d_int (da_cons d_int da_nil)))))))) (d_callG G__law_pick hr tk (da_cons (d_var 0) (da_cons d_int da_nil)))) da_nil)))) (dss_cons (ds_set 3 sc__law_any_belt.nd (d_ix ix_seq o_ix (d_fz (dl_lst (da_cons d_int (da_cons d_int (da_cons d_int (da_cons d_int (da_cons d_int (da_cons d_int da_nil)))))))) (d_callG G__law_pick hr tk (da_cons (d_var 0) (da_cons d_int da_nil))))) (dss_cons (ds_set 3 sc__law_any_belt.nd (d_callB (call_max2 rfl) c_II T.n_max (da_cons d_int (da_cons (d_op op_fdivW o_fdiv (d_var 3) (d_callB (call_max2 rfl) c_II T.n_max (da_cons d_int (da_cons (d_op op_sub o_sub (d_var 2) d_int) da_nil)))) da_nil)))) (dss_cons (ds_setLc (mw := mFz) 4 (own := [("_law_k", 9)]) (rd_fz) rfl sc__law_any_belt.nd (di_range1 (da_cons (d_op op_sub o_sub (d_var 2) d_int) da_nil) T.n_range) (blkOk_by (own := [("_law_k", 9)]) (N := ["_law_bag", "_law_upto", "_law_many", "_law_wide", "_law_gaps", "_law_shifts", "_law_gap_here", "_law_least", "_law_more", "_law_k"]) (sc := defScope s__law_any_belt) (by decide +kernel)) (fun _ _ _ _ _ => (dg_name 9 sc__law_any_belt.nd)) (fun _ _ _ _ _ => dts_nil) (fun _ _ _ _ _ => (d_op op_sub o_sub (d_var 3) (d_op op_mulW o_mul (d_callG G__law_pick hr takes0 (da_cons (d_var 0) (da_cons (d_var 3) da_nil))) (d_callG G__law_pick hr takes0 (da_cons (d_var 0) (da_cons d_int da_nil))))))) (dss_cons (ds_set 5 sc__law_any_belt.nd (d_new (dl_lst (da_cons (d_op op_sub o_sub (d_callG G__law_pick hr tk (da_cons (d_var 0) (da_cons (d_op op_sub o_sub d_int (d_callB (cr_sum rfl) c_sum T.n_sum (da_cons (d_var 4) da_nil))) da_nil))) d_int) da_nil)))) (dss_cons (ds_forA (passes_of rfl) rfl (d_var 4) (dg_name 6 sc__law_any_belt.nd) (dss_one (ds_app (d_var 5) (d_op op_addD o_add (d_ix ix_seq o_ix (d_var 5) (d_fold (d := .int (-1)) (d_un un_neg o_neg d_int) (fun _ _ => rfl))) (d_var 6)) (fun a b => ps_expr (pe_bm PySem.F.plainAttrs_list PySem.F.slot_list_append PySem.F.type_list_append mt_append a (pa_cons b pa_nil)))))) (dss_cons (ds_set 7 sc__law_any_belt.nd (d_op op_addD o_add (d_callB (cr_sum rfl) c_sum T.n_sum (da_cons (d_var 4) da_nil)) d_int)) (dss_cons (ds_set 8 sc__law_any_belt.nd (d_fz (dl_lst (da_cons d_int (da_cons d_int (da_cons d_int (da_cons (d_op op_sub o_sub d_int (d_var 7)) (da_cons (d_callG G__law_pick hr tk (da_cons (d_var 0) (da_cons d_int da_nil))) (da_cons d_int (da_cons (d_callG G__law_pick hr tk (da_cons (d_var 0) (da_cons (d_op op_sub o_sub d_int (d_var 7)) da_nil))) da_nil)))))))))) (dss_one (ds_ret (d_tup (da_cons (d_callTy call_tuple_of c_tuple T.n_tuple (da_cons (d_var 5) da_nil)) (da_cons (d_op op_addD o_add (d_var 7) (d_ix ix_seq o_ix (d_var 8) (d_callG G__law_pick hr tk (da_cons (d_var 0) (da_cons d_int da_nil))))) da_nil)))))))))))))
abbrev s__law_any_belts : Stmt := top 30
theorem sc__law_any_belts : FnScope ["_law_bag", "_law_upto", "_law_k"] ["_law_bag", "_law_upto"] (defScope s__law_any_belts) := ⟨rfl, rfl, rfl, by decide +kernel, rfl, by decide +kernel, by decide +kernel⟩
theorem fn__law_any_belts (T : Txt K mg w) {f : Addr} {fd : FuncData} (hm : mg "_law_any_belts" = some (.ref f)) (F : Fun K "_law_any_belts" "_law_any_belts" s__law_any_belts f fd) (G__law_pick : FnDG P w K mg base 1 "_law_pick" s__law_pick ["_law_bag", "_law_many"] m_law_pick) (G__law_any_belt : FnDG P w K mg base 2 "_law_any_belt" s__law_any_belt ["_law_bag", "_law_upto"] m_law_any_belt) : FnDG P w K mg base 3 "_law_any_belts" s__law_any_belts ["_law_bag", "_law_upto"] m_law_any_belts := by
  refine fnd_mkG (np := 2) (nN := 3) (k := 2) hm F (F.binds fun _ _ _ _ _ _ us hl => match us, hl with | [_, _], _ => rfl) sc__law_any_belts rfl rfl fun cdv A outer s H E hr => ?_
  have tk : Takes (cxOf (L2.CX P w) P w K mg base ["_law_bag", "_law_upto", "_law_k"] "_law_any_belts" (defScope s__law_any_belts) f cdv A outer s H E) (fun cls d _ H => E cls d H) := takes_of rfl rfl rfl rfl
  exact (dss_one (ds_ret (d_callTy call_tuple_of c_tuple T.n_tuple (da_cons (d_fz (dl_lc (own := [("_law_k", 2)]) rfl sc__law_any_belts.nd (di_range1 (da_cons (d_op op_addD o_add d_int (d_callG G__law_pick hr tk (da_cons (d_var 0) (da_cons d_int da_nil)))) da_nil) T.n_range) (blkOk_by (own := [("_law_k", 2)]) (N := ["_law_bag", "_law_upto", "_law_k"]) (sc := defScope s__law_any_belts) (by decide +kernel)) (fun _ _ _ _ _ => (dg_name 2 sc__law_any_belts.nd)) (fun _ _ _ _ _ => dts_nil) (fun _ _ _ _ _ => (d_callG G__law_any_belt hr takes0 (da_cons (d_var 0) (da_cons (d_var 1) da_nil)))))) da_nil))))
abbrev s__law_is_whole : Stmt := top 31
theorem sc__law_is_whole : FnScope ["_law_thing"] ["_law_thing"] (defScope s__law_is_whole) := ⟨rfl, rfl, rfl, by decide +kernel, rfl, by decide +kernel, by decide +kernel⟩
theorem fn__law_is_whole (T : Txt K mg w) {f : Addr} {fd : FuncData} (hm : mg "_law_is_whole" = some (.ref f)) (F : Fun K "_law_is_whole" "_law_is_whole" s__law_is_whole f fd) : FnDG P w K mg base 1 "_law_is_whole" s__law_is_whole ["_law_thing"] m_law_is_whole := by
  refine fnd_mkG (np := 1) (nN := 1) (k := 0) hm F (F.binds fun _ _ _ _ _ _ us hl => match us, hl with | [_], _ => rfl) sc__law_is_whole rfl rfl fun cdv A outer s H E hr => ?_
  have tk : Takes (cxOf (L2.CX P w) P w K mg base ["_law_thing"] "_law_is_whole" (defScope s__law_is_whole) f cdv A outer s H E) (fun cls d _ H => E cls d H) := takes_of rfl rfl rfl rfl
  exact (dss_one (ds_ret (d_and (d_isi .int (d_var 0) T.n_isinstance T.n_int) (d_one (d_not (d_isi .bl (d_var 0) T.n_isinstance T.n_bool))))))
abbrev s__law_same : Stmt := top 32
theorem sc__law_same : FnScope ["_law_told", "_law_due"] ["_law_told", "_law_due"] (defScope s__law_same) := ⟨rfl, rfl, rfl, by decide +kernel, rfl, by decide +kernel, by decide +kernel⟩
theorem fn__law_same (T : Txt K mg w) {f : Addr} {fd : FuncData} (hm : mg "_law_same" = some (.ref f)) (F : Fun K "_law_same" "_law_same" s__law_same f fd) : FnDG P w K mg base 1 "_law_same" s__law_same ["_law_told", "_law_due"] m_law_same_v2 := by
  refine fnd_mkG (np := 2) (nN := 2) (k := 0) hm F (F.binds fun _ _ _ _ _ _ us hl => match us, hl with | [_, _], _ => rfl) sc__law_same rfl rfl fun cdv A outer s H E hr => ?_
  have tk : Takes (cxOf (L2.CX P w) P w K mg base ["_law_told", "_law_due"] "_law_same" (defScope s__law_same) f cdv A outer s H E) (fun cls d _ H => E cls d H) := takes_of rfl rfl rfl rfl
  exact (dss_one (ds_ret (d_cmp (op_eqA hr.units) o_eq (d_callB (cr_repr hr) c_repr T.n_repr (da_cons (d_var 0) da_nil)) (d_callB (cr_repr hr) c_repr T.n_repr (da_cons (d_var 1) da_nil)))))
abbrev s__law_spot : Stmt := top 33
theorem sc__law_spot : FnScope ["_law_bag", "_law_made", "_law_kind", "_law_some", "_law_k"] ["_law_bag", "_law_made", "_law_kind"] (defScope s__law_spot) := ⟨rfl, rfl, rfl, by decide +kernel, rfl, by decide +kernel, by decide +kernel⟩
theorem fn__law_spot (T : Txt K mg w) {f : Addr} {fd : FuncData} (hm : mg "_law_spot" = some (.ref f)) (F : Fun K "_law_spot" "_law_spot" s__law_spot f fd) (G__law_pick : FnDG P w K mg base 1 "_law_pick" s__law_pick ["_law_bag", "_law_many"] m_law_pick) : FnDG P w K mg base 2 "_law_spot" s__law_spot ["_law_bag", "_law_made", "_law_kind"] m_law_spot := by
  refine fnd_mkG (np := 3) (nN := 5) (k := 1) hm F (F.binds fun _ _ _ _ _ _ us hl => match us, hl with | [_, _, _], _ => rfl) sc__law_spot rfl rfl fun cdv A outer s H E hr => ?_
  have tk : Takes (cxOf (L2.CX P w) P w K mg base ["_law_bag", "_law_made", "_law_kind", "_law_some", "_law_k"] "_law_spot" (defScope s__law_spot) f cdv A outer s H E) (fun cls d _ H => E cls d H) := takes_of rfl rfl rfl rfl
  exact (dss_cons (ds_setLc (mw := mFz) 3 (own := [("_law_k", 4)]) (rd_fz) rfl sc__law_spot.nd (di_range1 (da_cons (d_callB call_len c_len T.n_len (da_cons (d_var 1) da_nil)) da_nil) T.n_range) (blkOk_by (own := [("_law_k", 4)]) (N := ["_law_bag", "_law_made", "_law_kind", "_law_some", "_law_k"]) (sc := defScope s__law_spot) (by decide +kernel)) (fun _ _ _ _ _ => (dg_name 4 sc__law_spot.nd)) (fun _ _ _ _ _ => (dts_one (DT.w (dw_or (dt_cmp (op_eqA hr.units) o_eq (d_ix ix_seq o_ix (d_var 1) (d_var 4)) (d_var 2)) (dw_or1 (DT.w (dw_and (dt_cmp (op_eqA hr.units) o_eq (d_var 2) d_str) (dw_and1 (dt_cmp (op_neA hr.units) o_ne (d_ix ix_seq o_ix (d_var 1) (d_var 4)) d_str))))))))) (fun _ _ _ _ _ => (d_var 4))) (dss_cons (ds_if (dt_cmp (op_eqA hr.units) o_eq (d_callG G__law_pick hr tk (da_cons (d_var 0) (da_cons d_int da_nil))) d_int) (dss_one (ds_ret (d_ix ix_seq o_ix (d_var 3) (d_fold (d := .int (-1)) (d_un un_neg o_neg d_int) (fun _ _ => rfl))))) dss_nil) (dss_one (ds_ret (d_ix ix_seq o_ix (d_var 3) (d_callG G__law_pick hr tk (da_cons (d_var 0) (da_cons (d_callB call_len c_len T.n_len (da_cons (d_var 3) da_nil)) da_nil))))))))
abbrev s__law_minutes : Stmt := top 34
theorem sc__law_minutes : FnScope ["_law_bag", "_law_belts", "_law_tiny", "_law_shifts", "_law_apart", "_law_wide", "_law_near", "_law_amount"] ["_law_bag", "_law_belts", "_law_tiny"] (defScope s__law_minutes) := ⟨rfl, rfl, rfl, by decide +kernel, rfl, by decide +kernel, by decide +kernel⟩
theorem fn__law_minutes (T : Txt K mg w) {f : Addr} {fd : FuncData} (hm : mg "_law_minutes" = some (.ref f)) (F : Fun K "_law_minutes" "_law_minutes" s__law_minutes f fd) (G__law_pick : FnDG P w K mg base 1 "_law_pick" s__law_pick ["_law_bag", "_law_many"] m_law_pick) : FnDG P w K mg base 2 "_law_minutes" s__law_minutes ["_law_bag", "_law_belts", "_law_tiny"] m_law_minutes := by
  refine fnd_mkG (np := 3) (nN := 8) (k := 1) hm F (F.binds fun _ _ _ _ _ _ us hl => match us, hl with | [_, _, _], _ => rfl) sc__law_minutes rfl rfl fun cdv A outer s H E hr => ?_
  have tk : Takes (cxOf (L2.CX P w) P w K mg base ["_law_bag", "_law_belts", "_law_tiny", "_law_shifts", "_law_apart", "_law_wide", "_law_near", "_law_amount"] "_law_minutes" (defScope s__law_minutes) f cdv A outer s H E) (fun cls d _ H => E cls d H) := takes_of rfl rfl rfl rfl
  exact (dss_cons (ds_if (dt_cmp (op_eqA hr.units) o_eq (d_var 2) d_int) (dss_one (ds_ret (d_op op_sub o_sub (d_callG G__law_pick hr tk (da_cons (d_var 0) (da_cons d_int da_nil))) d_int))) dss_nil) (dss_cons (ds_asg (d_ix ix_seq o_ix (d_var 1) (d_callG G__law_pick hr tk (da_cons (d_var 0) (da_cons (d_callB call_len c_len T.n_len (da_cons (d_var 1) da_nil)) da_nil)))) (dg_any rfl (dgs_cons (dg_name 3 sc__law_minutes.nd) (dgs_cons (dg_name 4 sc__law_minutes.nd) dgs_nil)))) (dss_cons (ds_set 5 sc__law_minutes.nd (d_op op_sub o_sub (d_ix ix_seq o_ix (d_var 3) (d_fold (d := .int (-1)) (d_un un_neg o_neg d_int) (fun _ _ => rfl))) (d_ix ix_seq o_ix (d_var 3) d_int))) (dss_cons (ds_set 6 sc__law_minutes.nd (d_fz (dl_lst (da_cons d_int (da_cons (d_var 4) (da_cons (d_var 5) (da_cons d_int (da_cons d_int (da_cons (d_callG G__law_pick hr tk (da_cons (d_var 0) (da_cons d_int da_nil))) (da_cons d_int (da_cons (d_op op_sub o_sub (d_var 4) (d_var 5)) (da_cons (d_op op_addD o_add (d_var 4) (d_var 5)) da_nil)))))))))))) (dss_cons (ds_set 7 sc__law_minutes.nd (d_callB (call_min2 rfl) c_II T.n_min (da_cons d_int (da_cons (d_op op_sub o_sub (d_op op_addD o_add (d_ix ix_seq o_ix (d_var 6) (d_callG G__law_pick hr tk (da_cons (d_var 0) (da_cons d_int da_nil)))) (d_callG G__law_pick hr tk (da_cons (d_var 0) (da_cons d_int da_nil)))) d_int) da_nil)))) (dss_one (ds_ret (d_op op_mulW o_mul (d_var 7) (d_op op_sub o_sub d_int (d_op op_mulW o_mul d_int (d_callG G__law_pick hr tk (da_cons (d_var 0) (da_cons d_int da_nil)))))))))))))
abbrev s__law_next_words : Stmt := top 35
theorem sc__law_next_words : FnScope ["_law_made", "_law_room", "_law_some"] ["_law_made", "_law_room"] (defScope s__law_next_words) := ⟨rfl, rfl, rfl, by decide +kernel, rfl, by decide +kernel, by decide +kernel⟩
theorem fn__law_next_words (T : Txt K mg w) {f : Addr} {fd : FuncData} (hm : mg "_law_next_words" = some (.ref f)) (F : Fun K "_law_next_words" "_law_next_words" s__law_next_words f fd) : FnDG P w K mg base 1 "_law_next_words" s__law_next_words ["_law_made", "_law_room"] m_law_next_words := by
  refine fnd_mkG (np := 2) (nN := 3) (k := 0) hm F (F.binds fun _ _ _ _ _ _ us hl => match us, hl with | [_, _], _ => rfl) sc__law_next_words rfl rfl fun cdv A outer s H E hr => ?_
  have tk : Takes (cxOf (L2.CX P w) P w K mg base ["_law_made", "_law_room", "_law_some"] "_law_next_words" (defScope s__law_next_words) f cdv A outer s H E) (fun cls d _ H => E cls d H) := takes_of rfl rfl rfl rfl
  exact (dss_cons (ds_set 2 sc__law_next_words.nd (d_fz (dl_cat (dl_cat (dl_lst (da_cons d_str da_nil)) (dl_rep (dl_lst (da_cons d_str da_nil)) (d_callTy call_int1 c_int1 T.n_int (da_cons (d_cmp op_in_seq o_in d_str (d_var 0) (by rfl)) da_nil)))) (dl_rep (dl_lst (da_cons d_str da_nil)) (d_callTy call_int1 c_int1 T.n_int (da_cons (d_and (d_cmp op_in_seq o_in d_str (d_var 0) (by rfl)) (d_one (d_cmp op_in_seq o_in d_str (d_var 0) (by rfl)))) da_nil)))))) (dss_cons (ds_if (dt_cmp op_gt o_gt (d_ix ix_seq o_ix (d_var 1) d_int) d_int) (dss_cons (ds_set 2 sc__law_next_words.nd (d_fz (dl_cat (dl_catV (d_var 2) (dl_lst (da_cons d_str (da_cons d_str (da_cons d_str (da_cons d_str (da_cons d_str (da_cons d_str da_nil)))))))) (dl_rep (dl_lst (da_cons d_str da_nil)) (d_callB (call_min2 rfl) c_II T.n_min (da_cons d_int (da_cons (d_ix ix_seq o_ix (d_var 1) d_int) da_nil))))))) (dss_one (ds_set 2 sc__law_next_words.nd (d_fz (dl_catV (d_var 2) (dl_rep (dl_lst (da_cons d_str da_nil)) (d_callTy call_int1 c_int1 T.n_int (da_cons (d_op op_mulW o_mul d_int (d_callTy call_int1 c_int1 T.n_int (da_cons (d_and (d_cmp op_gt o_gt (d_ix ix_seq o_ix (d_var 1) d_int) d_int) (d_one (d_cmp op_in_seq o_in d_str (d_var 0) (by rfl)))) da_nil))) da_nil)))))))) dss_nil) (dss_one (ds_ret (d_var 2)))))
abbrev s__law_any_rules : Stmt := top 36
theorem sc__law_any_rules : FnScope ["_law_bag"] ["_law_bag"] (defScope s__law_any_rules) := ⟨rfl, rfl, rfl, by decide +kernel, rfl, by decide +kernel, by decide +kernel⟩
theorem fn__law_any_rules (T : Txt K mg w) {f : Addr} {fd : FuncData} (hm : mg "_law_any_rules" = some (.ref f)) (F : Fun K "_law_any_rules" "_law_any_rules" s__law_any_rules f fd) (G__law_pick : FnDG P w K mg base 1 "_law_pick" s__law_pick ["_law_bag", "_law_many"] m_law_pick) : FnDG P w K mg base 2 "_law_any_rules" s__law_any_rules ["_law_bag"] m_law_any_rules := by
  refine fnd_mkG (np := 1) (nN := 1) (k := 1) hm F (F.binds fun _ _ _ _ _ _ us hl => match us, hl with | [_], _ => rfl) sc__law_any_rules rfl rfl fun cdv A outer s H E hr => ?_
  have tk : Takes (cxOf (L2.CX P w) P w K mg base ["_law_bag"] "_law_any_rules" (defScope s__law_any_rules) f cdv A outer s H E) (fun cls d _ H => E cls d H) := takes_of rfl rfl rfl rfl
  exact (dss_one (ds_ret (d_tup (da_cons (d_ix ix_seq o_ix (d_fz (dl_lst (da_cons d_str (da_cons d_str (da_cons d_str da_nil))))) (d_callG G__law_pick hr tk (da_cons (d_var 0) (da_cons d_int da_nil)))) (da_cons (d_ix ix_seq o_ix (d_fz (dl_lst (da_cons d_str (da_cons d_str (da_cons d_str da_nil))))) (d_callG G__law_pick hr tk (da_cons (d_var 0) (da_cons d_int da_nil)))) da_nil)))))
abbrev s__law_any_deed : Stmt := top 37
theorem sc__law_any_deed : FnScope ["_law_bag", "_law_belts", "_law_made", "_law_room", "_law_some", "_law_word", "_law_site"] ["_law_bag", "_law_belts", "_law_made", "_law_room"] (defScope s__law_any_deed) := ⟨rfl, rfl, rfl, by decide +kernel, rfl, by decide +kernel, by decide +kernel⟩
theorem fn__law_any_deed (T : Txt K mg w) {f : Addr} {fd : FuncData} (hm : mg "_law_any_deed" = some (.ref f)) (F : Fun K "_law_any_deed" "_law_any_deed" s__law_any_deed f fd) (G__law_spot : FnDG P w K mg base 2 "_law_spot" s__law_spot ["_law_bag", "_law_made", "_law_kind"] m_law_spot) (G__law_any_rules : FnDG P w K mg base 2 "_law_any_rules" s__law_any_rules ["_law_bag"] m_law_any_rules) (G__law_pick : FnDG P w K mg base 1 "_law_pick" s__law_pick ["_law_bag", "_law_many"] m_law_pick) (G__law_minutes : FnDG P w K mg base 2 "_law_minutes" s__law_minutes ["_law_bag", "_law_belts", "_law_tiny"] m_law_minutes) (G__law_next_words : FnDG P w K mg base 1 "_law_next_words" s__law_next_words ["_law_made", "_law_room"] m_law_next_words) : FnDG P w K mg base 3 "_law_any_deed" s__law_any_deed ["_law_bag", "_law_belts", "_law_made", "_law_room"] m_law_any_deed := by
  refine fnd_mkG (np := 4) (nN := 7) (k := 2) hm F (F.binds fun _ _ _ _ _ _ us hl => match us, hl with | [_, _, _, _], _ => rfl) sc__law_any_deed rfl rfl fun cdv A outer s H E hr => ?_
  have tk : Takes (cxOf (L2.CX P w) P w K mg base ["_law_bag", "_law_belts", "_law_made", "_law_room", "_law_some", "_law_word", "_law_site"] "_law_any_deed" (defScope s__law_any_deed) f cdv A outer s H E) (fun cls d _ H => E cls d H) := takes_of rfl rfl rfl rfl
  exact (dss_cons (ds_set 4 sc__law_any_deed.nd (d_callG G__law_next_words hr tk (da_cons (d_var 2) (da_cons (d_var 3) da_nil)))) (dss_cons (ds_set 5 sc__law_any_deed.nd (d_ix ix_seq o_ix (d_var 4) (d_callG G__law_pick hr tk (da_cons (d_var 0) (da_cons (d_callB call_len c_len T.n_len (da_cons (d_var 4) da_nil)) da_nil))))) (dss_cons (ds_if (dt_cmp (op_eqA hr.units) o_eq (d_var 5) d_str) (dss_one (ds_ret (d_tup (da_cons d_str (da_cons (d_callG G__law_spot hr tk (da_cons (d_var 0) (da_cons (d_var 2) (da_cons d_str da_nil)))) (da_cons (d_callG G__law_minutes hr tk (da_cons (d_var 0) (da_cons (d_var 1) (da_cons (d_ix ix_seq o_ix (d_var 3) d_int) da_nil)))) da_nil)))))) dss_nil) (dss_cons (ds_if (dt_cmp (op_eqA hr.units) o_eq (d_var 5) d_str) (dss_one (ds_ret (d_tup (da_cons d_str (da_cons (d_callG G__law_spot hr tk (da_cons (d_var 0) (da_cons (d_var 2) (da_cons d_str da_nil)))) (da_cons (d_callG G__law_spot hr tk (da_cons (d_var 0) (da_cons (d_var 2) (da_cons d_str da_nil)))) da_nil)))))) dss_nil) (dss_cons (ds_if (dt_cmp (op_eqA hr.units) o_eq (d_var 5) d_str) (dss_one (ds_ret (d_tup (da_cons d_str (da_cons (d_callG G__law_spot hr tk (da_cons (d_var 0) (da_cons (d_var 2) (da_cons d_str da_nil)))) (da_cons (d_callG G__law_spot hr tk (da_cons (d_var 0) (da_cons (d_var 2) (da_cons d_str da_nil)))) da_nil)))))) dss_nil) (dss_cons (ds_set 6 sc__law_any_deed.nd (d_callG G__law_pick hr tk (da_cons (d_var 0) (da_cons (d_callB call_len c_len T.n_len (da_cons (d_var 1) da_nil)) da_nil)))) (dss_cons (ds_if (dt_cmp (op_eqA hr.units) o_eq (d_var 5) d_str) (dss_one (ds_ret (d_op op_addD o_add (d_tup (da_cons d_str (da_cons (d_callG G__law_spot hr tk (da_cons (d_var 0) (da_cons (d_var 2) (da_cons d_str da_nil)))) (da_cons (d_var 6) da_nil)))) (d_callG G__law_any_rules hr tk (da_cons (d_var 0) da_nil))))) dss_nil) (dss_one (ds_ret (d_tup (da_cons (d_var 5) (da_cons (d_callG G__law_spot hr tk (da_cons (d_var 0) (da_cons (d_var 2) (da_cons d_str da_nil)))) (da_cons (d_var 6) da_nil)))))))))))))
abbrev s__law_kind_made : Stmt := top 38
theorem sc__law_kind_made : FnScope ["_law_made", "_law_deed"] ["_law_made", "_law_deed"] (defScope s__law_kind_made) := ⟨rfl, rfl, rfl, by decide +kernel, rfl, by decide +kernel, by decide +kernel⟩
theorem fn__law_kind_made (T : Txt K mg w) {f : Addr} {fd : FuncData} (hm : mg "_law_kind_made" = some (.ref f)) (F : Fun K "_law_kind_made" "_law_kind_made" s__law_kind_made f fd) : FnDG P w K mg base 1 "_law_kind_made" s__law_kind_made ["_law_made", "_law_deed"] m_law_kind_made := by
  refine fnd_mkG (np := 2) (nN := 2) (k := 0) hm F (F.binds fun _ _ _ _ _ _ us hl => match us, hl with | [_, _], _ => rfl) sc__law_kind_made rfl rfl fun cdv A outer s H E hr => ?_
  have tk : Takes (cxOf (L2.CX P w) P w K mg base ["_law_made", "_law_deed"] "_law_kind_made" (defScope s__law_kind_made) f cdv A outer s H E) (fun cls d _ H => E cls d H) := takes_of rfl rfl rfl rfl
  exact (dss_cons (ds_if (dt_cmp (op_eqA hr.units) o_eq (d_ix ix_seq o_ix (d_var 1) d_int) d_str) (dss_one (ds_ret (d_ix ix_seq o_ix (d_var 0) (d_ix ix_seq o_ix (d_var 1) d_int)))) dss_nil) (dss_cons (ds_if (dt_cmp (op_eqA hr.units) o_eq (d_ix ix_seq o_ix (d_var 1) d_int) d_str) (dss_one (ds_ret d_str)) dss_nil) (dss_cons (ds_if (DT.w (dw_or (dt_cmp (op_eqA hr.units) o_eq (d_ix ix_seq o_ix (d_var 1) d_int) d_str) (dw_or1 (dt_cmp (op_eqA hr.units) o_eq (d_ix ix_seq o_ix (d_var 1) d_int) d_str)))) (dss_one (ds_ret d_str)) dss_nil) (dss_one (ds_ret d_str)))))
abbrev s__law_kind_row : Stmt := top 39
theorem sc__law_kind_row : FnScope ["_law_plan", "_law_made", "_law_deed"] ["_law_plan"] (defScope s__law_kind_row) := ⟨rfl, rfl, rfl, by decide +kernel, rfl, by decide +kernel, by decide +kernel⟩
theorem fn__law_kind_row (T : Txt K mg w) {f : Addr} {fd : FuncData} (hm : mg "_law_kind_row" = some (.ref f)) (F : Fun K "_law_kind_row" "_law_kind_row" s__law_kind_row f fd) (G__law_kind_made : FnDG P w K mg base 1 "_law_kind_made" s__law_kind_made ["_law_made", "_law_deed"] m_law_kind_made) : FnDG P w K mg base 2 "_law_kind_row" s__law_kind_row ["_law_plan"] m_law_kind_row := by
  refine fnd_mkG (np := 1) (nN := 3) (k := 1) hm F (F.binds fun _ _ _ _ _ _ us hl => match us, hl with | [_], _ => rfl) sc__law_kind_row rfl rfl fun cdv A outer s H E hr => ?_
  have tk : Takes (cxOf (L2.CX P w) P w K mg base ["_law_plan", "_law_made", "_law_deed"] "_law_kind_row" (defScope s__law_kind_row) f cdv A outer s H E) (fun cls d _ H => E cls d H) := takes_of rfl rfl rfl rfl
  exact (dss_cons (ds_set 1 sc__law_kind_row.nd (d_new (dl_lst (da_cons d_str da_nil)))) (dss_cons (ds_forA (passes_of rfl) rfl (d_var 0) (dg_name 2 sc__law_kind_row.nd) (dss_one (ds_app (d_var 1) (d_callG G__law_kind_made hr tk (da_cons (d_var 1) (da_cons (d_var 2) da_nil))) (fun a b => ps_expr (pe_bm PySem.F.plainAttrs_list PySem.F.slot_list_append PySem.F.type_list_append mt_append a (pa_cons b pa_nil)))))) (dss_one (ds_ret (d_var 1)))))
abbrev s__law_less_room : Stmt := top 40
theorem sc__law_less_room : FnScope ["_law_room", "_law_deed", "_law_turned"] ["_law_room", "_law_deed"] (defScope s__law_less_room) := ⟨rfl, rfl, rfl, by decide +kernel, rfl, by decide +kernel, by decide +kernel⟩
theorem fn__law_less_room (T : Txt K mg w) {f : Addr} {fd : FuncData} (hm : mg "_law_less_room" = some (.ref f)) (F : Fun K "_law_less_room" "_law_less_room" s__law_less_room f fd) : FnDG P w K mg base 1 "_law_less_room" s__law_less_room ["_law_room", "_law_deed"] m_law_less_room := by
  refine fnd_mkG (np := 2) (nN := 3) (k := 0) hm F (F.binds fun _ _ _ _ _ _ us hl => match us, hl with | [_, _], _ => rfl) sc__law_less_room rfl rfl fun cdv A outer s H E hr => ?_
  have tk : Takes (cxOf (L2.CX P w) P w K mg base ["_law_room", "_law_deed", "_law_turned"] "_law_less_room" (defScope s__law_less_room) f cdv A outer s H E) (fun cls d _ H => E cls d H) := takes_of rfl rfl rfl rfl
  exact (dss_cons (ds_set 2 sc__law_less_room.nd (d_callTy call_int1 c_int1 T.n_int (da_cons (d_cmp op_in_seq o_in (d_ix ix_seq o_ix (d_var 1) d_int) (d_fz (dl_lst (da_cons d_str (da_cons d_str (da_cons d_str (da_cons d_str da_nil)))))) (by rfl)) da_nil))) (dss_one (ds_ret (d_fz (dl_lst (da_cons (d_op op_sub o_sub (d_ix ix_seq o_ix (d_var 0) d_int) (d_var 2)) (da_cons (d_op op_sub o_sub (d_ix ix_seq o_ix (d_var 0) d_int) (d_callTy call_int1 c_int1 T.n_int (da_cons (d_cmp (op_eqA hr.units) o_eq (d_ix ix_seq o_ix (d_var 1) d_int) d_str) da_nil))) (da_cons (d_op op_sub o_sub (d_ix ix_seq o_ix (d_var 0) d_int) (d_callTy call_int1 c_int1 T.n_int (da_cons (d_cmp (op_eqA hr.units) o_eq (d_ix ix_seq o_ix (d_var 1) d_int) d_str) da_nil))) (da_cons (d_ix ix_seq o_ix (d_var 0) d_int) da_nil)))))))))
abbrev s__law_longer_plan : Stmt := top 41
theorem sc__law_longer_plan : FnScope ["_law_bag", "_law_belts", "_law_plan", "_law_steps", "_law_room", "_law_k", "_law_deed"] ["_law_bag", "_law_belts", "_law_plan", "_law_steps", "_law_room"] (defScope s__law_longer_plan) := ⟨rfl, rfl, rfl, by decide +kernel, rfl, by decide +kernel, by decide +kernel⟩
theorem fn__law_longer_plan (T : Txt K mg w) {f : Addr} {fd : FuncData} (hm : mg "_law_longer_plan" = some (.ref f)) (F : Fun K "_law_longer_plan" "_law_longer_plan" s__law_longer_plan f fd) (G__law_less_room : FnDG P w K mg base 1 "_law_less_room" s__law_less_room ["_law_room", "_law_deed"] m_law_less_room) (G__law_any_deed : FnDG P w K mg base 3 "_law_any_deed" s__law_any_deed ["_law_bag", "_law_belts", "_law_made", "_law_room"] m_law_any_deed) (G__law_kind_row : FnDG P w K mg base 2 "_law_kind_row" s__law_kind_row ["_law_plan"] m_law_kind_row) : FnDG P w K mg base 4 "_law_longer_plan" s__law_longer_plan ["_law_bag", "_law_belts", "_law_plan", "_law_steps", "_law_room"] m_law_longer_plan := by
  refine fnd_mkG (np := 5) (nN := 7) (k := 3) hm F (F.binds fun _ _ _ _ _ _ us hl => match us, hl with | [_, _, _, _, _], _ => rfl) sc__law_longer_plan rfl rfl fun cdv A outer s H E hr => ?_
  have tk : Takes (cxOf (L2.CX P w) P w K mg base ["_law_bag", "_law_belts", "_law_plan", "_law_steps", "_law_room", "_law_k", "_law_deed"] "_law_longer_plan" (defScope s__law_longer_plan) f cdv A outer s H E) (fun cls d _ H => E cls d H) := takes_of rfl rfl rfl rfl
  exact (dss_cons (ds_for (passes_of rfl) rfl (di_range1 (da_cons (d_var 3) da_nil) T.n_range) (dg_name 5 sc__law_longer_plan.nd) (dss_cons (ds_set 6 sc__law_longer_plan.nd (d_callG G__law_any_deed hr tk (da_cons (d_var 0) (da_cons (d_var 1) (da_cons (d_callG G__law_kind_row hr tk (da_cons (d_var 2) da_nil)) (da_cons (d_var 4) da_nil)))))) (dss_cons (ds_set 4 sc__law_longer_plan.nd (d_callG G__law_less_room hr tk (da_cons (d_var 4) (da_cons (d_var 6) da_nil)))) (dss_one (ds_set 2 sc__law_longer_plan.nd (d_op op_addD o_add (d_var 2) (d_tup (da_cons (d_var 6) da_nil)))))))) (dss_one (ds_ret (d_var 2))))
abbrev s__law_any_plan : Stmt := top 42
theorem sc__law_any_plan : FnScope ["_law_bag", "_law_belts", "_law_upto", "_law_room", "_law_steps"] ["_law_bag", "_law_belts", "_law_upto", "_law_room"] (defScope s__law_any_plan) := ⟨rfl, rfl, rfl, by decide +kernel, rfl, by decide +kernel, by decide +kernel⟩
theorem fn__law_any_plan (T : Txt K mg w) {f : Addr} {fd : FuncData} (hm : mg "_law_any_plan" = some (.ref f)) (F : Fun K "_law_any_plan" "_law_any_plan" s__law_any_plan f fd) (G__law_longer_plan : FnDG P w K mg base 4 "_law_longer_plan" s__law_longer_plan ["_law_bag", "_law_belts", "_law_plan", "_law_steps", "_law_room"] m_law_longer_plan) (G__law_pick : FnDG P w K mg base 1 "_law_pick" s__law_pick ["_law_bag", "_law_many"] m_law_pick) : FnDG P w K mg base 5 "_law_any_plan" s__law_any_plan ["_law_bag", "_law_belts", "_law_upto", "_law_room"] m_law_any_plan := by
  refine fnd_mkG (np := 4) (nN := 5) (k := 4) hm F (F.binds fun _ _ _ _ _ _ us hl => match us, hl with | [_, _, _, _], _ => rfl) sc__law_any_plan rfl rfl fun cdv A outer s H E hr => ?_
  have tk : Takes (cxOf (L2.CX P w) P w K mg base ["_law_bag", "_law_belts", "_law_upto", "_law_room", "_law_steps"] "_law_any_plan" (defScope s__law_any_plan) f cdv A outer s H E) (fun cls d _ H => E cls d H) := takes_of rfl rfl rfl rfl
  exact (dss_cons (ds_set 4 sc__law_any_plan.nd (d_op op_sub o_sub (d_var 2) (d_ix ix_seq o_ix (d_fz (dl_lst (da_cons d_int (da_cons d_int (da_cons d_int (da_cons d_int (da_cons d_int (da_cons (d_callG G__law_pick hr tk (da_cons (d_var 0) (da_cons (d_op op_addD o_add (d_var 2) d_int) da_nil))) da_nil)))))))) (d_callG G__law_pick hr tk (da_cons (d_var 0) (da_cons d_int da_nil)))))) (dss_one (ds_ret (d_callG G__law_longer_plan hr tk (da_cons (d_var 0) (da_cons (d_var 1) (da_cons (d_tup da_nil) (da_cons (d_var 4) (da_cons (d_var 3) da_nil)))))))))
abbrev s__law_is_deed : Stmt := top 43
theorem sc__law_is_deed : FnScope ["_law_belts", "_law_made", "_law_thing", "_law_kind"] ["_law_belts", "_law_made", "_law_thing"] (defScope s__law_is_deed) := ⟨rfl, rfl, rfl, by decide +kernel, rfl, by decide +kernel, by decide +kernel⟩
theorem fn__law_is_deed (T : Txt K mg w) {f : Addr} {fd : FuncData} (hm : mg "_law_is_deed" = some (.ref f)) (F : Fun K "_law_is_deed" "_law_is_deed" s__law_is_deed f fd) (G__law_is_whole : FnDG P w K mg base 1 "_law_is_whole" s__law_is_whole ["_law_thing"] m_law_is_whole) : FnDG P w K mg base 2 "_law_is_deed" s__law_is_deed ["_law_belts", "_law_made", "_law_thing"] m_law_is_deed := by
  refine fnd_mkG (np := 3) (nN := 4) (k := 1) hm F (F.binds fun _ _ _ _ _ _ us hl => match us, hl with | [_, _, _], _ => rfl) sc__law_is_deed rfl rfl fun cdv A outer s H E hr => ?_
  have tk : Takes (cxOf (L2.CX P w) P w K mg base ["_law_belts", "_law_made", "_law_thing", "_law_kind"] "_law_is_deed" (defScope s__law_is_deed) f cdv A outer s H E) (fun cls d _ H => E cls d H) := takes_of rfl rfl rfl rfl
  exact (dss_cons (ds_if (DT.w (dw_or (dt_not (dt_val (d_isi .tup (d_var 2) T.n_isinstance T.n_tuple))) (dw_or (dt_cmp op_lt o_lt (d_callB call_len c_len T.n_len (da_cons (d_var 2) da_nil)) d_int) (dw_or1 (dt_not (dt_val (d_isi .str (d_ix ix_seq o_ix (d_var 2) d_int) T.n_isinstance T.n_str))))))) (dss_one (ds_ret d_bl)) dss_nil) (dss_cons (ds_if (dt_cmp op_notIn_seq o_in (d_ix ix_seq o_ix (d_var 2) d_int) (d_fz (dl_lst (da_cons d_str (da_cons d_str (da_cons d_str (da_cons d_str (da_cons d_str (da_cons d_str (da_cons d_str da_nil))))))))) (by rfl)) (dss_one (ds_ret d_bl)) dss_nil) (dss_cons (ds_if (DT.w (dw_or (dt_cmp (op_neA hr.units) o_ne (d_callB call_len c_len T.n_len (da_cons (d_var 2) da_nil)) (d_op op_addD o_add d_int (d_op op_mulW o_mul d_int (d_callTy call_int1 c_int1 T.n_int (da_cons (d_cmp (op_eqA hr.units) o_eq (d_ix ix_seq o_ix (d_var 2) d_int) d_str) da_nil))))) (dw_or (dt_not (dt_val (d_callG G__law_is_whole hr tk (da_cons (d_ix ix_seq o_ix (d_var 2) d_int) da_nil)))) (dw_or1 (dt_not (dt_val (d_callG G__law_is_whole hr tk (da_cons (d_ix ix_seq o_ix (d_var 2) d_int) da_nil)))))))) (dss_one (ds_ret d_bl)) dss_nil) (dss_cons (ds_if (DT.w (dw_or (dt_cmp op_lt o_lt (d_ix ix_seq o_ix (d_var 2) d_int) d_int) (dw_or1 (dt_cmp op_ge o_ge (d_ix ix_seq o_ix (d_var 2) d_int) (d_callB call_len c_len T.n_len (da_cons (d_var 1) da_nil)))))) (dss_one (ds_ret d_bl)) dss_nil) (dss_cons (ds_set 3 sc__law_is_deed.nd (d_ix ix_seq o_ix (d_var 1) (d_ix ix_seq o_ix (d_var 2) d_int))) (dss_cons (ds_if (dt_cmp (op_eqA hr.units) o_eq (d_ix ix_seq o_ix (d_var 2) d_int) d_str) (dss_one (ds_ret (d_and (d_cmp (op_neA hr.units) o_ne (d_var 3) d_str) (d_and (d_cmp op_le o_le (d_fold (d := .int (-100000)) (d_un un_neg o_neg d_int) (fun _ _ => rfl)) (d_ix ix_seq o_ix (d_var 2) d_int)) (d_one (d_cmp op_le o_le (d_ix ix_seq o_ix (d_var 2) d_int) d_int)))))) dss_nil) (dss_cons (ds_if (DT.w (dw_or (dt_cmp (op_neA hr.units) o_ne (d_var 3) (d_get hr.units (d_disp (dps_cons d_str d_str (dps_cons d_str d_str dps_nil))) (d_ix ix_seq o_ix (d_var 2) d_int) d_str)) (dw_or1 (dt_cmp op_lt o_lt (d_ix ix_seq o_ix (d_var 2) d_int) d_int)))) (dss_one (ds_ret d_bl)) dss_nil) (dss_cons (ds_if (DT.w (dw_or (dt_cmp (op_eqA hr.units) o_eq (d_ix ix_seq o_ix (d_var 2) d_int) d_str) (dw_or1 (dt_cmp (op_eqA hr.units) o_eq (d_ix ix_seq o_ix (d_var 2) d_int) d_str)))) (dss_one (ds_ret (d_and (d_cmp op_lt o_lt (d_ix ix_seq o_ix (d_var 2) d_int) (d_callB call_len c_len T.n_len (da_cons (d_var 1) da_nil))) (d_one (d_cmp (op_eqA hr.units) o_eq (d_ix ix_seq o_ix (d_var 1) (d_ix ix_seq o_ix (d_var 2) d_int)) d_str))))) dss_nil) (dss_cons (ds_if (dt_cmp op_ge o_ge (d_ix ix_seq o_ix (d_var 2) d_int) (d_callB call_len c_len T.n_len (da_cons (d_var 0) da_nil))) (dss_one (ds_ret d_bl)) dss_nil) (dss_cons (ds_if (dt_cmp (op_neA hr.units) o_ne (d_ix ix_seq o_ix (d_var 2) d_int) d_str) (dss_one (ds_ret d_bl)) dss_nil) (dss_cons (ds_if (DT.w (dw_or (dt_not (dt_val (d_isi .str (d_ix ix_seq o_ix (d_var 2) d_int) T.n_isinstance T.n_str))) (dw_or1 (dt_not (dt_val (d_isi .str (d_ix ix_seq o_ix (d_var 2) d_int) T.n_isinstance T.n_str)))))) (dss_one (ds_ret d_bl)) dss_nil) (dss_one (ds_ret (d_and (d_cmp op_in_seq o_in (d_ix ix_seq o_ix (d_var 2) d_int) (d_fz (dl_lst (da_cons d_str (da_cons d_str (da_cons d_str da_nil))))) (by rfl)) (d_one (d_cmp op_in_seq o_in (d_ix ix_seq o_ix (d_var 2) d_int) (d_fz (dl_lst (da_cons d_str (da_cons d_str (da_cons d_str da_nil))))) (by rfl)))))))))))))))))
abbrev s__law_is_plan : Stmt := top 44
theorem sc__law_is_plan : FnScope ["_law_belts", "_law_thing", "_law_made", "_law_deed"] ["_law_belts", "_law_thing"] (defScope s__law_is_plan) := ⟨rfl, rfl, rfl, by decide +kernel, rfl, by decide +kernel, by decide +kernel⟩
theorem fn__law_is_plan (T : Txt K mg w) {f : Addr} {fd : FuncData} (hm : mg "_law_is_plan" = some (.ref f)) (F : Fun K "_law_is_plan" "_law_is_plan" s__law_is_plan f fd) (G__law_kind_made : FnDG P w K mg base 1 "_law_kind_made" s__law_kind_made ["_law_made", "_law_deed"] m_law_kind_made) (G__law_is_deed : FnDG P w K mg base 2 "_law_is_deed" s__law_is_deed ["_law_belts", "_law_made", "_law_thing"] m_law_is_deed) : FnDG P w K mg base 3 "_law_is_plan" s__law_is_plan ["_law_belts", "_law_thing"] m_law_is_plan := by
  refine fnd_mkG (np := 2) (nN := 4) (k := 2) hm F (F.binds fun _ _ _ _ _ _ us hl => match us, hl with | [_, _], _ => rfl) sc__law_is_plan rfl rfl fun cdv A outer s H E hr => ?_
  have tk : Takes (cxOf (L2.CX P w) P w K mg base ["_law_belts", "_law_thing", "_law_made", "_law_deed"] "_law_is_plan" (defScope s__law_is_plan) f cdv A outer s H E) (fun cls d _ H => E cls d H) := takes_of rfl rfl rfl rfl
  exact (dss_cons (ds_if (DT.w (dw_or (dt_not (dt_val (d_isi .tup (d_var 1) T.n_isinstance T.n_tuple))) (dw_or1 (dt_cmp op_gt o_gt (d_callB call_len c_len T.n_len (da_cons (d_var 1) da_nil)) d_int)))) (dss_one (ds_ret d_bl)) dss_nil) (dss_cons (ds_set 2 sc__law_is_plan.nd (d_new (dl_lst (da_cons d_str da_nil)))) (dss_cons (ds_forA (passes_of rfl) rfl (d_var 1) (dg_name 3 sc__law_is_plan.nd) (dss_cons (ds_if (dt_not (dt_val (d_callG G__law_is_deed hr tk (da_cons (d_var 0) (da_cons (d_var 2) (da_cons (d_var 3) da_nil)))))) (dss_one (ds_ret d_bl)) dss_nil) (dss_one (ds_app (d_var 2) (d_callG G__law_kind_made hr tk (da_cons (d_var 2) (da_cons (d_var 3) da_nil))) (fun a b => ps_expr (pe_bm PySem.F.plainAttrs_list PySem.F.slot_list_append PySem.F.type_list_append mt_append a (pa_cons b pa_nil))))))) (dss_one (ds_ret (d_cmp op_lt o_lt (d_callB call_len c_len T.n_len (da_cons (d_fz (dl_lcA (own := [("_law_deed", 3)]) rfl sc__law_is_plan.nd (d_var 1) (blkOk_by (own := [("_law_deed", 3)]) (N := ["_law_belts", "_law_thing", "_law_made", "_law_deed"]) (sc := defScope s__law_is_plan) (by decide +kernel)) (fun _ _ _ _ _ => (dg_name 3 sc__law_is_plan.nd)) (fun _ _ _ _ _ => (dts_one (dt_cmp (op_eqA hr.units) o_eq (d_ix ix_seq o_ix (d_var 3) d_int) d_str))) (fun _ _ _ _ _ => (d_var 3)))) da_nil)) d_int))))))
abbrev s__law_odd : Stmt := top 45
theorem sc__law_odd : FnScope ["_law_bag", "_law_belts", "_law_size", "_law_some"] ["_law_bag", "_law_belts", "_law_size"] (defScope s__law_odd) := ⟨rfl, rfl, rfl, by decide +kernel, rfl, by decide +kernel, by decide +kernel⟩
theorem fn__law_odd (T : Txt K mg w) {f : Addr} {fd : FuncData} (hm : mg "_law_odd" = some (.ref f)) (F : Fun K "_law_odd" "_law_odd" s__law_odd f fd) (G__law_pick : FnDG P w K mg base 1 "_law_pick" s__law_pick ["_law_bag", "_law_many"] m_law_pick) (GI_Refused : XiOk P w K mg base 1 "Refused" ["step"]) : FnDG P w K mg base 3 "_law_odd" s__law_odd ["_law_bag", "_law_belts", "_law_size"] m_law_odd := by
  refine fnd_mkG (np := 3) (nN := 4) (k := 2) hm F (F.binds fun _ _ _ _ _ _ us hl => match us, hl with | [_, _, _], _ => rfl) sc__law_odd rfl rfl fun cdv A outer s H E hr => ?_
  have tk : Takes (cxOf (L2.CX P w) P w K mg base ["_law_bag", "_law_belts", "_law_size", "_law_some"] "_law_odd" (defScope s__law_odd) f cdv A outer s H E) (fun cls d _ H => E cls d H) := takes_of rfl rfl rfl rfl
  exact (dss_cons (ds_set 3 sc__law_odd.nd (d_fz (dl_lst (da_cons d_non (da_cons d_bl (da_cons d_bl (da_cons d_str (da_cons d_str (da_cons d_str (da_cons d_str (da_cons d_str (da_cons d_str (da_cons d_str (da_cons d_str (da_cons (d_tup da_nil) (da_cons (d_fz (dl_lst da_nil)) (da_cons (d_tup (da_cons d_int da_nil)) (da_cons (d_fz (dl_lst (da_cons d_int da_nil))) (da_cons (d_fold (d := .int (-1)) (d_un un_neg o_neg d_int) (fun _ _ => rfl)) (da_cons d_int da_nil)))))))))))))))))))) (dss_cons (ds_set 3 sc__law_odd.nd (d_fz (dl_catV (d_var 3) (dl_lst (da_cons d_int (da_cons d_int (da_cons (d_var 2) (da_cons (d_op op_addD o_add (d_var 2) d_int) (da_cons (d_callB call_len c_len T.n_len (da_cons (d_var 1) da_nil)) (da_cons d_int (da_cons d_int (da_cons (d_fold (d := .int (-100000)) (d_un un_neg o_neg d_int) (fun _ _ => rfl)) (da_cons (d_fold (d := .int (-100001)) (d_un un_neg o_neg d_int) (fun _ _ => rfl)) (da_cons (d_fold (d := .int 1000000000000000000000000000000) (d_op op_pow o_pow d_int d_int) (fun _ _ => rfl)) (da_cons (d_newX GI_Refused T.p__Rd7 hr.toRoom (da_cons d_int da_nil)) (da_cons d_str da_nil)))))))))))))))) (dss_one (ds_ret (d_ix ix_seq o_ix (d_var 3) (d_callG G__law_pick hr tk (da_cons (d_var 0) (da_cons (d_callB call_len c_len T.n_len (da_cons (d_var 3) da_nil)) da_nil))))))))
abbrev s__law_bent_deed : Stmt := top 46
theorem sc__law_bent_deed : FnScope ["_law_bag", "_law_belts", "_law_deed", "_law_size", "_law_way", "_law_part", "_law_word"] ["_law_bag", "_law_belts", "_law_deed", "_law_size"] (defScope s__law_bent_deed) := ⟨rfl, rfl, rfl, by decide +kernel, rfl, by decide +kernel, by decide +kernel⟩
theorem fn__law_bent_deed (T : Txt K mg w) {f : Addr} {fd : FuncData} (hm : mg "_law_bent_deed" = some (.ref f)) (F : Fun K "_law_bent_deed" "_law_bent_deed" s__law_bent_deed f fd) (G__law_pick : FnDG P w K mg base 1 "_law_pick" s__law_pick ["_law_bag", "_law_many"] m_law_pick) (G__law_odd : FnDG P w K mg base 3 "_law_odd" s__law_odd ["_law_bag", "_law_belts", "_law_size"] m_law_odd) : FnDG P w K mg base 4 "_law_bent_deed" s__law_bent_deed ["_law_bag", "_law_belts", "_law_deed", "_law_size"] m_law_bent_deed := by
  refine fnd_mkG (np := 4) (nN := 7) (k := 3) hm F (F.binds fun _ _ _ _ _ _ us hl => match us, hl with | [_, _, _, _], _ => rfl) sc__law_bent_deed rfl rfl fun cdv A outer s H E hr => ?_
  have tk : Takes (cxOf (L2.CX P w) P w K mg base ["_law_bag", "_law_belts", "_law_deed", "_law_size", "_law_way", "_law_part", "_law_word"] "_law_bent_deed" (defScope s__law_bent_deed) f cdv A outer s H E) (fun cls d _ H => E cls d H) := takes_of rfl rfl rfl rfl
  exact (dss_cons (ds_set 4 sc__law_bent_deed.nd (d_callG G__law_pick hr tk (da_cons (d_var 0) (da_cons d_int da_nil)))) (dss_cons (ds_set 5 sc__law_bent_deed.nd (d_callG G__law_pick hr tk (da_cons (d_var 0) (da_cons (d_callB call_len c_len T.n_len (da_cons (d_var 2) da_nil)) da_nil)))) (dss_cons (ds_set 6 sc__law_bent_deed.nd (d_ix ix_seq o_ix (d_var 2) (d_var 5))) (dss_cons (ds_if (dt_cmp op_lt o_lt (d_var 4) d_int) (dss_one (ds_ret (d_op op_addD o_add (d_op op_addD o_add (d_slT (d_var 2) do_none (do_some (d_var 5))) (d_tup (da_cons (d_callG G__law_odd hr tk (da_cons (d_var 0) (da_cons (d_var 1) (da_cons (d_var 3) da_nil)))) da_nil))) (d_slT (d_var 2) (do_some (d_op op_addD o_add (d_var 5) d_int)) do_none)))) dss_nil) (dss_cons (ds_if (dt_cmp (op_eqA hr.units) o_eq (d_var 4) d_int) (dss_one (ds_ret (d_op op_addD o_add (d_slT (d_var 2) do_none (do_some (d_var 5))) (d_slT (d_var 2) (do_some (d_op op_addD o_add (d_var 5) d_int)) do_none)))) dss_nil) (dss_cons (ds_if (dt_cmp (op_eqA hr.units) o_eq (d_var 4) d_int) (dss_one (ds_ret (d_op op_addD o_add (d_op op_addD o_add (d_slT (d_var 2) do_none (do_some (d_var 5))) (d_tup (da_cons (d_callG G__law_odd hr tk (da_cons (d_var 0) (da_cons (d_var 1) (da_cons (d_var 3) da_nil)))) da_nil))) (d_slT (d_var 2) (do_some (d_var 5)) do_none)))) dss_nil) (dss_cons (ds_if (dt_cmp (op_eqA hr.units) o_eq (d_var 4) d_int) (dss_one (ds_ret (d_ix ix_seq o_ix (d_fz (dl_lst (da_cons (d_callG G__law_odd hr tk (da_cons (d_var 0) (da_cons (d_var 1) (da_cons (d_var 3) da_nil)))) (da_cons (d_fz (dl_callTy call_list_of c_list T.n_list (da_cons (d_var 2) da_nil))) (da_cons (d_fz (dl_lst (da_cons (d_var 2) da_nil))) (da_cons (d_tup (da_cons (d_var 2) da_nil)) da_nil)))))) (d_callG G__law_pick hr tk (da_cons (d_var 0) (da_cons d_int da_nil)))))) dss_nil) (dss_cons (ds_if (dt_val (d_isi .str (d_var 6) T.n_isinstance T.n_str)) (dss_one (ds_set 6 sc__law_bent_deed.nd (d_ix ix_seq o_ix (d_fz (dl_lst (da_cons (d_op op_add_str o_catS (d_var 6) d_str) (da_cons (d_slS (d_var 6) do_none (do_some (d_fold (d := .int (-1)) (d_un un_neg o_neg d_int) (fun _ _ => rfl)))) (da_cons (d_op op_add_str o_catS (d_var 6) (d_var 6)) (da_cons (d_op op_add_str o_catS d_str (d_var 6)) da_nil)))))) (d_callG G__law_pick hr tk (da_cons (d_var 0) (da_cons d_int da_nil)))))) (dss_one (ds_set 6 sc__law_bent_deed.nd (d_op op_sub o_sub d_int (d_var 6))))) (dss_one (ds_ret (d_op op_addD o_add (d_op op_addD o_add (d_slT (d_var 2) do_none (do_some (d_var 5))) (d_tup (da_cons (d_var 6) da_nil))) (d_slT (d_var 2) (do_some (d_op op_addD o_add (d_var 5) d_int)) do_none))))))))))))
abbrev s__law_bent_plan : Stmt := top 47
theorem sc__law_bent_plan : FnScope ["_law_bag", "_law_belts", "_law_plan", "_law_at", "_law_deed", "_law_extra", "_law_some"] ["_law_bag", "_law_belts", "_law_plan"] (defScope s__law_bent_plan) := ⟨rfl, rfl, rfl, by decide +kernel, rfl, by decide +kernel, by decide +kernel⟩
theorem fn__law_bent_plan (T : Txt K mg w) {f : Addr} {fd : FuncData} (hm : mg "_law_bent_plan" = some (.ref f)) (F : Fun K "_law_bent_plan" "_law_bent_plan" s__law_bent_plan f fd) (G__law_pick : FnDG P w K mg base 1 "_law_pick" s__law_pick ["_law_bag", "_law_many"] m_law_pick) (G__law_odd : FnDG P w K mg base 3 "_law_odd" s__law_odd ["_law_bag", "_law_belts", "_law_size"] m_law_odd) (G__law_bent_deed : FnDG P w K mg base 4 "_law_bent_deed" s__law_bent_deed ["_law_bag", "_law_belts", "_law_deed", "_law_size"] m_law_bent_deed) : FnDG P w K mg base 5 "_law_bent_plan" s__law_bent_plan ["_law_bag", "_law_belts", "_law_plan"] m_law_bent_plan := by
  refine fnd_mkG (np := 3) (nN := 7) (k := 4) hm F (F.binds fun _ _ _ _ _ _ us hl => match us, hl with | [_, _, _], _ => rfl) sc__law_bent_plan rfl rfl fun cdv A outer s H E hr => ?_
  have tk : Takes (cxOf (L2.CX P w) P w K mg base ["_law_bag", "_law_belts", "_law_plan", "_law_at", "_law_deed", "_law_extra", "_law_some"] "_law_bent_plan" (defScope s__law_bent_plan) f cdv A outer s H E) (fun cls d _ H => E cls d H) := takes_of rfl rfl rfl rfl
  exact (dss_cons (ds_set 3 sc__law_bent_plan.nd (d_callG G__law_pick hr tk (da_cons (d_var 0) (da_cons (d_op op_addD o_add (d_callB call_len c_len T.n_len (da_cons (d_var 2) da_nil)) d_int) da_nil)))) (dss_cons (ds_if (dt_cmp op_gt o_gt (d_callG G__law_pick hr tk (da_cons (d_var 0) (da_cons d_int da_nil))) d_int) (dss_cons (ds_set 4 sc__law_bent_plan.nd (d_tup (da_cons d_str (da_cons d_int (da_cons d_int da_nil))))) (dss_cons (ds_if (dt_cmp op_lt o_lt (d_var 3) (d_callB call_len c_len T.n_len (da_cons (d_var 2) da_nil))) (dss_one (ds_set 4 sc__law_bent_plan.nd (d_ix ix_seq o_ix (d_var 2) (d_var 3)))) dss_nil) (dss_one (ds_ret (d_op op_addD o_add (d_op op_addD o_add (d_slT (d_var 2) do_none (do_some (d_var 3))) (d_tup (da_cons (d_callG G__law_bent_deed hr tk (da_cons (d_var 0) (da_cons (d_var 1) (da_cons (d_var 4) (da_cons (d_var 3) da_nil))))) da_nil))) (d_slT (d_var 2) (do_some (d_op op_addD o_add (d_var 3) d_int)) do_none)))))) dss_nil) (dss_cons (ds_set 5 sc__law_bent_plan.nd (d_ix ix_seq o_ix (d_tup (da_cons (d_tup (da_cons d_str (da_cons d_int (da_cons d_int da_nil)))) (da_cons (d_tup (da_cons d_str (da_cons d_int (da_cons d_int da_nil)))) (da_cons (d_tup (da_cons d_str (da_cons d_int (da_cons d_int da_nil)))) (da_cons (d_tup (da_cons d_str (da_cons d_int (da_cons (d_op op_sub o_sub (d_callB call_len c_len T.n_len (da_cons (d_var 1) da_nil)) d_int) da_nil)))) da_nil))))) (d_callG G__law_pick hr tk (da_cons (d_var 0) (da_cons d_int da_nil))))) (dss_cons (ds_set 6 sc__law_bent_plan.nd (d_fz (dl_lst (da_cons (d_fz (dl_callTy call_list_of c_list T.n_list (da_cons (d_var 2) da_nil))) (da_cons (d_op op_addD o_add (d_var 2) (d_var 2)) (da_cons (d_backA (d_var 2)) (da_cons (d_slT (d_var 2) (do_some d_int) do_none) (da_cons (d_op op_repT o_mulT (d_tup (da_cons (d_var 5) da_nil)) d_int) (da_cons (d_op op_addD o_add (d_op op_addD o_add (d_slT (d_var 2) do_none (do_some (d_var 3))) (d_tup (da_cons (d_var 5) da_nil))) (d_slT (d_var 2) (do_some (d_var 3)) do_none)) (da_cons (d_tup (da_cons (d_var 2) da_nil)) da_nil)))))))))) (dss_cons (ds_set 6 sc__law_bent_plan.nd (d_fz (dl_catV (d_var 6) (dl_lst (da_cons (d_op op_addD o_add (d_var 2) (d_tup (da_cons (d_tup (da_cons d_str (da_cons d_int (da_cons d_int da_nil)))) da_nil))) (da_cons (d_callG G__law_odd hr tk (da_cons (d_var 0) (da_cons (d_var 1) (da_cons (d_var 3) da_nil)))) (da_cons (d_op op_addD o_add (d_op op_repT o_mulT (d_tup (da_cons (d_var 5) da_nil)) d_int) (d_slT (d_var 2) do_none (do_some d_int))) (da_cons (d_op op_addD o_add (d_var 2) (d_tup (da_cons d_non da_nil))) da_nil)))))))) (dss_one (ds_ret (d_ix ix_seq o_ix (d_var 6) (d_callG G__law_pick hr tk (da_cons (d_var 0) (da_cons (d_callB call_len c_len T.n_len (da_cons (d_var 6) da_nil)) da_nil)))))))))))
abbrev s__law_kinds_told : Stmt := top 48
theorem sc__law_kinds_told : FnScope ["_law_belts", "_law_thing", "_law_told"] ["_law_belts", "_law_thing"] (defScope s__law_kinds_told) := ⟨rfl, rfl, rfl, by decide +kernel, rfl, by decide +kernel, by decide +kernel⟩
theorem fn__law_kinds_told (T : Txt K mg w) {f : Addr} {fd : FuncData} (hm : mg "_law_kinds_told" = some (.ref f)) (F : Fun K "_law_kinds_told" "_law_kinds_told" s__law_kinds_told f fd) (G_kinds : FnDG P w K mg base 7 "kinds" s_kinds ["zones", "program"] m_kinds) : FnDG P w K mg base 8 "_law_kinds_told" s__law_kinds_told ["_law_belts", "_law_thing"] m_law_kinds_told := by
  refine fnd_mkG (np := 2) (nN := 3) (k := 7) hm F (F.binds fun _ _ _ _ _ _ us hl => match us, hl with | [_, _], _ => rfl) sc__law_kinds_told rfl rfl fun cdv A outer s H E hr => ?_
  have tk : Takes (cxOf (L2.CX P w) P w K mg base ["_law_belts", "_law_thing", "_law_told"] "_law_kinds_told" (defScope s__law_kinds_told) f cdv A outer s H E) (fun cls d _ H => E cls d H) := takes_of rfl rfl rfl rfl
  exact (dss_cons (ds_set 2 sc__law_kinds_told.nd d_non) (dss_cons (ds_try (cs := ["InvalidProgram", "InvalidZones"]) sc__law_kinds_told.nd tk (fun _ _ _ tk => (dss_one (ds_set 2 sc__law_kinds_told.nd (d_callG G_kinds hr tk (da_cons (d_var 0) (da_cons (d_var 1) da_nil)))))) (hds_one T.t_InvalidProgram_ImIs26 (fun _ _ tk => (dss_one (ds_set 2 sc__law_kinds_told.nd d_str))) (hds_one T.t_HourError_ImIs26 (fun _ _ tk => (dss_one (ds_set 2 sc__law_kinds_told.nd d_str))) HdsD.nil))) (dss_one (ds_ret (d_var 2)))))
abbrev s_law : Stmt := top 49
theorem sc_law : FnScope ["_law_script", "_law_cell", "_law_bag", "_law_belts", "_law_plan", "_law_thing", "_law_kept", "_law_due"] ["_law_script"] (defScope s_law) := ⟨rfl, rfl, rfl, by decide +kernel, rfl, by decide +kernel, by decide +kernel⟩
theorem fn_law (T : Txt K mg w) {f : Addr} {fd : FuncData} (hm : mg "law" = some (.ref f)) (F : Fun K "law" "law" s_law f fd) (G__law_same : FnDG P w K mg base 1 "_law_same" s__law_same ["_law_told", "_law_due"] m_law_same_v2) (G__law_kind_row : FnDG P w K mg base 2 "_law_kind_row" s__law_kind_row ["_law_plan"] m_law_kind_row) (G__law_kinds_told : FnDG P w K mg base 8 "_law_kinds_told" s__law_kinds_told ["_law_belts", "_law_thing"] m_law_kinds_told) (G_is_program : FnDG P w K mg base 5 "is_program" s_is_program ["zones", "value"] m_is_program) (G__law_is_plan : FnDG P w K mg base 3 "_law_is_plan" s__law_is_plan ["_law_belts", "_law_thing"] m_law_is_plan) (G__law_bent_plan : FnDG P w K mg base 5 "_law_bent_plan" s__law_bent_plan ["_law_bag", "_law_belts", "_law_plan"] m_law_bent_plan) (G__law_any_plan : FnDG P w K mg base 5 "_law_any_plan" s__law_any_plan ["_law_bag", "_law_belts", "_law_upto", "_law_room"] m_law_any_plan) (G__law_any_belts : FnDG P w K mg base 3 "_law_any_belts" s__law_any_belts ["_law_bag", "_law_upto"] m_law_any_belts) (G__law_bag_of : FnDG P w K mg base 1 "_law_bag_of" s__law_bag_of ["_law_cell"] m_law_bag_of) : FnDG P w K mg base 9 "law" s_law ["_law_script"] m_law_k19_programs_looked_at := by
  refine fnd_mkG (np := 1) (nN := 8) (k := 8) hm F (F.binds fun _ _ _ _ _ _ us hl => match us, hl with | [_], _ => rfl) sc_law rfl rfl fun cdv A outer s H E hr => ?_
  have tk : Takes (cxOf (L2.CX P w) P w K mg base ["_law_script", "_law_cell", "_law_bag", "_law_belts", "_law_plan", "_law_thing", "_law_kept", "_law_due"] "law" (defScope s_law) f cdv A outer s H E) (fun cls d _ H => E cls d H) := takes_of rfl rfl rfl rfl
  exact (dss_cons (ds_for (passes_of rfl) rfl (di_seq (d_fz (dl_cat (dl_lst (da_cons d_int da_nil)) (dl_slL (d_var 0) do_none (do_some d_int))))) (dg_name 1 sc_law.nd) (dss_cons (ds_set 2 sc_law.nd (d_callG G__law_bag_of hr tk (da_cons (d_var 1) da_nil))) (dss_cons (ds_set 3 sc_law.nd (d_callG G__law_any_belts hr tk (da_cons (d_var 2) (da_cons d_int da_nil)))) (dss_cons (ds_set 4 sc_law.nd (d_callG G__law_any_plan hr tk (da_cons (d_var 2) (da_cons (d_var 3) (da_cons d_int (da_cons (d_fz (dl_lst (da_cons d_int (da_cons d_int (da_cons d_int (da_cons d_int da_nil)))))) da_nil)))))) (dss_one (ds_for (passes_of rfl) rfl (di_seq (d_fz (dl_lst (da_cons (d_var 4) (da_cons (d_callG G__law_bent_plan hr tk (da_cons (d_var 2) (da_cons (d_var 3) (da_cons (d_var 4) da_nil)))) (da_cons (d_var 4) (da_cons (d_callG G__law_bent_plan hr tk (da_cons (d_var 2) (da_cons (d_var 3) (da_cons (d_var 4) da_nil)))) da_nil))))))) (dg_name 5 sc_law.nd) (dss_cons (ds_set 6 sc_law.nd (d_fz (dl_lst da_nil))) (dss_cons (ds_if (dt_val (d_isi .lst (d_var 5) T.n_isinstance T.n_list)) (dss_one (ds_set 6 sc_law.nd (d_fz (dl_callTy call_list_of c_list T.n_list (da_cons (d_var 5) da_nil))))) dss_nil) (dss_cons (ds_set 7 sc_law.nd (d_callG G__law_is_plan hr tk (da_cons (d_var 3) (da_cons (d_var 5) da_nil)))) (dss_cons (ds_if (dt_not (dt_val (d_callG G__law_same hr tk (da_cons (d_callG G_is_program hr tk (da_cons (d_var 3) (da_cons (d_var 5) da_nil))) (da_cons (d_var 7) da_nil))))) (dss_one (ds_ret d_bl)) dss_nil) (dss_cons (ds_if (dt_not (dt_val (d_callG G__law_same hr tk (da_cons (d_callG G__law_kinds_told hr tk (da_cons (d_var 3) (da_cons (d_var 5) da_nil))) (da_cons (d_ifExp (dt_val (d_var 7)) (d_callG G__law_kind_row hr tk (da_cons (d_var 5) da_nil)) d_str) da_nil))))) (dss_one (ds_ret d_bl)) dss_nil) (dss_one (ds_if (DT.w (dw_and (dt_val (d_isi .lst (d_var 5) T.n_isinstance T.n_list)) (dw_and1 (dt_cmp (op_neA hr.units) o_ne (d_var 5) (d_var 6))))) (dss_one (ds_ret d_bl)) dss_nil))))))))))))) (dss_one (ds_ret d_bl)))
abbrev si_Refused : Stmt := inClass (top 4) 0
theorem sci_Refused : FnScope ["self", "step"] ["self", "step"] (defScope si_Refused) := ⟨rfl, rfl, rfl, by decide +kernel, rfl, by decide +kernel, by decide +kernel⟩
end
theorem all_mk {l : PySem.W.OpenLaw} {w : World} {K : Frag} {h : Heap} {mg : Str → Option Value} {fa : Addr} (hlaw : LawTrue m_law_k19_programs_looked_at) (X : K.In h) (G : h.Ns mainGlobals mg) (hfa : mg "law" = some (.ref fa))
    {f0 : Addr} {od0 an0 : Option Addr} {sl0 : Array (Option Value)} {oc0 kV0 dc0 pm0 cd0 ct0 : Value} {f1 : Addr} {od1 an1 : Option Addr} {sl1 : Array (Option Value)} {oc1 kV1 dc1 pm1 cd1 ct1 : Value} {f2 : Addr} {od2 an2 : Option Addr} {sl2 : Array (Option Value)} {oc2 kV2 dc2 pm2 cd2 ct2 : Value} {f3 : Addr} {od3 an3 : Option Addr} {sl3 : Array (Option Value)} {oc3 kV3 dc3 pm3 cd3 ct3 : Value} {f4 : Addr} {od4 an4 : Option Addr} {sl4 : Array (Option Value)} {oc4 kV4 dc4 pm4 cd4 ct4 : Value} {f5 : Addr} {od5 an5 : Option Addr} {sl5 : Array (Option Value)} {oc5 kV5 dc5 pm5 cd5 ct5 : Value} {f6 : Addr} {od6 an6 : Option Addr} {sl6 : Array (Option Value)} {oc6 kV6 dc6 pm6 cd6 ct6 : Value} {f7 : Addr} {od7 an7 : Option Addr} {sl7 : Array (Option Value)} {oc7 kV7 dc7 pm7 cd7 ct7 : Value} {f8 : Addr} {od8 an8 : Option Addr} {sl8 : Array (Option Value)} {oc8 kV8 dc8 pm8 cd8 ct8 : Value} {f9 : Addr} {od9 an9 : Option Addr} {sl9 : Array (Option Value)} {oc9 kV9 dc9 pm9 cd9 ct9 : Value} {f10 : Addr} {od10 an10 : Option Addr} {sl10 : Array (Option Value)} {oc10 kV10 dc10 pm10 cd10 ct10 : Value} {f11 : Addr} {od11 an11 : Option Addr} {sl11 : Array (Option Value)} {oc11 kV11 dc11 pm11 cd11 ct11 : Value} {f12 : Addr} {od12 an12 : Option Addr} {sl12 : Array (Option Value)} {oc12 kV12 dc12 pm12 cd12 ct12 : Value} {f13 : Addr} {od13 an13 : Option Addr} {sl13 : Array (Option Value)} {oc13 kV13 dc13 pm13 cd13 ct13 : Value} {f14 : Addr} {od14 an14 : Option Addr} {sl14 : Array (Option Value)} {oc14 kV14 dc14 pm14 cd14 ct14 : Value} {f15 : Addr} {od15 an15 : Option Addr} {sl15 : Array (Option Value)} {oc15 kV15 dc15 pm15 cd15 ct15 : Value} {f16 : Addr} {od16 an16 : Option Addr} {sl16 : Array (Option Value)} {oc16 kV16 dc16 pm16 cd16 ct16 : Value} {f17 : Addr} {od17 an17 : Option Addr} {sl17 : Array (Option Value)} {oc17 kV17 dc17 pm17 cd17 ct17 : Value} {f18 : Addr} {od18 an18 : Option Addr} {sl18 : Array (Option Value)} {oc18 kV18 dc18 pm18 cd18 ct18 : Value} {f19 : Addr} {od19 an19 : Option Addr} {sl19 : Array (Option Value)} {oc19 kV19 dc19 pm19 cd19 ct19 : Value} {f20 : Addr} {od20 an20 : Option Addr} {sl20 : Array (Option Value)} {oc20 kV20 dc20 pm20 cd20 ct20 : Value} {f21 : Addr} {od21 an21 : Option Addr} {sl21 : Array (Option Value)} {oc21 kV21 dc21 pm21 cd21 ct21 : Value} {f22 : Addr} {od22 an22 : Option Addr} {sl22 : Array (Option Value)} {oc22 kV22 dc22 pm22 cd22 ct22 : Value} {f23 : Addr} {od23 an23 : Option Addr} {sl23 : Array (Option Value)} {oc23 kV23 dc23 pm23 cd23 ct23 : Value} {f24 : Addr} {od24 an24 : Option Addr} {sl24 : Array (Option Value)} {oc24 kV24 dc24 pm24 cd24 ct24 : Value} {f25 : Addr} {od25 an25 : Option Addr} {sl25 : Array (Option Value)} {oc25 kV25 dc25 pm25 cd25 ct25 : Value} {f26 : Addr} {od26 an26 : Option Addr} {sl26 : Array (Option Value)} {oc26 kV26 dc26 pm26 cd26 ct26 : Value} {f27 : Addr} {od27 an27 : Option Addr} {sl27 : Array (Option Value)} {oc27 kV27 dc27 pm27 cd27 ct27 : Value} {f28 : Addr} {od28 an28 : Option Addr} {sl28 : Array (Option Value)} {oc28 kV28 dc28 pm28 cd28 ct28 : Value} {f29 : Addr} {od29 an29 : Option Addr} {sl29 : Array (Option Value)} {oc29 kV29 dc29 pm29 cd29 ct29 : Value} {f30 : Addr} {od30 an30 : Option Addr} {sl30 : Array (Option Value)} {oc30 kV30 dc30 pm30 cd30 ct30 : Value} {f31 : Addr} {od31 an31 : Option Addr} {sl31 : Array (Option Value)} {oc31 kV31 dc31 pm31 cd31 ct31 : Value} {f32 : Addr} {od32 an32 : Option Addr} {sl32 : Array (Option Value)} {oc32 kV32 dc32 pm32 cd32 ct32 : Value} {f33 : Addr} {od33 an33 : Option Addr} {sl33 : Array (Option Value)} {oc33 kV33 dc33 pm33 cd33 ct33 : Value} {Q0_1 : Addr} {oQ0_1 : Option Addr} {nQ0_1 : Nat} {sQ0_1 : Array (Option Value)} {tQ0_2 : Tok} {tQ0_3 : Tok} {tQ0_4 : Tok} {Q1_1 : Addr} {oQ1_1 : Option Addr} {nQ1_1 : Nat} {sQ1_1 : Array (Option Value)} {tQ1_2 : Tok} {tQ1_3 : Tok} {tQ1_4 : Tok} {Q2_t : Addr} {nQ2_t : Nat} {hQ2_0 : Int} {uQ2_0 : Tok} {tQ2_1 : Tok} {hQ2_1 : Int} {uQ2_1 : Tok} {tQ2_2 : Tok} {hQ2_2 : Int} {uQ2_2 : Tok} {tQ2_3 : Tok} {hQ2_3 : Int} {uQ2_3 : Tok} {tQ2_4 : Tok} {hQ2_4 : Int} {uQ2_4 : Tok} {tQ2_5 : Tok} {hQ2_5 : Int} {uQ2_5 : Tok} {tQ2_6 : Tok} {t3 : Tok} {t4 : Tok} {t5 : Tok} {t6 : Tok} {Q7_t : Addr} {nQ7_t : Nat} {hQ7_0 : Int} {uQ7_0 : Tok} {Q7_1 : Addr} {oQ7_1 : Option Addr} {nQ7_1 : Nat} {sQ7_1 : Array (Option Value)} {tQ7_2 : Tok} {tQ7_3 : Tok} {hQ7_1 : Int} {uQ7_1 : Tok} {Q7_4 : Addr} {oQ7_4 : Option Addr} {nQ7_4 : Nat} {sQ7_4 : Array (Option Value)} {tQ7_5 : Tok} {tQ7_6 : Tok} {tQ7_7 : Tok} {tQ7_8 : Tok} {hQ7_2 : Int} {uQ7_2 : Tok} {Q7_9 : Addr} {oQ7_9 : Option Addr} {nQ7_9 : Nat} {sQ7_9 : Array (Option Value)} {tQ7_10 : Tok} {tQ7_11 : Tok} {hQ7_3 : Int} {uQ7_3 : Tok} {Q7_12 : Addr} {oQ7_12 : Option Addr} {nQ7_12 : Nat} {sQ7_12 : Array (Option Value)} {tQ7_13 : Tok} {tQ7_14 : Tok} {hQ7_4 : Int} {uQ7_4 : Tok} {Q7_15 : Addr} {oQ7_15 : Option Addr} {nQ7_15 : Nat} {sQ7_15 : Array (Option Value)} {tQ7_16 : Tok} {tQ7_17 : Tok} {hQ7_5 : Int} {uQ7_5 : Tok} {Q7_18 : Addr} {oQ7_18 : Option Addr} {nQ7_18 : Nat} {sQ7_18 : Array (Option Value)} {tQ7_19 : Tok} {tQ7_20 : Tok} {hQ7_6 : Int} {uQ7_6 : Tok} {Q7_21 : Addr} {oQ7_21 : Option Addr} {nQ7_21 : Nat} {sQ7_21 : Array (Option Value)} {tQ7_22 : Tok} {tQ7_23 : Tok} {C0 : Addr} {C1 : Addr} {C2 : Addr} {C3 : Addr} {nm_2 q_2 : Str} {N_2 fI_2 : Addr} {bs_2 bm_2 sub_2 : List Value} {sn_2 : List Str} {ab_2 : Bool} {col_2 : Option Bool} {dd_2 : Option Addr} {m0_2 m1_2 m2_2 m3_2 m5_2 : Option Value} {oI_2 kVI_2 dcI_2 pmI_2 cdI_2 ctI_2 : Value} {odI_2 anI_2 : Option Addr} {slI_2 : Array (Option Value)}
    (a0 : PySem.W.nsIn K mainGlobals "is_integer" = some (some (.ref f0)))
    (l0 : K.lookup f0 = some ⟨oc0, od0, .func (PySem.W.fnOf "is_integer" "is_integer" (defArgs s_is_integer) (defBody s_is_integer) (defScope s_is_integer) .none kV0 dc0 pm0 an0 cd0 ct0), sl0⟩)
    (c0 : PySem.W.codeIn K cd0 "is_integer" = true)
    (k0 : PySem.W.keepIn K (.ref f0) = true)
    (a1 : PySem.W.nsIn K mainGlobals "is_zone" = some (some (.ref f1)))
    (l1 : K.lookup f1 = some ⟨oc1, od1, .func (PySem.W.fnOf "is_zone" "is_zone" (defArgs s_is_zone) (defBody s_is_zone) (defScope s_is_zone) .none kV1 dc1 pm1 an1 cd1 ct1), sl1⟩)
    (c1 : PySem.W.codeIn K cd1 "is_zone" = true)
    (k1 : PySem.W.keepIn K (.ref f1) = true)
    (a2 : PySem.W.nsIn K mainGlobals "is_zones" = some (some (.ref f2)))
    (l2 : K.lookup f2 = some ⟨oc2, od2, .func (PySem.W.fnOf "is_zones" "is_zones" (defArgs s_is_zones) (defBody s_is_zones) (defScope s_is_zones) .none kV2 dc2 pm2 an2 cd2 ct2), sl2⟩)
    (c2 : PySem.W.codeIn K cd2 "is_zones" = true)
    (k2 : PySem.W.keepIn K (.ref f2) = true)
    (a3 : PySem.W.nsIn K mainGlobals "need_zones" = some (some (.ref f3)))
    (l3 : K.lookup f3 = some ⟨oc3, od3, .func (PySem.W.fnOf "need_zones" "need_zones" (defArgs s_need_zones) (defBody s_need_zones) (defScope s_need_zones) .none kV3 dc3 pm3 an3 cd3 ct3), sl3⟩)
    (c3 : PySem.W.codeIn K cd3 "need_zones" = true)
    (k3 : PySem.W.keepIn K (.ref f3) = true)
    (a4 : PySem.W.nsIn K mainGlobals "is_part" = some (some (.ref f4)))
    (l4 : K.lookup f4 = some ⟨oc4, od4, .func (PySem.W.fnOf "is_part" "is_part" (defArgs s_is_part) (defBody s_is_part) (defScope s_is_part) .none kV4 dc4 pm4 an4 cd4 ct4), sl4⟩)
    (c4 : PySem.W.codeIn K cd4 "is_part" = true)
    (k4 : PySem.W.keepIn K (.ref f4) = true)
    (a5 : PySem.W.nsIn K mainGlobals "is_step" = some (some (.ref f5)))
    (l5 : K.lookup f5 = some ⟨oc5, od5, .func (PySem.W.fnOf "is_step" "is_step" (defArgs s_is_step) (defBody s_is_step) (defScope s_is_step) .none kV5 dc5 pm5 an5 cd5 ct5), sl5⟩)
    (c5 : PySem.W.codeIn K cd5 "is_step" = true)
    (k5 : PySem.W.keepIn K (.ref f5) = true)
    (a6 : PySem.W.nsIn K mainGlobals "kind_made" = some (some (.ref f6)))
    (l6 : K.lookup f6 = some ⟨oc6, od6, .func (PySem.W.fnOf "kind_made" "kind_made" (defArgs s_kind_made) (defBody s_kind_made) (defScope s_kind_made) .none kV6 dc6 pm6 an6 cd6 ct6), sl6⟩)
    (c6 : PySem.W.codeIn K cd6 "kind_made" = true)
    (k6 : PySem.W.keepIn K (.ref f6) = true)
    (a7 : PySem.W.nsIn K mainGlobals "kinds_of" = some (some (.ref f7)))
    (l7 : K.lookup f7 = some ⟨oc7, od7, .func (PySem.W.fnOf "kinds_of" "kinds_of" (defArgs s_kinds_of) (defBody s_kinds_of) (defScope s_kinds_of) .none kV7 dc7 pm7 an7 cd7 ct7), sl7⟩)
    (c7 : PySem.W.codeIn K cd7 "kinds_of" = true)
    (k7 : PySem.W.keepIn K (.ref f7) = true)
    (a8 : PySem.W.nsIn K mainGlobals "is_program" = some (some (.ref f8)))
    (l8 : K.lookup f8 = some ⟨oc8, od8, .func (PySem.W.fnOf "is_program" "is_program" (defArgs s_is_program) (defBody s_is_program) (defScope s_is_program) .none kV8 dc8 pm8 an8 cd8 ct8), sl8⟩)
    (c8 : PySem.W.codeIn K cd8 "is_program" = true)
    (k8 : PySem.W.keepIn K (.ref f8) = true)
    (a9 : PySem.W.nsIn K mainGlobals "need_program" = some (some (.ref f9)))
    (l9 : K.lookup f9 = some ⟨oc9, od9, .func (PySem.W.fnOf "need_program" "need_program" (defArgs s_need_program) (defBody s_need_program) (defScope s_need_program) .none kV9 dc9 pm9 an9 cd9 ct9), sl9⟩)
    (c9 : PySem.W.codeIn K cd9 "need_program" = true)
    (k9 : PySem.W.keepIn K (.ref f9) = true)
    (a10 : PySem.W.nsIn K mainGlobals "kinds" = some (some (.ref f10)))
    (l10 : K.lookup f10 = some ⟨oc10, od10, .func (PySem.W.fnOf "kinds" "kinds" (defArgs s_kinds) (defBody s_kinds) (defScope s_kinds) .none kV10 dc10 pm10 an10 cd10 ct10), sl10⟩)
    (c10 : PySem.W.codeIn K cd10 "kinds" = true)
    (k10 : PySem.W.keepIn K (.ref f10) = true)
    (a11 : PySem.W.nsIn K mainGlobals "_law_bag_of" = some (some (.ref f11)))
    (l11 : K.lookup f11 = some ⟨oc11, od11, .func (PySem.W.fnOf "_law_bag_of" "_law_bag_of" (defArgs s__law_bag_of) (defBody s__law_bag_of) (defScope s__law_bag_of) .none kV11 dc11 pm11 an11 cd11 ct11), sl11⟩)
    (c11 : PySem.W.codeIn K cd11 "_law_bag_of" = true)
    (k11 : PySem.W.keepIn K (.ref f11) = true)
    (a12 : PySem.W.nsIn K mainGlobals "_law_pick" = some (some (.ref f12)))
    (l12 : K.lookup f12 = some ⟨oc12, od12, .func (PySem.W.fnOf "_law_pick" "_law_pick" (defArgs s__law_pick) (defBody s__law_pick) (defScope s__law_pick) .none kV12 dc12 pm12 an12 cd12 ct12), sl12⟩)
    (c12 : PySem.W.codeIn K cd12 "_law_pick" = true)
    (k12 : PySem.W.keepIn K (.ref f12) = true)
    (a13 : PySem.W.nsIn K mainGlobals "_law_any_belt" = some (some (.ref f13)))
    (l13 : K.lookup f13 = some ⟨oc13, od13, .func (PySem.W.fnOf "_law_any_belt" "_law_any_belt" (defArgs s__law_any_belt) (defBody s__law_any_belt) (defScope s__law_any_belt) .none kV13 dc13 pm13 an13 cd13 ct13), sl13⟩)
    (c13 : PySem.W.codeIn K cd13 "_law_any_belt" = true)
    (k13 : PySem.W.keepIn K (.ref f13) = true)
    (a14 : PySem.W.nsIn K mainGlobals "_law_any_belts" = some (some (.ref f14)))
    (l14 : K.lookup f14 = some ⟨oc14, od14, .func (PySem.W.fnOf "_law_any_belts" "_law_any_belts" (defArgs s__law_any_belts) (defBody s__law_any_belts) (defScope s__law_any_belts) .none kV14 dc14 pm14 an14 cd14 ct14), sl14⟩)
    (c14 : PySem.W.codeIn K cd14 "_law_any_belts" = true)
    (k14 : PySem.W.keepIn K (.ref f14) = true)
    (a15 : PySem.W.nsIn K mainGlobals "_law_is_whole" = some (some (.ref f15)))
    (l15 : K.lookup f15 = some ⟨oc15, od15, .func (PySem.W.fnOf "_law_is_whole" "_law_is_whole" (defArgs s__law_is_whole) (defBody s__law_is_whole) (defScope s__law_is_whole) .none kV15 dc15 pm15 an15 cd15 ct15), sl15⟩)
    (c15 : PySem.W.codeIn K cd15 "_law_is_whole" = true)
    (k15 : PySem.W.keepIn K (.ref f15) = true)
    (a16 : PySem.W.nsIn K mainGlobals "_law_same" = some (some (.ref f16)))
    (l16 : K.lookup f16 = some ⟨oc16, od16, .func (PySem.W.fnOf "_law_same" "_law_same" (defArgs s__law_same) (defBody s__law_same) (defScope s__law_same) .none kV16 dc16 pm16 an16 cd16 ct16), sl16⟩)
    (c16 : PySem.W.codeIn K cd16 "_law_same" = true)
    (k16 : PySem.W.keepIn K (.ref f16) = true)
    (a17 : PySem.W.nsIn K mainGlobals "_law_spot" = some (some (.ref f17)))
    (l17 : K.lookup f17 = some ⟨oc17, od17, .func (PySem.W.fnOf "_law_spot" "_law_spot" (defArgs s__law_spot) (defBody s__law_spot) (defScope s__law_spot) .none kV17 dc17 pm17 an17 cd17 ct17), sl17⟩)
    (c17 : PySem.W.codeIn K cd17 "_law_spot" = true)
    (k17 : PySem.W.keepIn K (.ref f17) = true)
    (a18 : PySem.W.nsIn K mainGlobals "_law_minutes" = some (some (.ref f18)))
    (l18 : K.lookup f18 = some ⟨oc18, od18, .func (PySem.W.fnOf "_law_minutes" "_law_minutes" (defArgs s__law_minutes) (defBody s__law_minutes) (defScope s__law_minutes) .none kV18 dc18 pm18 an18 cd18 ct18), sl18⟩)
    (c18 : PySem.W.codeIn K cd18 "_law_minutes" = true)
    (k18 : PySem.W.keepIn K (.ref f18) = true)
    (a19 : PySem.W.nsIn K mainGlobals "_law_next_words" = some (some (.ref f19)))
    (l19 : K.lookup f19 = some ⟨oc19, od19, .func (PySem.W.fnOf "_law_next_words" "_law_next_words" (defArgs s__law_next_words) (defBody s__law_next_words) (defScope s__law_next_words) .none kV19 dc19 pm19 an19 cd19 ct19), sl19⟩)
    (c19 : PySem.W.codeIn K cd19 "_law_next_words" = true)
    (k19 : PySem.W.keepIn K (.ref f19) = true)
    (a20 : PySem.W.nsIn K mainGlobals "_law_any_rules" = some (some (.ref f20)))
    (l20 : K.lookup f20 = some ⟨oc20, od20, .func (PySem.W.fnOf "_law_any_rules" "_law_any_rules" (defArgs s__law_any_rules) (defBody s__law_any_rules) (defScope s__law_any_rules) .none kV20 dc20 pm20 an20 cd20 ct20), sl20⟩)
    (c20 : PySem.W.codeIn K cd20 "_law_any_rules" = true)
    (k20 : PySem.W.keepIn K (.ref f20) = true)
    (a21 : PySem.W.nsIn K mainGlobals "_law_any_deed" = some (some (.ref f21)))
    (l21 : K.lookup f21 = some ⟨oc21, od21, .func (PySem.W.fnOf "_law_any_deed" "_law_any_deed" (defArgs s__law_any_deed) (defBody s__law_any_deed) (defScope s__law_any_deed) .none kV21 dc21 pm21 an21 cd21 ct21), sl21⟩)
    (c21 : PySem.W.codeIn K cd21 "_law_any_deed" = true)
    (k21 : PySem.W.keepIn K (.ref f21) = true)
    (a22 : PySem.W.nsIn K mainGlobals "_law_kind_made" = some (some (.ref f22)))
    (l22 : K.lookup f22 = some ⟨oc22, od22, .func (PySem.W.fnOf "_law_kind_made" "_law_kind_made" (defArgs s__law_kind_made) (defBody s__law_kind_made) (defScope s__law_kind_made) .none kV22 dc22 pm22 an22 cd22 ct22), sl22⟩)
    (c22 : PySem.W.codeIn K cd22 "_law_kind_made" = true)
    (k22 : PySem.W.keepIn K (.ref f22) = true)
    (a23 : PySem.W.nsIn K mainGlobals "_law_kind_row" = some (some (.ref f23)))
    (l23 : K.lookup f23 = some ⟨oc23, od23, .func (PySem.W.fnOf "_law_kind_row" "_law_kind_row" (defArgs s__law_kind_row) (defBody s__law_kind_row) (defScope s__law_kind_row) .none kV23 dc23 pm23 an23 cd23 ct23), sl23⟩)
    (c23 : PySem.W.codeIn K cd23 "_law_kind_row" = true)
    (k23 : PySem.W.keepIn K (.ref f23) = true)
    (a24 : PySem.W.nsIn K mainGlobals "_law_less_room" = some (some (.ref f24)))
    (l24 : K.lookup f24 = some ⟨oc24, od24, .func (PySem.W.fnOf "_law_less_room" "_law_less_room" (defArgs s__law_less_room) (defBody s__law_less_room) (defScope s__law_less_room) .none kV24 dc24 pm24 an24 cd24 ct24), sl24⟩)
    (c24 : PySem.W.codeIn K cd24 "_law_less_room" = true)
    (k24 : PySem.W.keepIn K (.ref f24) = true)
    (a25 : PySem.W.nsIn K mainGlobals "_law_longer_plan" = some (some (.ref f25)))
    (l25 : K.lookup f25 = some ⟨oc25, od25, .func (PySem.W.fnOf "_law_longer_plan" "_law_longer_plan" (defArgs s__law_longer_plan) (defBody s__law_longer_plan) (defScope s__law_longer_plan) .none kV25 dc25 pm25 an25 cd25 ct25), sl25⟩)
    (c25 : PySem.W.codeIn K cd25 "_law_longer_plan" = true)
    (k25 : PySem.W.keepIn K (.ref f25) = true)
    (a26 : PySem.W.nsIn K mainGlobals "_law_any_plan" = some (some (.ref f26)))
    (l26 : K.lookup f26 = some ⟨oc26, od26, .func (PySem.W.fnOf "_law_any_plan" "_law_any_plan" (defArgs s__law_any_plan) (defBody s__law_any_plan) (defScope s__law_any_plan) .none kV26 dc26 pm26 an26 cd26 ct26), sl26⟩)
    (c26 : PySem.W.codeIn K cd26 "_law_any_plan" = true)
    (k26 : PySem.W.keepIn K (.ref f26) = true)
    (a27 : PySem.W.nsIn K mainGlobals "_law_is_deed" = some (some (.ref f27)))
    (l27 : K.lookup f27 = some ⟨oc27, od27, .func (PySem.W.fnOf "_law_is_deed" "_law_is_deed" (defArgs s__law_is_deed) (defBody s__law_is_deed) (defScope s__law_is_deed) .none kV27 dc27 pm27 an27 cd27 ct27), sl27⟩)
    (c27 : PySem.W.codeIn K cd27 "_law_is_deed" = true)
    (k27 : PySem.W.keepIn K (.ref f27) = true)
    (a28 : PySem.W.nsIn K mainGlobals "_law_is_plan" = some (some (.ref f28)))
    (l28 : K.lookup f28 = some ⟨oc28, od28, .func (PySem.W.fnOf "_law_is_plan" "_law_is_plan" (defArgs s__law_is_plan) (defBody s__law_is_plan) (defScope s__law_is_plan) .none kV28 dc28 pm28 an28 cd28 ct28), sl28⟩)
    (c28 : PySem.W.codeIn K cd28 "_law_is_plan" = true)
    (k28 : PySem.W.keepIn K (.ref f28) = true)
    (a29 : PySem.W.nsIn K mainGlobals "_law_odd" = some (some (.ref f29)))
    (l29 : K.lookup f29 = some ⟨oc29, od29, .func (PySem.W.fnOf "_law_odd" "_law_odd" (defArgs s__law_odd) (defBody s__law_odd) (defScope s__law_odd) .none kV29 dc29 pm29 an29 cd29 ct29), sl29⟩)
    (c29 : PySem.W.codeIn K cd29 "_law_odd" = true)
    (k29 : PySem.W.keepIn K (.ref f29) = true)
    (a30 : PySem.W.nsIn K mainGlobals "_law_bent_deed" = some (some (.ref f30)))
    (l30 : K.lookup f30 = some ⟨oc30, od30, .func (PySem.W.fnOf "_law_bent_deed" "_law_bent_deed" (defArgs s__law_bent_deed) (defBody s__law_bent_deed) (defScope s__law_bent_deed) .none kV30 dc30 pm30 an30 cd30 ct30), sl30⟩)
    (c30 : PySem.W.codeIn K cd30 "_law_bent_deed" = true)
    (k30 : PySem.W.keepIn K (.ref f30) = true)
    (a31 : PySem.W.nsIn K mainGlobals "_law_bent_plan" = some (some (.ref f31)))
    (l31 : K.lookup f31 = some ⟨oc31, od31, .func (PySem.W.fnOf "_law_bent_plan" "_law_bent_plan" (defArgs s__law_bent_plan) (defBody s__law_bent_plan) (defScope s__law_bent_plan) .none kV31 dc31 pm31 an31 cd31 ct31), sl31⟩)
    (c31 : PySem.W.codeIn K cd31 "_law_bent_plan" = true)
    (k31 : PySem.W.keepIn K (.ref f31) = true)
    (a32 : PySem.W.nsIn K mainGlobals "_law_kinds_told" = some (some (.ref f32)))
    (l32 : K.lookup f32 = some ⟨oc32, od32, .func (PySem.W.fnOf "_law_kinds_told" "_law_kinds_told" (defArgs s__law_kinds_told) (defBody s__law_kinds_told) (defScope s__law_kinds_told) .none kV32 dc32 pm32 an32 cd32 ct32), sl32⟩)
    (c32 : PySem.W.codeIn K cd32 "_law_kinds_told" = true)
    (k32 : PySem.W.keepIn K (.ref f32) = true)
    (a33 : PySem.W.nsIn K mainGlobals "law" = some (some (.ref f33)))
    (l33 : K.lookup f33 = some ⟨oc33, od33, .func (PySem.W.fnOf "law" "law" (defArgs s_law) (defBody s_law) (defScope s_law) .none kV33 dc33 pm33 an33 cd33 ct33), sl33⟩)
    (c33 : PySem.W.codeIn K cd33 "law" = true)
    (k33 : PySem.W.keepIn K (.ref f33) = true)
    (z0 : PySem.W.nsIn K mainGlobals "all" = some none)
    (z1 : PySem.W.nsIn K mainGlobals "bool" = some none)
    (z2 : PySem.W.nsIn K mainGlobals "enumerate" = some none)
    (z3 : PySem.W.nsIn K mainGlobals "int" = some none)
    (z4 : PySem.W.nsIn K mainGlobals "isinstance" = some none)
    (z5 : PySem.W.nsIn K mainGlobals "len" = some none)
    (z6 : PySem.W.nsIn K mainGlobals "list" = some none)
    (z7 : PySem.W.nsIn K mainGlobals "max" = some none)
    (z8 : PySem.W.nsIn K mainGlobals "min" = some none)
    (z9 : PySem.W.nsIn K mainGlobals "range" = some none)
    (z10 : PySem.W.nsIn K mainGlobals "repr" = some none)
    (z11 : PySem.W.nsIn K mainGlobals "str" = some none)
    (z12 : PySem.W.nsIn K mainGlobals "sum" = some none)
    (z13 : PySem.W.nsIn K mainGlobals "tuple" = some none)
    (v0 : PySem.W.nsIn K mainGlobals "FOLDS" = some (some (.ref Q0_1)))
    (q0_1 : K.lookup Q0_1 = some ⟨.type "tuple", oQ0_1, .seq #[(.str "early" tQ0_2), (.str "late" tQ0_3), (.str "refuse" tQ0_4)] nQ0_1, sQ0_1⟩)
    (v1 : PySem.W.nsIn K mainGlobals "GAPS" = some (some (.ref Q1_1)))
    (q1_1 : K.lookup Q1_1 = some ⟨.type "tuple", oQ1_1, .seq #[(.str "ahead" tQ1_2), (.str "behind" tQ1_3), (.str "refuse" tQ1_4)] nQ1_1, sQ1_1⟩)
    (v2 : PySem.W.nsIn K mainGlobals "MADE" = some (some (.ref Q2_t)))
    (tb2 : K.lookup Q2_t = some ⟨.type "dict", none, .dict #[⟨hQ2_0, (.str "read" uQ2_0), (.str "reading" tQ2_1)⟩, ⟨hQ2_1, (.str "find" uQ2_1), (.str "moment" tQ2_2)⟩, ⟨hQ2_2, (.str "offset" uQ2_2), (.str "span" tQ2_3)⟩, ⟨hQ2_3, (.str "edition" uQ2_3), (.str "moment" tQ2_4)⟩, ⟨hQ2_4, (.str "plus" uQ2_4), (.str "reading" tQ2_5)⟩, ⟨hQ2_5, (.str "less" uQ2_5), (.str "moment" tQ2_6)⟩] nQ2_t, #[]⟩)
    (hs2_0 : hQ2_0 = PyData.keyHash w.params "read")
    (hs2_1 : hQ2_1 = PyData.keyHash w.params "find")
    (hs2_2 : hQ2_2 = PyData.keyHash w.params "offset")
    (hs2_3 : hQ2_3 = PyData.keyHash w.params "edition")
    (hs2_4 : hQ2_4 = PyData.keyHash w.params "plus")
    (hs2_5 : hQ2_5 = PyData.keyHash w.params "less")
    (lw2 : (Q2_t == sysModules) = false)
    (v3 : PySem.W.nsIn K mainGlobals "MOST_MINUTES" = some (some (.int (100000) t3)))
    (v4 : PySem.W.nsIn K mainGlobals "MOST_OFFSET" = some (some (.int (900) t4)))
    (v5 : PySem.W.nsIn K mainGlobals "MOST_SPACING" = some (some (.int (1000000) t5)))
    (v6 : PySem.W.nsIn K mainGlobals "MOST_STEPS" = some (some (.int (8) t6)))
    (v7 : PySem.W.nsIn K mainGlobals "PARTS" = some (some (.ref Q7_t)))
    (tb7 : K.lookup Q7_t = some ⟨.type "dict", none, .dict #[⟨hQ7_0, (.str "read" uQ7_0), (.ref Q7_1)⟩, ⟨hQ7_1, (.str "find" uQ7_1), (.ref Q7_4)⟩, ⟨hQ7_2, (.str "offset" uQ7_2), (.ref Q7_9)⟩, ⟨hQ7_3, (.str "edition" uQ7_3), (.ref Q7_12)⟩, ⟨hQ7_4, (.str "plus" uQ7_4), (.ref Q7_15)⟩, ⟨hQ7_5, (.str "less" uQ7_5), (.ref Q7_18)⟩, ⟨hQ7_6, (.str "add" uQ7_6), (.ref Q7_21)⟩] nQ7_t, #[]⟩)
    (hs7_0 : hQ7_0 = PyData.keyHash w.params "read")
    (hs7_1 : hQ7_1 = PyData.keyHash w.params "find")
    (hs7_2 : hQ7_2 = PyData.keyHash w.params "offset")
    (hs7_3 : hQ7_3 = PyData.keyHash w.params "edition")
    (hs7_4 : hQ7_4 = PyData.keyHash w.params "plus")
    (hs7_5 : hQ7_5 = PyData.keyHash w.params "less")
    (hs7_6 : hQ7_6 = PyData.keyHash w.params "add")
    (lw7 : (Q7_t == sysModules) = false)
    (q7_1 : K.lookup Q7_1 = some ⟨.type "tuple", oQ7_1, .seq #[(.str "moment" tQ7_2), (.str "place" tQ7_3)] nQ7_1, sQ7_1⟩)
    (q7_4 : K.lookup Q7_4 = some ⟨.type "tuple", oQ7_4, .seq #[(.str "reading" tQ7_5), (.str "place" tQ7_6), (.str "fold" tQ7_7), (.str "gap" tQ7_8)] nQ7_4, sQ7_4⟩)
    (q7_9 : K.lookup Q7_9 = some ⟨.type "tuple", oQ7_9, .seq #[(.str "moment" tQ7_10), (.str "place" tQ7_11)] nQ7_9, sQ7_9⟩)
    (q7_12 : K.lookup Q7_12 = some ⟨.type "tuple", oQ7_12, .seq #[(.str "moment" tQ7_13), (.str "place" tQ7_14)] nQ7_12, sQ7_12⟩)
    (q7_15 : K.lookup Q7_15 = some ⟨.type "tuple", oQ7_15, .seq #[(.str "moment" tQ7_16), (.str "span" tQ7_17)] nQ7_15, sQ7_15⟩)
    (q7_18 : K.lookup Q7_18 = some ⟨.type "tuple", oQ7_18, .seq #[(.str "reading" tQ7_19), (.str "span" tQ7_20)] nQ7_18, sQ7_18⟩)
    (q7_21 : K.lookup Q7_21 = some ⟨.type "tuple", oQ7_21, .seq #[(.str "point" tQ7_22), (.str "minutes" tQ7_23)] nQ7_21, sQ7_21⟩)
    (xa0 : PySem.W.nsIn K mainGlobals "InvalidProgram" = some (some (.ref C0)))
    (xq0 : PySem.W.excIn K C0 [.type "ValueError", .type "Exception", .type "BaseException", .type "object"] "ValueError.__new__" = true)
    (xk0 : PySem.W.keepIn K (.ref C0) = true)
    (xb0 : PySem.W.subIn K (.ref C0) (.type "BaseException") = some true)
    (xt0 : PySem.W.typeIn K (.ref C0) = some (.type "type"))
    (xa1 : PySem.W.nsIn K mainGlobals "InvalidZones" = some (some (.ref C1)))
    (xq1 : PySem.W.excIn K C1 [.type "ValueError", .type "Exception", .type "BaseException", .type "object"] "ValueError.__new__" = true)
    (xk1 : PySem.W.keepIn K (.ref C1) = true)
    (xb1 : PySem.W.subIn K (.ref C1) (.type "BaseException") = some true)
    (xt1 : PySem.W.typeIn K (.ref C1) = some (.type "type"))
    (xa2 : PySem.W.nsIn K mainGlobals "Refused" = some (some (.ref C2)))
    (xf0 : PySem.W.findIn K (.ref C2) "__getattribute__" = some (some (.builtin "BaseException.__getattribute__")))
    (xf1 : PySem.W.findIn K (.ref C2) "__getattr__" = some none)
    (xf2 : PySem.W.subIn K (.ref C2) (.type "BaseException") = some true)
    (xf3 : PySem.W.hasDictIn K C2 = true)
    (xf4 : PySem.W.findIn K (.ref C2) "__class__" = some (some (.builtin "object.__class__")))
    (xf5 : PySem.W.specialIn K (.builtin "object.__class__") "__get__" = some (some (.builtin "getset_descriptor.__get__")))
    (xf6 : PySem.W.takesIn K (.builtin "object.__class__") = some true)
    (xf7 : PySem.W.mroIn K C2 (.type "object") = some true)
    (xf8 : PySem.W.mroIn K C2 (.type "tuple") = some false)
    (xf9 : PySem.W.mroIn K C2 (.type "list") = some false)
    (xf10 : PySem.W.mroIn K C2 (.type "int") = some false)
    (xf11 : PySem.W.mroIn K C2 (.type "str") = some false)
    (xf12 : PySem.W.mroIn K C2 (.type "bool") = some false)
    (xf13 : PySem.W.mroIn K C2 (.type "dict") = some false)
    (xa3 : PySem.W.nsIn K mainGlobals "HourError" = some (some (.ref C3)))
    (xf14 : PySem.W.subIn K (.ref C3) (.type "BaseException") = some true)
    (xf15 : PySem.W.hasDictIn K C3 = true)
    (xf16 : PySem.W.typeIn K (.ref C3) = some (.type "type"))
    (xf17 : PySem.W.subIn K (.ref C0) (.ref C3) = some true)
    (xf18 : PySem.W.subIn K (.ref C1) (.ref C3) = some true)
    (xf19 : PySem.W.hasDictIn K C0 = true)
    (xf20 : PySem.W.subIn K (.ref C0) (.ref C0) = some true)
    (xf21 : PySem.W.subIn K (.ref C1) (.ref C0) = some false)
    (xL2 : K.lookup C2 = some (excClassObj nm_2 q_2 C2 N_2 bs_2 bm_2 true sn_2 sub_2 ab_2 col_2 dd_2 m0_2 m1_2 m2_2 m3_2 m5_2 "ValueError.__new__"))
    (rb2 : PySem.HandSPX.refsVE bm_2 = true)
    (xf22 : PySem.W.findIn K (.ref C2) "__init__" = some (some (.ref fI_2)))
    (xf23 : PySem.W.typeIn K (.ref fI_2) = some (.type "function"))
    (lI2 : K.lookup fI_2 = some ⟨oI_2, odI_2, .func (PySem.W.fnOf "__init__" "Refused.__init__" (defArgs si_Refused) (defBody si_Refused) (defScope si_Refused) .none kVI_2 dcI_2 pmI_2 anI_2 cdI_2 ctI_2), slI_2⟩)
    (cI2 : PySem.W.codeIn K cdI_2 "Refused.__init__" = true)
    (xf24 : PySem.W.keepIn K (.ref fI_2) = true)
    (xf25 : PySem.W.findIn K (.ref C2) "step" = some none)
    (xf26 : PySem.W.readsIn K C3 (.type "type") = true)
    (xf27 : PySem.W.specialIn K (.ref C3) "__getattribute__" = some (some (.builtin "type.__getattribute__")))
    (xf28 : PySem.W.findCls K (.ref C3) (.type "type") "__init__" = some (.val (.builtin "ValueError.__init__")))
    (xf29 : PySem.W.findIn K (.ref C2) "__setattr__" = some (some (.builtin "object.__setattr__")))
    (xf30 : PySem.W.typeIn K (.ref C2) = some (.type "type"))
    (xf31 : PySem.W.keepIn K (.ref C2) = true) :
    ∃ fd : FuncData, (∀ (s : Shared) (v : Value), BindsTo s fd ⟨[v], []⟩ [("_law_script", v)]) ∧ ∀ base : Heap, K.In base → base.Ns mainGlobals mg → FnG l.prog w K mg base (L2.CX l.prog w) 9 fa fd ["_law_script"] (spLaw K) := by
  have e := hfa.symm.trans (PySem.W.mg_of X G a33)
  cases e
  have T : Txt K mg w := ⟨PySem.W.mg_none_of X G z0, PySem.W.mg_none_of X G z1, PySem.W.mg_none_of X G z2, PySem.W.mg_none_of X G z3, PySem.W.mg_none_of X G z4, PySem.W.mg_none_of X G z5, PySem.W.mg_none_of X G z6, PySem.W.mg_none_of X G z7, PySem.W.mg_none_of X G z8, PySem.W.mg_none_of X G z9, PySem.W.mg_none_of X G z10, PySem.W.mg_none_of X G z11, PySem.W.mg_none_of X G z12, PySem.W.mg_none_of X G z13, ⟨_, _, PySem.W.mg_of X G v0, rvR, (.tup (kt_mk q0_1 (Nat.le_of_ble_eq_true rfl) (.cons rvS (.cons rvS (.cons rvS .nil)))) (.cons (.str _) (.cons (.str _) (.cons (.str _) .nil))))⟩, ⟨_, _, PySem.W.mg_of X G v1, rvR, (.tup (kt_mk q1_1 (Nat.le_of_ble_eq_true rfl) (.cons rvS (.cons rvS (.cons rvS .nil)))) (.cons (.str _) (.cons (.str _) (.cons (.str _) .nil))))⟩, ⟨_, _, _, PySem.W.mg_of X G v2, tb2, lw2, (.cons rfl hs2_0 rvS (.str _) (.cons rfl hs2_1 rvS (.str _) (.cons rfl hs2_2 rvS (.str _) (.cons rfl hs2_3 rvS (.str _) (.cons rfl hs2_4 rvS (.str _) (.cons rfl hs2_5 rvS (.str _) .nil))))))⟩, ⟨t3, PySem.W.mg_of X G v3⟩, ⟨t4, PySem.W.mg_of X G v4⟩, ⟨t5, PySem.W.mg_of X G v5⟩, ⟨t6, PySem.W.mg_of X G v6⟩, ⟨_, _, _, PySem.W.mg_of X G v7, tb7, lw7, (.cons rfl hs7_0 rvR (.tup (kt_mk q7_1 (Nat.le_of_ble_eq_true rfl) (.cons rvS (.cons rvS .nil))) (.cons (.str _) (.cons (.str _) .nil))) (.cons rfl hs7_1 rvR (.tup (kt_mk q7_4 (Nat.le_of_ble_eq_true rfl) (.cons rvS (.cons rvS (.cons rvS (.cons rvS .nil))))) (.cons (.str _) (.cons (.str _) (.cons (.str _) (.cons (.str _) .nil))))) (.cons rfl hs7_2 rvR (.tup (kt_mk q7_9 (Nat.le_of_ble_eq_true rfl) (.cons rvS (.cons rvS .nil))) (.cons (.str _) (.cons (.str _) .nil))) (.cons rfl hs7_3 rvR (.tup (kt_mk q7_12 (Nat.le_of_ble_eq_true rfl) (.cons rvS (.cons rvS .nil))) (.cons (.str _) (.cons (.str _) .nil))) (.cons rfl hs7_4 rvR (.tup (kt_mk q7_15 (Nat.le_of_ble_eq_true rfl) (.cons rvS (.cons rvS .nil))) (.cons (.str _) (.cons (.str _) .nil))) (.cons rfl hs7_5 rvR (.tup (kt_mk q7_18 (Nat.le_of_ble_eq_true rfl) (.cons rvS (.cons rvS .nil))) (.cons (.str _) (.cons (.str _) .nil))) (.cons rfl hs7_6 rvR (.tup (kt_mk q7_21 (Nat.le_of_ble_eq_true rfl) (.cons rvS (.cons rvS .nil))) (.cons (.str _) (.cons (.str _) .nil))) .nil)))))))⟩, ⟨C0, PySem.W.mg_of X G xa0, xq0, xk0, xb0, xt0⟩, ⟨C1, PySem.W.mg_of X G xa1, xq1, xk1, xb1, xt1⟩, ⟨(List.forall_mem_cons.mpr ⟨⟨_, (PySem.W.mg_of X G xa2), C2, rfl, ⟨xf0, xf1, xf2, xf3, xf4, xf5, xf6, xf7⟩, (List.forall_mem_cons.mpr ⟨(kit_plain (by decide +kernel) xf8), (List.forall_mem_cons.mpr ⟨(kit_plain (by decide +kernel) xf9), (List.forall_mem_cons.mpr ⟨(kit_plain (by decide +kernel) xf10), (List.forall_mem_cons.mpr ⟨(kit_plain (by decide +kernel) xf11), (List.forall_mem_cons.mpr ⟨(kit_plain (by decide +kernel) xf12), (List.forall_mem_cons.mpr ⟨(kit_plain (by decide +kernel) xf13), (fun _ z => absurd z List.not_mem_nil)⟩)⟩)⟩)⟩)⟩)⟩)⟩, (fun _ z => absurd z List.not_mem_nil)⟩)⟩, ⟨_, (PySem.W.mg_of X G xa3), (List.forall_mem_cons.mpr ⟨⟨_, (PySem.W.mg_of X G xa0), (PySem.W.exm_ref xf14 xf15 xf16 xf17).trans (by decide +kernel)⟩, (List.forall_mem_cons.mpr ⟨⟨_, (PySem.W.mg_of X G xa1), (PySem.W.exm_ref xf14 xf15 xf16 xf18).trans (by decide +kernel)⟩, (fun _ z => absurd z List.not_mem_nil)⟩)⟩)⟩, ⟨_, (PySem.W.mg_of X G xa0), (List.forall_mem_cons.mpr ⟨⟨_, (PySem.W.mg_of X G xa0), (PySem.W.exm_ref xb0 xf19 xt0 xf20).trans (by decide +kernel)⟩, (List.forall_mem_cons.mpr ⟨⟨_, (PySem.W.mg_of X G xa1), (PySem.W.exm_ref xb0 xf19 xt0 xf21).trans (by decide +kernel)⟩, (fun _ z => absurd z List.not_mem_nil)⟩)⟩)⟩⟩
  have F0 := fun_mk (st := s_is_integer) l0 c0 k0
  have F1 := fun_mk (st := s_is_zone) l1 c1 k1
  have F2 := fun_mk (st := s_is_zones) l2 c2 k2
  have F3 := fun_mk (st := s_need_zones) l3 c3 k3
  have F4 := fun_mk (st := s_is_part) l4 c4 k4
  have F5 := fun_mk (st := s_is_step) l5 c5 k5
  have F6 := fun_mk (st := s_kind_made) l6 c6 k6
  have F7 := fun_mk (st := s_kinds_of) l7 c7 k7
  have F8 := fun_mk (st := s_is_program) l8 c8 k8
  have F9 := fun_mk (st := s_need_program) l9 c9 k9
  have F10 := fun_mk (st := s_kinds) l10 c10 k10
  have F11 := fun_mk (st := s__law_bag_of) l11 c11 k11
  have F12 := fun_mk (st := s__law_pick) l12 c12 k12
  have F13 := fun_mk (st := s__law_any_belt) l13 c13 k13
  have F14 := fun_mk (st := s__law_any_belts) l14 c14 k14
  have F15 := fun_mk (st := s__law_is_whole) l15 c15 k15
  have F16 := fun_mk (st := s__law_same) l16 c16 k16
  have F17 := fun_mk (st := s__law_spot) l17 c17 k17
  have F18 := fun_mk (st := s__law_minutes) l18 c18 k18
  have F19 := fun_mk (st := s__law_next_words) l19 c19 k19
  have F20 := fun_mk (st := s__law_any_rules) l20 c20 k20
  have F21 := fun_mk (st := s__law_any_deed) l21 c21 k21
  have F22 := fun_mk (st := s__law_kind_made) l22 c22 k22
  have F23 := fun_mk (st := s__law_kind_row) l23 c23 k23
  have F24 := fun_mk (st := s__law_less_room) l24 c24 k24
  have F25 := fun_mk (st := s__law_longer_plan) l25 c25 k25
  have F26 := fun_mk (st := s__law_any_plan) l26 c26 k26
  have F27 := fun_mk (st := s__law_is_deed) l27 c27 k27
  have F28 := fun_mk (st := s__law_is_plan) l28 c28 k28
  have F29 := fun_mk (st := s__law_odd) l29 c29 k29
  have F30 := fun_mk (st := s__law_bent_deed) l30 c30 k30
  have F31 := fun_mk (st := s__law_bent_plan) l31 c31 k31
  have F32 := fun_mk (st := s__law_kinds_told) l32 c32 k32
  have F33 := fun_mk (st := s_law) l33 c33 k33
  refine ⟨PySem.W.fnOf "law" "law" (defArgs s_law) (defBody s_law) (defScope s_law) .none kV33 dc33 pm33 an33 cd33 ct33, fun s v => .of_eq rfl, fun base _ _ => ?_⟩
  have HI_Refused : HiOk K mg "HourError" := ⟨C3, .type "type", (PySem.W.mg_of X G xa3), xf26, xf27, xf28⟩
  have FI_Refused := fun_mk (st := si_Refused) lI2 cI2 xf24
  have GI_Refused : XiOk l.prog w K mg base 1 "Refused" ["step"] := xi_mk1 (msg := "a find is refused") (PySem.W.mg_of X G xa2) ⟨⟨_, _, _, _, _, _, _, _, _, _, _, _, _, _, _, xL2, rb2⟩, xf29, xf2, xf30, xf31⟩ xf22 xf23 FI_Refused (FI_Refused.binds fun _ _ _ _ _ _ us hl => match us, hl with | [_, _], _ => rfl) sci_Refused xf25 (fun cdv A outer s H E => pss_cons (ps_expr (pe_hinit rfl HI_Refused (pa_cons (pv 0) (pa_cons pe_str pa_nil)))) (pss_one (ps_ost (pv 0) (pv 1))))
  have G_is_integer := fn_is_integer (P := l.prog) (w := w) (base := base) T (PySem.W.mg_of X G a0) F0 
  have G_is_zone := fn_is_zone (P := l.prog) (w := w) (base := base) T (PySem.W.mg_of X G a1) F1 G_is_integer
  have G_is_zones := fn_is_zones (P := l.prog) (w := w) (base := base) T (PySem.W.mg_of X G a2) F2 G_is_zone
  have G_need_zones := fn_need_zones (P := l.prog) (w := w) (base := base) T (PySem.W.mg_of X G a3) F3 G_is_zones
  have G_is_part := fn_is_part (P := l.prog) (w := w) (base := base) T (PySem.W.mg_of X G a4) F4 G_is_integer
  have G_is_step := fn_is_step (P := l.prog) (w := w) (base := base) T (PySem.W.mg_of X G a5) F5 G_is_part
  have G_kind_made := fn_kind_made (P := l.prog) (w := w) (base := base) T (PySem.W.mg_of X G a6) F6 
  have G_kinds_of := fn_kinds_of (P := l.prog) (w := w) (base := base) T (PySem.W.mg_of X G a7) F7 G_kind_made
  have G_is_program := fn_is_program (P := l.prog) (w := w) (base := base) T (PySem.W.mg_of X G a8) F8 G_kind_made G_is_step G_need_zones
  have G_need_program := fn_need_program (P := l.prog) (w := w) (base := base) T (PySem.W.mg_of X G a9) F9 G_is_program
  have G_kinds := fn_kinds (P := l.prog) (w := w) (base := base) T (PySem.W.mg_of X G a10) F10 G_kinds_of G_need_program G_need_zones
  have G__law_bag_of := fn__law_bag_of (P := l.prog) (w := w) (base := base) T (PySem.W.mg_of X G a11) F11 
  have G__law_pick := fn__law_pick (P := l.prog) (w := w) (base := base) T (PySem.W.mg_of X G a12) F12 
  have G__law_any_belt := fn__law_any_belt (P := l.prog) (w := w) (base := base) T (PySem.W.mg_of X G a13) F13 G__law_pick
  have G__law_any_belts := fn__law_any_belts (P := l.prog) (w := w) (base := base) T (PySem.W.mg_of X G a14) F14 G__law_pick G__law_any_belt
  have G__law_is_whole := fn__law_is_whole (P := l.prog) (w := w) (base := base) T (PySem.W.mg_of X G a15) F15 
  have G__law_same := fn__law_same (P := l.prog) (w := w) (base := base) T (PySem.W.mg_of X G a16) F16 
  have G__law_spot := fn__law_spot (P := l.prog) (w := w) (base := base) T (PySem.W.mg_of X G a17) F17 G__law_pick
  have G__law_minutes := fn__law_minutes (P := l.prog) (w := w) (base := base) T (PySem.W.mg_of X G a18) F18 G__law_pick
  have G__law_next_words := fn__law_next_words (P := l.prog) (w := w) (base := base) T (PySem.W.mg_of X G a19) F19 
  have G__law_any_rules := fn__law_any_rules (P := l.prog) (w := w) (base := base) T (PySem.W.mg_of X G a20) F20 G__law_pick
  have G__law_any_deed := fn__law_any_deed (P := l.prog) (w := w) (base := base) T (PySem.W.mg_of X G a21) F21 G__law_spot G__law_any_rules G__law_pick G__law_minutes G__law_next_words
  have G__law_kind_made := fn__law_kind_made (P := l.prog) (w := w) (base := base) T (PySem.W.mg_of X G a22) F22 
  have G__law_kind_row := fn__law_kind_row (P := l.prog) (w := w) (base := base) T (PySem.W.mg_of X G a23) F23 G__law_kind_made
  have G__law_less_room := fn__law_less_room (P := l.prog) (w := w) (base := base) T (PySem.W.mg_of X G a24) F24 
  have G__law_longer_plan := fn__law_longer_plan (P := l.prog) (w := w) (base := base) T (PySem.W.mg_of X G a25) F25 G__law_less_room G__law_any_deed G__law_kind_row
  have G__law_any_plan := fn__law_any_plan (P := l.prog) (w := w) (base := base) T (PySem.W.mg_of X G a26) F26 G__law_longer_plan G__law_pick
  have G__law_is_deed := fn__law_is_deed (P := l.prog) (w := w) (base := base) T (PySem.W.mg_of X G a27) F27 G__law_is_whole
  have G__law_is_plan := fn__law_is_plan (P := l.prog) (w := w) (base := base) T (PySem.W.mg_of X G a28) F28 G__law_kind_made G__law_is_deed
  have G__law_odd := fn__law_odd (P := l.prog) (w := w) (base := base) T (PySem.W.mg_of X G a29) F29 G__law_pick GI_Refused
  have G__law_bent_deed := fn__law_bent_deed (P := l.prog) (w := w) (base := base) T (PySem.W.mg_of X G a30) F30 G__law_pick G__law_odd
  have G__law_bent_plan := fn__law_bent_plan (P := l.prog) (w := w) (base := base) T (PySem.W.mg_of X G a31) F31 G__law_pick G__law_odd G__law_bent_deed
  have G__law_kinds_told := fn__law_kinds_told (P := l.prog) (w := w) (base := base) T (PySem.W.mg_of X G a32) F32 G_kinds
  have G_law := fn_law (P := l.prog) (w := w) (base := base) T (PySem.W.mg_of X G a33) F33 G__law_same G__law_kind_row G__law_kinds_told G_is_program G__law_is_plan G__law_bent_plan G__law_any_plan G__law_any_belts G__law_bag_of
  exact law_okG (PySem.W.mg_of X G a33) F33 G_law hlaw
theorem walk {l : PySem.W.OpenLaw} {q : Program} {loose : List Str} {XP : (Str → Option Value) → Heap → Prop} {YP : World → Heap → Prop} {d : DefRec} {K : Params → Frag} (hn : l.most = some 63) (hdf : d.params.defaults = [])
    (hY : ∀ (w : World) (h : Heap), YP w h → (K w.params).In h)
    (F : ∀ (w : World) (mg : Str → Option Value) (fa : Addr) (h : Heap), (K w.params).In h → h.Ns mainGlobals mg → mg d.name = some (.ref fa) →
      ∃ fd : FuncData, (∀ (s : Shared) (u : Value), BindsTo s fd ⟨[u], []⟩ [("_law_script", u)]) ∧ ∀ base : Heap, (K w.params).In base → base.Ns mainGlobals mg → FnG l.prog w (K w.params) mg base (L2.CX l.prog w) 9 fa fd ["_law_script"] (spLaw (K w.params))) :
    PySem.W.WalkO q loose XP YP l.row.toRowW d [] (fun f vs => PySem.call f vs) :=
  walkG_of (k := 9) hn hdf ⟨rfl, by decide, by decide⟩ hY F
end V
-- text HmBase
namespace Dm
open PySem L2
/-- a pot of digits stands at p -/
def Pot (p : Nat) (S : Sto) : Prop := ∃ k : Int, S[p]? = some (.lst [.int k])
/-- from S to S': the pot at p has turned, cells have come, all else is as it was -/
structure Go (p : Nat) (S S' : Sto) : Prop where
  len : S.length ≤ S'.length
  same : ∀ n, n < S.length → n ≠ p → S'[n]? = S[n]?
  pot : Pot p S'
theorem Pot.lt {p : Nat} {S : Sto} (h : Pot p S) : p < S.length := by
  obtain ⟨k, e⟩ := h
  exact (List.getElem?_eq_some_iff.mp e).1
theorem Go.refl {p : Nat} {S : Sto} (h : Pot p S) : Go p S S := ⟨Nat.le_refl _, fun _ _ _ => rfl, h⟩
theorem Go.trans {p : Nat} {S S1 S2 : Sto} (a : Go p S S1) (b : Go p S1 S2) : Go p S S2 :=
  ⟨Nat.le_trans a.len b.len, fun n h hn => (b.same n (Nat.lt_of_lt_of_le h a.len) hn).trans (a.same n h hn), b.pot⟩
theorem Go.push {p : Nat} {S S1 : Sto} (a : Go p S S1) (c : Cell) : Go p S (S1 ++ [c]) :=
  ⟨by rw [List.length_append]; exact Nat.le_trans a.len (Nat.le_add_right _ _), fun n h hn => by
    rw [List.getElem?_append_left (Nat.lt_of_lt_of_le h a.len)]
    exact a.same n h hn, by
    obtain ⟨k, e⟩ := a.pot
    exact ⟨k, by rw [List.getElem?_append_left (List.getElem?_eq_some_iff.mp e).1]; exact e⟩⟩
/-- a cell that is younger than S is written -/
theorem Go.setNew {p n : Nat} {S S1 : Sto} (hp : Pot p S) (a : Go p S S1) (hn : S.length ≤ n) (c : Cell) : Go p S (S1.set n c) :=
  ⟨by rw [List.length_set]; exact a.len, fun m h hm => by
    rw [List.getElem?_set_ne (by omega)]
    exact a.same m h hm, by
    obtain ⟨k, e⟩ := a.pot
    have := hp.lt
    exact ⟨k, by rw [List.getElem?_set_ne (by omega)]; exact e⟩⟩
theorem Go.get {p n : Nat} {S S1 : Sto} {c : Cell} (a : Go p S S1) (h : S[n]? = some c) (hn : n ≠ p) : S1[n]? = some c := by
  rw [a.same n (List.getElem?_eq_some_iff.mp h).1 hn]
  exact h
end Dm
-- text HmDig
namespace Dm
open PySem L2
theorem rngD_nil {lo : Int} : rngD lo 0 = [] := rfl
theorem rngD_cons {lo : Int} {n : Nat} : rngD lo (n + 1) = .int lo :: rngD (lo + 1) n := by
  unfold rngD
  rw [List.range_succ_eq_map, List.map_cons, List.map_map]
  congr 1
  · simp
  · refine List.map_congr_left fun i _ => ?_
    simp only [Function.comp]
    congr 1
    omega
end Dm
-- text HmZone
namespace Dm
open PySem L2
theorem seq_cut {ρ : Rho} {S : Sto} {N B C : Rho → Sto → Prop} {R : D → Sto → Prop} {EO : EXO} {a b : MS} (M : Rho → Sto → Prop) (h : ∀ M' : Rho → Sto → Prop, (∀ ρ S, M ρ S → M' ρ S) → (a ρ S).DoesE EO M' R B C) (k : ∀ ρ S, M ρ S → (b ρ S).DoesE EO N R B C) : (mSeq a b ρ S).DoesE EO N R B C := by
  rw [does_seq]
  exact (h M fun _ _ h => h).mono k (fun _ _ h => h) (fun _ _ h => h) (fun _ _ h => h)
/-- a zone of one, two or three offsets -/
inductive ZoneOK : List Int → Int → Prop
  | one (a s : Int) : -900 ≤ a → a ≤ 900 → 0 < s → s ≤ 1000000 → ZoneOK [a] s
  | two (a b s : Int) : -900 ≤ a → a < b → b ≤ 900 → b - a < s → s ≤ 1000000 → ZoneOK [a, b] s
  | three (a b c s : Int) : -900 ≤ a → a < b → b < c → c ≤ 900 → c - a < s → s ≤ 1000000 → ZoneOK [a, b, c] s
def zoneD (os : List Int) (s : Int) : D := .tup [.tup (os.map .int), .int s]
@[simp] theorem atI_last1 {α : Type} {x : α} : atI [x] (-1) = some x := rfl
@[simp] theorem atI_last2 {α : Type} {x y : α} : atI [x, y] (-1) = some y := rfl
@[simp] theorem atI_last3 {α : Type} {x y z : α} : atI [x, y, z] (-1) = some z := rfl
end Dm
-- text HmBag
namespace Dm
open PySem L2
/-- a bag of draws stands at p, n more can be drawn -/
def Bag (p n : Nat) (S : Sto) : Prop := ∃ a b c : Int, S[p]? = some (.lst [.int a, .int b, .int c]) ∧ 0 ≤ b ∧ b < 2305843009213693951 ∧ 0 ≤ c ∧ c + n ≤ 9223372036854775808
/-- from S to S': cells have come, all but p is as it was -/
structure GoB (p : Nat) (S S' : Sto) : Prop where
  len : S.length ≤ S'.length
  same : ∀ n, n < S.length → n ≠ p → S'[n]? = S[n]?
theorem Bag.lt {p n : Nat} {S : Sto} (h : Bag p n S) : p < S.length := by
  obtain ⟨a, b, c, e, _⟩ := h
  exact (List.getElem?_eq_some_iff.mp e).1
theorem Bag.mono {p n m : Nat} {S : Sto} (h : Bag p n S) (hm : m ≤ n) : Bag p m S := by
  obtain ⟨a, b, c, e, h1, h2, h3, h4⟩ := h
  exact ⟨a, b, c, e, h1, h2, h3, by omega⟩
theorem Bag.push {p n : Nat} {S : Sto} (h : Bag p n S) (c : Cell) : Bag p n (S ++ [c]) := by
  have hl := h.lt
  obtain ⟨a, b, c, e, r⟩ := h
  exact ⟨a, b, c, by rw [List.getElem?_append_left hl]; exact e, r⟩
theorem Bag.set {p n q : Nat} {S : Sto} (h : Bag p n S) (hq : q ≠ p) (c : Cell) : Bag p n (S.set q c) := by
  obtain ⟨a, b, c, e, r⟩ := h
  exact ⟨a, b, c, by rw [List.getElem?_set_ne hq]; exact e, r⟩
theorem GoB.refl {p : Nat} {S : Sto} : GoB p S S := ⟨Nat.le_refl _, fun _ _ _ => rfl⟩
theorem GoB.trans {p : Nat} {S S1 S2 : Sto} (a : GoB p S S1) (b : GoB p S1 S2) : GoB p S S2 :=
  ⟨Nat.le_trans a.len b.len, fun n h hn => (b.same n (Nat.lt_of_lt_of_le h a.len) hn).trans (a.same n h hn)⟩
theorem GoB.push {p : Nat} {S : Sto} (c : Cell) : GoB p S (S ++ [c]) := ⟨by rw [List.length_append]; omega, fun n h _ => List.getElem?_append_left h⟩
theorem GoB.setNew {p n : Nat} {S S1 : Sto} (a : GoB p S S1) (hn : S.length ≤ n) (c : Cell) : GoB p S (S1.set n c) :=
  ⟨by rw [List.length_set]; exact a.len, fun m h hm => by
    rw [List.getElem?_set_ne (by omega)]
    exact a.same m h hm⟩
theorem GoB.get {p n : Nat} {S S1 : Sto} {c : Cell} (a : GoB p S S1) (h : S[n]? = some c) (hn : n ≠ p) : S1[n]? = some c := by
  rw [a.same n (List.getElem?_eq_some_iff.mp h).1 hn]
  exact h
theorem bag_of_does {S : Sto} {c : Int} {Q : D → Sto → Prop} (q : ∀ S', Bag S.length 9223372036854775808 S' → GoB S.length S S' → Q (.cell S.length) S') : (m_law_bag_of [.int c] S).Does Q := by
  refine does_def rfl ?_
  have hc : CDivW c 2305843009213693951 := cdivw (by decide) (by decide)
  simp [hc]
  exact q _ ⟨_, _, 0, by rw [List.getElem?_append_right (Nat.le_refl _), Nat.sub_self]; rfl, Int.emod_nonneg c (by decide), Int.emod_lt_of_pos c (by decide), by decide, by decide⟩ (GoB.push _)
theorem pick_does {S : Sto} {p n : Nat} {u : Int} {Q : D → Sto → Prop} (hp : Bag p (n + 1) S) (h0 : 0 < u) (hb : u < 18446744073709551616)
    (q : ∀ r S', Bag p n S' → GoB p S S' → 0 ≤ r → r < u → Q (.int r) S') : (m_law_pick [.cell p, .int u] S).Does Q := by
  obtain ⟨a, b, c, e, b0, b1, c0, c1⟩ := id hp
  have hl := hp.lt
  refine does_def rfl ?_
  have hu : ∀ k : Int, CDivW k u := fun k => cdivw h0 hb
  have hm : ∀ k : Int, CDivW k 2305843009213693951 := fun k => cdivw (by decide) (by decide)
  have hd : ∀ k : Int, CDivW k 4099 := fun k => cdivw (by decide) (by decide)
  by_cases ha : 0 < a
  · simp [gIx_cell e, ha, hu]
    refine ⟨h0, _, e, 0, rfl, ?_⟩
    refine q _ _ ⟨a / u, b, c, by simp [hl], b0, b1, c0, by omega⟩ ⟨by rw [List.length_set]; exact Nat.le_refl _, fun n h hn => List.getElem?_set_ne (Ne.symm hn)⟩ (Int.emod_nonneg _ (by omega)) (Int.emod_lt_of_pos _ h0)
  · simp [gIx_cell e, ha]
    refine ⟨_, e, 2, rfl, ?_⟩
    have e2 : (S.set p (.lst ([.int a, .int b, .int c].set 2 (.int (c + 1)))))[p]? = some (.lst [.int a, .int b, .int (c + 1)]) := by
      rw [List.getElem?_set_self hl]; rfl
    have g1 : GoB p S (S.set p (.lst ([.int a, .int b, .int c].set 2 (.int (c + 1))))) := ⟨by rw [List.length_set]; exact Nat.le_refl _, fun n h hn => List.getElem?_set_ne (Ne.symm hn)⟩
    generalize S.set p (.lst ([.int a, .int b, .int c].set 2 (.int (c + 1)))) = S1 at e2 g1
    have w1 : CMulW 104729 (c + 1) := cmulw64 (by omega) (by omega)
    have w2 : CMulW 15485863 (c + 1) := cmulw64 (by omega) (by omega)
    have w3 : CMulW (b + 104729 * (c + 1)) (b + 15485863 * (c + 1) + 11) := cmulw 100 100 (by omega) (by omega) (by decide)
    have r0 : 0 ≤ ((b + 104729 * (c + 1)) * (b + 15485863 * (c + 1) + 11)) % 2305843009213693951 := Int.emod_nonneg _ (by decide)
    have r1 : ((b + 104729 * (c + 1)) * (b + 15485863 * (c + 1) + 11)) % 2305843009213693951 < 2305843009213693951 := Int.emod_lt_of_pos _ (by decide)
    have w5 : CMulW 7 (c + 1) := cmulw64 (by omega) (by omega)
    simp [gIx_cell e2, hu, hm, hd, w1, w2, w3, w5]
    generalize ((b + 104729 * (c + 1)) * (b + 15485863 * (c + 1) + 11)) % 2305843009213693951 = r at r0 r1
    have w4 : CMulW r r := cmulw64 (by omega) (by omega)
    exact ⟨w4, h0, q _ _ ⟨a, b, c + 1, e2, b0, b1, by omega, by omega⟩ g1 (Int.emod_nonneg _ (by omega)) (Int.emod_lt_of_pos _ h0)⟩
end Dm
-- text HmBelt
namespace Dm
open PySem L2
/-- gaps drawn: each at least 1 and at most w -/
def GapsOK (w : Int) (gs : List Int) : Prop := ∀ g, g ∈ gs → 1 ≤ g ∧ g ≤ w
theorem any_belt_does {S : Sto} {p n : Nat} {Q : D → Sto → Prop} (hp : Bag p (n + 20) S) (q : ∀ os s S', Bag p n S' → GoB p S S' → ZoneOK os s → Q (zoneD os s) S') : (m_law_any_belt [.cell p, .int 3] S).Does Q := by
  refine does_def rfl ?_
  -- how many
  refine seq_cut (fun ρ S' => ∃ k : Int, ρ = [some (.cell p), some (.int 3), some (.int k), none, none, none, none, none, none, none] ∧ Bag p (n + 19) S' ∧ GoB p S S' ∧ (k = 1 ∨ k = 2 ∨ k = 3)) (fun M hM => ?_) ?_
  · simp
    refine pick_does (n := n + 19) hp (by decide) (by decide) fun r S1 b1 g1 r0 r1 => ?_
    have e : r = 0 ∨ r = 1 ∨ r = 2 ∨ r = 3 ∨ r = 4 ∨ r = 5 := by omega
    rcases e with e | e | e | e | e | e <;> subst e <;> simp [atI, ixN] <;> exact hM _ _ ⟨_, rfl, b1, g1, by decide⟩
  rintro ρ S1 ⟨k, rfl, b1, g1, hk⟩
  -- how wide
  refine seq_cut (fun ρ S' => ∃ w : Int, ρ = [some (.cell p), some (.int 3), some (.int k), some (.int w), none, none, none, none, none, none] ∧ Bag p (n + 18) S' ∧ GoB p S S' ∧ 1 ≤ w ∧ w ≤ 1800) (fun M hM => ?_) ?_
  · simp
    refine pick_does (n := n + 18) b1 (by decide) (by decide) fun r S2 b2 g2 r0 r1 => ?_
    have e : r = 0 ∨ r = 1 ∨ r = 2 ∨ r = 3 ∨ r = 4 ∨ r = 5 := by omega
    rcases e with e | e | e | e | e | e <;> subst e <;> simp [atI, ixN] <;> exact hM _ _ ⟨_, rfl, b2, g1.trans g2, by decide, by decide⟩
  rintro ρ S2 ⟨w, rfl, b2, g2, w0, w1⟩
  refine seq_cut (fun ρ S' => S' = S2 ∧ ∃ w : Int, ρ = [some (.cell p), some (.int 3), some (.int k), some (.int w), none, none, none, none, none, none] ∧ 1 ≤ w ∧ w * (k - 1) ≤ 1800 ∧ w ≤ 1800) (fun M hM => ?_) ?_
  · rcases hk with rfl | rfl | rfl
    · have hc : CDivW w 1 := cdivw (by decide) (by decide)
      simp [hc]
      refine hM _ _ ⟨rfl, _, rfl, ?_, ?_, ?_⟩ <;> split <;> omega
    · have hc : CDivW w 1 := cdivw (by decide) (by decide)
      simp [hc]
      refine hM _ _ ⟨rfl, _, rfl, ?_, ?_, ?_⟩ <;> split <;> omega
    · have hc : CDivW w 2 := cdivw (by decide) (by decide)
      simp [hc]
      refine hM _ _ ⟨rfl, _, rfl, ?_, ?_, ?_⟩ <;> split <;> omega
  clear w0 w1
  rintro ρ _ ⟨rfl, w, rfl, w0, w1, w2⟩
  -- the gaps
  refine seq_cut (fun ρ S' => ∃ gs x9, ρ = [some (.cell p), some (.int 3), some (.int k), some (.int w), some (.lst (gs.map .int)), none, none, none, none, x9] ∧ Bag p (n + 14) S' ∧ GoB p S S' ∧ (gs : List Int).length = (k - 1).toNat ∧ GapsOK w gs) (fun M hM => ?_) ?_
  · have draw1 : ∀ {S' : Sto} {m : Nat} {Q : D → Sto → Prop}, Bag p (m + 2) S' → (∀ g S'', Bag p m S'' → GoB p S' S'' → 1 ≤ g → g ≤ w → Q (.int g) S'') →
        (m_law_pick [.cell p, .int w] S').Does fun y S1 => (m_law_pick [.cell p, .int 2] S1).Does fun y_1 S2 => OptQ (gMul S2 y y_1) fun z => OptQ (gSub S2 (.int w) z) fun z => Q z S2 := by
      intro S' m Q b' q'
      refine pick_does (n := m + 1) b' (by omega) (by omega) fun r S3 b3 g3 r0 r1 => ?_
      refine pick_does (n := m) b3 (by decide) (by decide) fun r' S4 b4 g4 r0' r1' => ?_
      have hc : CMulW r r' := cmulw64 (by omega) (by omega)
      simp [hc]
      have e : r' = 0 ∨ r' = 1 := by omega
      rcases e with rfl | rfl
      · exact q' _ _ b4 (g3.trans g4) (by omega) (by omega)
      · exact q' _ _ b4 (g3.trans g4) (by omega) (by omega)
    rcases hk with rfl | rfl | rfl
    · simp [rngD_nil]
      exact hM _ _ ⟨[], _, rfl, b2.mono (by omega), g2, rfl, fun _ h => nomatch h⟩
    · simp [rngD_cons, rngD_nil, wipeD]
      refine draw1 (m := n + 16) b2 fun a S3 b3 g3 a0 a1 => ?_
      exact hM _ _ ⟨[a], _, rfl, b3.mono (by omega), g2.trans g3, rfl, fun g h => by cases List.mem_singleton.mp h; exact ⟨a0, a1⟩⟩
    · simp [rngD_cons, rngD_nil, wipeD]
      refine draw1 (m := n + 16) b2 fun a S3 b3 g3 a0 a1 => ?_
      refine draw1 (m := n + 14) b3 fun b S4 b4 g4 c0 c1 => ?_
      exact hM _ _ ⟨[a, b], _, rfl, b4, g2.trans (g3.trans g4), rfl, fun g h => by simp at h; rcases h with rfl | rfl <;> constructor <;> assumption⟩
  rintro ρ S3 ⟨gs, x9, rfl, b3, g3, gl, gok⟩
  have hs : 0 ≤ gs.sum ∧ gs.sum ≤ 1800 := by
    rcases hk with rfl | rfl | rfl
    · match gs, gl with
      | [], _ => decide
    · match gs, gl, gok with
      | [a], _, gok =>
        have := gok a (by simp)
        simp
        omega
    · match gs, gl, gok with
      | [a, b], _, gok =>
        have := gok a (by simp)
        have := gok b (by simp)
        simp
        omega
  -- the offsets
  refine seq_cut (fun ρ S' => ∃ low q, ρ = [some (.cell p), some (.int 3), some (.int k), some (.int w), some (.lst (gs.map .int)), some (.cell q), none, none, none, x9] ∧ Bag p (n + 13) S' ∧ GoB p S S' ∧ S'[q]? = some (.lst [.int low]) ∧ S.length ≤ q ∧ -900 ≤ low ∧ low ≤ 900 - gs.sum) (fun M hM => ?_) ?_
  · simp [gSum_ints (S := S3) (d := .lst (gs.map .int)) (ns := gs) rfl]
    refine pick_does (n := n + 13) b3 (by omega) (by omega) fun r S4 b4 g4 r0 r1 => ?_
    simp
    have g := g3.trans g4
    exact hM _ _ ⟨_, _, rfl, b4.push _, g.trans (GoB.push _), by rw [List.getElem?_append_right (Nat.le_refl _), Nat.sub_self]; rfl, g.len, by omega, by omega⟩
  rintro ρ S4 ⟨low, q', rfl, b4, g4, e4, hq, l0, l1⟩
  have hpq : q' ≠ p := by have := hp.lt; omega
  have step : ∀ (S5 : Sto) (xs : List Int) (l a : Int), S5[q']? = some (.lst ((xs ++ [l]).map .int)) → gIx S5 (.cell q') (.int (-1)) = some (.int l) := by
    intro S5 xs l a e
    rw [gIx_cell e]
    have h1 : (1 : Int) ≤ ↑xs.length + 1 := by omega
    have h2 : (-1 + ((xs.length : Int) + 1)).toNat = xs.length := by omega
    simp [atI, ixN, h1, h2]
  refine seq_cut (fun ρ S' => ∃ os x6, ρ = [some (.cell p), some (.int 3), some (.int k), some (.int w), some (.lst (gs.map .int)), some (.cell q'), x6, none, none, x9] ∧ Bag p (n + 13) S' ∧ GoB p S S' ∧ S'[q']? = some (.lst ((os : List Int).map .int)) ∧ (∀ s, gs.sum < s → s ≤ 1000000 → ZoneOK os s)) (fun M hM => ?_) ?_
  · have grow : ∀ {S5 : Sto} {l : List D} (a : Int), S5[q']? = some (.lst l) → Bag p (n + 13) S5 → GoB p S S5 → Bag p (n + 13) (S5.set q' (.lst (l ++ [.int a]))) ∧ GoB p S (S5.set q' (.lst (l ++ [.int a]))) ∧ (S5.set q' (.lst (l ++ [.int a])))[q']? = some (.lst (l ++ [.int a])) :=
      fun a e b g => ⟨b.set hpq _, g.setNew hq _, List.getElem?_set_self (List.getElem?_eq_some_iff.mp e).1⟩
    rcases hk with rfl | rfl | rfl
    · match gs, gl, hs, l1 with
      | [], _, hs, l1 =>
        simp at l1 ⊢
        exact hM _ _ ⟨[low], _, rfl, b4, g4, e4, fun s h1 h2 => .one _ _ l0 (by omega) (by simpa using h1) h2⟩
    · match gs, gl, hs, l1, gok with
      | [a], _, hs, l1, gok =>
        have := gok a (by simp)
        simp at l1 hs ⊢
        simp [step S4 [] low a e4, e4]
        obtain ⟨b5, g5, e5⟩ := grow (low + a) e4 b4 g4
        exact hM _ _ ⟨[low, low + a], _, rfl, b5, g5, e5, fun s h1 h2 => .two _ _ _ l0 (by omega) (by omega) (by simp at h1; omega) h2⟩
    · match gs, gl, hs, l1, gok with
      | [a, b], _, hs, l1, gok =>
        have := gok a (by simp)
        have := gok b (by simp)
        simp at l1 hs ⊢
        simp [step S4 [] low a e4, e4]
        obtain ⟨b5, g5, e5⟩ := grow (low + a) e4 b4 g4
        have e5' : (S4.set q' (.lst ([D.int low] ++ [D.int (low + a)])))[q']? = some (.lst (([low] ++ [low + a]).map .int)) := e5
        simp at e5'
        simp [step _ [low] (low + a) b e5']
        refine ⟨⟨_, e5'⟩, _, e5', by simp, ?_⟩
        obtain ⟨b6, g6, e6⟩ := grow (low + a + b) e5' b5 g5
        rw [List.set_set] at b6 g6 e6
        exact hM _ _ ⟨[low, low + a, low + a + b], _, rfl, b6, g6, e6, fun s h1 h2 => .three _ _ _ _ l0 (by omega) (by omega) (by omega) (by simp at h1; omega) h2⟩
  rintro ρ S5 ⟨os, x6, rfl, b5, g5, e5, zz⟩
  -- the spacing
  refine seq_cut (fun ρ S' => S' = S5 ∧ ρ = [some (.cell p), some (.int 3), some (.int k), some (.int w), some (.lst (gs.map .int)), some (.cell q'), x6, some (.int (gs.sum + 1)), none, x9]) (fun M hM => ?_) ?_
  · simp [gSum_ints (S := S5) (d := .lst (gs.map .int)) (ns := gs) rfl]
    exact hM _ _ ⟨rfl, rfl⟩
  rintro ρ _ ⟨rfl, rfl⟩
  refine seq_cut (fun ρ S' => ∃ m1 m2 : Int, ρ = [some (.cell p), some (.int 3), some (.int k), some (.int w), some (.lst (gs.map .int)), some (.cell q'), x6, some (.int (gs.sum + 1)), some (.lst [.int 0, .int 1, .int 40, .int (1000000 - (gs.sum + 1)), .int m1, .int 100, .int m2]), x9] ∧ Bag p (n + 11) S' ∧ GoB p S S' ∧ S'[q']? = some (.lst (os.map .int)) ∧ 0 ≤ m1 ∧ m1 < 2000 ∧ 0 ≤ m2 ∧ m2 ≤ 1000000 - (gs.sum + 1)) (fun M hM => ?_) ?_
  · simp
    refine pick_does (n := n + 12) b5 (by decide) (by decide) fun r S6 b6 g6 r0 r1 => ?_
    refine pick_does (n := n + 11) b6 (by omega) (by omega) fun r' S7 b7 g7 r0' r1' => ?_
    exact hM _ _ ⟨_, _, rfl, b7, g5.trans (g6.trans g7), g7.get (g6.get e5 hpq) hpq, r0, r1, r0', by omega⟩
  rintro ρ S6 ⟨m1, m2, rfl, b6, g6, e6, m10, m11, m20, m21⟩
  simp [gTuple_cell e6]
  refine pick_does (n := n + 10) b6 (by decide) (by decide) fun r S7 b7 g7 r0 r1 => ?_
  have e : r = 0 ∨ r = 1 ∨ r = 2 ∨ r = 3 ∨ r = 4 ∨ r = 5 ∨ r = 6 := by omega
  rcases e with e | e | e | e | e | e | e <;> subst e <;> simp [atI, ixN] <;> exact q os _ _ (b7.mono (by omega)) (g6.trans g7) (zz _ (by omega) (by omega))
theorem any_belts_does {S : Sto} {p n : Nat} {Q : D → Sto → Prop} (hp : Bag p (n + 60) S) (q : ∀ zs S', Bag p n S' → GoB p S S' → (∀ z, z ∈ zs → ZoneOK z.1 z.2) → zs.length = 1 ∨ zs.length = 2 → Q (.tup ((zs : List (List Int × Int)).map fun z => zoneD z.1 z.2)) S') :
    (m_law_any_belts [.cell p, .int 3] S).Does Q := by
  refine does_def rfl ?_
  simp
  refine pick_does (n := n + 59) hp (by decide) (by decide) fun r S1 b1 g1 r0 r1 => ?_
  have e : r = 0 ∨ r = 1 := by omega
  rcases e with rfl | rfl
  · simp [rngD_cons, rngD_nil, wipeD]
    refine any_belt_does (n := n + 39) b1 fun os s S2 b2 g2 z => ?_
    exact q [(os, s)] _ (b2.mono (by omega)) (g1.trans g2) (fun z' h => by cases List.mem_singleton.mp h; exact z) (.inl rfl)
  · simp [rngD_cons, rngD_nil, wipeD]
    refine any_belt_does (n := n + 39) b1 fun os s S2 b2 g2 z => ?_
    refine any_belt_does (n := n + 19) b2 fun os' s' S3 b3 g3 z' => ?_
    exact q [(os, s), (os', s')] _ (b3.mono (by omega)) (g1.trans (g2.trans g3)) (fun z'' h => by simp at h; rcases h with rfl | rfl <;> assumption) (.inr rfl)
end Dm
-- text HmTab
namespace Dm
open PySem L2
theorem pure_of {α : Type} {r : Res α} {a : α} {S : Sto} (h : ∀ Q : α → Sto → Prop, Q a S → r.Does Q) : r = .ok a S := by
  obtain ⟨a', S', e, h1, h2⟩ := (h (fun x T => x = a ∧ T = S) ⟨rfl, rfl⟩).eq
  rw [e, h1, h2]
section
variable {S : Sto} {os : List Int} {s h m : Int} {js : List (Int × Int)}
theorem ZoneOK.len {os : List Int} {s : Int} (z : ZoneOK os s) : 1 ≤ os.length ∧ os.length ≤ 3 := by cases z <;> simp
@[simp] theorem is_integer_int {i : Int} : m_is_integer [.int i] S = .ok (.bl true) S := by
  refine pure_of fun Q q => ?_
  refine does_def rfl ?_
  simpa [isTn] using q
theorem is_zone_ok (z : ZoneOK os s) : m_is_zone [zoneD os s] S = .ok (.bl true) S := by
  refine pure_of fun Q q => ?_
  refine does_def rfl ?_
  cases z with
  | one a s h1 h2 h3 h4 => simp [zoneD, isTn, rngD_cons, rngD_nil, h1, h2, h3, h4, q]
  | two a b s h1 h2 h3 h4 h5 =>
    have e1 : a ≤ 900 := by omega
    have e2 : -900 ≤ b := by omega
    have e3 : ¬ b ≤ a := by omega
    simp [zoneD, isTn, rngD_cons, rngD_nil, h1, h2, h3, h4, h5, e1, e2, e3, q]
  | three a b c s h1 h2 h3 h4 h5 h6 => 
    have e1 : a ≤ 900 := by omega
    have e2 : -900 ≤ b := by omega
    have e3 : ¬ b ≤ a := by omega
    have e4 : b ≤ 900 := by omega
    have e5 : -900 ≤ c := by omega
    have e6 : ¬ c ≤ b := by omega
    simp [zoneD, isTn, rngD_cons, rngD_nil, h1, h2, h3, h4, h5, h6, e1, e2, e3, e4, e5, e6, q]
@[simp] theorem need_zone_ok (z : ZoneOK os s) : m_need_zone [zoneD os s] S = .ok .non S := by
  refine pure_of fun Q q => ?_
  refine does_def rfl ?_
  simp [is_zone_ok z, q]
/-- a jump and a table, as data -/
def jmpD (j : Int × Int) : D := .tup [.int j.1, .int j.2]
def tabD (h : Int) (js : List (Int × Int)) : D := .tup [.int h, .tup (js.map jmpD)]
section
variable {j : Int × Int} {ρ : Rho} {f : List D → Rho → Option Rho}
@[simp] theorem ix_jmp0 : gIx S (jmpD j) (.int 0) = some (.int j.1) := by simp [jmpD]
@[simp] theorem ix_jmp1 : gIx S (jmpD j) (.int 1) = some (.int j.2) := by simp [jmpD]
@[simp] theorem ix_tab0 : gIx S (tabD h js) (.int 0) = some (.int h) := by simp [tabD]
@[simp] theorem ix_tab1 : gIx S (tabD h js) (.int 1) = some (.tup (js.map jmpD)) := by simp [tabD]
@[simp] theorem ix_zone0 : gIx S (zoneD os s) (.int 0) = some (.tup (os.map .int)) := by simp [zoneD]
@[simp] theorem ix_zone1 : gIx S (zoneD os s) (.int 1) = some (.int s) := by simp [zoneD]
@[simp] theorem len_jmp : gLen S [jmpD j] = some (.int 2) := rfl
@[simp] theorem len_tab : gLen S [tabD h js] = some (.int 2) := rfl
@[simp] theorem len_zone : gLen S [zoneD os s] = some (.int 2) := rfl
@[simp] theorem ty_jmp : tyOf S (jmpD j) = some .tup := rfl
@[simp] theorem ty_tab : tyOf S (tabD h js) = some .tup := rfl
@[simp] theorem ty_zone : tyOf S (zoneD os s) = some .tup := rfl
@[simp] theorem tg_jmp : tgT 2 f (jmpD j) ρ = f [.int j.1, .int j.2] ρ := rfl
@[simp] theorem tg_tab : tgT 2 f (tabD h js) ρ = f [.int h, .tup (js.map jmpD)] ρ := rfl
@[simp] theorem tg_zone : tgT 2 f (zoneD os s) ρ = f [.tup (os.map .int), .int s] ρ := rfl
end
/-- the jumps that may follow: the offset held, the moment of the jump before -/
def Chain (os : List Int) (s : Int) : Int → Option Int → List (Int × Int) → Prop
  | _, _, [] => True
  | h, p, (m, o) :: r => o ∈ os ∧ o ≠ h ∧ (∀ q, p = some q → q + s ≤ m) ∧ Chain os s o (some m) r
structure TabOK (os : List Int) (s h : Int) (js : List (Int × Int)) : Prop where
  held : h ∈ os
  chain : Chain os s h none js
theorem flat_ints (os : List Int) : (os.map D.int).all flatD = true := by
  rw [List.all_map]
  exact List.all_eq_true.mpr fun _ _ => rfl
theorem any_ints (os : List Int) (o : Int) : (os.map D.int).any (eqF · (.int o)) = decide (o ∈ os) := by
  induction os with
  | nil => simp
  | cons a r ih =>
    rw [List.map_cons, List.any_cons, ih, eqF_int]
    have e : (a == o) = decide (o = a) := by
      by_cases h : o = a
      · subst h; simp
      · have h' : ¬ a = o := fun x => h x.symm
        simp [h, h']
    rw [e]
    simp
theorem gIn_ints {o : Int} : gIn false S (.int o) (.tup (os.map .int)) = some (.bl (decide (o ∈ os))) := by
  unfold gIn
  rw [seqOf_tup]
  simp only
  rw [if_pos ⟨rfl, flat_ints os⟩, any_ints]
  simp
theorem is_offset_int {o : Int} : m_is_offset [zoneD os s, .int o] S = .ok (.bl (decide (o ∈ os))) S := by
  refine pure_of fun Q q => ?_
  refine does_def rfl ?_
  simp [gIn_ints, q]
theorem is_mark_jmp {j : Int × Int} : m_is_mark [zoneD os s, jmpD j] S = .ok (.bl (decide (j.2 ∈ os))) S := by
  refine pure_of fun Q q => ?_
  refine does_def rfl ?_
  simp [isTn, is_offset_int, q]
def enumF (k : Nat) (ds : List D) : List D := (ds.zipIdx k).map fun p => .tup [.int (p.2 : Nat), p.1]
theorem enumD_eq {ds : List D} : enumD ds = enumF 0 ds := rfl
theorem enumF_cons {k : Nat} {d : D} {r : List D} : enumF k (d :: r) = .tup [.int k, d] :: enumF (k + 1) r := rfl
theorem is_table_ok (z : ZoneOK os s) (t : TabOK os s h js) : m_is_table [zoneD os s, tabD h js] S = .ok (.bl true) S := by
  refine pure_of fun Q q => ?_
  refine does_def rfl ?_
  simp [isTn, need_zone_ok z, is_offset_int, t.held, enumD_eq]
  refine forL_cut (fun ds ρ S' => S' = S ∧ ∃ (pre suf : List (Int × Int)) (h' : Int) (pm : Option Int) (x4 x5 : Option D), ρ = [some (zoneD os s), some (tabD h js), some (.int h'), some (.tup (js.map jmpD)), x4, x5]
    ∧ js = pre ++ suf ∧ ds = enumF pre.length (suf.map jmpD) ∧ Chain os s h' pm suf ∧ (pre ≠ [] → ∃ m o, pm = some m ∧ atI (js.map jmpD) ((pre.length : Int) - 1) = some (jmpD (m, o)))) _ ⟨rfl, [], js, h, none, none, none, rfl, rfl, rfl, t.chain, fun h => (h rfl).elim⟩ ?_ ?_
  · rintro d r ρ S' ⟨rfl, pre, suf, h', pm, x4, x5, rfl, ej, e, c, l⟩
    cases suf with
    | nil => cases e
    | cons j suf =>
      rw [List.map_cons, enumF_cons] at e
      injection e with e1 e2
      subst e1
      obtain ⟨c1, c2, c3, c4⟩ := c
      refine ⟨[some (zoneD os s), some (tabD h js), some (.int h'), some (.tup (js.map jmpD)), some (.int pre.length), some (jmpD j)], by simp, fun M hM => ?_⟩
      have last : some (jmpD j) = atI (js.map jmpD) (((pre ++ [j]).length : Int) - 1) := by
        rw [ej, atI_of (by simp) (by simp; omega)]
        simp
      have fin : M [some (zoneD os s), some (tabD h js), some (.int j.2), some (.tup (js.map jmpD)), some (.int pre.length), some (jmpD j)] S' :=
        hM _ _ ⟨rfl, pre ++ [j], suf, _, _, _, _, rfl, by rw [ej, List.append_assoc] <;> rfl, by rw [e2, List.length_append] <;> rfl, c4, fun _ => ⟨_, _, rfl, last.symm⟩⟩
      simp [is_mark_jmp, c1, c2]
      by_cases hp : pre = []
      · subst hp
        simpa using fin
      · obtain ⟨m, o, e3, e4⟩ := l hp
        have c5 := c3 m e3
        rw [e4]
        have c6 : ¬ j.1 - m < s := by omega
        simp [List.length_pos_iff, hp, c6]
        exact fin
  · rintro ρ S' ⟨rfl, pre, suf, h', pm, x4, x5, rfl, ej, e, c, l⟩
    simpa using q
end
end Dm
-- text HmChart
namespace Dm
open PySem L2
section
variable {S : Sto} {os : List Int} {s h m : Int} {js : List (Int × Int)} {p : Nat}
@[simp] theorem need_table_ok (z : ZoneOK os s) (t : TabOK os s h js) : m_need_table [zoneD os s, tabD h js] S = .ok .non S := by
  refine pure_of fun Q q => ?_
  refine does_def rfl ?_
  simp [is_table_ok z t, q]
/-- the offset at a moment: up to the first jump after it -/
def offAt : Int → List (Int × Int) → Int → Int
  | h, [], _ => h
  | h, (a, o) :: r, m => if m < a then h else offAt o r m
theorem ZoneOK.at (z : ZoneOK os s) {i : Int} (h0 : 0 ≤ i) (h1 : i < os.length) : ∃ o, atI (os.map D.int) i = some (.int o) ∧ o ∈ os ∧ os[i.toNat]? = some o := by
  have l : i.toNat < os.length := by omega
  refine ⟨os[i.toNat], ?_, List.getElem_mem l, List.getElem?_eq_getElem l⟩
  rw [atI_of h0 (by rw [List.length_map]; exact h1), List.getElem?_map, List.getElem?_eq_getElem l] <;> rfl
end
end Dm
-- text HmNear
namespace Dm
open PySem L2
section
variable {S : Sto} {os : List Int} {s h m : Int} {js : List (Int × Int)} {p : Nat}
theorem Pot.set {n : Nat} {c : Cell} (h : Pot p S) (hn : p ≠ n) : Pot p (S.set n c) := by
  obtain ⟨k, e⟩ := h
  exact ⟨k, by rw [List.getElem?_set_ne (Ne.symm hn)]; exact e⟩
end
theorem cut_len {ds : List D} {lo hi : Option Int} : (cutD ds lo hi).length ≤ ds.length := by
  unfold cutD
  rw [List.length_take, List.length_drop]
  omega
theorem cut_mem {ds : List D} {lo hi : Option Int} {d : D} (h : d ∈ cutD ds lo hi) : d ∈ ds := List.mem_of_mem_drop (List.mem_of_mem_take h)
/-- the loop over the cells of a script -/
theorem law_loop {nN : Nat} {C k : Int} {body : MS} (hn : 2 ≤ nN) (hb : ∀ c L (xs : List (Option D)) (S : Sto), xs.length = nN - 2 → (body (some L :: some (.int c) :: xs) S).Does (fun ρ S' => ∃ y xs', ρ = some L :: y :: xs' ∧ xs'.length = nN - 2) (fun _ _ => False) (fun _ _ => False) (fun _ _ => False)) :
    LawTrue (mDef 1 nN (mSeq (mFor (iSeq (mFz (mCatL (mLst (mCons (mK (.int C)) mNil)) (mSlL (mVar 0) mNoPart (mPart (mK (.int k))))))) (tgN 1) body) (mRet (mK (.bl true))))) := by
  intro ns hl
  obtain ⟨m, rfl⟩ : ∃ m, nN = m + 2 := ⟨nN - 2, by omega⟩
  have main : (mDef 1 (m + 2) (mSeq (mFor (iSeq (mFz (mCatL (mLst (mCons (mK (.int C)) mNil)) (mSlL (mVar 0) mNoPart (mPart (mK (.int k))))))) (tgN 1) body) (mRet (mK (.bl true)))) [.lst (ns.map .int)] []).Does fun d _ => d = .bl true := by
    refine does_def rfl ?_
    rw [does_seq, does_for]
    simp only [does_iSeq, does_fz, does_catL, does_lst, does_cons, does_k, does_nil, does_slL, does_var, List.map_cons, List.map_nil, List.singleton_append, List.getElem?_cons_zero, does_noPart, does_part, lstOf_lst]
    refine ⟨by simp, ?_⟩
    have cl : (cutD (ns.map .int) none (some k)).length ≤ 63 := Nat.le_trans cut_len (by rw [List.length_map]; exact hl)
    refine ⟨by simp only [List.length_cons, List.length_nil]; omega, ?_⟩
    refine forL_cut (fun ds ρ S' => (∀ d, d ∈ ds → ∃ c : Int, d = .int c) ∧ ∃ y xs', ρ = some (.lst (ns.map .int)) :: y :: xs' ∧ xs'.length = m) _ ⟨?_, none, List.replicate m none, rfl, List.length_replicate⟩ ?_ ?_
    · intro d hd
      rcases List.mem_cons.mp hd with rfl | hd
      · exact ⟨_, rfl⟩
      · obtain ⟨c, _, rfl⟩ := List.mem_map.mp (cut_mem hd)
        exact ⟨c, rfl⟩
    · rintro d r ρ S' ⟨hd, y, xs', rfl, hx⟩
      obtain ⟨c, rfl⟩ := hd d List.mem_cons_self
      refine ⟨_, rfl, fun M hM => ?_⟩
      refine (hb c _ xs' S' (by omega)).mono ?_ (fun _ _ h => h.elim) (fun _ _ h => h.elim) (fun _ _ h => h.elim)
      rintro ρ2 S2 ⟨y, xs2, rfl, h2⟩
      exact hM _ _ ⟨fun d h => hd d (List.mem_cons_of_mem _ h), y, xs2, rfl, by omega⟩
    · rintro ρ S' _
      rfl
  obtain ⟨d, S', e, rfl⟩ := main.eq
  exact ⟨S', e⟩
end Dm
-- text HmSame
namespace Dm
open PySem L2
/-- data that the law calls the same, of a depth -/
inductive Eqv (S : Sto) : Nat → D → D → Prop
  | non {n : Nat} : Eqv S n .non .non
  | int {n : Nat} {i : Int} : Eqv S n (.int i) (.int i)
  | bl {n : Nat} {b : Bool} : Eqv S n (.bl b) (.bl b)
  | str {n : Nat} {x : Str} : Eqv S n (.str x) (.str x)
  | tup {n : Nat} {ds es : List D} : ds.length = es.length → es.length ≤ 16777216 → (∀ (i : Nat) (d e : D), ds[i]? = some d → es[i]? = some e → Eqv S n d e) → Eqv S (n + 1) (.tup ds) (.tup es)
  | lst {n : Nat} {d e : D} {ds es : List D} : lstOf S d = some ds → lstOf S e = some es → ds.length = es.length → es.length ≤ 16777216 → (∀ (i : Nat) (d e : D), ds[i]? = some d → es[i]? = some e → Eqv S n d e) → Eqv S (n + 1) d e
section
variable {S : Sto}
theorem Eqv.up {n m : Nat} {d e : D} (h : Eqv S n d e) (hm : n ≤ m) : Eqv S m d e := by
  induction h generalizing m with
  | non => exact .non
  | int => exact .int
  | bl => exact .bl
  | str => exact .str
  | tup hl h16 _ ih =>
    obtain ⟨k, rfl⟩ : ∃ k, m = k + 1 := ⟨m - 1, by omega⟩
    exact .tup hl h16 fun i d e a b => ih i d e a b (by omega)
  | lst hd he hl h16 _ ih =>
    obtain ⟨k, rfl⟩ : ∃ k, m = k + 1 := ⟨m - 1, by omega⟩
    exact .lst hd he hl h16 fun i d e a b => ih i d e a b (by omega)
end
end Dm
-- text HmHours
namespace Dm
open PySem L2
section
variable {S : Sto} {os : List Int} {s h m r : Int} {js : List (Int × Int)} {p : Nat}
theorem get_new {c : Cell} : (S ++ [c])[S.length]? = some c := by simp
theorem lcQ_filter {f : D → Rho → Option Rho} {mt me : ME} {ρ : Rho} {α : Type} {as : List α} {i : α → D} {S : Sto} {Q : List D → Sto → Prop} (t : α → Bool) (g : α → D) (h : ∀ a, a ∈ as → ∃ ρ1, f (i a) ρ = some ρ1 ∧ (∀ Q : D → Sto → Prop, Q (.bl (t a)) S → (mt ρ1 S).Does Q) ∧ ∀ Q : D → Sto → Prop, t a = true → Q (g a) S → (me ρ1 S).Does Q) (q : Q ((as.filter t).map g) S) : LcQ f mt me ρ (as.map i) S Q := by
  induction as generalizing Q with
  | nil => rw [List.map_nil, lcQ_nil]; exact q
  | cons a r ih =>
    obtain ⟨ρ1, e, k1, k2⟩ := h a List.mem_cons_self
    rw [List.map_cons, lcQ_cons, e]
    refine k1 _ ?_
    rw [blQ_bl]
    cases c : t a with
    | true =>
      rw [if_pos rfl]
      refine k2 _ c (ih (fun d hd => h d (List.mem_cons_of_mem _ hd)) ?_)
      rw [List.filter_cons, if_pos c] at q
      exact q
    | false =>
      rw [if_neg (by decide)]
      refine ih (fun d hd => h d (List.mem_cons_of_mem _ hd)) ?_
      rw [List.filter_cons, if_neg (by rw [c]; decide)] at q
      exact q
end
end Dm
-- text HmLooks
namespace Dm
open PySem L2
/-- from S to S': the pots of P have turned, all else is as it was -/
structure GoS (P : Nat → Prop) (S S' : Sto) : Prop where
  len : S.length ≤ S'.length
  same : ∀ n, n < S.length → ¬ P n → S'[n]? = S[n]?
  pot : ∀ n, P n → Pot n S'
section
variable {P : Nat → Prop} {S S1 S2 : Sto} {p q n : Nat} {os : List Int} {s : Int}
theorem GoS.refl (h : ∀ n, P n → Pot n S) : GoS P S S := ⟨Nat.le_refl _, fun _ _ _ => rfl, h⟩
theorem GoS.trans (a : GoS P S S1) (b : GoS P S1 S2) : GoS P S S2 :=
  ⟨Nat.le_trans a.len b.len, fun n h hn => (b.same n (Nat.lt_of_lt_of_le h a.len) hn).trans (a.same n h hn), b.pot⟩
theorem Pot.push {c : Cell} (h : Pot p S) : Pot p (S ++ [c]) := by
  obtain ⟨k, e⟩ := h
  exact ⟨k, by rw [List.getElem?_append_left (List.getElem?_eq_some_iff.mp e).1]; exact e⟩
theorem GoS.push (a : GoS P S S1) (c : Cell) : GoS P S (S1 ++ [c]) :=
  ⟨by rw [List.length_append]; exact Nat.le_trans a.len (Nat.le_add_right _ _), fun n h hn => by
    rw [List.getElem?_append_left (Nat.lt_of_lt_of_le h a.len)]
    exact a.same n h hn, fun n hn => (a.pot n hn).push⟩
theorem GoS.setNew (h : ∀ n, P n → Pot n S) (a : GoS P S S1) (hn : S.length ≤ n) (c : Cell) : GoS P S (S1.set n c) :=
  ⟨by rw [List.length_set]; exact a.len, fun m hm hp => by
    rw [List.getElem?_set_ne (by omega)]
    exact a.same m hm hp, fun m hm => by
    have := (h m hm).lt
    exact (a.pot m hm).set (by omega)⟩
theorem GoS.get {c : Cell} (a : GoS P S S1) (h : S[n]? = some c) (hn : ¬ P n) : S1[n]? = some c := by
  rw [a.same n (List.getElem?_eq_some_iff.mp h).1 hn]
  exact h
theorem Go.all (g : Go q S S1) (hq : P q) (h : ∀ n, P n → Pot n S) : GoS P S S1 :=
  ⟨g.len, fun n hn hp => g.same n hn fun e => hp (e ▸ hq), fun n hn => by
    by_cases e : n = q
    · subst e; exact g.pot
    · obtain ⟨k, z⟩ := h n hn
      exact ⟨k, g.get z e⟩⟩
theorem GoS.one (g : GoS (· = p) S S1) : Go p S S1 := ⟨g.len, fun n hn e => g.same n hn e, g.pot p rfl⟩
def looksD (ls : List (Int × Int)) : D := .tup (ls.map jmpD)
theorem at_some {α : Type} {xs : List α} {i : Int} (h0 : 0 ≤ i) (h : i < xs.length) : ∃ x, atI xs i = some x ∧ x ∈ xs := by
  have l : i.toNat < xs.length := by omega
  exact ⟨xs[i.toNat], by rw [atI_of h0 h]; exact List.getElem?_eq_getElem l, List.getElem_mem l⟩
end
end Dm
-- text HmCrowd
namespace Dm
open PySem L2
/-! ### looks by their places -/
def Hh (ls : List (Int × Int)) (i : Nat) : Int := (ls.getD i (0, 0)).1
section
variable {S : Sto} {os : List Int} {s : Int} {ls : List (Int × Int)} {n p : Nat}
@[simp] theorem ty_looks : tyOf S (looksD ls) = some .tup := rfl
@[simp] theorem len_looks : gLen S [looksD ls] = some (.int ls.length) := by simp [looksD]
@[simp] theorem ix_looks {i : Int} : gIx S (looksD ls) (.int i) = atI (ls.map jmpD) i := rfl
end
end Dm
-- text HmEarly
namespace Dm
open PySem L2
end Dm
-- text HmFit
namespace Dm
open PySem L2
end Dm
namespace Dm
open PySem L2
/-- data without cells -/
inductive Plain : Nat → D → Prop
  | non {n : Nat} : Plain n .non
  | int {n : Nat} {i : Int} : Plain n (.int i)
  | bl {n : Nat} {b : Bool} : Plain n (.bl b)
  | str {n : Nat} {x : Str} : Plain n (.str x)
  | tup {n : Nat} {ds : List D} : ds.length ≤ 16777216 → (∀ d, d ∈ ds → Plain n d) → Plain (n + 1) (.tup ds)
theorem Plain.eqv {S : Sto} {n : Nat} {d : D} (h : Plain n d) : Eqv S n d d := by
  induction h with
  | non => exact .non
  | int => exact .int
  | bl => exact .bl
  | str => exact .str
  | tup hl _ ih => exact .tup rfl hl fun i d e a b => by rw [a] at b; cases b; exact ih d (List.mem_of_getElem? a)
theorem Plain.up {n m : Nat} {d : D} (h : Plain n d) (hm : n ≤ m) : Plain m d := by
  induction h generalizing m with
  | non => exact .non
  | int => exact .int
  | bl => exact .bl
  | str => exact .str
  | tup hl _ ih =>
    obtain ⟨k, rfl⟩ : ∃ k, m = k + 1 := ⟨m - 1, by omega⟩
    exact .tup hl fun d hd => ih d hd (by omega)
end Dm
-- text HmEtab
namespace Dm
open PySem L2
end Dm
-- text HmHold
namespace Dm
open PySem L2
/-! ### looks that some table has are not crowded -/
end Dm
-- text HmLeft
namespace Dm
open PySem L2
/-! ### looks with one more -/
section
variable {S : Sto} {os : List Int} {s m o : Int} {ls : List (Int × Int)} {n p : Nat}
/-- cells have come -/
def Grow (S S' : Sto) : Prop := ∃ cs, S' = S ++ cs
theorem Grow.refl : Grow S S := ⟨[], (List.append_nil _).symm⟩
theorem Grow.push {S' : Sto} (h : Grow S S') (c : Cell) : Grow S (S' ++ [c]) := by
  obtain ⟨cs, rfl⟩ := h
  exact ⟨cs ++ [c], by rw [List.append_assoc]⟩
theorem Grow.trans {S1 S2 : Sto} (h : Grow S S1) (h2 : Grow S1 S2) : Grow S S2 := by
  obtain ⟨cs, rfl⟩ := h
  obtain ⟨ds, rfl⟩ := h2
  exact ⟨cs ++ ds, by rw [List.append_assoc]⟩
theorem Grow.get {S' : Sto} {c : Cell} (h : Grow S S') (e : S[n]? = some c) : S'[n]? = some c := by
  obtain ⟨cs, rfl⟩ := h
  rw [List.getElem?_append_left (List.getElem?_eq_some_iff.mp e).1]
  exact e
theorem Grow.len {S' : Sto} (h : Grow S S') : S.length ≤ S'.length := by
  obtain ⟨cs, rfl⟩ := h
  rw [List.length_append]; omega
theorem Grow.go {S' : Sto} (h : Grow S S') (hp : Pot p S) : Go p S S' := by
  refine ⟨h.len, fun n hn _ => ?_, ?_⟩
  · obtain ⟨cs, rfl⟩ := h
    rw [List.getElem?_append_left hn]
  · obtain ⟨k, e⟩ := hp
    exact ⟨k, h.get e⟩
end
end Dm
-- text HmFind
namespace Dm
open PySem L2
section
variable {S : Sto} {os : List Int} {s h r : Int} {js : List (Int × Int)} {fold gap : Str}
/-! ### the law's gap -/
/-! ### what is found -/
@[simp] theorem gDIx_new {kvs : List (Key × D)} {y : D} : gDIx (S ++ [.dic kvs]) (.cell S.length) y = (keyD y).bind fun k => valD kvs k := gDIx_cell (by simp)
def RuleF (x : Str) : Prop := x = "early" ∨ x = "late" ∨ x = "refuse"
def RuleG (x : Str) : Prop := x = "ahead" ∨ x = "behind" ∨ x = "refuse"
@[simp] theorem flatD_str {x : Str} : flatD (.str x) = true := rfl
end
end Dm
-- text HmProg
namespace Dm
open PySem L2
/-! ### programs of steps -/
inductive Kd where
  | mom | rdg | spn
  deriving DecidableEq
def Kd.s : Kd → Str
  | .mom => "moment"
  | .rdg => "reading"
  | .spn => "span"
def Kd.d (k : Kd) : D := .str k.s
inductive Stp where
  | read (i p : Nat) | find (i p : Nat) (f g : Str) | offset (i p : Nat) | edition (i p : Nat)
  | plus (i j : Nat) | less (i j : Nat) | add (i : Nat) (m : Int)
def Stp.d : Stp → D
  | .read i p => .tup [.str "read", .int i, .int p]
  | .find i p f g => .tup [.str "find", .int i, .int p, .str f, .str g]
  | .offset i p => .tup [.str "offset", .int i, .int p]
  | .edition i p => .tup [.str "edition", .int i, .int p]
  | .plus i j => .tup [.str "plus", .int i, .int j]
  | .less i j => .tup [.str "less", .int i, .int j]
  | .add i m => .tup [.str "add", .int i, .int m]
def Stp.kind (row : List Kd) : Stp → Kd
  | .read _ _ => .rdg
  | .find _ _ _ _ => .mom
  | .offset _ _ => .spn
  | .edition _ _ => .mom
  | .plus _ _ => .rdg
  | .less _ _ => .mom
  | .add i _ => row.getD i .mom
/-- a step behind values of these kinds, beside nz zones -/
def Stp.OK (nz : Nat) (row : List Kd) : Stp → Prop
  | .read i p => row[i]? = some .mom ∧ p < nz
  | .find i p f g => row[i]? = some .rdg ∧ p < nz ∧ RuleF f ∧ RuleG g
  | .offset i p => row[i]? = some .mom ∧ p < nz
  | .edition i p => row[i]? = some .mom ∧ p < nz
  | .plus i j => row[i]? = some .mom ∧ row[j]? = some .spn
  | .less i j => row[i]? = some .rdg ∧ row[j]? = some .spn
  | .add i m => (row[i]? = some .mom ∨ row[i]? = some .rdg) ∧ -100000 ≤ m ∧ m ≤ 100000
def Stp.isEd : Stp → Bool
  | .edition _ _ => true
  | _ => false
def kindsFrom (row : List Kd) : List Stp → List Kd
  | [] => row
  | t :: ts => kindsFrom (row ++ [t.kind row]) ts
def ProgFrom (nz : Nat) (row : List Kd) : List Stp → Prop
  | [] => True
  | t :: ts => t.OK nz row ∧ ProgFrom nz (row ++ [t.kind row]) ts
def progD (ts : List Stp) : D := .tup (ts.map Stp.d)
/-- a program beside nz zones -/
structure ProgOK (nz : Nat) (ts : List Stp) : Prop where
  len : ts.length ≤ 8
  steps : ProgFrom nz [.mom] ts
  eds : (ts.filter Stp.isEd).length < 2
theorem kindsFrom_snoc (row : List Kd) : ∀ (ts : List Stp) (t : Stp), kindsFrom row (ts ++ [t]) = kindsFrom row ts ++ [t.kind (kindsFrom row ts)]
  | [], t => rfl
  | u :: ts, t => by
    show kindsFrom (row ++ [u.kind row]) (ts ++ [t]) = _
    rw [kindsFrom_snoc]; rfl
theorem progFrom_snoc {nz : Nat} : ∀ {ts : List Stp} {row : List Kd} {t : Stp}, ProgFrom nz row ts → t.OK nz (kindsFrom row ts) → ProgFrom nz row (ts ++ [t])
  | [], _, _, _, h => ⟨h, trivial⟩
  | u :: ts, _, _, ⟨a, b⟩, h => ⟨a, progFrom_snoc b h⟩
theorem kindsFrom_length (row : List Kd) : ∀ ts : List Stp, (kindsFrom row ts).length = row.length + ts.length
  | [] => rfl
  | t :: ts => by
    show (kindsFrom (row ++ [t.kind row]) ts).length = _
    rw [kindsFrom_length]
    simp
    omega
/-! ### the parts of a step -/
section
variable {S : Sto} {zs : List D} {n m : Nat} {row : List Kd}
theorem row_at {i : Nat} {k : Kd} (hn : S[n]? = some (.lst (row.map Kd.d))) (h : row[i]? = some k) : gIx S (.cell n) (.int i) = some (.str k.s) ∧ gLen S [.cell n] = some (.int row.length) ∧ (i : Int) < row.length := by
  have hi := (List.getElem?_eq_some_iff.mp h).1
  refine ⟨?_, by rw [gLen_cell hn, List.length_map], by omega⟩
  rw [gIx_cell hn, atI_of (by omega) (by rw [List.length_map]; omega)]
  simp [h, Kd.d]
theorem part_kind {i : Nat} {k : Kd} (hn : S[n]? = some (.lst (row.map Kd.d))) (h : row[i]? = some k) : m_is_part [.tup zs, .cell n, .str k.s, .int i] S = .ok (.bl true) S := by
  refine pure_of fun Q q => ?_
  refine does_def rfl ?_
  obtain ⟨h1, h2, h3⟩ := row_at hn h
  cases k <;> (simp [h1, h2, h3, Kd.s]; exact q)
theorem part_point {i : Nat} {k : Kd} (hn : S[n]? = some (.lst (row.map Kd.d))) (h : row[i]? = some k) (hk : k ≠ .spn) : m_is_part [.tup zs, .cell n, .str "point", .int i] S = .ok (.bl true) S := by
  refine pure_of fun Q q => ?_
  refine does_def rfl ?_
  obtain ⟨h1, h2, h3⟩ := row_at hn h
  cases k with
  | spn => exact absurd rfl hk
  | mom => simp [h1, h2, h3, Kd.s]; exact q
  | rdg => simp [h1, h2, h3, Kd.s]; exact q
theorem part_place {p : Nat} (h : p < zs.length) : m_is_part [.tup zs, .cell n, .str "place", .int p] S = .ok (.bl true) S := by
  refine pure_of fun Q q => ?_
  refine does_def rfl ?_
  simp [h]; exact q
theorem part_minutes {m : Int} (h : -100000 ≤ m ∧ m ≤ 100000) : m_is_part [.tup zs, .cell n, .str "minutes", .int m] S = .ok (.bl true) S := by
  refine pure_of fun Q q => ?_
  refine does_def rfl ?_
  simp [h]; exact q
theorem part_fold {f : Str} (h : RuleF f) : m_is_part [.tup zs, .cell n, .str "fold", .str f] S = .ok (.bl true) S := by
  refine pure_of fun Q q => ?_
  refine does_def rfl ?_
  rcases h with rfl | rfl | rfl <;> (simp [isTn, gIn, eqF]; exact q)
theorem part_gap {f : Str} (h : RuleG f) : m_is_part [.tup zs, .cell n, .str "gap", .str f] S = .ok (.bl true) S := by
  refine pure_of fun Q q => ?_
  refine does_def rfl ?_
  rcases h with rfl | rfl | rfl <;> (simp [isTn, gIn, eqF]; exact q)
/-! ### steps -/
theorem is_step_ok {t : Stp} (hn : S[n]? = some (.lst (row.map Kd.d))) (h : t.OK zs.length row) : m_is_step [.tup zs, .cell n, t.d] S = .ok (.bl true) S := by
  refine pure_of fun Q q => ?_
  refine does_def rfl ?_
  cases t with
  | read i p =>
    have e1 := part_kind (zs := zs) hn h.1
    have e2 := part_place (S := S) (n := n) h.2
    simp only [Kd.s] at e1
    simp (decide := true) [Stp.d, isTn, tbLook, enumD, wipeD, e1, e2, gAll, lstOf, blsOf]
    exact q
  | offset i p =>
    have e1 := part_kind (zs := zs) hn h.1
    have e2 := part_place (S := S) (n := n) h.2
    simp only [Kd.s] at e1
    simp (decide := true) [Stp.d, isTn, tbLook, enumD, wipeD, e1, e2, gAll, lstOf, blsOf]
    exact q
  | edition i p =>
    have e1 := part_kind (zs := zs) hn h.1
    have e2 := part_place (S := S) (n := n) h.2
    simp only [Kd.s] at e1
    simp (decide := true) [Stp.d, isTn, tbLook, enumD, wipeD, e1, e2, gAll, lstOf, blsOf]
    exact q
  | find i p f g =>
    have e1 := part_kind (zs := zs) hn h.1
    have e2 := part_place (S := S) (n := n) h.2.1
    have e3 := part_fold (S := S) (n := n) (zs := zs) h.2.2.1
    have e4 := part_gap (S := S) (n := n) (zs := zs) h.2.2.2
    simp only [Kd.s] at e1
    simp (decide := true) [Stp.d, isTn, tbLook, enumD, wipeD, atI, ixN, e1, e2, e3, e4, gAll, lstOf, blsOf]
    exact q
  | plus i j =>
    have e1 := part_kind (zs := zs) hn h.1
    have e2 := part_kind (zs := zs) hn h.2
    simp only [Kd.s] at e1 e2
    simp (decide := true) [Stp.d, isTn, tbLook, enumD, wipeD, e1, e2, gAll, lstOf, blsOf]
    exact q
  | less i j =>
    have e1 := part_kind (zs := zs) hn h.1
    have e2 := part_kind (zs := zs) hn h.2
    simp only [Kd.s] at e1 e2
    simp (decide := true) [Stp.d, isTn, tbLook, enumD, wipeD, e1, e2, gAll, lstOf, blsOf]
    exact q
  | add i m =>
    have e2 := part_minutes (S := S) (n := n) (zs := zs) h.2
    have e1 : m_is_part [.tup zs, .cell n, .str "point", .int i] S = .ok (.bl true) S := by
      rcases h.1 with h | h
      · exact part_point hn h (by decide)
      · exact part_point hn h (by decide)
    simp (decide := true) [Stp.d, isTn, tbLook, enumD, wipeD, e1, e2, gAll, lstOf, blsOf]
    exact q
theorem kind_made_ok {t : Stp} (hn : S[n]? = some (.lst (row.map Kd.d))) (h : t.OK m row) : m_kind_made [.cell n, t.d] S = .ok (t.kind row).d S := by
  refine pure_of fun Q q => ?_
  refine does_def rfl ?_
  cases t with
  | add i m =>
    have e : ∃ k, row[i]? = some k := by rcases h.1 with h | h <;> exact ⟨_, h⟩
    obtain ⟨k, e⟩ := e
    obtain ⟨h1, h2, h3⟩ := row_at hn e
    simp [Stp.d, h1]
    simp [Stp.kind, e, Kd.d] at q
    exact q
  | _ => simp (decide := true) [Stp.d, tbLook]; exact q
theorem kinds_of_does {ts : List Stp} {Q : D → Sto → Prop} (h : ProgFrom m [.mom] ts) (hl : ts.length ≤ 60) (q : Q (.cell S.length) (S ++ [.lst ((kindsFrom [.mom] ts).map Kd.d)])) : (m_kinds_of [progD ts] S).Does Q := by
  refine does_def rfl ?_
  simp [progD]
  refine forL_cut (fun ds ρ S' => ∃ us row x2, ds = (us : List Stp).map Stp.d ∧ ρ = [some (.tup (ts.map Stp.d)), some (.cell S.length), x2] ∧ S' = S ++ [.lst (row.map Kd.d)] ∧ ProgFrom m row us ∧ kindsFrom row us = kindsFrom [.mom] ts ∧ row.length + us.length ≤ 61) _
    ⟨ts, [.mom], _, rfl, rfl, rfl, h, rfl, by simp; omega⟩ ?_ ?_
  · rintro d r ρ S1 ⟨us, row, x2, e, rfl, rfl, hp, hk, hl⟩
    cases us with
    | nil => cases e
    | cons u us =>
      simp at e
      obtain ⟨rfl, rfl⟩ := e
      refine ⟨_, rfl, fun M hM => ?_⟩
      have hn : (S ++ [.lst (row.map Kd.d)])[S.length]? = some (.lst (row.map Kd.d)) := by simp
      simp at hl
      simp [kind_made_ok hn hp.1]
      refine ⟨by omega, hM _ _ ⟨us, row ++ [u.kind row], _, rfl, rfl, by simp, hp.2, hk, by simp; omega⟩⟩
  · rintro ρ S1 ⟨us, row, x2, e, rfl, rfl, hp, hk, hl⟩
    cases us with
    | nil =>
      simp
      rw [← hk] at q
      exact q
    | cons u us => cases e
end
end Dm
-- text HmProg2
namespace Dm
open PySem L2
abbrev Zs := List (List Int × Int)
def zonesD (zs : Zs) : D := .tup (zs.map fun z => zoneD z.1 z.2)
/-- one or two zones -/
structure ZsOK (zs : Zs) : Prop where
  all : ∀ z, z ∈ zs → ZoneOK z.1 z.2
  len : zs.length = 1 ∨ zs.length = 2
section
variable {S : Sto} {zs : Zs} {ts : List Stp}
theorem is_zones_ok (z : ZsOK zs) : m_is_zones [zonesD zs] S = .ok (.bl true) S := by
  refine pure_of fun Q q => ?_
  refine does_def rfl ?_
  obtain ⟨h, l⟩ := z
  match zs, h, l with
  | [], _, l => simp at l
  | [a], h, _ =>
    have h1 := h a (by simp)
    simp [zonesD, isTn, wipeD]
    rw [lcAQ_fix (n := 1) (ds := [zoneD a.1 a.2]) (.inl rfl) rfl]
    simp [is_zone_ok h1, gAll, lstOf, blsOf]
    exact q
  | [a, b], h, _ =>
    have h1 := h a (by simp)
    have h2 := h b (by simp)
    simp [zonesD, isTn, wipeD]
    rw [lcAQ_fix (n := 2) (ds := [zoneD a.1 a.2, zoneD b.1 b.2]) (.inl rfl) rfl]
    simp [is_zone_ok h1, is_zone_ok h2, gAll, lstOf, blsOf]
    exact q
  | _ :: _ :: _ :: _, _, l => simp at l
theorem need_zones_ok (z : ZsOK zs) : m_need_zones [zonesD zs] S = .ok .non S := by
  refine pure_of fun Q q => ?_
  refine does_def rfl ?_
  simp [is_zones_ok z]
  exact q
theorem isEd_does {t : Stp} {ρ : Rho} {i : Nat} (hi : ρ[i]? = some (some t.d)) : ∀ Q : D → Sto → Prop, Q (.bl t.isEd) S → (mOp gEq (mOp gIx (mVar i) (mK (.int 0))) (mK (.str "edition")) ρ S).Does Q := by
  intro Q q
  cases t <;> (simp (decide := true) [hi, Stp.d]; exact q)
theorem is_program_does {Q : D → Sto → Prop} (z : ZsOK zs) (h : ProgOK zs.length ts) (q : Q (.bl true) (S ++ [.lst ((kindsFrom [.mom] ts).map Kd.d)])) : (m_is_program [zonesD zs, progD ts] S).Does Q := by
  have hl := h.len
  have he := h.eds
  refine does_def rfl ?_
  simp [need_zones_ok z, progD, isTn, hl]
  have hl' : ¬ (8 : Int) < ts.length := by omega
  simp [hl']
  refine forL_cut (fun ds ρ S' => ∃ us row x3, ds = (us : List Stp).map Stp.d ∧ ρ = [some (zonesD zs), some (.tup (ts.map Stp.d)), some (.cell S.length), x3] ∧ S' = S ++ [.lst (row.map Kd.d)] ∧ ProgFrom zs.length row us ∧ kindsFrom row us = kindsFrom [.mom] ts ∧ row.length + us.length ≤ 61) _
    ⟨ts, [.mom], _, rfl, rfl, rfl, h.steps, rfl, by simp; omega⟩ ?_ ?_
  · rintro d r ρ S1 ⟨us, row, x2, e, rfl, rfl, hp, hk, hl⟩
    cases us with
    | nil => cases e
    | cons u us =>
      simp at e
      obtain ⟨rfl, rfl⟩ := e
      refine ⟨_, rfl, fun M hM => ?_⟩
      have hn : (S ++ [.lst (row.map Kd.d)])[S.length]? = some (.lst (row.map Kd.d)) := by simp
      have hs := is_step_ok (zs := zs.map fun z => zoneD z.1 z.2) hn (t := u) (by rw [List.length_map]; exact hp.1)
      simp at hl
      simp [zonesD, hs, kind_made_ok hn hp.1]
      refine ⟨by omega, hM _ _ ⟨us, row ++ [u.kind row], _, rfl, rfl, by simp, hp.2, hk, by simp; omega⟩⟩
  · rintro ρ S1 ⟨us, row, x2, e, rfl, rfl, hp, hk, hl⟩
    cases us with
    | cons u us => cases e
    | nil =>
      simp [wipeD]
      rw [lcAQ_fix (.inl rfl) (by simp)]
      refine lcQ_filter (as := ts) (i := Stp.d) Stp.isEd Stp.d ?_ ?_
      · intro t _
        refine ⟨_, rfl, isEd_does rfl, fun Q _ q => ?_⟩
        simp
        exact q
      · simp
        have : ((ts.filter Stp.isEd).length : Int) < 2 := by omega
        simp [this]
        rw [← hk] at q
        exact q
theorem need_program_does {Q : D → Sto → Prop} (z : ZsOK zs) (h : ProgOK zs.length ts) (q : Q .non (S ++ [.lst ((kindsFrom [.mom] ts).map Kd.d)])) : (m_need_program [zonesD zs, progD ts] S).Does Q := by
  refine does_def rfl ?_
  simp
  refine is_program_does z h ?_
  simp
  exact q
theorem kinds_does {Q : D → Sto → Prop} (z : ZsOK zs) (h : ProgOK zs.length ts) (q : Q (.cell (S.length + 1)) (S ++ [.lst ((kindsFrom [.mom] ts).map Kd.d), .lst ((kindsFrom [.mom] ts).map Kd.d)])) : (m_kinds [zonesD zs, progD ts] S).Does Q := by
  refine does_def rfl ?_
  simp [need_zones_ok z]
  refine need_program_does z h ?_
  refine kinds_of_does h.steps (by have := h.len; omega) ?_
  simpa using q
end
end Dm
-- text HmDeed
namespace Dm
open PySem L2
theorem atI_lastL {α : Type} {l : List α} (h : l ≠ []) : ∃ x, x ∈ l ∧ atI l (-1) = some x := by
  have hp : 0 < l.length := List.length_pos_iff.mpr h
  have h1 : (0 : Int) ≤ -1 + (l.length : Int) := by omega
  have h2 : (-1 + (l.length : Int)).toNat = l.length - 1 := by omega
  refine ⟨l[l.length - 1]'(by omega), List.getElem_mem _, ?_⟩
  have h3 : (1 : Int) ≤ l.length := by omega
  simp [atI, ixN, h2, h3]
theorem atI_memL {α : Type} {l : List α} {r : Int} (h0 : 0 ≤ r) (h : r < l.length) : ∃ x, x ∈ l ∧ atI l r = some x := by
  rw [atI_of h0 h]
  have : r.toNat < l.length := by omega
  exact ⟨l[r.toNat], List.getElem_mem _, List.getElem?_eq_getElem this⟩
theorem kd_eq (a b : Kd) : (a.s == b.s) = decide (a = b) := by cases a <;> cases b <;> decide
theorem kd_point (k : Kd) : (k.s == ("point" : Str)) = false := by cases k <;> decide
section
variable {S : Sto} {p n r : Nat} {row : List Kd}
theorem spot_does {k : Kd} {Q : D → Sto → Prop} (hp : Bag p (n + 2) S) (hr : S[r]? = some (.lst (row.map Kd.d))) (hrp : r ≠ p) (hk : k ∈ row) (hl : row.length ≤ 60) (q : ∀ (i : Nat) S', Bag p n S' → GoB p S S' → row[i]? = some k → Q (.int i) S') :
    (m_law_spot [.cell p, .cell r, k.d] S).Does Q := by
  refine does_def rfl ?_
  refine seq_cut (fun ρ S' => S' = S ∧ ∃ l x4, ρ = [some (.cell p), some (.cell r), some k.d, some (.lst ((l : List Nat).map fun i : Nat => D.int i)), x4] ∧ l ≠ [] ∧ l.length ≤ 60 ∧ ∀ i, i ∈ l → row[i]? = some k) (fun M hM => ?_) ?_
  · simp [gLen_cell hr]
    refine ⟨by omega, ?_⟩
    unfold rngD
    refine lcQ_filter (as := List.range row.length) (i := fun i : Nat => D.int (0 + i)) (fun i => decide (row[i]? = some k)) (fun i : Nat => D.int i) ?_ ?_
    · intro i hi
      have hi' : i < row.length := List.mem_range.mp hi
      have e : row[i]? = some row[i] := List.getElem?_eq_getElem hi'
      obtain ⟨h1, h2, h3⟩ := row_at hr e
      refine ⟨_, rfl, fun Q q => ?_, fun Q _ q => ?_⟩
      · simp [wipeD, h1, Kd.d, kd_eq, kd_point]
        rw [e] at q
        by_cases c : row[i] = k
        · simp [c] at q ⊢
          exact q
        · simp [c] at q ⊢
          exact q
      · simp [wipeD]
        exact q
    · refine hM _ _ ⟨rfl, _, _, rfl, ?_, ?_, ?_⟩
      · obtain ⟨i, e⟩ := List.mem_iff_getElem?.mp hk
        exact List.ne_nil_of_mem (a := i) (List.mem_filter.mpr ⟨List.mem_range.mpr (List.getElem?_eq_some_iff.mp e).1, decide_eq_true e⟩)
      · exact Nat.le_trans (List.length_filter_le _ _) (by simpa using hl)
      · intro i hi
        exact of_decide_eq_true (List.mem_filter.mp hi).2
  rintro ρ _ ⟨rfl, l, x4, rfl, ne, ll, hi⟩
  have ne' : l.map (fun i : Nat => D.int i) ≠ [] := by simpa using ne
  simp
  refine pick_does (n := n + 1) hp (by decide) (by decide) fun c S1 b1 g1 r0 r1 => ?_
  by_cases hc : c = 0
  · simp [hc]
    obtain ⟨x, hx, e⟩ := atI_lastL ne'
    obtain ⟨i, hi', rfl⟩ := List.mem_map.mp hx
    rw [e]
    exact q i _ (b1.mono (by omega)) g1 (hi i hi')
  · simp [hc]
    have : 0 < l.length := List.length_pos_iff.mpr ne
    refine pick_does (n := n) b1 (by omega) (by omega) fun c2 S2 b2 g2 s0 s1 => ?_
    obtain ⟨x, hx, e⟩ := atI_memL (l := l.map fun i : Nat => D.int i) s0 (by simpa using s1)
    obtain ⟨i, hi', rfl⟩ := List.mem_map.mp hx
    simp [e]
    exact q i _ b2 (g1.trans g2) (hi i hi')
theorem rules_does {Q : D → Sto → Prop} (hp : Bag p (n + 2) S) (q : ∀ f g S', Bag p n S' → GoB p S S' → RuleF f → RuleG g → Q (.tup [.str f, .str g]) S') : (m_law_any_rules [.cell p] S).Does Q := by
  refine does_def rfl ?_
  simp
  refine pick_does (n := n + 1) hp (by decide) (by decide) fun c S1 b1 g1 r0 r1 => ?_
  have e1 : ∃ f, RuleF f ∧ atI [D.str "early", .str "late", .str "refuse"] c = some (.str f) := by
    have e : c = 0 ∨ c = 1 ∨ c = 2 := by omega
    rcases e with rfl | rfl | rfl
    · exact ⟨_, .inl rfl, by simp⟩
    · exact ⟨_, .inr (.inl rfl), by simp⟩
    · exact ⟨_, .inr (.inr rfl), by simp⟩
  obtain ⟨f, hf, ef⟩ := e1
  simp [ef]
  refine pick_does (n := n) b1 (by decide) (by decide) fun c2 S2 b2 g2 s0 s1 => ?_
  have e2 : ∃ g, RuleG g ∧ atI [D.str "ahead", .str "behind", .str "refuse"] c2 = some (.str g) := by
    have e : c2 = 0 ∨ c2 = 1 ∨ c2 = 2 := by omega
    rcases e with rfl | rfl | rfl
    · exact ⟨_, .inl rfl, by simp⟩
    · exact ⟨_, .inr (.inl rfl), by simp⟩
    · exact ⟨_, .inr (.inr rfl), by simp⟩
  obtain ⟨g, hg, eg⟩ := e2
  simp [eg]
  exact q f g _ b2 (g1.trans g2) hf hg
theorem in_row (hr : S[r]? = some (.lst (row.map Kd.d))) (k : Kd) : gIn false S (.str k.s) (.cell r) = some (.bl (decide (k ∈ row))) := by
  unfold gIn
  rw [seqOf_cell hr]
  have h1 : (row.map Kd.d).all flatD = true := by simp [Kd.d, flatD]
  have h2 : ((row.map Kd.d).any fun x => eqF x (.str k.s)) = decide (k ∈ row) := by
    rw [List.any_map]
    have : (fun x => eqF x (.str k.s)) ∘ Kd.d = fun a : Kd => decide (a = k) := by
      funext a
      show eqF (.str a.s) (.str k.s) = _
      show (a.s == k.s) = _
      exact kd_eq a k
    rw [this]
    by_cases c : k ∈ row
    · rw [decide_eq_true c, List.any_eq_true]
      exact ⟨k, c, decide_eq_true rfl⟩
    · rw [decide_eq_false c, List.any_eq_false]
      intro x hx
      simp only [decide_eq_true_eq]
      rintro rfl
      exact c hx
  simp only [h1, h2, flatD_str, and_self, if_true, Bool.false_eq_true, if_false]
theorem minutes_does {zs : Zs} {Q : D → Sto → Prop} (hp : Bag p (n + 5) S) (z : ZsOK zs) (q : ∀ m S', Bag p n S' → GoB p S S' → -100000 ≤ m ∧ m ≤ 100000 → Q (.int m) S') : (m_law_minutes [.cell p, zonesD zs, .int 0] S).Does Q := by
  refine does_def rfl ?_
  simp [zonesD]
  have hz : 0 < zs.length ∧ zs.length ≤ 2 := by rcases z.len with h | h <;> omega
  refine pick_does (n := n + 4) hp (by omega) (by omega) fun c S1 b1 g1 r0 r1 => ?_
  obtain ⟨x, hx, e⟩ := atI_memL (l := zs.map fun z => zoneD z.1 z.2) r0 (by simpa using r1)
  obtain ⟨⟨os, s⟩, hz', rfl⟩ := List.mem_map.mp hx
  have zo : ZoneOK os s := z.all _ hz'
  have hw : ∃ a b : Int, atI (os.map D.int) (-1) = some (.int b) ∧ atI (os.map D.int) 0 = some (.int a) ∧ 0 ≤ b - a ∧ b - a < s ∧ s ≤ 1000000 := by
    cases zo with
    | one a s h1 h2 h3 h4 => exact ⟨a, a, by simp, by simp, by omega, by omega, h4⟩
    | two a b s h1 h2 h3 h4 h5 => exact ⟨a, b, by simp, by simp, by omega, by omega, h5⟩
    | three a b c s h1 h2 h3 h4 h5 h6 => exact ⟨a, c, by simp, by simp, by omega, by omega, h6⟩
  obtain ⟨a, b, ea, eb, w0, w1, w2⟩ := hw
  rw [gIx_tup, e]
  simp [zoneD, ea, eb]
  refine pick_does (n := n + 3) b1 (by decide) (by decide) fun c2 S2 b2 g2 s0 s1 => ?_
  refine pick_does (n := n + 2) b2 (by decide) (by decide) fun c3 S3 b3 g3 t0 t1 => ?_
  have e3 : ∃ v : Int, 0 ≤ v ∧ atI [D.int 1, .int s, .int (b - a), .int 60, .int 100000, .int c2, .int 300, .int (s - (b - a)), .int (s + (b - a))] c3 = some (.int v) := by
    have e : c3 = 0 ∨ c3 = 1 ∨ c3 = 2 ∨ c3 = 3 ∨ c3 = 4 ∨ c3 = 5 ∨ c3 = 6 ∨ c3 = 7 ∨ c3 = 8 := by omega
    rcases e with e | e | e | e | e | e | e | e | e <;> subst e
    · exact ⟨1, by omega, by simp⟩
    · exact ⟨s, by omega, by simp⟩
    · exact ⟨b - a, by omega, by simp⟩
    · exact ⟨60, by omega, by simp [atI, ixN]⟩
    · exact ⟨100000, by omega, by simp [atI, ixN]⟩
    · exact ⟨c2, by omega, by simp [atI, ixN]⟩
    · exact ⟨300, by omega, by simp [atI, ixN]⟩
    · exact ⟨s - (b - a), by omega, by simp [atI, ixN]⟩
    · exact ⟨s + (b - a), by omega, by simp [atI, ixN]⟩
  obtain ⟨v, v0, ev⟩ := e3
  try rw [gIx_lst]
  rw [ev]
  simp
  refine pick_does (n := n + 1) b3 (by decide) (by decide) fun c4 S4 b4 g4 u0 u1 => ?_
  simp
  refine pick_does (n := n) b4 (by decide) (by decide) fun c5 S5 b5 g5 x0 x1 => ?_
  have hw : -1 ≤ (if v + c4 - 1 < 100000 then v + c4 - 1 else 100000) ∧ (if v + c4 - 1 < 100000 then v + c4 - 1 else 100000) ≤ 100000 := by split <;> omega
  generalize (if v + c4 - 1 < 100000 then v + c4 - 1 else 100000) = w at hw
  have k1 : CMulW 2 c5 := cmulw64 (by omega) (by omega)
  have k2 : CMulW w (1 - 2 * c5) := cmulw64 (by omega) (by omega)
  have g := g1.trans (g2.trans (g3.trans (g4.trans g5)))
  have e : c5 = 0 ∨ c5 = 1 := by omega
  rcases e with rfl | rfl
  · simp at k2
    simp [k1, k2]
    exact q _ _ b5 g (by omega)
  · simp at k2
    simp [k1, k2]
    exact q _ _ b5 g (by omega)
theorem stp_py {t : Stp} {nz : Nat} (h : t.OK nz row) : ∃ q, toPy t.d = some q ∧ q.canLay0 = true ∧ q.depth ≤ 1 := by
  cases t with
  | find i p f g =>
    obtain ⟨_, _, hf, hg⟩ := h
    refine ⟨_, rfl, ?_, by simp [PyData.depth, PyData.depthAll]⟩
    rcases hf with rfl | rfl | rfl <;> rcases hg with rfl | rfl | rfl <;> (simp [PyData.canLay0, PyData.canLayAll0]; decide +kernel)
  | _ => exact ⟨_, rfl, by simp [PyData.canLay0, PyData.canLayAll0]; decide +kernel, by simp [PyData.depth, PyData.depthAll]⟩
end
end Dm
-- text HmWanted
namespace Dm
open PySem L2
section
variable {S : Sto} {p n r : Nat} {row : List Kd}
theorem kindsFrom_mem {k : Kd} : ∀ {ts : List Stp} {row : List Kd}, k ∈ row → k ∈ kindsFrom row ts
  | [], _, h => h
  | t :: ts, row, h => kindsFrom_mem (ts := ts) (List.mem_append_left _ h)
end
end Dm
-- text HmPlan
namespace Dm
open PySem L2
def Stp.isFind : Stp → Bool
  | .find _ _ _ _ => true
  | _ => false
def Stp.isConv : Stp → Bool
  | .find _ _ _ _ => true
  | .read _ _ => true
  | .offset _ _ => true
  | .edition _ _ => true
  | _ => false
section
variable {S : Sto} {p n r : Nat} {row : List Kd}
theorem spot_point_does {Q : D → Sto → Prop} (hp : Bag p (n + 2) S) (hr : S[r]? = some (.lst (row.map Kd.d))) (hrp : r ≠ p) (hk : .mom ∈ row) (hl : row.length ≤ 60) (q : ∀ (i : Nat) S', Bag p n S' → GoB p S S' → (row[i]? = some .mom ∨ row[i]? = some .rdg) → Q (.int i) S') :
    (m_law_spot [.cell p, .cell r, .str "point"] S).Does Q := by
  refine does_def rfl ?_
  refine seq_cut (fun ρ S' => S' = S ∧ ∃ l x4, ρ = [some (.cell p), some (.cell r), some (.str "point"), some (.lst ((l : List Nat).map fun i : Nat => D.int i)), x4] ∧ l ≠ [] ∧ l.length ≤ 60 ∧ ∀ i, i ∈ l → (row[i]? = some .mom ∨ row[i]? = some .rdg)) (fun M hM => ?_) ?_
  · simp [gLen_cell hr]
    refine ⟨by omega, ?_⟩
    unfold rngD
    refine lcQ_filter (as := List.range row.length) (i := fun i : Nat => D.int (0 + i)) (fun i => decide (row[i]? = some .mom ∨ row[i]? = some .rdg)) (fun i : Nat => D.int i) ?_ ?_
    · intro i hi
      have hi' : i < row.length := List.mem_range.mp hi
      have e : row[i]? = some row[i] := List.getElem?_eq_getElem hi'
      obtain ⟨h1, h2, h3⟩ := row_at hr e
      refine ⟨_, rfl, fun Q q => ?_, fun Q _ q => ?_⟩
      · simp [wipeD, h1, kd_point]
        rw [e] at q
        revert q
        cases row[i] <;> (intro q; simp (decide := true) [Kd.s] at q ⊢; exact q)
      · simp [wipeD]
        exact q
    · refine hM _ _ ⟨rfl, _, _, rfl, ?_, ?_, ?_⟩
      · obtain ⟨i, e⟩ := List.mem_iff_getElem?.mp hk
        exact List.ne_nil_of_mem (a := i) (List.mem_filter.mpr ⟨List.mem_range.mpr (List.getElem?_eq_some_iff.mp e).1, decide_eq_true (.inl e)⟩)
      · exact Nat.le_trans (List.length_filter_le _ _) (by simpa using hl)
      · intro i hi
        exact of_decide_eq_true (List.mem_filter.mp hi).2
  rintro ρ _ ⟨rfl, l, x4, rfl, ne, ll, hi⟩
  have ne' : l.map (fun i : Nat => D.int i) ≠ [] := by simpa using ne
  simp
  refine pick_does (n := n + 1) hp (by decide) (by decide) fun c S1 b1 g1 r0 r1 => ?_
  by_cases hc : c = 0
  · simp [hc]
    obtain ⟨x, hx, e⟩ := atI_lastL ne'
    obtain ⟨i, hi', rfl⟩ := List.mem_map.mp hx
    rw [e]
    exact q i _ (b1.mono (by omega)) g1 (hi i hi')
  · simp [hc]
    have : 0 < l.length := List.length_pos_iff.mpr ne
    refine pick_does (n := n) b1 (by omega) (by omega) fun c2 S2 b2 g2 s0 s1 => ?_
    obtain ⟨x, hx, e⟩ := atI_memL (l := l.map fun i : Nat => D.int i) s0 (by simpa using s1)
    obtain ⟨i, hi', rfl⟩ := List.mem_map.mp hx
    simp [e]
    exact q i _ b2 (g1.trans g2) (hi i hi')
/-- few minutes -/
theorem minutes1_does {b : D} {Q : D → Sto → Prop} (hp : Bag p (n + 1) S) (q : ∀ m S', Bag p n S' → GoB p S S' → -2 ≤ m ∧ m ≤ 2 → Q (.int m) S') : (m_law_minutes [.cell p, b, .int 1] S).Does Q := by
  refine does_def rfl ?_
  simp
  refine pick_does (n := n) hp (by decide) (by decide) fun c S1 b1 g1 r0 r1 => ?_
  simp
  exact q _ _ b1 g1 (by omega)
/-- the words that may come next -/
def NW (row : List Kd) (a b c : Int) (w : Str) : Prop := w = "add" ∨ (w = "plus" ∧ Kd.spn ∈ row) ∨ (w = "less" ∧ Kd.spn ∈ row ∧ Kd.rdg ∈ row) ∨ (0 < a ∧ (w = "read" ∨ w = "offset" ∨ (w = "edition" ∧ 0 < c) ∨ (w = "find" ∧ 0 < b ∧ Kd.rdg ∈ row)))
def nwA : List Str := ["add", "add", "read", "read", "read", "offset"]
theorem next_words_does {a b c d : Int} {Q : D → Sto → Prop} (hr : S[r]? = some (.lst (row.map Kd.d))) (c0 : 0 ≤ c) (q : ∀ ws : List Str, ws ≠ [] → ws.length ≤ 60 → (∀ w, w ∈ ws → NW row a b c w) → Q (.lst (ws.map D.str)) S) :
    (m_law_next_words [.cell r, .lst [.int a, .int b, .int c, .int d]] S).Does Q := by
  refine does_def rfl ?_
  have hsp := in_row hr .spn
  have hrd := in_row hr .rdg
  simp only [Kd.s] at hsp hrd
  refine seq_cut (fun ρ S' => S' = S ∧ ∃ ws : List Str, ρ = [some (.cell r), some (.lst [.int a, .int b, .int c, .int d]), some (.lst (ws.map D.str))] ∧ ws ≠ [] ∧ ws.length ≤ 3 ∧ ∀ w, w ∈ ws → NW row a b c w) (fun M hM => ?_) ?_
  · simp [hsp, hrd]
    by_cases h1 : Kd.spn ∈ row
    · by_cases h2 : Kd.rdg ∈ row
      · simp [h1, h2]
        exact hM _ _ ⟨rfl, ["add", "plus", "less"], rfl, by simp, by simp, by simp [NW, h1, h2]⟩
      · simp [h1, h2]
        exact hM _ _ ⟨rfl, ["add", "plus"], rfl, by simp, by simp, by simp [NW, h1, h2]⟩
    · simp [h1]
      exact hM _ _ ⟨rfl, ["add"], rfl, by simp, by simp, by simp [NW]⟩
  rintro ρ S' ⟨rfl, ws, rfl, ne, ll, hw⟩
  by_cases ca : 0 < a
  · have hm : ∃ k : Nat, (if c < 2 then c else 2) = (k : Int) ∧ k ≤ 2 ∧ (0 < k → 0 < c) := ⟨(if c < 2 then c else 2).toNat, by split <;> omega, by split <;> omega, by split <;> omega⟩
    obtain ⟨k, ek, k2, kc⟩ := hm
    simp [ca, hrd, ek]
    have m9 : ∀ i : Int, 0 ≤ i → i ≤ 1 → CMulW 9 i := fun i h0 h1 => cmulw64 (by omega) (by omega)
    have base : ∀ w, w ∈ ws ++ (nwA ++ List.replicate k ("edition" : Str)) → NW row a b c w := by
      intro w h
      rcases List.mem_append.mp h with h | h
      · exact hw w h
      rcases List.mem_append.mp h with h | h
      · simp [nwA] at h
        rcases h with rfl | rfl | rfl <;> simp [NW, ca]
      · rw [List.mem_replicate] at h
        obtain ⟨hk, rfl⟩ := h
        simp [NW, ca, kc (by omega)]
    have more : ∀ j : Nat, (j = 0 ∨ (0 < b ∧ Kd.rdg ∈ row)) → j ≤ 9 → Q (.lst ((ws ++ (nwA ++ List.replicate k ("edition" : Str)) ++ List.replicate j ("find" : Str)).map D.str)) S' := by
      intro j hj j9
      refine q _ ?_ ?_ fun w h => ?_
      · intro h
        have : ws = [] := by
          have := congrArg List.length h
          simp [nwA] at this
        exact ne this
      · rw [List.length_append, List.length_append, List.length_append, List.length_replicate, List.length_replicate]
        simp [nwA]
        omega
      · rcases List.mem_append.mp h with h | h
        · exact base w h
        · rw [List.mem_replicate] at h
          obtain ⟨h0, rfl⟩ := h
          rcases hj with hj | ⟨h1, h2⟩
          · exact absurd hj h0
          · simp [NW, ca, h1, h2]
    refine ⟨by omega, by omega, by omega, ?_⟩
    by_cases cb : 0 < b
    · by_cases cr : Kd.rdg ∈ row
      · simp [cb, cr, m9 1 (by decide) (by decide)]
        refine ⟨by omega, ?_⟩
        have := more 9 (.inr ⟨cb, cr⟩) (by decide)
        simpa [nwA] using this
      · simp [cb, cr, m9 0 (by decide) (by decide)]
        refine ⟨by omega, ?_⟩
        have := more 0 (.inl rfl) (by decide)
        simpa [nwA] using this
    · simp [cb, m9 0 (by decide) (by decide)]
      refine ⟨by omega, ?_⟩
      have := more 0 (.inl rfl) (by decide)
      simpa [nwA] using this
  · simp [ca]
    exact q ws ne (by omega) hw
end
end Dm
-- text HmPlan2
namespace Dm
open PySem L2
/-- a drawn step -/
structure PGood (nz : Nat) (row : List Kd) (a b c : Int) (t : Stp) : Prop where
  ok : t.OK nz row
  conv : t.isConv = true → 0 < a
  find : t.isFind = true → 0 < b
  ed : t.isEd = true → 0 < c
section
variable {S : Sto} {p n r : Nat} {row : List Kd} {zs : Zs}
theorem any_deed_does {a b c d : Int} {Q : D → Sto → Prop} (hp : Bag p (n + 20) S) (z : ZsOK zs) (hr : S[r]? = some (.lst (row.map Kd.d))) (hrp : r ≠ p) (hm : .mom ∈ row) (hl : row.length ≤ 60) (c0 : 0 ≤ c) (hd : d = 0 ∨ d = 1)
    (q : ∀ t S', Bag p n S' → GoB p S S' → PGood zs.length row a b c t → Q t.d S') : (m_law_any_deed [.cell p, zonesD zs, .cell r, .lst [.int a, .int b, .int c, .int d]] S).Does Q := by
  refine does_def rfl ?_
  have hz : 0 < zs.length ∧ zs.length ≤ 2 := by rcases z.len with h | h <;> omega
  simp
  refine next_words_does hr c0 fun ws ne wl hw => ?_
  have wp : 0 < ws.length := List.length_pos_iff.mpr ne
  simp
  refine pick_does (n := n + 19) hp (by omega) (by omega) fun v S1 b1 g1 r0 r1 => ?_
  obtain ⟨x, hx, e⟩ := atI_memL (l := ws.map D.str) r0 (by simpa using r1)
  obtain ⟨w, hw1, rfl⟩ := List.mem_map.mp hx
  have nw := hw w hw1
  simp [e]
  have hr1 := g1.get hr hrp
  rcases nw with rfl | ⟨rfl, h1⟩ | ⟨rfl, h1, h2⟩ | ⟨ha, nw⟩
  · simp
    refine spot_point_does (n := n + 17) b1 hr1 hrp hm hl fun i S2 b2 g2 hi => ?_
    rcases hd with rfl | rfl
    · refine minutes_does (n := n + 12) b2 z fun m S3 b3 g3 hm' => ?_
      exact q (.add i m) S3 (b3.mono (by omega)) (g1.trans (g2.trans g3)) ⟨⟨hi, hm'⟩, fun h => (nomatch h), fun h => (nomatch h), fun h => (nomatch h)⟩
    · refine minutes1_does (n := n + 16) b2 fun m S3 b3 g3 hm' => ?_
      exact q (.add i m) S3 (b3.mono (by omega)) (g1.trans (g2.trans g3)) ⟨⟨hi, by omega⟩, fun h => (nomatch h), fun h => (nomatch h), fun h => (nomatch h)⟩
  · simp
    refine spot_does (n := n + 17) (k := .mom) b1 hr1 hrp hm hl fun i S2 b2 g2 hi => ?_
    refine spot_does (n := n + 15) (k := .spn) b2 (g2.get hr1 hrp) hrp h1 hl fun j S3 b3 g3 hj => ?_
    exact q (.plus i j) S3 (b3.mono (by omega)) (g1.trans (g2.trans g3)) ⟨⟨hi, hj⟩, fun h => (nomatch h), fun h => (nomatch h), fun h => (nomatch h)⟩
  · simp
    refine spot_does (n := n + 17) (k := .rdg) b1 hr1 hrp h2 hl fun i S2 b2 g2 hi => ?_
    refine spot_does (n := n + 15) (k := .spn) b2 (g2.get hr1 hrp) hrp h1 hl fun j S3 b3 g3 hj => ?_
    exact q (.less i j) S3 (b3.mono (by omega)) (g1.trans (g2.trans g3)) ⟨⟨hi, hj⟩, fun h => (nomatch h), fun h => (nomatch h), fun h => (nomatch h)⟩
  · have place : ∀ {Q2 : D → Sto → Prop}, (∀ (v : Nat) S2, v < zs.length → Bag p (n + 18) S2 → GoB p S1 S2 → Q2 (.int v) S2) → (m_law_pick [.cell p, .int zs.length] S1).Does Q2 := by
      intro Q2 h
      refine pick_does (n := n + 18) b1 (by omega) (by omega) fun v S2 b2 g2 r0 r1 => ?_
      have ev : v = ((v.toNat : Nat) : Int) := by omega
      rw [ev]
      exact h v.toNat S2 (by omega) b2 g2
    rcases nw with rfl | rfl | ⟨rfl, hc⟩ | ⟨rfl, hb, h2⟩
    · simp (decide := true) [zonesD]
      refine place fun v S2 hv b2 g2 => ?_
      refine spot_does (n := n + 16) (k := .mom) b2 (g2.get hr1 hrp) hrp hm hl fun i S3 b3 g3 hi => ?_
      exact q (.read i v) S3 (b3.mono (by omega)) (g1.trans (g2.trans g3)) ⟨⟨hi, hv⟩, fun _ => ha, fun h => (nomatch h), fun h => (nomatch h)⟩
    · simp (decide := true) [zonesD]
      refine place fun v S2 hv b2 g2 => ?_
      refine spot_does (n := n + 16) (k := .mom) b2 (g2.get hr1 hrp) hrp hm hl fun i S3 b3 g3 hi => ?_
      exact q (.offset i v) S3 (b3.mono (by omega)) (g1.trans (g2.trans g3)) ⟨⟨hi, hv⟩, fun _ => ha, fun h => (nomatch h), fun h => (nomatch h)⟩
    · simp (decide := true) [zonesD]
      refine place fun v S2 hv b2 g2 => ?_
      refine spot_does (n := n + 16) (k := .mom) b2 (g2.get hr1 hrp) hrp hm hl fun i S3 b3 g3 hi => ?_
      exact q (.edition i v) S3 (b3.mono (by omega)) (g1.trans (g2.trans g3)) ⟨⟨hi, hv⟩, fun _ => ha, fun h => (nomatch h), fun _ => hc⟩
    · simp (decide := true) [zonesD]
      refine place fun v S2 hv b2 g2 => ?_
      refine spot_does (n := n + 16) (k := .rdg) b2 (g2.get hr1 hrp) hrp h2 hl fun i S3 b3 g3 hi => ?_
      refine rules_does (n := n + 14) b3 fun f g S4 b4 g4 hf hg => ?_
      simp
      exact q (.find i v f g) S4 (b4.mono (by omega)) (g1.trans (g2.trans (g3.trans g4))) ⟨⟨hi, hv, hf, hg⟩, fun _ => ha, fun _ => hb, fun h => (nomatch h)⟩
theorem law_kind_made_ok {m : Nat} {t : Stp} (hn : S[n]? = some (.lst (row.map Kd.d))) (h : t.OK m row) : m_law_kind_made [.cell n, t.d] S = .ok (t.kind row).d S := by
  refine pure_of fun Q q => ?_
  refine does_def rfl ?_
  cases t with
  | add i m =>
    have e : ∃ k, row[i]? = some k := by rcases h.1 with h | h <;> exact ⟨_, h⟩
    obtain ⟨k, e⟩ := e
    obtain ⟨h1, h2, h3⟩ := row_at hn e
    simp [Stp.d, h1]
    simp [Stp.kind, e, Kd.d] at q
    exact q
  | _ => simp (decide := true) [Stp.d]; exact q
theorem kind_row_does {m : Nat} {ts : List Stp} {Q : D → Sto → Prop} (h : ProgFrom m [.mom] ts) (hl : ts.length ≤ 60) (q : Q (.cell S.length) (S ++ [.lst ((kindsFrom [.mom] ts).map Kd.d)])) : (m_law_kind_row [progD ts] S).Does Q := by
  refine does_def rfl ?_
  simp [progD]
  refine forL_cut (fun ds ρ S' => ∃ us row x2, ds = (us : List Stp).map Stp.d ∧ ρ = [some (.tup (ts.map Stp.d)), some (.cell S.length), x2] ∧ S' = S ++ [.lst (row.map Kd.d)] ∧ ProgFrom m row us ∧ kindsFrom row us = kindsFrom [.mom] ts ∧ row.length + us.length ≤ 61) _
    ⟨ts, [.mom], _, rfl, rfl, rfl, h, rfl, by simp; omega⟩ ?_ ?_
  · rintro d r ρ S1 ⟨us, row, x2, e, rfl, rfl, hp, hk, hl⟩
    cases us with
    | nil => cases e
    | cons u us =>
      simp at e
      obtain ⟨rfl, rfl⟩ := e
      refine ⟨_, rfl, fun M hM => ?_⟩
      have hn : (S ++ [.lst (row.map Kd.d)])[S.length]? = some (.lst (row.map Kd.d)) := by simp
      simp at hl
      simp [law_kind_made_ok hn hp.1]
      refine ⟨by omega, hM _ _ ⟨us, row ++ [u.kind row], _, rfl, rfl, by simp, hp.2, hk, by simp; omega⟩⟩
  · rintro ρ S1 ⟨us, row, x2, e, rfl, rfl, hp, hk, hl⟩
    cases us with
    | nil =>
      simp
      rw [← hk] at q
      exact q
    | cons u us => cases e
def bI (b : Bool) : Int := if b then 1 else 0
theorem less_room2_ok {t : Stp} {a b c d : Int} : m_law_less_room [.lst [.int a, .int b, .int c, .int d], t.d] S = .ok (.lst [.int (a - bI t.isConv), .int (b - bI t.isFind), .int (c - bI t.isEd), .int d]) S := by
  refine pure_of fun Q q => ?_
  refine does_def rfl ?_
  cases t <;> (simp [Stp.isEd, Stp.isConv, Stp.isFind, bI] at q; simp (decide := true) [Stp.d, gIn, eqF, atI, ixN]; exact q)
def cnt (f : Stp → Bool) (ts : List Stp) : Int := ((ts.filter f).length : Int)
theorem cnt_nil {f : Stp → Bool} : cnt f [] = 0 := rfl
theorem cnt_snoc {f : Stp → Bool} {ts : List Stp} {t : Stp} : cnt f (ts ++ [t]) = cnt f ts + bI (f t) := by
  unfold cnt bI
  rw [List.filter_append]
  by_cases h : f t = true
  · simp [h]
  · simp [h]
/-- .. with so many steps more -/
theorem longer_plan_does {ts0 : List Stp} {a b c d st : Int} {Q : D → Sto → Prop} (hp : Bag p (n + 20 * st.toNat) S) (z : ZsOK zs) (h0 : ProgFrom zs.length [.mom] ts0) (hl : ts0.length + st.toNat ≤ 59) (hs : st ≤ 60 ∧ -60 ≤ st) (a0 : 0 ≤ a) (b0 : 0 ≤ b) (c0 : 0 ≤ c) (hd : d = 0 ∨ d = 1)
    (q : ∀ ts S', Bag p n S' → GoB p S S' → ProgFrom zs.length [.mom] (ts0 ++ ts) → ts.length = st.toNat → cnt Stp.isConv ts ≤ a → cnt Stp.isFind ts ≤ b → cnt Stp.isEd ts ≤ c → Q (progD (ts0 ++ ts)) S') :
    (m_law_longer_plan [.cell p, zonesD zs, progD ts0, .int st, .lst [.int a, .int b, .int c, .int d]] S).Does Q := by
  refine does_def rfl ?_
  simp
  refine ⟨by omega, ?_⟩
  refine forL_cut (fun ds ρ S' => ∃ (ts : List Stp) (x5 x6 : Option D), ρ = [some (.cell p), some (zonesD zs), some (progD (ts0 ++ ts)), some (.int st), some (.lst [.int (a - cnt Stp.isConv ts), .int (b - cnt Stp.isFind ts), .int (c - cnt Stp.isEd ts), .int d]), x5, x6] ∧
      Bag p (n + 20 * ds.length) S' ∧ GoB p S S' ∧ ProgFrom zs.length [.mom] (ts0 ++ ts) ∧ ts.length + ds.length = st.toNat ∧ cnt Stp.isConv ts ≤ a ∧ cnt Stp.isFind ts ≤ b ∧ cnt Stp.isEd ts ≤ c) _
    ⟨[], none, none, by simp [cnt_nil], by rw [rngD_length]; exact hp, .refl, by simpa using h0, by rw [rngD_length]; simp, a0, b0, c0⟩ ?_ ?_
  · rintro e ds ρ S1 ⟨ts, x5, x6, rfl, b1, g1, hp1, hl1, ca, cb, cc⟩
    refine ⟨_, rfl, fun M hM => ?_⟩
    simp at hl1 b1
    have hk := kindsFrom_length [.mom] (ts0 ++ ts)
    simp at hk
    simp
    refine kind_row_does hp1 (by simp; omega) ?_
    have b2 : Bag p (n + 20 * ds.length + 20) (S1 ++ [.lst ((kindsFrom [.mom] (ts0 ++ ts)).map Kd.d)]) := (b1.push _).mono (by omega)
    have pl := b1.lt
    refine any_deed_does (n := n + 20 * ds.length) (row := kindsFrom [.mom] (ts0 ++ ts)) b2 z (by simp) (by omega) (kindsFrom_mem List.mem_cons_self) (by omega) (by omega) hd fun t S3 b3 g3 pg => ?_
    simp [less_room2_ok, progD]
    refine ⟨by omega, hM _ _ ⟨ts ++ [t], some e, some t.d, ?_, b3, g1.trans ((GoB.push _).trans g3), ?_, by simp; omega, ?_, ?_, ?_⟩⟩
    · rw [cnt_snoc, cnt_snoc, cnt_snoc]
      simp [progD]
      omega
    · rw [← List.append_assoc]
      exact progFrom_snoc hp1 pg.ok
    · rw [cnt_snoc]
      have := pg.conv
      unfold bI
      split
      · have := this (by assumption); omega
      · omega
    · rw [cnt_snoc]
      have := pg.find
      unfold bI
      split
      · have := this (by assumption); omega
      · omega
    · rw [cnt_snoc]
      have := pg.ed
      unfold bI
      split
      · have := this (by assumption); omega
      · omega
  · rintro ρ S1 ⟨ts, x5, x6, rfl, b1, g1, hp1, hl1, ca, cb, cc⟩
    simp at hl1
    simp
    exact q ts _ (b1.mono (by omega)) g1 hp1 hl1 ca cb cc
theorem any_plan_does {u : Nat} {a b c d : Int} {Q : D → Sto → Prop} (hp : Bag p (n + 200) S) (z : ZsOK zs) (hu : u ≤ 8) (a0 : 0 ≤ a) (b0 : 0 ≤ b) (c0 : 0 ≤ c) (hd : d = 0 ∨ d = 1)
    (q : ∀ ts S', Bag p n S' → GoB p S S' → ProgFrom zs.length [.mom] ts → ts.length ≤ u → cnt Stp.isConv ts ≤ a → cnt Stp.isFind ts ≤ b → cnt Stp.isEd ts ≤ c → Q (progD ts) S') :
    (m_law_any_plan [.cell p, zonesD zs, .int u, .lst [.int a, .int b, .int c, .int d]] S).Does Q := by
  refine does_def rfl ?_
  simp
  refine pick_does (n := n + 199) hp (by omega) (by omega) fun v S1 b1 g1 r0 r1 => ?_
  refine pick_does (n := n + 198) b1 (by decide) (by decide) fun w S2 b2 g2 s0 s1 => ?_
  have e : ∃ k : Int, 0 ≤ k ∧ k ≤ 9 ∧ atI [D.int 0, .int 0, .int 1, .int 2, .int 3, .int v] w = some (.int k) := by
    have e : w = 0 ∨ w = 1 ∨ w = 2 ∨ w = 3 ∨ w = 4 ∨ w = 5 := by omega
    rcases e with e | e | e | e | e | e <;> subst e
    · exact ⟨0, by omega, by omega, by simp⟩
    · exact ⟨0, by omega, by omega, by simp⟩
    · exact ⟨1, by omega, by omega, by simp⟩
    · exact ⟨2, by omega, by omega, by simp [atI, ixN]⟩
    · exact ⟨3, by omega, by omega, by simp [atI, ixN]⟩
    · exact ⟨v, by omega, by omega, by simp [atI, ixN]⟩
  obtain ⟨k, k0, k9, e⟩ := e
  simp [e]
  have := longer_plan_does (n := n) (ts0 := []) (st := u - k) (Q := Q) (S := S2) (p := p) (zs := zs) (a := a) (b := b) (c := c) (d := d) (b2.mono (by omega)) z trivial (by simp; omega) (by omega) a0 b0 c0 hd fun ts S3 b3 g3 hp3 hl3 ca cb cc => by
    simp at hp3 ⊢
    exact q ts S3 b3 (g1.trans (g2.trans g3)) hp3 (by omega) ca cb cc
  exact this
end
end Dm
-- text HmEarth
namespace Dm
open PySem L2
/-! ### tables by zones -/
abbrev Tb := Int × List (Int × Int)
def Tb.d (t : Tb) : D := tabD t.1 t.2
def Tb.of (t : Tb) (m : Int) : Int := offAt t.1 t.2 m
structure TbsOK (zs : Zs) (tb : List Tb) : Prop where
  len : tb.length = zs.length
  ok : ∀ (p : Nat) (z : List Int × Int) (t : Tb), zs[p]? = some z → tb[p]? = some t → TabOK z.1 z.2 t.1 t.2
def getT (tb : List Tb) (p : Nat) : Tb := tb.getD p (0, [])
def getZ (zs : Zs) (p : Nat) : List Int × Int := zs.getD p ([], 1)
def getV (vs : List Int) (i : Nat) : Int := vs.getD i 0
theorem getV_at {vs : List Int} {i : Nat} (h : i < vs.length) : vs[i]? = some (getV vs i) := by
  unfold getV
  rw [List.getD_eq_getElem?_getD, List.getElem?_eq_getElem h]; rfl
theorem getT_at {tb : List Tb} {i : Nat} (h : i < tb.length) : tb[i]? = some (getT tb i) := by
  unfold getT
  rw [List.getD_eq_getElem?_getD, List.getElem?_eq_getElem h]; rfl
theorem getZ_at {zs : Zs} {i : Nat} (h : i < zs.length) : zs[i]? = some (getZ zs i) := by
  unfold getZ
  rw [List.getD_eq_getElem?_getD, List.getElem?_eq_getElem h]; rfl
theorem ZsOK.at {zs : Zs} (z : ZsOK zs) {p : Nat} (hp : p < zs.length) : ZoneOK (getZ zs p).1 (getZ zs p).2 := z.all _ (List.mem_of_getElem? (getZ_at hp))
theorem TbsOK.set {zs : Zs} {tb later : List Tb} (h : TbsOK zs tb) (h' : TbsOK zs later) (p : Nat) : TbsOK zs (tb.set p (getT later p)) := by
  refine ⟨by rw [List.length_set]; exact h.len, fun i z t hz ht => ?_⟩
  by_cases e : p = i
  · subst e
    have hp : p < tb.length := by
      have := (List.getElem?_eq_some_iff.mp ht).1
      rw [List.length_set] at this
      exact this
    rw [List.getElem?_set_self hp] at ht
    cases ht
    exact h'.ok p z _ hz (getT_at (by rw [h'.len, ← h.len]; exact hp))
  · rw [List.getElem?_set_ne e] at ht
    exact h.ok i z t hz ht
section
variable {S : Sto} {os : List Int} {s h m r : Int} {js : List (Int × Int)}
@[simp] theorem tgU_jmp {j : Int × Int} {ρ : Rho} {f : List D → Rho → Option Rho} : tgU 2 f (jmpD j) ρ = f [.int j.1, .int j.2] ρ := rfl
@[simp] theorem tgU_zone {ρ : Rho} {f : List D → Rho → Option Rho} : tgU 2 f (zoneD os s) ρ = f [.tup (os.map .int), .int s] ρ := rfl
@[simp] theorem tgU_tab {ρ : Rho} {f : List D → Rho → Option Rho} : tgU 2 f (tabD h js) ρ = f [.int h, .tup (js.map jmpD)] ρ := rfl
/-! ### a find -/
end
end Dm
-- text HmFollow
namespace Dm
open PySem L2
/-! ### a run by the document -/
def Stp.base : Stp → Nat
  | .read i _ => i
  | .find i _ _ _ => i
  | .offset i _ => i
  | .edition i _ => i
  | .plus i _ => i
  | .less i _ => i
  | .add i _ => i
theorem Stp.OK.base {nz : Nat} {row : List Kd} {t : Stp} (h : t.OK nz row) : t.base < row.length := by
  cases t with
  | add i m => rcases h.1 with h | h <;> exact (List.getElem?_eq_some_iff.mp h).1
  | _ => exact (List.getElem?_eq_some_iff.mp h.1).1
section
variable {S : Sto} {zs : Zs} {tb : List Tb} {vs : List Int} {row : List Kd} {n c : Nat} {t : Stp}
/-! ### what is looked at -/
abbrev Lk := Int × Int × Int × Int
def lkD (m : Lk) : D := .tup [.int m.1, .int m.2.1, .int m.2.2.1, .int m.2.2.2]
def edD : Option (Nat × Int) → List (Key × D)
  | none => []
  | some (q, m) => [(.inl q, .int m)]
end
end Dm
-- text HmFollow2
namespace Dm
open PySem L2
end Dm
-- text HmFollow3
namespace Dm
open PySem L2
theorem Grow.setN {S S' : Sto} {n : Nat} (g : Grow S S') (hn : S.length ≤ n) (c : Cell) : Grow S (S'.set n c) := by
  obtain ⟨cs, rfl⟩ := g
  refine ⟨cs.set (n - S.length) c, ?_⟩
  rw [List.set_append]
  simp [Nat.not_lt.mpr hn]
section
variable {S : Sto} {zs : Zs} {tb later : List Tb} {vs : List Int} {row : List Kd} {n c : Nat} {t : Stp} {ts : List Stp}
/-- the four cells of a run -/
structure Cells (S : Sto) (a : Nat) (tb : List Tb) (ed : Option (Nat × Int)) (vs : List Int) (lk : List Lk) : Prop where
  c4 : S[a]? = some (.lst (tb.map Tb.d))
  c5 : S[a + 1]? = some (.dic (edD ed))
  c6 : S[a + 2]? = some (.lst (vs.map .int))
  c7 : S[a + 3]? = some (.lst (lk.map lkD))
theorem set_at {S : Sto} {n : Nat} {c c' : Cell} (h : S[n]? = some c') : (S.set n c)[n]? = some c := List.getElem?_set_self (List.getElem?_eq_some_iff.mp h).1
theorem Cells.val {S : Sto} {a : Nat} {tb : List Tb} {ed : Option (Nat × Int)} {vs : List Int} {lk : List Lk} (h : Cells S a tb ed vs lk) (vs' : List Int) : Cells (S.set (a + 2) (.lst (vs'.map .int))) a tb ed vs' lk :=
  ⟨by rw [List.getElem?_set_ne (by omega)]; exact h.c4, by rw [List.getElem?_set_ne (by omega)]; exact h.c5, set_at h.c6, by rw [List.getElem?_set_ne (by omega)]; exact h.c7⟩
end
end Dm
-- text HmRun
namespace Dm
open PySem L2
end Dm
-- text HmRun2
namespace Dm
open PySem L2
@[simp] theorem does_raise {c : Str} {ρ : Rho} {S : Sto} {N B C : Rho → Sto → Prop} {R : D → Sto → Prop} {EO : EXO} : (mRaise c ρ S).DoesE EO N R B C = EO c [] ρ S := rfl
@[simp] theorem does_raiseX {c : Str} {ns : List Str} {ma : MA} {ρ : Rho} {S : Sto} {N B C : Rho → Sto → Prop} {R : D → Sto → Prop} {EO : EXO} : (mRaiseX c ns ma ρ S).DoesE EO N R B C = (ma ρ S).DoesE (eAt EO ρ) fun ds S1 => ds.length = ns.length ∧ EO c (ns.zip ds).reverse ρ S1 := by
  unfold mRaiseX
  rw [does_ofRes]; congr 1; funext ds S1
  by_cases h : ds.length = ns.length
  · rw [if_pos h]; simp [h, Out.DoesE]
  · rw [if_neg h]; simp [h, Out.DoesE]
end Dm
-- text HmOdd1
namespace Dm
open PySem L2
/-- data of any kind: nothing that may change -/
inductive OddD : D → Prop
  | non : OddD .non
  | bl (b : Bool) : OddD (.bl b)
  | int (i : Int) : OddD (.int i)
  | str (x : Str) : OddD (.str x)
  | exn (c : Str) (fs : List (Str × Int)) : OddD (.exn c fs)
  | tup {ds : List D} : ds.length ≤ 1000 → (∀ d, d ∈ ds → OddD d) → OddD (.tup ds)
  | lst {ds : List D} : ds.length ≤ 1000 → (∀ d, d ∈ ds → OddD d) → OddD (.lst ds)
def isI : D → Bool
  | .int _ => true
  | _ => false
section
variable {S : Sto} {os : List Int} {s : Int} {d : D}
theorem is_integer_odd (h : OddD d) : m_is_integer [d] S = .ok (.bl (isI d)) S := by
  refine pure_of fun Q q => ?_
  refine does_def rfl ?_
  cases h <;> (simp [isTn]; exact q)
theorem is_whole_odd (h : OddD d) : m_law_is_whole [d] S = .ok (.bl (isI d)) S := by
  refine pure_of fun Q q => ?_
  refine does_def rfl ?_
  cases h <;> (simp [isTn]; exact q)
end
end Dm
-- text HmOdd2
namespace Dm
open PySem L2
end Dm
-- text HmEarth2
namespace Dm
open PySem L2
end Dm
-- text HmEarth3
namespace Dm
open PySem L2
section
variable {S : Sto} {p n : Nat} {os : List Int} {s : Int} {zs : Zs} {ts : List Stp}
theorem TbsOK.cons {z : List Int × Int} {t : Tb} {zs : Zs} {tb : List Tb} (h : TabOK z.1 z.2 t.1 t.2) (k : TbsOK zs tb) : TbsOK (z :: zs) (t :: tb) := by
  refine ⟨by simp [k.len], fun p z' t' hz ht => ?_⟩
  cases p with
  | zero =>
    simp at hz ht
    subst hz ht
    exact h
  | succ p =>
    simp at hz ht
    exact k.ok p z' t' hz ht
/-! ### bounds of the values -/
def VB (row : List Kd) (vs : List Int) : Prop := row.length = vs.length ∧ ∀ (i : Nat) (v : Int) (k : Kd), vs[i]? = some v → row[i]? = some k → (-(2000000000000 + 200000 * (i : Int)) ≤ v ∧ v ≤ 2000000000000 + 200000 * i) ∧ (k = .spn → -900 ≤ v ∧ v ≤ 900)
theorem VB.at {row : List Kd} {vs : List Int} (h : VB row vs) {i : Nat} {k : Kd} (hi : row[i]? = some k) : (-(2000000000000 + 200000 * (i : Int)) ≤ getV vs i ∧ getV vs i ≤ 2000000000000 + 200000 * i) ∧ (k = .spn → -900 ≤ getV vs i ∧ getV vs i ≤ 900) ∧ i < vs.length := by
  have hl := (List.getElem?_eq_some_iff.mp hi).1
  rw [h.1] at hl
  exact ⟨(h.2 i _ k (getV_at hl) hi).1, (h.2 i _ k (getV_at hl) hi).2, hl⟩
/-! ### the same numbers -/
end
end Dm
-- text HmRan
namespace Dm
open PySem L2
/-! ### try -/
section
variable {ρ : Rho} {S : Sto} {N B C : Rho → Sto → Prop} {R : D → Sto → Prop} {EO : EXO}
@[simp] theorem does_try {cs : List Str} {hs : List (Str × Option Nat × MS)} {mb : MS} : (mTry cs hs mb ρ S).DoesE EO N R B C = (mb ρ S).DoesE (fun c fs ρ1 S1 => ∃ ns, intFsOf fs = some ns ∧ c ∈ cs ∧ (catchD c fs ns hs ρ1 S1).DoesE EO N R B C) N R B C := by
  unfold mTry
  cases mb ρ S with
  | exc c fs ρ1 S1 =>
    simp only [Out.DoesE]
    cases e : intFsOf fs with
    | none => simp [Out.DoesE, e]
    | some ns =>
      by_cases h : c ∈ cs
      · simp [h, e, Out.DoesE]
      · simp [h, e, Out.DoesE]
  | _ => rfl
@[simp] theorem catch_nil {c : Str} {fs : List (Str × D)} {ns : List (Str × Int)} : (catchD c fs ns [] ρ S).DoesE EO N R B C = EO c fs ρ S := rfl
@[simp] theorem catch_cons {c h : Str} {fs : List (Str × D)} {ns : List (Str × Int)} {oi : Option Nat} {ms : MS} {r : List (Str × Option Nat × MS)} : (catchD c fs ns ((h, oi, ms) :: r) ρ S).DoesE EO N R B C =
    if xSub c h = true then (ms (setI oi ρ (.exn c ns)) S).DoesE (fun _ _ _ _ => False) (fun ρ S => N (clearI oi ρ) S) R (fun ρ S => B (clearI oi ρ) S) (fun ρ S => C (clearI oi ρ) S) else (catchD c fs ns r ρ S).DoesE EO N R B C := by
  rw [catchD]
  by_cases h : xSub c h = true
  · simp only [if_pos h]
    cases ms (setI oi ρ (.exn c ns)) S <;> rfl
  · simp only [if_neg h]
@[simp] theorem gXf_exn {c f : Str} {fs : List (Str × Int)} : gXf c f S (.exn c fs) = (fs.lookup f).map D.int := by simp [gXf]
end
/-! ### repr of pairs -/
theorem same_py {S : Sto} {d d' : D} {p : PyData} (h : toPyC S d = some p) (h' : toPyC S d' = some p) (ok : reprOk p) : m_law_same_v2 [d, d'] S = .ok (.bl true) S := by
  have e : ∀ x, toPyC S x = some p → gRepr S [x] = some (.str p.shown) := by
    intro x hx
    unfold gRepr
    simp only [hx, if_pos ok]
  refine pure_of fun Q q => ?_
  refine does_def rfl ?_
  simp [e d h, e d' h']
  exact q
/-! ### what becomes of a run -/
end Dm
-- text HmOdd3
namespace Dm
open PySem L2
section
variable {S : Sto} {zs : Zs} {d : D} {ds : List D} {n p : Nat}
theorem gAll_blp {α : Type} (p : α → Bool) (l : List α) : gAll S [.lst (l.map fun x => D.bl (p x))] = some (.bl (l.all p)) := by
  have hb : ∀ l : List α, blsOf (l.map fun x => D.bl (p x)) = some (l.map p) := by
    intro l
    induction l with
    | nil => rfl
    | cons a l ih => rw [List.map_cons, blsOf, ih] <;> rfl
  unfold gAll
  simp only [lstOf_lst, Option.bind_some, hb, Option.map_some]
  congr 2
  rw [List.all_map] <;> rfl
end
end Dm
-- text HmOdd4
namespace Dm
open PySem L2
theorem cutO_len {ds : List D} {lo hi : Option Int} : (cutD ds lo hi).length ≤ ds.length := by
  unfold cutD
  rw [List.length_take, List.length_drop]
  omega
theorem cutO_mem {ds : List D} {lo hi : Option Int} {d : D} (h : d ∈ cutD ds lo hi) : d ∈ ds := List.mem_of_mem_drop (List.mem_of_mem_take h)
/-- a row of data, so many at most -/
structure OddL (k : Nat) (ds : List D) : Prop where
  len : ds.length ≤ k
  all : ∀ d, d ∈ ds → OddD d
theorem OddL.cut {k : Nat} {ds : List D} {lo hi : Option Int} (h : OddL k ds) : OddL k (cutD ds lo hi) := ⟨Nat.le_trans cutO_len h.len, fun d hd => h.all d (cutO_mem hd)⟩
theorem OddL.app {k m : Nat} {ds es : List D} (h : OddL k ds) (h2 : OddL m es) : OddL (k + m) (ds ++ es) :=
  ⟨by have := h.len; have := h2.len; rw [List.length_append]; omega, fun d hd => (List.mem_append.mp hd).elim (h.all d) (h2.all d)⟩
theorem OddL.rev {k : Nat} {ds : List D} (h : OddL k ds) : OddL k ds.reverse := ⟨by rw [List.length_reverse]; exact h.len, fun d hd => h.all d (List.mem_reverse.mp hd)⟩
theorem OddL.one {d : D} (h : OddD d) : OddL 1 [d] := ⟨by simp, fun x hx => by rw [List.mem_singleton.mp hx]; exact h⟩
theorem OddL.tup {k : Nat} {ds : List D} (h : OddL k ds) (hk : k ≤ 1000 := by decide) : OddD (.tup ds) := .tup (Nat.le_trans h.len hk) h.all
theorem OddL.lst {k : Nat} {ds : List D} (h : OddL k ds) (hk : k ≤ 1000 := by decide) : OddD (.lst ds) := .lst (Nat.le_trans h.len hk) h.all
theorem OddL.mono {k m : Nat} {ds : List D} (h : OddL k ds) (hk : k ≤ m) : OddL m ds := ⟨Nat.le_trans h.len hk, h.all⟩
end Dm
-- text HmPro1
namespace Dm
open PySem L2
/-- what can stand for a part of a step -/
inductive Pt where
  | knd (k : Kd) | pl | mn | pt | fo | ga
def Pt.s : Pt → Str
  | .knd k => k.s
  | .pl => "place"
  | .mn => "minutes"
  | .pt => "point"
  | .fo => "fold"
  | .ga => "gap"
def foB (s : Str) : Bool := ("early" : Str) == s || (("late" : Str) == s || ("refuse" : Str) == s)
def gaB (s : Str) : Bool := ("ahead" : Str) == s || (("behind" : Str) == s || ("refuse" : Str) == s)
def ptB (nz : Nat) (row : List Kd) : Pt → D → Bool
  | .knd k, .int i => decide (0 ≤ i) && decide (row[i.toNat]? = some k)
  | .pl, .int i => decide (0 ≤ i) && decide (i < nz)
  | .mn, .int i => decide (-100000 ≤ i) && decide (i ≤ 100000)
  | .pt, .int i => decide (0 ≤ i) && (decide (row[i.toNat]? = some .mom) || decide (row[i.toNat]? = some .rdg))
  | .fo, .str s => foB s
  | .ga, .str s => gaB s
  | _, _ => false
def stepPs (w : Str) : Option (List Pt) :=
  if ("read" : Str) = w then some [.knd .mom, .pl] else if ("find" : Str) = w then some [.knd .rdg, .pl, .fo, .ga] else if ("offset" : Str) = w then some [.knd .mom, .pl] else if ("edition" : Str) = w then some [.knd .mom, .pl]
  else if ("plus" : Str) = w then some [.knd .mom, .knd .spn] else if ("less" : Str) = w then some [.knd .rdg, .knd .spn] else if ("add" : Str) = w then some [.pt, .mn] else none
abbrev tabP : List (Str × D) := [("read", (.tup [(.str "moment"), (.str "place")])), ("find", (.tup [(.str "reading"), (.str "place"), (.str "fold"), (.str "gap")])), ("offset", (.tup [(.str "moment"), (.str "place")])), ("edition", (.tup [(.str "moment"), (.str "place")])), ("plus", (.tup [(.str "moment"), (.str "span")])), ("less", (.tup [(.str "reading"), (.str "span")])), ("add", (.tup [(.str "point"), (.str "minutes")]))]
def ptsD (ps : List Pt) : D := .tup (ps.map fun p => .str p.s)
theorem tab_look (w : Str) : tbLook tabP w = (stepPs w).map ptsD := by
  unfold stepPs tabP
  simp only [tbLook]
  repeat' (first | rfl | split)
def stepB (nz : Nat) (row : List Kd) : D → Bool
  | .tup (.str w :: r) => match stepPs w with
    | some ps => decide (r.length = ps.length) && (ps.zip r).all fun p => ptB nz row p.1 p.2
    | none => false
  | _ => false
section
variable {S : Sto} {zs : List D} {n m nz : Nat} {row : List Kd} {d v : D}
theorem row_look {i : Int} (hn : S[n]? = some (.lst (row.map Kd.d))) (h0 : 0 ≤ i) (h1 : i < row.length) : ∃ k, row[i.toNat]? = some k ∧ gIx S (.cell n) (.int i) = some (.str k.s) := by
  have h : i.toNat < row.length := by omega
  refine ⟨row[i.toNat], List.getElem?_eq_getElem h, ?_⟩
  rw [gIx_cell hn, atI_of h0 (by rw [List.length_map]; exact h1)]
  simp [h, Kd.d]
theorem part_odd {p : Pt} (hn : S[n]? = some (.lst (row.map Kd.d))) (hv : OddD v) : m_is_part [.tup zs, .cell n, .str p.s, v] S = .ok (.bl (ptB zs.length row p v)) S := by
  refine pure_of fun Q q => ?_
  have hl : gLen S [.cell n] = some (.int row.length) := by rw [gLen_cell hn, List.length_map]
  refine does_def rfl ?_
  cases p with
  | fo =>
    cases hv with
    | str s =>
      simp (decide := true) [Pt.s, isTn, gIn, eqF]
      exact q
    | _ => simp (decide := true) [Pt.s, isTn]; exact q
  | ga =>
    cases hv with
    | str s =>
      simp (decide := true) [Pt.s, isTn, gIn, eqF]
      exact q
    | _ => simp (decide := true) [Pt.s, isTn]; exact q
  | pl =>
    simp (decide := true) [Pt.s, is_integer_odd hv]
    cases hv with
    | int i =>
      have e3 : ptB zs.length row .pl (.int i) = (decide (0 ≤ i) && decide (i < zs.length)) := rfl
      rw [e3] at q
      simp [isI]
      by_cases h0 : 0 ≤ i
      · simp [h0] at q ⊢
        exact q
      · simp [h0] at q ⊢
        exact q
    | _ => simp [isI]; exact q
  | mn =>
    simp (decide := true) [Pt.s, is_integer_odd hv]
    cases hv with
    | int i =>
      have e3 : ptB zs.length row .mn (.int i) = (decide (-100000 ≤ i) && decide (i ≤ 100000)) := rfl
      rw [e3] at q
      simp [isI]
      by_cases h0 : -100000 ≤ i
      · simp [h0] at q ⊢
        exact q
      · simp [h0] at q ⊢
        exact q
    | _ => simp [isI]; exact q
  | pt =>
    simp (decide := true) [Pt.s, is_integer_odd hv]
    cases hv with
    | int i =>
      simp [isI, hl]
      by_cases h0 : 0 ≤ i
      · by_cases h1 : i < row.length
        · obtain ⟨k, e1, e2⟩ := row_look hn h0 h1
          have e3 : ptB zs.length row .pt (.int i) = (decide (0 ≤ i) && (decide (row[i.toNat]? = some .mom) || decide (row[i.toNat]? = some .rdg))) := rfl
          rw [e3, e1, decide_eq_true h0] at q
          simp [h0, h1, e2]
          cases k <;> (simp (decide := true) [Kd.s]; exact q)
        · have e1 : row[i.toNat]? = none := List.getElem?_eq_none (by omega)
          have e3 : ptB zs.length row .pt (.int i) = (decide (0 ≤ i) && (decide (row[i.toNat]? = some .mom) || decide (row[i.toNat]? = some .rdg))) := rfl
          rw [e3, e1, decide_eq_true h0] at q
          simp [h0, h1]
          exact q
      · have e3 : ptB zs.length row .pt (.int i) = (decide (0 ≤ i) && (decide (row[i.toNat]? = some .mom) || decide (row[i.toNat]? = some .rdg))) := rfl
        rw [e3, decide_eq_false h0] at q
        simp [h0]
        exact q
    | _ => simp [isI]; exact q
  | knd k0 =>
    have hs : ¬ (k0.s = "fold") ∧ ¬ (k0.s = "gap") ∧ ¬ (k0.s = "place") ∧ ¬ (k0.s = "minutes") ∧ ¬ (k0.s = "point") := by cases k0 <;> decide
    obtain ⟨a1, a2, a3, a4, a5⟩ := hs
    simp [Pt.s, is_integer_odd hv, a1, a2, a3, a4, a5]
    cases hv with
    | int i =>
      simp [isI, hl]
      have e3 : ptB zs.length row (.knd k0) (.int i) = (decide (0 ≤ i) && decide (row[i.toNat]? = some k0)) := rfl
      rw [e3] at q
      by_cases h0 : 0 ≤ i
      · by_cases h1 : i < row.length
        · obtain ⟨k, e1, e2⟩ := row_look hn h0 h1
          rw [e1, decide_eq_true h0] at q
          simp [h0, h1, e2]
          cases k <;> cases k0 <;> (simp (decide := true) [Kd.s]; exact q)
        · have e1 : row[i.toNat]? = none := List.getElem?_eq_none (by omega)
          rw [e1, decide_eq_true h0] at q
          simp [h0, h1]
          exact q
      · rw [decide_eq_false h0] at q
        simp [h0]
        exact q
    | _ => simp [isI]; exact q
theorem gAll_blq {α : Type} (p : α → Bool) (l : List α) : gAll S [.lst (l.map fun x => D.bl (p x))] = some (.bl (l.all p)) := gAll_blp p l
theorem parts_odd {x d3 : D} (hn : S[n]? = some (.lst (row.map Kd.d))) {full : List D} : ∀ {ps : List Pt} {pre r : List D} {Q : List D → Sto → Prop}, full = pre ++ r → r.length = ps.length → (∀ y, y ∈ r → OddD y) → Q ((ps.zip r).map fun p => D.bl (ptB zs.length row p.1 p.2)) S →
    LcQ (tgU 2 (tgCons (tgN 4) (tgCons (tgN 5) tgNil))) mYes (mCall m_is_part (mCons (mVar 0) (mCons (mVar 1) (mCons (mVar 5) (mCons (mOp gIx (mVar 2) (mOp gAdd (mVar 4) (mK (.int 1)))) mNil))))) [some (.tup zs), some (.cell n), some (.tup (x :: full)), some d3, none, none] (enumF pre.length (ps.map fun p => D.str p.s)) S Q
  | [], pre, [], Q, e, hl, hd, q => by
    show LcQ _ _ _ _ [] S Q
    rw [lcQ_nil]
    exact q
  | [], pre, _ :: _, Q, e, hl, hd, q => by cases hl
  | _ :: _, pre, [], Q, e, hl, hd, q => by cases hl
  | p :: ps, pre, y :: r, Q, e, hl, hd, q => by
    rw [List.map_cons, enumF_cons, lcQ_cons]
    have ea : atI (x :: full) ((pre.length : Int) + 1) = some y := by
      rw [e, atI_of (by omega) (by simp; omega)]
      have : ((pre.length : Int) + 1).toNat = pre.length + 1 := by omega
      rw [this]
      simp
    have hy := part_odd (p := p) (zs := zs) hn (hd y (by simp))
    simp [tgU, ea, hy]
    have ih := parts_odd (x := x) (d3 := d3) hn (full := full) (ps := ps) (pre := pre ++ [y]) (r := r) (Q := fun ys S3 => Q (.bl (ptB zs.length row p y) :: ys) S3) (by rw [e]; simp) (by simpa using hl) (fun z hz => hd z (List.mem_cons_of_mem _ hz)) q
    rw [List.length_append] at ih
    exact ih
theorem is_step_odd (hn : S[n]? = some (.lst (row.map Kd.d))) (hd : OddD d) : m_is_step [.tup zs, .cell n, d] S = .ok (.bl (stepB zs.length row d)) S := by
  refine pure_of fun Q q => ?_
  refine does_def rfl ?_
  cases hd with
  | @tup ds hl hd =>
    match ds, hl, hd with
    | [], _, _ => simp [isTn]; exact q
    | x :: r, hl, hd =>
      have hx := hd x (by simp)
      have hr : ∀ y, y ∈ r → OddD y := fun y hy => hd y (List.mem_cons_of_mem _ hy)
      have hne : ¬ ((r.length : Int) + 1 = 0) := by omega
      cases hx with
      | str w =>
        have eB : stepB zs.length row (.tup (.str w :: r)) = (match stepPs w with
          | some ps => decide (r.length = ps.length) && (ps.zip r).all fun p => ptB zs.length row p.1 p.2
          | none => false) := rfl
        rw [eB] at q
        have tl := tab_look w
        simp only [tabP] at tl
        cases e : stepPs w with
        | none =>
          rw [e] at q tl
          simp only [Option.map_none] at tl
          simp [isTn, hne, tl]
          exact q
        | some ps =>
          rw [e] at q tl
          simp only [Option.map_some] at tl
          simp [isTn, hne, tl, ptsD]
          by_cases c : r.length = ps.length
          · simp only [c, decide_true, Bool.true_and] at q
            rw [if_pos (by omega)]
            have := parts_odd (x := .str w) (d3 := .tup (ps.map fun p => .str p.s)) hn (full := r) (ps := ps) (pre := []) (r := r) (Q := fun xs S1 => OptQ (gAll S1 [D.lst xs]) fun z => Q z S1) rfl c hr (by rw [gAll_blq]; exact q)
            exact this
          · simp only [c, decide_false, Bool.false_and] at q
            rw [if_neg (by omega)]
            exact q
      | _ => simp [isTn, hne]; exact q
  | _ => simp [isTn]; exact q
end
end Dm
-- text HmPro2
namespace Dm
open PySem L2
section
variable {S : Sto} {nz n : Nat} {row : List Kd} {d : D}
theorem ptB_int {p : Pt} {v : D} (h : ptB nz row p v = true) : (∃ s, v = .str s ∧ (p = .fo ∧ foB s = true ∨ p = .ga ∧ gaB s = true)) ∨ ∃ i : Nat, (v = .int i ∧ ((∃ k, p = .knd k ∧ row[i]? = some k) ∨ (p = .pl ∧ i < nz) ∨ (p = .pt ∧ (row[i]? = some .mom ∨ row[i]? = some .rdg)))) ∨ (∃ m : Int, v = .int m ∧ p = .mn ∧ -100000 ≤ m ∧ m ≤ 100000) := by
  cases p with
  | fo => cases v <;> first | (cases h; done) | exact .inl ⟨_, rfl, .inl ⟨rfl, h⟩⟩
  | ga => cases v <;> first | (cases h; done) | exact .inl ⟨_, rfl, .inr ⟨rfl, h⟩⟩
  | mn =>
    cases v with
    | int i =>
      have h : (decide (-100000 ≤ i) && decide (i ≤ 100000)) = true := h
      simp at h
      exact .inr ⟨0, .inr ⟨i, rfl, rfl, h.1, h.2⟩⟩
    | _ => cases h
  | pl =>
    cases v with
    | int i =>
      have h : (decide (0 ≤ i) && decide (i < nz)) = true := h
      simp at h
      exact .inr ⟨i.toNat, .inl ⟨by congr 1; omega, .inr (.inl ⟨rfl, by omega⟩)⟩⟩
    | _ => cases h
  | pt =>
    cases v with
    | int i =>
      have h : (decide (0 ≤ i) && (decide (row[i.toNat]? = some .mom) || decide (row[i.toNat]? = some .rdg))) = true := h
      simp at h
      exact .inr ⟨i.toNat, .inl ⟨by congr 1; omega, .inr (.inr ⟨rfl, h.2⟩)⟩⟩
    | _ => cases h
  | knd k =>
    cases v with
    | int i =>
      have h : (decide (0 ≤ i) && decide (row[i.toNat]? = some k)) = true := h
      simp at h
      exact .inr ⟨i.toNat, .inl ⟨by congr 1; omega, .inl ⟨k, rfl, h.2⟩⟩⟩
    | _ => cases h
theorem foB_rule {s : Str} (h : foB s = true) : RuleF s := by
  unfold foB at h
  simp at h
  rcases h with h | h | h
  · exact .inl h.symm
  · exact .inr (.inl h.symm)
  · exact .inr (.inr h.symm)
theorem gaB_rule {s : Str} (h : gaB s = true) : RuleG s := by
  unfold gaB at h
  simp at h
  rcases h with h | h | h
  · exact .inl h.symm
  · exact .inr (.inl h.symm)
  · exact .inr (.inr h.symm)
theorem knd_of {k : Kd} {v : D} (h : ptB nz row (.knd k) v = true) : ∃ i : Nat, v = .int i ∧ row[i]? = some k := by
  rcases ptB_int h with ⟨s, _, h | h⟩ | ⟨i, ⟨rfl, h | h | h⟩ | ⟨m, _, h, _⟩⟩
  · cases h.1
  · cases h.1
  · obtain ⟨k', e, h⟩ := h
    cases e
    exact ⟨i, rfl, h⟩
  · cases h.1
  · cases h.1
  · cases h
theorem pl_of {v : D} (h : ptB nz row .pl v = true) : ∃ i : Nat, v = .int i ∧ i < nz := by
  rcases ptB_int h with ⟨s, _, h | h⟩ | ⟨i, ⟨rfl, h | h | h⟩ | ⟨m, _, h, _⟩⟩
  · cases h.1
  · cases h.1
  · obtain ⟨k', e, h⟩ := h
    cases e
  · exact ⟨i, rfl, h.2⟩
  · cases h.1
  · cases h
theorem pt_of {v : D} (h : ptB nz row .pt v = true) : ∃ i : Nat, v = .int i ∧ (row[i]? = some .mom ∨ row[i]? = some .rdg) := by
  rcases ptB_int h with ⟨s, _, h | h⟩ | ⟨i, ⟨rfl, h | h | h⟩ | ⟨m, _, h, _⟩⟩
  · cases h.1
  · cases h.1
  · obtain ⟨k', e, h⟩ := h
    cases e
  · cases h.1
  · exact ⟨i, rfl, h.2⟩
  · cases h
theorem mn_of {v : D} (h : ptB nz row .mn v = true) : ∃ m : Int, v = .int m ∧ -100000 ≤ m ∧ m ≤ 100000 := by
  rcases ptB_int h with ⟨s, _, h | h⟩ | ⟨i, ⟨rfl, h | h | h⟩ | ⟨m, e, _, h⟩⟩
  · cases h.1
  · cases h.1
  · obtain ⟨k', e, h⟩ := h
    cases e
  · cases h.1
  · cases h.1
  · exact ⟨m, e, h⟩
theorem stepPs_cases {w : Str} {ps : List Pt} (h : stepPs w = some ps) : (w = "read" ∧ ps = [.knd .mom, .pl]) ∨ (w = "find" ∧ ps = [.knd .rdg, .pl, .fo, .ga]) ∨ (w = "offset" ∧ ps = [.knd .mom, .pl]) ∨ (w = "edition" ∧ ps = [.knd .mom, .pl]) ∨ (w = "plus" ∧ ps = [.knd .mom, .knd .spn]) ∨ (w = "less" ∧ ps = [.knd .rdg, .knd .spn]) ∨ (w = "add" ∧ ps = [.pt, .mn]) := by
  unfold stepPs at h
  split at h
  · rename_i e; cases h; exact .inl ⟨e.symm, rfl⟩
  split at h
  · rename_i e; cases h; exact .inr (.inl ⟨e.symm, rfl⟩)
  split at h
  · rename_i e; cases h; exact .inr (.inr (.inl ⟨e.symm, rfl⟩))
  split at h
  · rename_i e; cases h; exact .inr (.inr (.inr (.inl ⟨e.symm, rfl⟩)))
  split at h
  · rename_i e; cases h; exact .inr (.inr (.inr (.inr (.inl ⟨e.symm, rfl⟩))))
  split at h
  · rename_i e; cases h; exact .inr (.inr (.inr (.inr (.inr (.inl ⟨e.symm, rfl⟩)))))
  split at h
  · rename_i e; cases h; exact .inr (.inr (.inr (.inr (.inr (.inr ⟨e.symm, rfl⟩)))))
  · cases h
theorem stepB_some (h : stepB nz row d = true) : ∃ t : Stp, d = t.d ∧ t.OK nz row := by
  unfold stepB at h
  split at h
  · rename_i w r
    cases e : stepPs w with
    | none => rw [e] at h; cases h
    | some ps =>
      rw [e] at h
      simp only [Bool.and_eq_true, decide_eq_true_eq] at h
      obtain ⟨hl, ha⟩ := h
      have two : ∀ {p1 p2 : Pt}, ps = [p1, p2] → ∃ a b, r = [a, b] ∧ ptB nz row p1 a = true ∧ ptB nz row p2 b = true := by
        rintro p1 p2 rfl
        match r, hl with
        | [a, b], _ =>
          simp at ha
          exact ⟨a, b, rfl, ha.1, ha.2⟩
      rcases stepPs_cases e with ⟨rfl, rfl⟩ | ⟨rfl, rfl⟩ | ⟨rfl, rfl⟩ | ⟨rfl, rfl⟩ | ⟨rfl, rfl⟩ | ⟨rfl, rfl⟩ | ⟨rfl, rfl⟩
      · obtain ⟨a, b, rfl, h1, h2⟩ := two rfl
        obtain ⟨i, rfl, k1⟩ := knd_of h1
        obtain ⟨p, rfl, k2⟩ := pl_of h2
        exact ⟨.read i p, rfl, k1, k2⟩
      · match r, hl with
        | [a, b, c, e], _ =>
          simp at ha
          obtain ⟨h1, h2, h3, h4⟩ := ha
          obtain ⟨i, rfl, k1⟩ := knd_of h1
          obtain ⟨p, rfl, k2⟩ := pl_of h2
          cases c with
          | str f =>
            cases e with
            | str g => exact ⟨.find i p f g, rfl, k1, k2, foB_rule h3, gaB_rule h4⟩
            | _ => cases h4
          | _ => cases h3
      · obtain ⟨a, b, rfl, h1, h2⟩ := two rfl
        obtain ⟨i, rfl, k1⟩ := knd_of h1
        obtain ⟨p, rfl, k2⟩ := pl_of h2
        exact ⟨.offset i p, rfl, k1, k2⟩
      · obtain ⟨a, b, rfl, h1, h2⟩ := two rfl
        obtain ⟨i, rfl, k1⟩ := knd_of h1
        obtain ⟨p, rfl, k2⟩ := pl_of h2
        exact ⟨.edition i p, rfl, k1, k2⟩
      · obtain ⟨a, b, rfl, h1, h2⟩ := two rfl
        obtain ⟨i, rfl, k1⟩ := knd_of h1
        obtain ⟨j, rfl, k2⟩ := knd_of h2
        exact ⟨.plus i j, rfl, k1, k2⟩
      · obtain ⟨a, b, rfl, h1, h2⟩ := two rfl
        obtain ⟨i, rfl, k1⟩ := knd_of h1
        obtain ⟨j, rfl, k2⟩ := knd_of h2
        exact ⟨.less i j, rfl, k1, k2⟩
      · obtain ⟨a, b, rfl, h1, h2⟩ := two rfl
        obtain ⟨i, rfl, k1⟩ := pt_of h1
        obtain ⟨m, rfl, k2⟩ := mn_of h2
        exact ⟨.add i m, rfl, k1, k2⟩
  · cases h
end
end Dm
-- text HmPro3
namespace Dm
open PySem L2
section
variable {S : Sto} {nz n : Nat} {row : List Kd} {d : D}
theorem stp_odd (t : Stp) : OddD t.d := by
  cases t <;> exact .tup (by simp) (by repeat' (first | exact List.forall_mem_nil _ | refine List.forall_mem_cons.mpr ⟨?_, ?_⟩ | exact OddD.str _ | exact OddD.int _))
theorem stepB_of {t : Stp} (h : t.OK nz row) : stepB nz row t.d = true := by
  have hn : ([Cell.lst (row.map Kd.d)] : Sto)[0]? = some (.lst (row.map Kd.d)) := rfl
  have e1 := is_step_ok (zs := List.replicate nz D.non) hn (t := t) (by rw [List.length_replicate]; exact h)
  have e2 := is_step_odd (zs := List.replicate nz D.non) hn (stp_odd t)
  rw [e1, List.length_replicate] at e2
  injection e2 with e2 _
  injection e2 with e2
  exact e2.symm
theorem stepPs_len {w : Str} {ps : List Pt} (h : stepPs w = some ps) : 2 ≤ ps.length := by
  rcases stepPs_cases h with ⟨_, rfl⟩ | ⟨_, rfl⟩ | ⟨_, rfl⟩ | ⟨_, rfl⟩ | ⟨_, rfl⟩ | ⟨_, rfl⟩ | ⟨_, rfl⟩ <;> simp
theorem stepB_short {x : D} {r : List D} (h : r.length < 2) : stepB nz row (.tup (x :: r)) = false := by
  cases x with
  | str w =>
    show (match stepPs w with | some ps => decide (r.length = ps.length) && (ps.zip r).all fun p => ptB nz row p.1 p.2 | none => false) = false
    cases e : stepPs w with
    | none => rfl
    | some ps =>
      have := stepPs_len e
      simp only
      rw [decide_eq_false (by omega), Bool.false_and]
  | _ => rfl
theorem stepB_str {w : Str} {r : List D} : stepB nz row (.tup (.str w :: r)) = (match stepPs w with | some ps => decide (r.length = ps.length) && (ps.zip r).all fun p => ptB nz row p.1 p.2 | none => false) := rfl
theorem words_in {w : Str} : (("read" : Str) == w || (("find" : Str) == w || (("offset" : Str) == w || (("edition" : Str) == w || (("plus" : Str) == w || (("less" : Str) == w || ("add" : Str) == w)))))) = (stepPs w).isSome := by
  unfold stepPs
  repeat' (first | (split; (rename_i h; simp [h]; done)) | (split))
  all_goals simp_all
abbrev kdF : List (Key × D) := [(Sum.inr (Str.ofString "find"), D.str (Str.ofString "reading")), (Sum.inr (Str.ofString "less"), D.str (Str.ofString "reading"))]
theorem kdF_eq : keysD [(D.str (Str.ofString "find"), D.str (Str.ofString "reading")), (D.str (Str.ofString "less"), D.str (Str.ofString "reading"))] = some kdF := rfl
theorem stepB_two {w : Str} {p1 p2 : Pt} {a b : D} (h : stepPs w = some [p1, p2]) : stepB nz row (.tup [.str w, a, b]) = (ptB nz row p1 a && ptB nz row p2 b) := by
  rw [stepB_str, h]
  simp
theorem stepB_len {w : Str} {ps : List Pt} {r : List D} (h : stepPs w = some ps) (hl : r.length ≠ ps.length) : stepB nz row (.tup (.str w :: r)) = false := by
  rw [stepB_str, h]
  simp only
  rw [decide_eq_false hl, Bool.false_and]
theorem sp_mom : (Str.ofString "moment" == Str.ofString "span") = false := by decide +kernel
theorem sp_rdg : (Str.ofString "reading" == Str.ofString "span") = false := by decide +kernel
theorem sp_spn : (Str.ofString "span" == Str.ofString "span") = true := by decide +kernel
theorem knd_int {k : Kd} {i : Int} : ptB nz row (.knd k) (.int i) = (decide (0 ≤ i) && decide (row[i.toNat]? = some k)) := rfl
theorem pl_int {i : Int} : ptB nz row .pl (.int i) = (decide (0 ≤ i) && decide (i < nz)) := rfl
theorem mn_int {i : Int} : ptB nz row .mn (.int i) = (decide (-100000 ≤ i) && decide (i ≤ 100000)) := rfl
theorem pt_int {i : Int} : ptB nz row .pt (.int i) = (decide (0 ≤ i) && (decide (row[i.toNat]? = some .mom) || decide (row[i.toNat]? = some .rdg))) := rfl
theorem ptB_no {p : Pt} {v : D} (h : isI v = false) (h1 : p ≠ .fo) (h2 : p ≠ .ga) : ptB nz row p v = false := by
  cases v with
  | int i => cases h
  | _ => cases p <;> first | rfl | exact absurd rfl h1 | exact absurd rfl h2
theorem deed_read {Q : D → Sto → Prop} {zs : List D} {a b : D} {r : List D} (hn : S[n]? = some (.lst (row.map Kd.d))) (ha : OddD a) (hb : OddD b) (q : ∀ S', Grow S S' → Q (.bl (stepB zs.length row (.tup (.str "read" :: a :: b :: r)))) S') : (m_law_is_deed [.tup zs, .cell n, .tup (.str "read" :: a :: b :: r)] S).Does Q := by
  have hp : stepPs "read" = some [.knd .mom, .pl] := by simp (decide := true) [stepPs]
  have hl : gLen S [.cell n] = some (.int row.length) := by rw [gLen_cell hn, List.length_map]
  have q0 := q S .refl
  have wa := is_whole_odd (S := S) ha
  have wb := is_whole_odd (S := S) hb
  have cm : CMulW 2 0 := cmulw64 (by omega) (by omega)
  have l3 : ¬ ((r.length : Int) + 1 + 1 + 1 < 3) := by omega
  refine does_def rfl ?_
  by_cases hr : r = []
  · subst hr
    rw [stepB_two hp] at q q0
    simp (decide := true) [isTn, gIn, eqF, wa, wb, hl, cm]
    cases ia : isI a with
    | false =>
      rw [ptB_no (p := .knd .mom) ia (by intro h; cases h) (by intro h; cases h), Bool.false_and] at q0
      simp
      exact q0
    | true =>
      cases ib : isI b with
      | false =>
        rw [ptB_no (p := .pl) ib (by intro h; cases h) (by intro h; cases h), Bool.and_false] at q0
        simp
        exact q0
      | true =>
        cases a with
        | int i =>
          cases b with
          | int j =>
            simp (decide := true) [hl]
            rw [knd_int] at q q0
            by_cases h0 : i < 0
            · have : ¬ (0 ≤ i) := by omega
              rw [decide_eq_false this, Bool.false_and, Bool.false_and] at q0
              simp [h0]
              exact q0
            · have h0' : 0 ≤ i := by omega
              rw [decide_eq_true h0', Bool.true_and] at q q0
              by_cases h1 : (row.length : Int) ≤ i
              · have e1 : row[i.toNat]? = none := List.getElem?_eq_none (by omega)
                rw [e1] at q0
                simp [h0, h1]
                exact q0
              · obtain ⟨k, e1, e2⟩ := row_look hn h0' (by omega)
                rw [e1] at q q0
                have hv : (valD (mergeD [] kdF) (Sum.inr (Str.ofString "read"))).getD (D.str (Str.ofString "moment")) = D.str "moment" := rfl
                have hd := dicOf_cell (S := S ++ [Cell.dic (mergeD [] kdF)]) (n := S.length) get_new
                have q1 := q _ ⟨[Cell.dic (mergeD [] kdF)], rfl⟩
                have hn2 : (S ++ [Cell.dic (mergeD [] kdF)])[n]? = some (.lst (row.map Kd.d)) := by rw [List.getElem?_append_left (List.getElem?_eq_some_iff.mp hn).1]; exact hn
                have hl2 : gLen (S ++ [Cell.dic (mergeD [] kdF)]) [.cell n] = some (.int row.length) := by rw [gLen_cell hn2, List.length_map]
                simp only [h0, h1, if_false, e2, kdF_eq, optQ_some, hd, hv]
                refine ⟨by decide, ?_⟩
                cases k <;> (simp (decide := true) [Kd.s]; first | exact q1 | skip)
                all_goals (
                  rw [pl_int] at q1
                  by_cases h2 : j < 0
                  · have : ¬ (0 ≤ j) := by omega
                    rw [decide_eq_false this, Bool.false_and] at q1
                    simp [h2]
                    simpa using q1
                  · have h2' : 0 ≤ j := by omega
                    rw [decide_eq_true h2', Bool.true_and] at q1
                    simp [h2]
                    by_cases h3 : (zs.length : Int) ≤ j
                    · have h3' : ¬ (j < (zs.length : Int)) := by omega
                      rw [decide_eq_false h3'] at q1
                      simp [h3]
                      simpa using q1
                    · have h3' : j < (zs.length : Int) := by omega
                      rw [decide_eq_true h3'] at q1
                      simp [h3]
                      simpa using q1)
          | _ => cases ib
        | _ => cases ia
  · have hlr : 0 < r.length := List.length_pos_iff.mpr hr
    rw [stepB_len hp (by simp; omega)] at q0
    simp (decide := true) [isTn, gIn, eqF, cm, l3]
    rw [if_neg (by omega)]
    exact q0
theorem deed_offset {Q : D → Sto → Prop} {zs : List D} {a b : D} {r : List D} (hn : S[n]? = some (.lst (row.map Kd.d))) (ha : OddD a) (hb : OddD b) (q : ∀ S', Grow S S' → Q (.bl (stepB zs.length row (.tup (.str "offset" :: a :: b :: r)))) S') : (m_law_is_deed [.tup zs, .cell n, .tup (.str "offset" :: a :: b :: r)] S).Does Q := by
  have hp : stepPs "offset" = some [.knd .mom, .pl] := by simp (decide := true) [stepPs]
  have hl : gLen S [.cell n] = some (.int row.length) := by rw [gLen_cell hn, List.length_map]
  have q0 := q S .refl
  have wa := is_whole_odd (S := S) ha
  have wb := is_whole_odd (S := S) hb
  have cm : CMulW 2 0 := cmulw64 (by omega) (by omega)
  have l3 : ¬ ((r.length : Int) + 1 + 1 + 1 < 3) := by omega
  refine does_def rfl ?_
  by_cases hr : r = []
  · subst hr
    rw [stepB_two hp] at q q0
    simp (decide := true) [isTn, gIn, eqF, wa, wb, hl, cm]
    cases ia : isI a with
    | false =>
      rw [ptB_no (p := .knd .mom) ia (by intro h; cases h) (by intro h; cases h), Bool.false_and] at q0
      simp
      exact q0
    | true =>
      cases ib : isI b with
      | false =>
        rw [ptB_no (p := .pl) ib (by intro h; cases h) (by intro h; cases h), Bool.and_false] at q0
        simp
        exact q0
      | true =>
        cases a with
        | int i =>
          cases b with
          | int j =>
            simp (decide := true) [hl]
            rw [knd_int] at q q0
            by_cases h0 : i < 0
            · have : ¬ (0 ≤ i) := by omega
              rw [decide_eq_false this, Bool.false_and, Bool.false_and] at q0
              simp [h0]
              exact q0
            · have h0' : 0 ≤ i := by omega
              rw [decide_eq_true h0', Bool.true_and] at q q0
              by_cases h1 : (row.length : Int) ≤ i
              · have e1 : row[i.toNat]? = none := List.getElem?_eq_none (by omega)
                rw [e1] at q0
                simp [h0, h1]
                exact q0
              · obtain ⟨k, e1, e2⟩ := row_look hn h0' (by omega)
                rw [e1] at q q0
                have hv : (valD (mergeD [] kdF) (Sum.inr (Str.ofString "offset"))).getD (D.str (Str.ofString "moment")) = D.str "moment" := rfl
                have hd := dicOf_cell (S := S ++ [Cell.dic (mergeD [] kdF)]) (n := S.length) get_new
                have q1 := q _ ⟨[Cell.dic (mergeD [] kdF)], rfl⟩
                have hn2 : (S ++ [Cell.dic (mergeD [] kdF)])[n]? = some (.lst (row.map Kd.d)) := by rw [List.getElem?_append_left (List.getElem?_eq_some_iff.mp hn).1]; exact hn
                have hl2 : gLen (S ++ [Cell.dic (mergeD [] kdF)]) [.cell n] = some (.int row.length) := by rw [gLen_cell hn2, List.length_map]
                simp only [h0, h1, if_false, e2, kdF_eq, optQ_some, hd, hv]
                refine ⟨by decide, ?_⟩
                cases k <;> (simp (decide := true) [Kd.s]; first | exact q1 | skip)
                all_goals (
                  rw [pl_int] at q1
                  by_cases h2 : j < 0
                  · have : ¬ (0 ≤ j) := by omega
                    rw [decide_eq_false this, Bool.false_and] at q1
                    simp [h2]
                    simpa using q1
                  · have h2' : 0 ≤ j := by omega
                    rw [decide_eq_true h2', Bool.true_and] at q1
                    simp [h2]
                    by_cases h3 : (zs.length : Int) ≤ j
                    · have h3' : ¬ (j < (zs.length : Int)) := by omega
                      rw [decide_eq_false h3'] at q1
                      simp [h3]
                      simpa using q1
                    · have h3' : j < (zs.length : Int) := by omega
                      rw [decide_eq_true h3'] at q1
                      simp [h3]
                      simpa using q1)
          | _ => cases ib
        | _ => cases ia
  · have hlr : 0 < r.length := List.length_pos_iff.mpr hr
    rw [stepB_len hp (by simp; omega)] at q0
    simp (decide := true) [isTn, gIn, eqF, cm, l3]
    rw [if_neg (by omega)]
    exact q0
theorem deed_edition {Q : D → Sto → Prop} {zs : List D} {a b : D} {r : List D} (hn : S[n]? = some (.lst (row.map Kd.d))) (ha : OddD a) (hb : OddD b) (q : ∀ S', Grow S S' → Q (.bl (stepB zs.length row (.tup (.str "edition" :: a :: b :: r)))) S') : (m_law_is_deed [.tup zs, .cell n, .tup (.str "edition" :: a :: b :: r)] S).Does Q := by
  have hp : stepPs "edition" = some [.knd .mom, .pl] := by simp (decide := true) [stepPs]
  have hl : gLen S [.cell n] = some (.int row.length) := by rw [gLen_cell hn, List.length_map]
  have q0 := q S .refl
  have wa := is_whole_odd (S := S) ha
  have wb := is_whole_odd (S := S) hb
  have cm : CMulW 2 0 := cmulw64 (by omega) (by omega)
  have l3 : ¬ ((r.length : Int) + 1 + 1 + 1 < 3) := by omega
  refine does_def rfl ?_
  by_cases hr : r = []
  · subst hr
    rw [stepB_two hp] at q q0
    simp (decide := true) [isTn, gIn, eqF, wa, wb, hl, cm]
    cases ia : isI a with
    | false =>
      rw [ptB_no (p := .knd .mom) ia (by intro h; cases h) (by intro h; cases h), Bool.false_and] at q0
      simp
      exact q0
    | true =>
      cases ib : isI b with
      | false =>
        rw [ptB_no (p := .pl) ib (by intro h; cases h) (by intro h; cases h), Bool.and_false] at q0
        simp
        exact q0
      | true =>
        cases a with
        | int i =>
          cases b with
          | int j =>
            simp (decide := true) [hl]
            rw [knd_int] at q q0
            by_cases h0 : i < 0
            · have : ¬ (0 ≤ i) := by omega
              rw [decide_eq_false this, Bool.false_and, Bool.false_and] at q0
              simp [h0]
              exact q0
            · have h0' : 0 ≤ i := by omega
              rw [decide_eq_true h0', Bool.true_and] at q q0
              by_cases h1 : (row.length : Int) ≤ i
              · have e1 : row[i.toNat]? = none := List.getElem?_eq_none (by omega)
                rw [e1] at q0
                simp [h0, h1]
                exact q0
              · obtain ⟨k, e1, e2⟩ := row_look hn h0' (by omega)
                rw [e1] at q q0
                have hv : (valD (mergeD [] kdF) (Sum.inr (Str.ofString "edition"))).getD (D.str (Str.ofString "moment")) = D.str "moment" := rfl
                have hd := dicOf_cell (S := S ++ [Cell.dic (mergeD [] kdF)]) (n := S.length) get_new
                have q1 := q _ ⟨[Cell.dic (mergeD [] kdF)], rfl⟩
                have hn2 : (S ++ [Cell.dic (mergeD [] kdF)])[n]? = some (.lst (row.map Kd.d)) := by rw [List.getElem?_append_left (List.getElem?_eq_some_iff.mp hn).1]; exact hn
                have hl2 : gLen (S ++ [Cell.dic (mergeD [] kdF)]) [.cell n] = some (.int row.length) := by rw [gLen_cell hn2, List.length_map]
                simp only [h0, h1, if_false, e2, kdF_eq, optQ_some, hd, hv]
                refine ⟨by decide, ?_⟩
                cases k <;> (simp (decide := true) [Kd.s]; first | exact q1 | skip)
                all_goals (
                  rw [pl_int] at q1
                  by_cases h2 : j < 0
                  · have : ¬ (0 ≤ j) := by omega
                    rw [decide_eq_false this, Bool.false_and] at q1
                    simp [h2]
                    simpa using q1
                  · have h2' : 0 ≤ j := by omega
                    rw [decide_eq_true h2', Bool.true_and] at q1
                    simp [h2]
                    by_cases h3 : (zs.length : Int) ≤ j
                    · have h3' : ¬ (j < (zs.length : Int)) := by omega
                      rw [decide_eq_false h3'] at q1
                      simp [h3]
                      simpa using q1
                    · have h3' : j < (zs.length : Int) := by omega
                      rw [decide_eq_true h3'] at q1
                      simp [h3]
                      simpa using q1)
          | _ => cases ib
        | _ => cases ia
  · have hlr : 0 < r.length := List.length_pos_iff.mpr hr
    rw [stepB_len hp (by simp; omega)] at q0
    simp (decide := true) [isTn, gIn, eqF, cm, l3]
    rw [if_neg (by omega)]
    exact q0
theorem deed_plus {Q : D → Sto → Prop} {zs : List D} {a b : D} {r : List D} (hn : S[n]? = some (.lst (row.map Kd.d))) (ha : OddD a) (hb : OddD b) (q : ∀ S', Grow S S' → Q (.bl (stepB zs.length row (.tup (.str "plus" :: a :: b :: r)))) S') : (m_law_is_deed [.tup zs, .cell n, .tup (.str "plus" :: a :: b :: r)] S).Does Q := by
  have hp : stepPs "plus" = some [.knd .mom, .knd .spn] := by simp (decide := true) [stepPs]
  have hl : gLen S [.cell n] = some (.int row.length) := by rw [gLen_cell hn, List.length_map]
  have q0 := q S .refl
  have wa := is_whole_odd (S := S) ha
  have wb := is_whole_odd (S := S) hb
  have cm : CMulW 2 0 := cmulw64 (by omega) (by omega)
  have l3 : ¬ ((r.length : Int) + 1 + 1 + 1 < 3) := by omega
  refine does_def rfl ?_
  by_cases hr : r = []
  · subst hr
    rw [stepB_two hp] at q q0
    simp (decide := true) [isTn, gIn, eqF, wa, wb, hl, cm]
    cases ia : isI a with
    | false =>
      rw [ptB_no (p := .knd .mom) ia (by intro h; cases h) (by intro h; cases h), Bool.false_and] at q0
      simp
      exact q0
    | true =>
      cases ib : isI b with
      | false =>
        rw [ptB_no (p := .knd .spn) ib (by intro h; cases h) (by intro h; cases h), Bool.and_false] at q0
        simp
        exact q0
      | true =>
        cases a with
        | int i =>
          cases b with
          | int j =>
            simp (decide := true) [hl]
            rw [knd_int] at q q0
            by_cases h0 : i < 0
            · have : ¬ (0 ≤ i) := by omega
              rw [decide_eq_false this, Bool.false_and, Bool.false_and] at q0
              simp [h0]
              exact q0
            · have h0' : 0 ≤ i := by omega
              rw [decide_eq_true h0', Bool.true_and] at q q0
              by_cases h1 : (row.length : Int) ≤ i
              · have e1 : row[i.toNat]? = none := List.getElem?_eq_none (by omega)
                rw [e1] at q0
                simp [h0, h1]
                exact q0
              · obtain ⟨k, e1, e2⟩ := row_look hn h0' (by omega)
                rw [e1] at q q0
                have hv : (valD (mergeD [] kdF) (Sum.inr (Str.ofString "plus"))).getD (D.str (Str.ofString "moment")) = D.str "moment" := rfl
                have hd := dicOf_cell (S := S ++ [Cell.dic (mergeD [] kdF)]) (n := S.length) get_new
                have q1 := q _ ⟨[Cell.dic (mergeD [] kdF)], rfl⟩
                have hn2 : (S ++ [Cell.dic (mergeD [] kdF)])[n]? = some (.lst (row.map Kd.d)) := by rw [List.getElem?_append_left (List.getElem?_eq_some_iff.mp hn).1]; exact hn
                have hl2 : gLen (S ++ [Cell.dic (mergeD [] kdF)]) [.cell n] = some (.int row.length) := by rw [gLen_cell hn2, List.length_map]
                simp only [h0, h1, if_false, e2, kdF_eq, optQ_some, hd, hv]
                refine ⟨by decide, ?_⟩
                cases k <;> (simp (decide := true) [Kd.s]; first | exact q1 | skip)
                all_goals (
                  rw [knd_int] at q1
                  by_cases h2 : j < 0
                  · have : ¬ (0 ≤ j) := by omega
                    rw [decide_eq_false this, Bool.false_and] at q1
                    simp [h2]
                    simpa using q1
                  · have h2' : 0 ≤ j := by omega
                    rw [decide_eq_true h2', Bool.true_and] at q1
                    simp [h2, hl2]
                    by_cases h3 : j < row.length
                    · obtain ⟨k2, f1, f2⟩ := row_look hn2 h2' h3
                      rw [f1] at q1
                      simp [h3, f2]
                      cases k2 <;> (simp (decide := true) [Kd.s, sp_mom, sp_rdg, sp_spn]; simpa using q1)
                    · have e3 : row[j.toNat]? = none := List.getElem?_eq_none (by omega)
                      rw [e3] at q1
                      simp [h3]
                      simpa using q1)
          | _ => cases ib
        | _ => cases ia
  · have hlr : 0 < r.length := List.length_pos_iff.mpr hr
    rw [stepB_len hp (by simp; omega)] at q0
    simp (decide := true) [isTn, gIn, eqF, cm, l3]
    rw [if_neg (by omega)]
    exact q0
theorem deed_less {Q : D → Sto → Prop} {zs : List D} {a b : D} {r : List D} (hn : S[n]? = some (.lst (row.map Kd.d))) (ha : OddD a) (hb : OddD b) (q : ∀ S', Grow S S' → Q (.bl (stepB zs.length row (.tup (.str "less" :: a :: b :: r)))) S') : (m_law_is_deed [.tup zs, .cell n, .tup (.str "less" :: a :: b :: r)] S).Does Q := by
  have hp : stepPs "less" = some [.knd .rdg, .knd .spn] := by simp (decide := true) [stepPs]
  have hl : gLen S [.cell n] = some (.int row.length) := by rw [gLen_cell hn, List.length_map]
  have q0 := q S .refl
  have wa := is_whole_odd (S := S) ha
  have wb := is_whole_odd (S := S) hb
  have cm : CMulW 2 0 := cmulw64 (by omega) (by omega)
  have l3 : ¬ ((r.length : Int) + 1 + 1 + 1 < 3) := by omega
  refine does_def rfl ?_
  by_cases hr : r = []
  · subst hr
    rw [stepB_two hp] at q q0
    simp (decide := true) [isTn, gIn, eqF, wa, wb, hl, cm]
    cases ia : isI a with
    | false =>
      rw [ptB_no (p := .knd .rdg) ia (by intro h; cases h) (by intro h; cases h), Bool.false_and] at q0
      simp
      exact q0
    | true =>
      cases ib : isI b with
      | false =>
        rw [ptB_no (p := .knd .spn) ib (by intro h; cases h) (by intro h; cases h), Bool.and_false] at q0
        simp
        exact q0
      | true =>
        cases a with
        | int i =>
          cases b with
          | int j =>
            simp (decide := true) [hl]
            rw [knd_int] at q q0
            by_cases h0 : i < 0
            · have : ¬ (0 ≤ i) := by omega
              rw [decide_eq_false this, Bool.false_and, Bool.false_and] at q0
              simp [h0]
              exact q0
            · have h0' : 0 ≤ i := by omega
              rw [decide_eq_true h0', Bool.true_and] at q q0
              by_cases h1 : (row.length : Int) ≤ i
              · have e1 : row[i.toNat]? = none := List.getElem?_eq_none (by omega)
                rw [e1] at q0
                simp [h0, h1]
                exact q0
              · obtain ⟨k, e1, e2⟩ := row_look hn h0' (by omega)
                rw [e1] at q q0
                have hv : (valD (mergeD [] kdF) (Sum.inr (Str.ofString "less"))).getD (D.str (Str.ofString "moment")) = D.str "reading" := rfl
                have hd := dicOf_cell (S := S ++ [Cell.dic (mergeD [] kdF)]) (n := S.length) get_new
                have q1 := q _ ⟨[Cell.dic (mergeD [] kdF)], rfl⟩
                have hn2 : (S ++ [Cell.dic (mergeD [] kdF)])[n]? = some (.lst (row.map Kd.d)) := by rw [List.getElem?_append_left (List.getElem?_eq_some_iff.mp hn).1]; exact hn
                have hl2 : gLen (S ++ [Cell.dic (mergeD [] kdF)]) [.cell n] = some (.int row.length) := by rw [gLen_cell hn2, List.length_map]
                simp only [h0, h1, if_false, e2, kdF_eq, optQ_some, hd, hv]
                refine ⟨by decide, ?_⟩
                cases k <;> (simp (decide := true) [Kd.s]; first | exact q1 | skip)
                all_goals (
                  rw [knd_int] at q1
                  by_cases h2 : j < 0
                  · have : ¬ (0 ≤ j) := by omega
                    rw [decide_eq_false this, Bool.false_and] at q1
                    simp [h2]
                    simpa using q1
                  · have h2' : 0 ≤ j := by omega
                    rw [decide_eq_true h2', Bool.true_and] at q1
                    simp [h2, hl2]
                    by_cases h3 : j < row.length
                    · obtain ⟨k2, f1, f2⟩ := row_look hn2 h2' h3
                      rw [f1] at q1
                      simp [h3, f2]
                      cases k2 <;> (simp (decide := true) [Kd.s, sp_mom, sp_rdg, sp_spn]; simpa using q1)
                    · have e3 : row[j.toNat]? = none := List.getElem?_eq_none (by omega)
                      rw [e3] at q1
                      simp [h3]
                      simpa using q1)
          | _ => cases ib
        | _ => cases ia
  · have hlr : 0 < r.length := List.length_pos_iff.mpr hr
    rw [stepB_len hp (by simp; omega)] at q0
    simp (decide := true) [isTn, gIn, eqF, cm, l3]
    rw [if_neg (by omega)]
    exact q0
theorem deed_add {Q : D → Sto → Prop} {zs : List D} {a b : D} {r : List D} (hn : S[n]? = some (.lst (row.map Kd.d))) (ha : OddD a) (hb : OddD b) (q : ∀ S', Grow S S' → Q (.bl (stepB zs.length row (.tup (.str "add" :: a :: b :: r)))) S') : (m_law_is_deed [.tup zs, .cell n, .tup (.str "add" :: a :: b :: r)] S).Does Q := by
  have hp : stepPs "add" = some [.pt, .mn] := by simp (decide := true) [stepPs]
  have hl : gLen S [.cell n] = some (.int row.length) := by rw [gLen_cell hn, List.length_map]
  have q0 := q S .refl
  have wa := is_whole_odd (S := S) ha
  have wb := is_whole_odd (S := S) hb
  have cm : CMulW 2 0 := cmulw64 (by omega) (by omega)
  have l3 : ¬ ((r.length : Int) + 1 + 1 + 1 < 3) := by omega
  refine does_def rfl ?_
  by_cases hr : r = []
  · subst hr
    rw [stepB_two hp] at q q0
    simp (decide := true) [isTn, gIn, eqF, wa, wb, hl, cm]
    cases ia : isI a with
    | false =>
      rw [ptB_no (p := .pt) ia (by intro h; cases h) (by intro h; cases h), Bool.false_and] at q0
      simp
      exact q0
    | true =>
      cases ib : isI b with
      | false =>
        rw [ptB_no (p := .mn) ib (by intro h; cases h) (by intro h; cases h), Bool.and_false] at q0
        simp
        exact q0
      | true =>
        cases a with
        | int i =>
          cases b with
          | int j =>
            simp (decide := true) [hl]
            rw [pt_int] at q q0
            by_cases h0 : i < 0
            · have : ¬ (0 ≤ i) := by omega
              rw [decide_eq_false this, Bool.false_and, Bool.false_and] at q0
              simp [h0]
              exact q0
            · have h0' : 0 ≤ i := by omega
              rw [decide_eq_true h0', Bool.true_and] at q q0
              by_cases h1 : (row.length : Int) ≤ i
              · have e1 : row[i.toNat]? = none := List.getElem?_eq_none (by omega)
                rw [e1] at q0
                simp [h0, h1]
                exact q0
              · obtain ⟨k, e1, e2⟩ := row_look hn h0' (by omega)
                rw [e1] at q q0
                rw [mn_int] at q0
                simp only [h0, h1, if_false, e2, optQ_some]
                cases k <;> (simp (decide := true) [Kd.s]; first | exact q0 | skip)
                all_goals (
                  by_cases h2 : -100000 ≤ j
                  · rw [decide_eq_true h2] at q0
                    simp [h2]
                    simpa using q0
                  · rw [decide_eq_false h2] at q0
                    simp [h2]
                    simpa using q0)
          | _ => cases ib
        | _ => cases ia
  · have hlr : 0 < r.length := List.length_pos_iff.mpr hr
    rw [stepB_len hp (by simp; omega)] at q0
    simp (decide := true) [isTn, gIn, eqF, cm, l3]
    rw [if_neg (by omega)]
    exact q0
end
end Dm
-- text HmPro4
namespace Dm
open PySem L2
section
variable {S : Sto} {nz n : Nat} {row : List Kd} {d : D}
theorem at53 {a b c e x : D} : atI [a, b, c, e, x] 3 = some e := rfl
theorem at54 {a b c e x : D} : atI [a, b, c, e, x] 4 = some x := rfl
theorem foB_in {s : Str} : gIn false S (.str s) (.lst [.str "early", .str "late", .str "refuse"]) = some (.bl (foB s)) := by
  simp [gIn, eqF, foB]
theorem gaB_in {s : Str} : gIn false S (.str s) (.lst [.str "ahead", .str "behind", .str "refuse"]) = some (.bl (gaB s)) := by
  simp [gIn, eqF, gaB]
theorem stepB_four {w : Str} {p1 p2 p3 p4 : Pt} {a b c e : D} (h : stepPs w = some [p1, p2, p3, p4]) : stepB nz row (.tup [.str w, a, b, c, e]) = (ptB nz row p1 a && (ptB nz row p2 b && (ptB nz row p3 c && ptB nz row p4 e))) := by
  rw [stepB_str, h]
  simp
theorem deed_find {Q : D → Sto → Prop} {zs : List D} {a b : D} {r : List D} (hn : S[n]? = some (.lst (row.map Kd.d))) (ha : OddD a) (hb : OddD b) (hr : ∀ y, y ∈ r → OddD y) (q : ∀ S', Grow S S' → Q (.bl (stepB zs.length row (.tup (.str "find" :: a :: b :: r)))) S') : (m_law_is_deed [.tup zs, .cell n, .tup (.str "find" :: a :: b :: r)] S).Does Q := by
  have hp : stepPs "find" = some [.knd .rdg, .pl, .fo, .ga] := by simp (decide := true) [stepPs]
  have hl : gLen S [.cell n] = some (.int row.length) := by rw [gLen_cell hn, List.length_map]
  have q0 := q S .refl
  have wa := is_whole_odd (S := S) ha
  have wb := is_whole_odd (S := S) hb
  have cm : CMulW 2 1 := cmulw64 (by omega) (by omega)
  have l3 : ¬ ((r.length : Int) + 1 + 1 + 1 < 3) := by omega
  refine does_def rfl ?_
  by_cases hl2 : r.length = 2
  · match r, hl2, hr with
    | [c, e], _, hr =>
      have hc := hr c (by simp)
      have he := hr e (by simp)
      rw [stepB_four hp] at q q0
      simp (decide := true) [isTn, gIn, eqF, wa, wb, hl, cm]
      cases ia : isI a with
      | false =>
        rw [ptB_no (p := .knd .rdg) ia (by intro h; cases h) (by intro h; cases h), Bool.false_and] at q0
        simp
        exact q0
      | true =>
        cases ib : isI b with
        | false =>
          rw [ptB_no (p := .pl) ib (by intro h; cases h) (by intro h; cases h), Bool.false_and, Bool.and_false] at q0
          simp
          exact q0
        | true =>
          cases a with
          | int i =>
            cases b with
            | int j =>
              simp (decide := true) [hl]
              rw [knd_int] at q q0
              by_cases h0 : i < 0
              · have : ¬ (0 ≤ i) := by omega
                rw [decide_eq_false this, Bool.false_and, Bool.false_and] at q0
                simp [h0]
                exact q0
              · have h0' : 0 ≤ i := by omega
                rw [decide_eq_true h0', Bool.true_and] at q q0
                by_cases h1 : (row.length : Int) ≤ i
                · have e1 : row[i.toNat]? = none := List.getElem?_eq_none (by omega)
                  rw [e1] at q0
                  simp [h0, h1]
                  exact q0
                · obtain ⟨k, e1, e2⟩ := row_look hn h0' (by omega)
                  rw [e1] at q q0
                  have hv : (valD (mergeD [] kdF) (Sum.inr (Str.ofString "find"))).getD (D.str (Str.ofString "moment")) = D.str "reading" := rfl
                  have hd := dicOf_cell (S := S ++ [Cell.dic (mergeD [] kdF)]) (n := S.length) get_new
                  have q1 := q _ ⟨[Cell.dic (mergeD [] kdF)], rfl⟩
                  simp only [h0, h1, if_false, e2, kdF_eq, optQ_some, hd, hv]
                  refine ⟨by decide, ?_⟩
                  cases k <;> (simp (decide := true) [Kd.s]; first | exact q1 | skip)
                  rw [pl_int] at q1
                  by_cases h2 : j < 0
                  · have : ¬ (0 ≤ j) := by omega
                    rw [decide_eq_false this, Bool.false_and, Bool.false_and] at q1
                    simp [h2]
                    simpa using q1
                  · have h2' : 0 ≤ j := by omega
                    rw [decide_eq_true h2', Bool.true_and] at q1
                    simp [h2]
                    by_cases h3 : (zs.length : Int) ≤ j
                    · have h3' : ¬ (j < (zs.length : Int)) := by omega
                      rw [decide_eq_false h3', Bool.false_and] at q1
                      simp [h3]
                      simpa using q1
                    · have h3' : j < (zs.length : Int) := by omega
                      rw [decide_eq_true h3', Bool.true_and] at q1
                      simp [h3]
                      cases hc with
                      | str s =>
                        have f1 : ptB zs.length row .fo (.str s) = foB s := rfl
                        rw [f1] at q1
                        cases he with
                        | str g =>
                          have f2 : ptB zs.length row .ga (.str g) = gaB g := rfl
                          rw [f2] at q1
                          simp [isTn, foB_in, gaB_in, at53, at54]
                          by_cases hh : Str.ofString "early" = s ∨ Str.ofString "late" = s ∨ Str.ofString "refuse" = s
                          · have e5 : foB s = true := by unfold foB; simpa using hh
                            rw [e5] at q1
                            rw [if_pos hh]
                            simpa [gaB] using q1
                          · have e5 : foB s = false := by unfold foB; simpa using hh
                            rw [e5] at q1
                            rw [if_neg hh]
                            simpa using q1
                        | _ => simp [isTn, at53, at54]; simpa [ptB] using q1
                      | _ => simp [isTn, at53, at54]; simpa [ptB] using q1
            | _ => cases ib
          | _ => cases ia
  · rw [stepB_len hp (by simp; omega)] at q0
    simp (decide := true) [isTn, gIn, eqF, cm, l3]
    rw [if_neg (by omega)]
    exact q0
theorem is_deed_odd {Q : D → Sto → Prop} {zs : List D} (hn : S[n]? = some (.lst (row.map Kd.d))) (hd : OddD d) (q : ∀ S', Grow S S' → Q (.bl (stepB zs.length row d)) S') : (m_law_is_deed [.tup zs, .cell n, d] S).Does Q := by
  have q0 := q S .refl
  cases hd with
  | @tup ds hl hd =>
    match ds, hl, hd with
    | [], _, _ => refine does_def rfl ?_; simp [isTn]; exact q0
    | [x], _, _ =>
      rw [stepB_short (by simp)] at q0
      refine does_def rfl ?_; simp [isTn]; exact q0
    | [x, a], _, _ =>
      rw [stepB_short (by simp)] at q0
      refine does_def rfl ?_; simp [isTn]; exact q0
    | x :: a :: b :: r, hl, hd =>
      have hx := hd x (by simp)
      have ha := hd a (by simp)
      have hb := hd b (by simp)
      have hr : ∀ y, y ∈ r → OddD y := fun y hy => hd y (by simp [hy])
      have l3 : ¬ ((r.length : Int) + 1 + 1 + 1 < 3) := by omega
      cases hx with
      | str w =>
        cases e : stepPs w with
        | none =>
          have e1 := words_in (w := w)
          rw [e] at e1
          have e2 : stepB zs.length row (.tup (.str w :: a :: b :: r)) = false := by rw [stepB_str, e]
          rw [e2] at q0
          have e3 : gIn true S (.str w) (.lst [.str "read", .str "find", .str "offset", .str "edition", .str "plus", .str "less", .str "add"]) = some (.bl true) := by
            simp only [gIn, eqF]
            simp [e1]
          refine does_def rfl ?_
          simp [isTn, l3, e3]
          exact q0
        | some ps =>
          rcases stepPs_cases e with ⟨rfl, rfl⟩ | ⟨rfl, rfl⟩ | ⟨rfl, rfl⟩ | ⟨rfl, rfl⟩ | ⟨rfl, rfl⟩ | ⟨rfl, rfl⟩ | ⟨rfl, rfl⟩
          · exact deed_read hn ha hb q
          · exact deed_find hn ha hb hr q
          · exact deed_offset hn ha hb q
          · exact deed_edition hn ha hb q
          · exact deed_plus hn ha hb q
          · exact deed_less hn ha hb q
          · exact deed_add hn ha hb q
      | _ => refine does_def rfl ?_; simp [isTn, l3]; exact q0
  | _ => refine does_def rfl ?_; simp [isTn]; exact q0
end
end Dm
-- text HmLeftAt
namespace Dm
open PySem L2
@[simp] theorem does_callBL {S : Sto} {ρ : Rho} {g : Sto → List D → Option (List D)} {a : MA} {E : EX} {Q : List D → Sto → Prop} : (mCallBL g a ρ S).DoesE E Q = (a ρ S).DoesE E fun xs S1 => match g S1 xs with
    | some z => Q z S1
    | none => False := by
  unfold mCallBL
  rw [does_bind]
  congr 1
  funext x S1
  cases g S1 x <;> rfl
section
variable {S : Sto} {os : List Int} {s m o : Int} {ls : List (Int × Int)} {n p : Nat}
@[simp] theorem gList_looks : gList S [looksD ls] = some (ls.map jmpD) := rfl
@[simp] theorem gList_tup {ds : List D} : gList S [.tup ds] = some ds := rfl
@[simp] theorem gList_lst {ds : List D} : gList S [.lst ds] = some ds := rfl
end
end Dm
-- text HmCchart
namespace Dm
open PySem L2
end Dm
-- text HmGone
namespace Dm
open PySem L2
end Dm
-- text HmGone2
namespace Dm
open PySem L2
end Dm
-- text HmTurn
namespace Dm
open PySem L2
section
variable {S : Sto} {os : List Int} {s h r c d : Int} {js : List (Int × Int)} {fold gap : Str}
@[simp] theorem lcAQ_mapT {f : D → Rho → Option Rho} {mt me : ME} {ρ : Rho} {Q : List D → Sto → Prop} {α : Type} {g : α → D} {as : List α} : LcAQ (.tup (as.map g)) f mt me ρ as.length S Q = LcQ f mt me ρ (as.map g) S Q := lcAQ_fix (.inl rfl) (by rw [List.length_map])
@[simp] theorem lcAQ_mapL {f : D → Rho → Option Rho} {mt me : ME} {ρ : Rho} {Q : List D → Sto → Prop} {α : Type} {g : α → D} {as : List α} : LcAQ (.lst (as.map g)) f mt me ρ as.length S Q = LcQ f mt me ρ (as.map g) S Q := lcAQ_fix (.inr rfl) (by rw [List.length_map])
/-! ### the zone, the table, moved and turned -/
end
end Dm
-- text HmOdd5
namespace Dm
open PySem L2
end Dm
-- text HmOdd6
namespace Dm
open PySem L2
section
variable {S : Sto} {zs : Zs} {tb later : List Tb} {d : D} {ds : List D} {n p : Nat}
theorem rep_mem {ds : List D} {k : Nat} {d : D} (h : d ∈ (List.replicate k ds).flatten) : d ∈ ds := by
  obtain ⟨l, hl, hd⟩ := List.mem_flatten.mp h
  rw [(List.mem_replicate.mp hl).2] at hd
  exact hd
end
end Dm
-- text HmOdd7
namespace Dm
open PySem L2
end Dm
-- text HmPro5
namespace Dm
open PySem L2
/-! ### what is a program, data of any kind -/
def PlanOf (nz : Nat) (d : D) : Prop := ∃ ts, d = progD ts ∧ ProgOK nz ts
noncomputable def planB (nz : Nat) (d : D) : Bool := @decide (PlanOf nz d) (Classical.propDecidable _)
theorem planB_iff {nz : Nat} {d : D} : planB nz d = true ↔ PlanOf nz d := by unfold planB; simp
theorem planB_no {nz : Nat} {d : D} (h : ¬ PlanOf nz d) : planB nz d = false := by
  cases e : planB nz d with
  | false => rfl
  | true => exact absurd (planB_iff.mp e) h
theorem stp_inj {t u : Stp} (h : t.d = u.d) : t = u := by
  cases t <;> cases u <;> simp (decide := true) [Stp.d, Int.ofNat_inj] at h <;> simp [h]
theorem stps_inj : ∀ {ts us : List Stp}, ts.map Stp.d = us.map Stp.d → ts = us
  | [], [], _ => rfl
  | [], _ :: _, h => by cases h
  | _ :: _, [], h => by cases h
  | t :: ts, u :: us, h => by
    injection h with h1 h2
    rw [stp_inj h1, stps_inj h2]
theorem prog_inj {ts us : List Stp} (h : progD ts = progD us) : ts = us := by
  injection h with h
  exact stps_inj h
theorem progFrom_mid {nz : Nat} : ∀ {us ts : List Stp} {t : Stp} {row : List Kd}, ProgFrom nz row (us ++ t :: ts) → t.OK nz (kindsFrom row us)
  | [], _, _, _, h => h.1
  | u :: us, _, _, _, h => progFrom_mid (us := us) h.2
theorem plan_mid {nz : Nat} {us : List Stp} {d : D} {r : List D} (h : PlanOf nz (.tup (us.map Stp.d ++ d :: r))) : stepB nz (kindsFrom [.mom] us) d = true := by
  obtain ⟨ts, e, h⟩ := h
  injection e with e
  have e2 := List.map_eq_append_iff.mp e.symm
  obtain ⟨a, b, rfl, ea, eb⟩ := e2
  have := stps_inj ea
  subst this
  cases b with
  | nil => cases eb
  | cons t b =>
    injection eb with eb1 eb2
    subst eb1
    exact stepB_of (progFrom_mid h.steps)
section
variable {S : Sto} {zs : Zs} {d : D} {n : Nat}
theorem zonesD_len : (zs.map fun z => zoneD z.1 z.2).length = zs.length := by rw [List.length_map]
theorem is_program_odd {Q : D → Sto → Prop} (z : ZsOK zs) (hd : OddD d) (q : ∀ S', Grow S S' → Q (.bl (planB zs.length d)) S') : (m_is_program [zonesD zs, d] S).Does Q := by
  have q0 := q S .refl
  refine does_def rfl ?_
  cases hd with
  | @tup ds hl hd =>
    by_cases h8 : ds.length ≤ 8
    · have hl' : ¬ (8 : Int) < ds.length := by omega
      simp [need_zones_ok z, isTn, h8, hl']
      refine forL_cut (fun es ρ S' => ∃ us x3, ds = (us : List Stp).map Stp.d ++ es ∧ ρ = [some (zonesD zs), some (.tup ds), some (.cell S.length), x3] ∧ S' = S ++ [.lst ((kindsFrom [.mom] us).map Kd.d)] ∧ ProgFrom zs.length [.mom] us) _
        ⟨[], _, rfl, rfl, rfl, trivial⟩ ?_ ?_
      · rintro d r ρ S1 ⟨us, x3, e, rfl, rfl, hp⟩
        refine ⟨_, rfl, fun M hM => ?_⟩
        have hn : (S ++ [.lst ((kindsFrom [.mom] us).map Kd.d)])[S.length]? = some (.lst ((kindsFrom [.mom] us).map Kd.d)) := by simp
        have hdd : OddD d := hd d (by rw [e]; simp)
        have hs := is_step_odd (zs := zs.map fun z => zoneD z.1 z.2) hn hdd
        rw [zonesD_len] at hs
        have hul : us.length ≤ 8 := by
          have : ds.length = us.length + (r.length + 1) := by rw [e]; simp
          omega
        have hkl := kindsFrom_length [.mom] us
        simp at hkl
        cases eb : stepB zs.length (kindsFrom [.mom] us) d with
        | false =>
          have e2 : planB zs.length (.tup ds) = false := planB_no fun h => by
            rw [e] at h
            rw [plan_mid h] at eb
            cases eb
          rw [eb] at hs
          simp [zonesD, hs]
          have q1 := q _ ⟨[Cell.lst ((kindsFrom [.mom] us).map Kd.d)], rfl⟩
          rw [e2] at q1
          exact q1
        | true =>
          obtain ⟨t, rfl, ht⟩ := stepB_some eb
          rw [eb] at hs
          simp [zonesD, hs, kind_made_ok hn ht]
          refine ⟨by omega, hM _ _ ⟨us ++ [t], _, by rw [e]; simp, rfl, by rw [kindsFrom_snoc]; simp, progFrom_snoc hp ht⟩⟩
      · rintro ρ S1 ⟨us, x3, e, rfl, rfl, hp⟩
        rw [List.append_nil] at e
        subst e
        simp [wipeD]
        refine lcQ_filter (as := us) (i := Stp.d) Stp.isEd Stp.d ?_ ?_
        · intro t _
          refine ⟨_, rfl, isEd_does rfl, fun Q _ q => ?_⟩
          simp
          exact q
        · simp
          have e2 : planB zs.length (.tup (us.map Stp.d)) = decide ((us.filter Stp.isEd).length < 2) := by
            by_cases c : (us.filter Stp.isEd).length < 2
            · rw [decide_eq_true c]
              exact planB_iff.mpr ⟨us, rfl, by simpa using h8, hp, c⟩
            · rw [decide_eq_false c]
              refine planB_no fun h => ?_
              obtain ⟨ts, e, h⟩ := h
              have := prog_inj e
              subst this
              exact c h.eds
          have q1 := q _ ⟨[Cell.lst ((kindsFrom [.mom] us).map Kd.d)], rfl⟩
          rw [e2] at q1
          by_cases c : (us.filter Stp.isEd).length < 2
          · have c' : ((us.filter Stp.isEd).length : Int) < 2 := by omega
            simp [c] at q1
            simp [c']
            exact q1
          · have c' : ¬ ((us.filter Stp.isEd).length : Int) < 2 := by omega
            simp [c] at q1
            simp [c']
            exact q1
    · have hl' : (8 : Int) < ds.length := by omega
      have e2 : planB zs.length (.tup ds) = false := planB_no fun h => by
        obtain ⟨ts, e, h⟩ := h
        injection e with e
        have := h.len
        rw [e, List.length_map] at h8
        exact h8 this
      rw [e2] at q0
      simp [need_zones_ok z, isTn, hl']
      exact q0
  | _ =>
    rw [planB_no (fun ⟨ts, e, _⟩ => nomatch e)] at q0
    simp [need_zones_ok z, isTn]
    exact q0
theorem is_plan_odd {Q : D → Sto → Prop} (hd : OddD d) (q : ∀ S', Grow S S' → Q (.bl (planB zs.length d)) S') : (m_law_is_plan [zonesD zs, d] S).Does Q := by
  have q0 := q S .refl
  refine does_def rfl ?_
  cases hd with
  | @tup ds hl hd =>
    by_cases h8 : ds.length ≤ 8
    · have hl' : ¬ (8 : Int) < ds.length := by omega
      simp [isTn, h8, hl']
      refine forL_cut (fun es ρ S' => ∃ us x3, ds = (us : List Stp).map Stp.d ++ es ∧ ρ = [some (zonesD zs), some (.tup ds), some (.cell S.length), x3] ∧ S'[S.length]? = some (.lst ((kindsFrom [.mom] us).map Kd.d)) ∧ Grow S S' ∧ ProgFrom zs.length [.mom] us) _
        ⟨[], _, rfl, rfl, by simp [kindsFrom, Kd.d, Kd.s], ⟨_, rfl⟩, trivial⟩ ?_ ?_
      · rintro d r ρ S1 ⟨us, x3, e, rfl, hn, g1, hp⟩
        refine ⟨_, rfl, fun M hM => ?_⟩
        have hdd : OddD d := hd d (by rw [e]; simp)
        have hul : us.length ≤ 8 := by
          have : ds.length = us.length + (r.length + 1) := by rw [e]; simp
          omega
        have hkl := kindsFrom_length [.mom] us
        simp at hkl
        simp [zonesD]
        refine is_deed_odd (zs := zs.map fun z => zoneD z.1 z.2) hn hdd fun S2 g2 => ?_
        rw [zonesD_len]
        have hn2 := g2.get hn
        cases eb : stepB zs.length (kindsFrom [.mom] us) d with
        | false =>
          have e2 : planB zs.length (.tup ds) = false := planB_no fun h => by
            rw [e] at h
            rw [plan_mid h] at eb
            cases eb
          simp
          have q1 := q _ (g1.trans g2)
          rw [e2] at q1
          exact q1
        | true =>
          obtain ⟨t, rfl, ht⟩ := stepB_some eb
          simp [law_kind_made_ok hn2 ht, hn2]
          refine ⟨by omega, hM _ _ ⟨us ++ [t], _, by rw [e]; simp, rfl, ?_, (g1.trans g2).setN (Nat.le_refl _) _, progFrom_snoc hp ht⟩⟩
          rw [List.getElem?_set_self (List.getElem?_eq_some_iff.mp hn2).1, kindsFrom_snoc]
          simp
      · rintro ρ S1 ⟨us, x3, e, rfl, hn, g1, hp⟩
        rw [List.append_nil] at e
        subst e
        simp [wipeD]
        refine lcQ_filter (as := us) (i := Stp.d) Stp.isEd Stp.d ?_ ?_
        · intro t _
          refine ⟨_, rfl, isEd_does rfl, fun Q _ q => ?_⟩
          simp
          exact q
        · simp
          have e2 : planB zs.length (.tup (us.map Stp.d)) = decide ((us.filter Stp.isEd).length < 2) := by
            by_cases c : (us.filter Stp.isEd).length < 2
            · rw [decide_eq_true c]
              exact planB_iff.mpr ⟨us, rfl, by simpa using h8, hp, c⟩
            · rw [decide_eq_false c]
              refine planB_no fun h => ?_
              obtain ⟨ts, e, h⟩ := h
              have := prog_inj e
              subst this
              exact c h.eds
          have q1 := q _ g1
          rw [e2] at q1
          by_cases c : (us.filter Stp.isEd).length < 2
          · have c' : ((us.filter Stp.isEd).length : Int) < 2 := by omega
            simp [c] at q1
            simp [c']
            exact q1
          · have c' : ¬ ((us.filter Stp.isEd).length : Int) < 2 := by omega
            simp [c] at q1
            simp [c']
            exact q1
    · have hl' : (8 : Int) < ds.length := by omega
      have e2 : planB zs.length (.tup ds) = false := planB_no fun h => by
        obtain ⟨ts, e, h⟩ := h
        injection e with e
        have := h.len
        rw [e, List.length_map] at h8
        exact h8 this
      rw [e2] at q0
      simp [isTn, hl']
      exact q0
  | _ =>
    rw [planB_no (fun ⟨ts, e, _⟩ => nomatch e)] at q0
    simp [isTn]
    exact q0
theorem need_program_bad {E : EX} {Q : D → Sto → Prop} (z : ZsOK zs) (hd : OddD d) (hb : planB zs.length d = false) (q : ∀ S', Grow S S' → E "InvalidProgram" [] S') : (m_need_program [zonesD zs, d] S).DoesE E Q := by
  refine does_def rfl ?_
  simp
  refine Res.Does.toE (is_program_odd z hd fun S1 g1 => ?_)
  rw [hb]
  simp
  exact q _ g1
theorem kinds_bad {E : EX} {Q : D → Sto → Prop} (z : ZsOK zs) (hd : OddD d) (hb : planB zs.length d = false) (q : ∀ S', Grow S S' → E "InvalidProgram" [] S') : (m_kinds [zonesD zs, d] S).DoesE E Q := by
  refine does_def rfl ?_
  simp [need_zones_ok z]
  exact need_program_bad z hd hb q
end
end Dm
-- text HmPro6
namespace Dm
open PySem L2
/-- where it is a list: one that can be laid as plain data -/
def LsOK (d : D) : Prop := ∀ es, d = .lst es → ∃ qs, toPys es = some qs ∧ PyData.canLayAll0 qs = true ∧ PyData.depthAll qs ≤ 3
def OdL (d : D) : Prop := OddD d ∧ LsOK d
section
variable {S : Sto} {zs : Zs} {d : D} {ds : List D} {n p : Nat}
theorem OdL.tup {ds : List D} (h : OddD (.tup ds)) : OdL (.tup ds) := ⟨h, fun _ e => nomatch e⟩
theorem ls_same (h : LsOK (.lst ds)) : gNe S (.lst ds) (.lst ds) = some (.bl false) := by
  obtain ⟨qs, e1, e2, e3⟩ := h _ rfl
  have e4 : toPyS S (.lst ds) = some (.list qs) := by simp only [toPyS, toPy, e1]; rfl
  have c1 : PyData.canLay0 (.list qs) = true := by simp only [PyData.canLay0, e2]
  have s1 : SeqAt.shaped (.list qs) = true := by
    unfold SeqAt.shaped
    rw [c1, Bool.true_and]
    simp only [PyData.depth]
    exact decide_eq_true (by omega)
  unfold gNe eqD
  simp only [e4]
  rw [if_pos ⟨s1, s1⟩, PySem.SeqAt.eqv_refl _ c1]
  rfl
theorem ls_steps {nz : Nat} {row : List Kd} {us : List Stp} (h : ∀ t, t ∈ us → ∃ row, t.OK nz row) : LsOK (.lst (us.map Stp.d)) := by
  rintro es e
  injection e with e
  subst e
  induction us with
  | nil => exact ⟨[], rfl, by decide +kernel, by decide +kernel⟩
  | cons t us ih =>
    obtain ⟨qs, e1, e2, e3⟩ := ih fun u hu => h u (List.mem_cons_of_mem _ hu)
    obtain ⟨row, ht⟩ := h t List.mem_cons_self
    obtain ⟨q, f1, f2, f3⟩ := stp_py ht
    refine ⟨q :: qs, ?_, ?_, ?_⟩
    · simp only [List.map_cons, toPys, f1, e1]
      rfl
    · simp only [PyData.canLayAll0, f2, e2, Bool.and_self]
    · simp only [PyData.depthAll]
      omega
theorem odd_does2 {b : D} {k zz : Int} {Q : D → Sto → Prop} (hp : Bag p (n + 1) S) (hb : gLen S [b] = some (.int k)) (q : ∀ d S', Bag p n S' → GoB p S S' → OdL d → Q d S') : (m_law_odd [.cell p, b, .int zz] S).Does Q := by
  refine does_def rfl ?_
  refine seq_cut (fun ρ S' => S = S' ∧ ∃ ds, ρ = [some (.cell p), some b, some (.int zz), some (.lst ds)] ∧ ds.length = 17 ∧ ∀ d, d ∈ ds → OdL d) (fun M hM => ?_) ?_
  · simp
    refine hM _ _ ⟨rfl, _, rfl, rfl, ?_⟩
    repeat' (first | exact List.forall_mem_nil _ | refine List.forall_mem_cons.mpr ⟨?_, ?_⟩)
    all_goals first
      | exact ⟨.non, fun _ e => nomatch e⟩
      | exact ⟨.bl _, fun _ e => nomatch e⟩
      | exact ⟨.int _, fun _ e => nomatch e⟩
      | exact ⟨.str _, fun _ e => nomatch e⟩
      | exact ⟨.tup (by simp) (List.forall_mem_nil _), fun _ e => nomatch e⟩
      | exact ⟨.tup (by simp) (List.forall_mem_cons.mpr ⟨.int _, List.forall_mem_nil _⟩), fun _ e => nomatch e⟩
      | exact ⟨.lst (by simp) (List.forall_mem_nil _), fun _ e => by cases e; exact ⟨[], rfl, by decide +kernel, by decide +kernel⟩⟩
      | exact ⟨.lst (by simp) (List.forall_mem_cons.mpr ⟨.int _, List.forall_mem_nil _⟩), fun _ e => by cases e; exact ⟨[.int 0], rfl, by decide +kernel, by decide +kernel⟩⟩
  rintro ρ _ ⟨rfl, ds, rfl, hl, hd⟩
  refine seq_cut (fun ρ S' => S = S' ∧ ∃ ds, ρ = [some (.cell p), some b, some (.int zz), some (.lst ds)] ∧ ds.length = 29 ∧ ∀ d, d ∈ ds → OdL d) (fun M hM => ?_) ?_
  · simp [hb, hl]
    refine hM _ _ ⟨rfl, _, rfl, by simp [hl], List.forall_mem_append.mpr ⟨hd, ?_⟩⟩
    repeat' (first | exact List.forall_mem_nil _ | refine List.forall_mem_cons.mpr ⟨?_, ?_⟩)
    all_goals first
      | exact ⟨.non, fun _ e => nomatch e⟩
      | exact ⟨.bl _, fun _ e => nomatch e⟩
      | exact ⟨.int _, fun _ e => nomatch e⟩
      | exact ⟨.str _, fun _ e => nomatch e⟩
      | exact ⟨.exn _ _, fun _ e => nomatch e⟩
  rintro ρ _ ⟨rfl, ds, rfl, hl, hd⟩
  simp [hl]
  refine pick_does hp (by decide) (by decide) fun r S1 b1 g1 r0 r1 => ?_
  obtain ⟨d, e, hm⟩ := at_some (xs := ds) r0 (by rw [hl]; exact r1)
  simp [e]
  exact q d S1 b1 g1 (hd d hm)
/-- a part of a step -/
inductive PtD : D → Prop
  | int (i : Int) : PtD (.int i)
  | str (s : Str) (h : s.length ≤ 1000) : PtD (.str s)
theorem PtD.odd {d : D} (h : PtD d) : OddD d := by cases h <;> constructor
theorem ruleF_len {f : Str} (h : RuleF f) : f.length ≤ 1000 := by rcases h with rfl | rfl | rfl <;> decide +kernel
theorem ruleG_len {f : Str} (h : RuleG f) : f.length ≤ 1000 := by rcases h with rfl | rfl | rfl <;> decide +kernel
theorem stp_parts {t : Stp} {nz : Nat} {row : List Kd} (h : t.OK nz row) : ∃ ls : List D, t.d = .tup ls ∧ 3 ≤ ls.length ∧ ls.length ≤ 5 ∧ ∀ d, d ∈ ls → PtD d := by
  cases t with
  | find i p f g =>
    refine ⟨_, rfl, by simp, by simp, ?_⟩
    exact List.forall_mem_cons.mpr ⟨.str _ (by decide +kernel), List.forall_mem_cons.mpr ⟨.int _, List.forall_mem_cons.mpr ⟨.int _, List.forall_mem_cons.mpr ⟨.str _ (ruleF_len h.2.2.1), List.forall_mem_cons.mpr ⟨.str _ (ruleG_len h.2.2.2), List.forall_mem_nil _⟩⟩⟩⟩⟩
  | _ =>
    refine ⟨_, rfl, by simp, by simp, ?_⟩
    exact List.forall_mem_cons.mpr ⟨.str _ (by decide +kernel), List.forall_mem_cons.mpr ⟨.int _, List.forall_mem_cons.mpr ⟨.int _, List.forall_mem_nil _⟩⟩⟩
theorem bent_deed_does {Q : D → Sto → Prop} {ls : List D} {zz : Int} (hp : Bag p (n + 6) S) (l3 : 3 ≤ ls.length) (l5 : ls.length ≤ 5) (hl : ∀ d, d ∈ ls → PtD d) (q : ∀ d S', Bag p n S' → GoB p S S' → OddD d → Q d S') : (m_law_bent_deed [.cell p, zonesD zs, .tup ls, .int zz] S).Does Q := by
  have ol : OddL 5 ls := ⟨l5, fun d hd => (hl d hd).odd⟩
  refine does_def rfl ?_
  refine seq_cut (fun ρ S' => ∃ w : Int, ρ = [some (.cell p), some (zonesD zs), some (.tup ls), some (.int zz), some (.int w), none, none] ∧ Bag p (n + 5) S' ∧ GoB p S S') (fun M hM => ?_) ?_
  · simp
    exact pick_does (n := n + 5) hp (by decide) (by decide) fun w S1 b1 g1 w0 w1 => hM _ _ ⟨w, rfl, b1, g1⟩
  rintro ρ S1 ⟨w, rfl, b1, g1⟩
  refine seq_cut (fun ρ S' => ∃ k : Int, ρ = [some (.cell p), some (zonesD zs), some (.tup ls), some (.int zz), some (.int w), some (.int k), none] ∧ Bag p (n + 4) S' ∧ GoB p S S' ∧ 0 ≤ k ∧ k < ls.length) (fun M hM => ?_) ?_
  · simp
    exact pick_does (n := n + 4) b1 (by omega) (by omega) fun k S2 b2 g2 k0 k1 => hM _ _ ⟨k, rfl, b2, g1.trans g2, k0, k1⟩
  rintro ρ S2 ⟨k, rfl, b2, g2, k0, k1⟩
  obtain ⟨x, ex, hx⟩ := at_some (xs := ls) k0 k1
  have px := hl x hx
  have hz : gLen S2 [zonesD zs] = some (.int zs.length) := by simp [zonesD]
  have o1 := ol.cut (lo := none) (hi := some k)
  have o2 := ol.cut (lo := some (k + 1)) (hi := none)
  have o3 := ol.cut (lo := some k) (hi := none)
  have m1 := o1.len
  have m2 := o2.len
  have m3 := o3.len
  have put : ∀ {y : D}, OddD y → OddD (.tup (cutD ls none (some k) ++ y :: cutD ls (some (k + 1)) none)) := fun hy => (o1.app ((OddL.one hy).app o2)).tup
  have put2 : ∀ {y : D}, OddD y → OddD (.tup (cutD ls none (some k) ++ y :: cutD ls (some k) none)) := fun hy => (o1.app ((OddL.one hy).app o3)).tup
  refine seq_cut (fun ρ S' => S2 = S' ∧ ρ = [some (.cell p), some (zonesD zs), some (.tup ls), some (.int zz), some (.int w), some (.int k), some x]) (fun M hM => ?_) ?_
  · simp [ex]
    exact hM _ _ ⟨rfl, rfl⟩
  rintro ρ _ ⟨rfl, rfl⟩
  refine seq_cut (fun ρ S' => S2 = S' ∧ ρ = [some (.cell p), some (zonesD zs), some (.tup ls), some (.int zz), some (.int w), some (.int k), some x]) (fun M hM => ?_) ?_
  · by_cases c : w < 4
    · simp [c]
      refine odd_does2 (n := n + 3) b2 hz fun y S3 b3 g3 oy => ?_
      exact ⟨by omega, by omega, q _ _ (b3.mono (by omega)) (g2.trans g3) (put oy.1)⟩
    · simp [c]
      exact hM _ _ ⟨rfl, rfl⟩
  rintro ρ _ ⟨rfl, rfl⟩
  refine seq_cut (fun ρ S' => S2 = S' ∧ ρ = [some (.cell p), some (zonesD zs), some (.tup ls), some (.int zz), some (.int w), some (.int k), some x]) (fun M hM => ?_) ?_
  · by_cases c : w = 4
    · simp [c]
      exact ⟨by omega, q _ _ (b2.mono (by omega)) g2 (o1.app o2).tup⟩
    · simp [c]
      exact hM _ _ ⟨rfl, rfl⟩
  rintro ρ _ ⟨rfl, rfl⟩
  refine seq_cut (fun ρ S' => S2 = S' ∧ ρ = [some (.cell p), some (zonesD zs), some (.tup ls), some (.int zz), some (.int w), some (.int k), some x]) (fun M hM => ?_) ?_
  · by_cases c : w = 5
    · simp [c]
      refine odd_does2 (n := n + 3) b2 hz fun y S3 b3 g3 oy => ?_
      exact ⟨by omega, by omega, q _ _ (b3.mono (by omega)) (g2.trans g3) (put2 oy.1)⟩
    · simp [c]
      exact hM _ _ ⟨rfl, rfl⟩
  rintro ρ _ ⟨rfl, rfl⟩
  refine seq_cut (fun ρ S' => S2 = S' ∧ ρ = [some (.cell p), some (zonesD zs), some (.tup ls), some (.int zz), some (.int w), some (.int k), some x]) (fun M hM => ?_) ?_
  · by_cases c : w = 6
    · simp [c]
      refine odd_does2 (n := n + 3) b2 hz fun y S3 b3 g3 oy => ?_
      refine pick_does (n := n + 2) b3 (by decide) (by decide) fun r S4 b4 g4 r0 r1 => ?_
      have ot := ol.tup
      have o4 : OddL 4 [y, .lst ls, .lst [.tup ls], .tup [.tup ls]] := ⟨by simp, List.forall_mem_cons.mpr ⟨oy.1, List.forall_mem_cons.mpr ⟨ol.lst, List.forall_mem_cons.mpr ⟨(OddL.one ot).lst, List.forall_mem_cons.mpr ⟨(OddL.one ot).tup, List.forall_mem_nil _⟩⟩⟩⟩⟩
      obtain ⟨d, e, hm⟩ := at_some (xs := [y, .lst ls, .lst [.tup ls], .tup [.tup ls]]) r0 r1
      simp [e]
      exact q d _ (b4.mono (by omega)) (g2.trans (g3.trans g4)) (o4.all d hm)
    · simp [c]
      exact hM _ _ ⟨rfl, rfl⟩
  rintro ρ _ ⟨rfl, rfl⟩
  refine seq_cut (fun ρ S' => ∃ y, ρ = [some (.cell p), some (zonesD zs), some (.tup ls), some (.int zz), some (.int w), some (.int k), some y] ∧ OddD y ∧ Bag p n S' ∧ GoB p S S') (fun M hM => ?_) ?_
  · cases px with
    | int i =>
      simp [isTn]
      exact hM _ _ ⟨_, rfl, .int _, b2.mono (by omega), g2⟩
    | str s hs =>
      simp [isTn]
      have e1 : (Str.ofString " ").length ≤ 1000 := by decide +kernel
      have e2 : (Str.ofString "s").length ≤ 1000 := by decide +kernel
      refine ⟨by omega, by omega, by omega, by omega, ?_⟩
      refine pick_does (n := n + 3) b2 (by decide) (by decide) fun r S4 b4 g4 r0 r1 => ?_
      have o4 : OddL 4 [D.str (s ++ Str.ofString " "), D.str (cutS s none (some (-1))), D.str (s ++ s), D.str (Str.ofString "s" ++ s)] := ⟨by simp, List.forall_mem_cons.mpr ⟨.str _, List.forall_mem_cons.mpr ⟨.str _, List.forall_mem_cons.mpr ⟨.str _, List.forall_mem_cons.mpr ⟨.str _, List.forall_mem_nil _⟩⟩⟩⟩⟩
      obtain ⟨d, e, hm⟩ := at_some (xs := [D.str (s ++ Str.ofString " "), D.str (cutS s none (some (-1))), D.str (s ++ s), D.str (Str.ofString "s" ++ s)]) r0 r1
      simp [e]
      exact hM _ _ ⟨_, rfl, o4.all d hm, b4.mono (by omega), g2.trans g4⟩
  rintro ρ S3 ⟨y, rfl, oy, b3, g3⟩
  simp
  exact ⟨by omega, by omega, q _ _ b3 g3 (put oy)⟩
theorem progFrom_all {nz : Nat} : ∀ {ts : List Stp} {row : List Kd}, ProgFrom nz row ts → ∀ t, t ∈ ts → ∃ row, t.OK nz row
  | [], _, _, _, h => nomatch h
  | u :: us, row, hp, t, h => by
    rcases List.mem_cons.mp h with rfl | h
    · exact ⟨row, hp.1⟩
    · exact progFrom_all hp.2 t h
theorem PtD.all_odd {ls : List D} (h : ∀ d, d ∈ ls → PtD d) (hl : ls.length ≤ 5) : OddD (.tup ls) := .tup (by omega) fun d hd => (h d hd).odd
theorem bent_plan_does {Q : D → Sto → Prop} {ts : List Stp} (hp : Bag p (n + 20) S) (z : ZsOK zs) (h : ProgOK zs.length ts) (q : ∀ d S', Bag p n S' → GoB p S S' → OdL d → Q d S') : (m_law_bent_plan [.cell p, zonesD zs, progD ts] S).Does Q := by
  have hl := h.len
  have ha := progFrom_all h.steps
  have lsS : LsOK (.lst (ts.map Stp.d)) := ls_steps (nz := zs.length) (row := []) ha
  have hz : gLen S [zonesD zs] = some (.int zs.length) := by simp [zonesD]
  have zl : 1 ≤ zs.length ∧ zs.length ≤ 2 := by rcases z.len with h | h <;> omega
  have oD : ∀ d, d ∈ ts.map Stp.d → ∃ ls, d = .tup ls ∧ 3 ≤ ls.length ∧ ls.length ≤ 5 ∧ ∀ d, d ∈ ls → PtD d := by
    intro d hd
    obtain ⟨t, ht, rfl⟩ := List.mem_map.mp hd
    obtain ⟨row, hr⟩ := ha t ht
    exact stp_parts hr
  have ol : OddL 8 (ts.map Stp.d) := ⟨by rw [List.length_map]; exact hl, fun d hd => by
    obtain ⟨ls, rfl, l3, l5, hp⟩ := oD d hd
    exact PtD.all_odd hp l5⟩
  have ll : (ts.map Stp.d).length = ts.length := List.length_map ..
  refine does_def rfl ?_
  unfold progD
  generalize e0 : ts.map Stp.d = ds at *
  refine seq_cut (fun ρ S' => ∃ k : Int, ρ = [some (.cell p), some (zonesD zs), some (.tup ds), some (.int k), none, none, none] ∧ Bag p (n + 19) S' ∧ GoB p S S' ∧ 0 ≤ k ∧ k ≤ ds.length) (fun M hM => ?_) ?_
  · simp
    exact pick_does (n := n + 19) hp (by omega) (by omega) fun k S1 b1 g1 k0 k1 => hM _ _ ⟨k, rfl, b1, g1, k0, by omega⟩
  rintro ρ S1 ⟨k, rfl, b1, g1, k0, k1⟩
  have o1 := ol.cut (lo := none) (hi := some k)
  have o2 := ol.cut (lo := some (k + 1)) (hi := none)
  have o3 := ol.cut (lo := some k) (hi := none)
  have m1 := o1.len
  have m2 := o2.len
  have m3 := o3.len
  refine seq_cut (fun ρ S' => ρ = [some (.cell p), some (zonesD zs), some (.tup ds), some (.int k), none, none, none] ∧ Bag p (n + 18) S' ∧ GoB p S S') (fun M hM => ?_) ?_
  · simp
    refine pick_does (n := n + 18) b1 (by decide) (by decide) fun r S2 b2 g2 r0 r1 => ?_
    by_cases c : 0 < r
    · simp [c]
      by_cases c2 : k < ds.length
      · obtain ⟨x, ex, hx⟩ := at_some (xs := ds) k0 c2
        obtain ⟨ls, rfl, f1, f2, f3⟩ := oD x hx
        simp [c2, ex]
        refine bent_deed_does (n := n + 12) b2 f1 f2 f3 fun y S3 b3 g3 oy => ?_
        exact ⟨by omega, by omega, q _ _ (b3.mono (by omega)) (g1.trans (g2.trans g3)) (.tup (o1.app ((OddL.one oy).app o2)).tup)⟩
      · simp [c2]
        refine bent_deed_does (n := n + 12) b2 (by simp) (by simp) (List.forall_mem_cons.mpr ⟨.str _ (by decide +kernel), List.forall_mem_cons.mpr ⟨.int _, List.forall_mem_cons.mpr ⟨.int _, List.forall_mem_nil _⟩⟩⟩) fun y S3 b3 g3 oy => ?_
        exact ⟨by omega, by omega, q _ _ (b3.mono (by omega)) (g1.trans (g2.trans g3)) (.tup (o1.app ((OddL.one oy).app o2)).tup)⟩
    · simp [c]
      exact hM _ _ ⟨rfl, b2, g1.trans g2⟩
  rintro ρ S2 ⟨rfl, b2, g2⟩
  have hz2 : gLen S2 [zonesD zs] = some (.int zs.length) := by simp [zonesD]
  refine seq_cut (fun ρ S' => ∃ w c : D, ρ = [some (.cell p), some (zonesD zs), some (.tup ds), some (.int k), none, some w, none] ∧ OddD w ∧ Bag p (n + 17) S' ∧ GoB p S S') (fun M hM => ?_) ?_
  · simp [hz2]
    refine pick_does (n := n + 17) b2 (by decide) (by decide) fun r S3 b3 g3 r0 r1 => ?_
    obtain ⟨d, e, hm⟩ := at_some (xs := [D.tup [.str "edition", .int 0, .int 0], .tup [.str "add", .int 0, .int 0], .tup [.str "read", .int 0, .int 0], .tup [.str "offset", .int 0, .int ((zs.length : Int) - 1)]]) r0 r1
    simp [e]
    have od : ∀ d, d ∈ [D.tup [.str "edition", .int 0, .int 0], .tup [.str "add", .int 0, .int 0], .tup [.str "read", .int 0, .int 0], .tup [.str "offset", .int 0, .int ((zs.length : Int) - 1)]] → OddD d := by
      repeat' (first | exact List.forall_mem_nil _ | refine List.forall_mem_cons.mpr ⟨?_, ?_⟩ | exact OddD.int _ | exact OddD.str _ | refine OddD.tup (by simp) ?_)
    exact hM _ _ ⟨d, .non, rfl, od d hm, b3, g2.trans g3⟩
  rintro ρ S3 ⟨w, _, rfl, ow, b3, g3⟩
  refine seq_cut (fun ρ S' => S3 = S' ∧ ∃ es, ρ = [some (.cell p), some (zonesD zs), some (.tup ds), some (.int k), none, some w, some (.lst es)] ∧ es.length = 7 ∧ ∀ d, d ∈ es → OdL d) (fun M hM => ?_) ?_
  · have q1 : OdL (.lst ds) := ⟨ol.lst, lsS⟩
    have q2 := OdL.tup (ol.app ol).tup
    have q3 := OdL.tup ol.rev.tup
    have c1 := ol.cut (lo := some 1) (hi := none)
    have q4 := OdL.tup c1.tup
    have q5 : OdL (.tup [w, w, w, w, w, w, w, w, w]) := OdL.tup (.tup (by simp) (by repeat' (first | exact List.forall_mem_nil _ | refine List.forall_mem_cons.mpr ⟨?_, ?_⟩ | exact ow)))
    have q6 := OdL.tup (o1.app ((OddL.one ow).app o3)).tup
    have q7 := OdL.tup (OddL.one ol.tup).tup
    simp
    refine ⟨by omega, by omega, by omega, hM _ _ ⟨rfl, _, rfl, rfl, ?_⟩⟩
    exact List.forall_mem_cons.mpr ⟨q1, List.forall_mem_cons.mpr ⟨q2, List.forall_mem_cons.mpr ⟨q3, List.forall_mem_cons.mpr ⟨q4, List.forall_mem_cons.mpr ⟨q5, List.forall_mem_cons.mpr ⟨q6, List.forall_mem_cons.mpr ⟨q7, List.forall_mem_nil _⟩⟩⟩⟩⟩⟩⟩
  rintro ρ _ ⟨rfl, es, rfl, le, he⟩
  refine seq_cut (fun ρ S' => ∃ es, ρ = [some (.cell p), some (zonesD zs), some (.tup ds), some (.int k), none, some w, some (.lst es)] ∧ es.length = 11 ∧ (∀ d, d ∈ es → OdL d) ∧ Bag p (n + 16) S' ∧ GoB p S S') (fun M hM => ?_) ?_
  · have hz3 : gLen S3 [zonesD zs] = some (.int zs.length) := by simp [zonesD]
    simp
    refine ⟨by omega, ?_⟩
    refine odd_does2 (n := n + 16) b3 hz3 fun y S4 b4 g4 oy => ?_
    have c1 := ol.cut (lo := none) (hi := some 1)
    have l1 := c1.len
    have oe : OddD (.tup [.str "edition", .int 0, .int 0]) := by
      repeat' (first | exact List.forall_mem_nil _ | refine List.forall_mem_cons.mpr ⟨?_, ?_⟩ | exact OddD.int _ | exact OddD.str _ | refine OddD.tup (by simp) ?_)
    have q1 := OdL.tup (ol.app (OddL.one oe)).tup
    have r8 : OddL 8 (List.replicate 8 [w]).flatten := ⟨by simp, fun d hd => by
      have := rep_mem hd
      rw [List.mem_singleton.mp this]
      exact ow⟩
    have q3 := OdL.tup (r8.app c1).tup
    have q4 := OdL.tup (ol.app (OddL.one .non)).tup
    refine ⟨by omega, by omega, by omega, hM _ _ ⟨_, rfl, by simp [le], ?_, b4, g3.trans g4⟩⟩
    refine List.forall_mem_append.mpr ⟨he, ?_⟩
    exact List.forall_mem_cons.mpr ⟨q1, List.forall_mem_cons.mpr ⟨oy, List.forall_mem_cons.mpr ⟨q3, List.forall_mem_cons.mpr ⟨q4, List.forall_mem_nil _⟩⟩⟩⟩
  rintro ρ S4 ⟨es, rfl, le, he, b4, g4⟩
  simp [le]
  refine pick_does (n := n + 15) b4 (by decide) (by decide) fun r S5 b5 g5 r0 r1 => ?_
  obtain ⟨d, e, hm⟩ := at_some (xs := es) r0 (by rw [le]; exact r1)
  simp [e]
  exact q d S5 (b5.mono (by omega)) (g4.trans g5) (he d hm)
end
end Dm
-- text M_k20
namespace Dm
open PySem L2
/-! ### rows of kinds as texts -/
theorem kinds_py : ∀ row : List Kd, toPys (row.map Kd.d) = some (row.map fun k => PyData.str k.s)
  | [] => rfl
  | k :: row => by
    have ih := kinds_py row
    simp only [List.map_cons, toPys, ih, Kd.d, toPy, Option.bind_some, Option.map_some]
theorem kd_len (k : Kd) : (reprText k.s).length ≤ 12 := by cases k <;> decide +kernel
theorem kinds_shown : ∀ row : List Kd, PyData.shownAll (row.map fun k => PyData.str k.s) = row.map fun k => reprText k.s
  | [] => rfl
  | k :: row => by
    have ih := kinds_shown row
    simp only [List.map_cons, PyData.shownAll, ih, PyData.shown]
theorem kinds_show : ∀ row : List Kd, PyData.showableAll (row.map fun k => PyData.str k.s) = true
  | [] => rfl
  | k :: row => by
    have ih := kinds_show row
    simp only [List.map_cons, PyData.showableAll, ih, PyData.showable, Bool.and_self]
theorem kinds_dict : ∀ row : List Kd, PyData.hasDictAll (row.map fun k => PyData.str k.s) = false
  | [] => rfl
  | k :: row => by
    have ih := kinds_dict row
    simp only [List.map_cons, PyData.hasDictAll, ih, PyData.hasDict, Bool.or_self]
theorem kinds_depth : ∀ row : List Kd, PyData.depthAll (row.map fun k => PyData.str k.s) = 0
  | [] => rfl
  | k :: row => by
    have ih := kinds_depth row
    simp only [List.map_cons, PyData.depthAll, ih, PyData.depth]
    rfl
theorem kinds_sum : ∀ row : List Kd, ((row.map fun k => reprText k.s).map (·.length)).sum ≤ 12 * row.length
  | [] => Nat.le_refl _
  | k :: row => by
    have ih := kinds_sum row
    have := kd_len k
    simp only [List.map_cons, List.sum_cons, List.length_cons]
    omega
theorem kinds_repr {row : List Kd} (hl : row.length ≤ 1000) : reprOk (.list (row.map fun k => PyData.str k.s)) := by
  refine ⟨?_, ?_, ?_, ?_⟩
  · simp only [PyData.showable]; exact kinds_show row
  · simp only [PyData.hasDict]; exact kinds_dict row
  · simp only [PyData.shown, kinds_shown]
    have h1 := listText_len_le (row.map fun k => reprText k.s)
    have h2 := kinds_sum row
    rw [List.length_map] at h1
    have h3 : sizeLine = 16777216 := rfl
    omega
  · simp only [PyData.depth, kinds_depth]
    decide
section
variable {S : Sto}
theorem same_kinds {a b : Nat} {row : List Kd} (ha : S[a]? = some (.lst (row.map Kd.d))) (hb : S[b]? = some (.lst (row.map Kd.d))) (hl : row.length ≤ 1000) : m_law_same_v2 [.cell a, .cell b] S = .ok (.bl true) S := by
  have e : ∀ c, S[c]? = some (.lst (row.map Kd.d)) → gRepr S [.cell c] = some (.str (PyData.list (row.map fun k => PyData.str k.s)).shown) := by
    intro c hc
    have e1 : toPyC S (.cell c) = some (.list (row.map fun k => PyData.str k.s)) := by simp only [toPyC, hc, kinds_py]; rfl
    unfold gRepr
    simp only [e1, if_pos (kinds_repr hl)]
  refine pure_of fun Q q => ?_
  refine does_def rfl ?_
  simp [e a ha, e b hb]
  exact q
theorem app_at {S : Sto} {i : Nat} {c : Cell} (l : List Cell) (h : S[i]? = some c) : (S ++ l)[i]? = some c := by
  rw [List.getElem?_append_left (List.getElem?_eq_some_iff.mp h).1]
  exact h
end
end Dm
-- text HmAdd
namespace Dm
open PySem L2
end Dm
-- text HmAllT1
namespace Dm
open PySem L2
end Dm
-- text HmAllT2
namespace Dm
open PySem L2
end Dm
-- text HmAllT3
namespace Dm
open PySem L2
end Dm
-- text HmAllT4
namespace Dm
open PySem L2
/-- two rows, item by item -/
inductive Rel2 {α β : Type} (P : α → β → Prop) : List α → List β → Prop
  | nil : Rel2 P [] []
  | cons {a b as bs} : P a b → Rel2 P as bs → Rel2 P (a :: as) (b :: bs)
theorem Rel2.len {α β : Type} {P : α → β → Prop} {as : List α} {bs : List β} (h : Rel2 P as bs) : bs.length = as.length := by
  induction h with
  | nil => rfl
  | cons _ _ ih => rw [List.length_cons, List.length_cons, ih]
theorem Rel2.mem {α β : Type} {P : α → β → Prop} {as : List α} {bs : List β} (h : Rel2 P as bs) {b : β} (hb : b ∈ bs) : ∃ a, a ∈ as ∧ P a b := by
  induction h with
  | nil => cases hb
  | @cons a b' _ _ p _ ih =>
    rcases List.mem_cons.mp hb with rfl | hb
    · exact ⟨a, List.mem_cons_self, p⟩
    · obtain ⟨a, h1, h2⟩ := ih hb
      exact ⟨a, List.mem_cons_of_mem _ h1, h2⟩
end Dm
-- text M_k21
namespace Dm
open PySem L2
section
variable {S : Sto} {zs : Zs} {tb later : List Tb}
theorem same_bl {b : Bool} : m_law_same_v2 [.bl b, .bl b] S = .ok (.bl true) S := by
  refine same_py (p := .bool b) rfl rfl ?_
  cases b <;> exact ⟨by decide +kernel, by decide +kernel, by decide +kernel, by decide +kernel⟩
end
end Dm
-- text M_k19
namespace Dm
open PySem L2
section
variable {S : Sto} {zs : Zs} {d : D} {n p : Nat}
theorem kinds_told_does {Q : D → Sto → Prop} (z : ZsOK zs) (h : OddD d) (q1 : ∀ ts, d = progD ts → ProgOK zs.length ts → planB zs.length d = true → ∀ S' c, Grow S S' → S'[c]? = some (.lst ((kindsFrom [.mom] ts).map Kd.d)) → Q (.cell c) S') (q2 : planB zs.length d = false → ∀ S', Grow S S' → Q (.str "InvalidProgram") S') :
    (m_law_kinds_told [zonesD zs, d] S).Does Q := by
  refine does_def rfl ?_
  simp
  cases hb : planB zs.length d with
  | true =>
    obtain ⟨ts, rfl, ok⟩ := planB_iff.mp hb
    refine Res.Does.toE (kinds_does z ok ?_)
    exact q1 ts rfl ok hb _ _ ⟨_, rfl⟩ (by rw [List.getElem?_append_right (by omega)]; simp)
  | false =>
    refine kinds_bad z h hb fun S' g => ?_
    have h1 : xSub "InvalidProgram" "InvalidProgram" = true := by decide +kernel
    refine ⟨[], rfl, by simp, ?_⟩
    simp [h1, setI, clearI]
    exact q2 hb S' g
end
theorem law_k19_programs_looked_at_true : LawTrue m_law_k19_programs_looked_at := by
  refine law_loop (by decide) fun c L xs S hx => ?_
  obtain ⟨x2, x3, x4, x5, x6, x7, rfl⟩ : ∃ x2 x3 x4 x5 x6 x7, xs = [x2, x3, x4, x5, x6, x7] := match xs, hx with
    | [_, _, _, _, _, _], _ => ⟨_, _, _, _, _, _, rfl⟩
  refine seq_cut (fun ρ S' => ∃ p, ρ = [some L, some (.int c), some (.cell p), x3, x4, x5, x6, x7] ∧ Bag p 9223372036854775808 S') (fun M hM => ?_) ?_
  · simp
    refine bag_of_does fun S1 b1 g1 => ?_
    exact hM _ _ ⟨_, rfl, b1⟩
  rintro ρ S1 ⟨p, rfl, b1⟩
  refine seq_cut (fun ρ S' => ∃ zs, ρ = [some L, some (.int c), some (.cell p), some (zonesD zs), x4, x5, x6, x7] ∧ ZsOK zs ∧ Bag p 100000 S') (fun M hM => ?_) ?_
  · simp
    refine any_belts_does (n := 100000) (b1.mono (by omega)) fun zs S2 b2 g2 h1 h2 => ?_
    exact hM _ _ ⟨zs, rfl, ⟨h1, h2⟩, b2⟩
  rintro ρ S2 ⟨zs, rfl, z, b2⟩
  have zl : 1 ≤ zs.length ∧ zs.length ≤ 2 := by rcases z.len with h | h <;> omega
  refine seq_cut (fun ρ S' => ∃ ts, ρ = [some L, some (.int c), some (.cell p), some (zonesD zs), some (progD ts), x5, x6, x7] ∧ ProgOK zs.length ts ∧ Bag p 80000 S') (fun M hM => ?_) ?_
  · simp
    refine any_plan_does (n := 80000) (u := 8) (b2.mono (by omega)) z (by omega) (by omega) (by omega) (by omega) (.inl rfl) fun ts S3 b3 g3 hp3 hl3 ca cb cc => ?_
    refine hM _ _ ⟨ts, rfl, ⟨hl3, hp3, ?_⟩, b3⟩
    unfold cnt at cc
    omega
  rintro ρ S3 ⟨ts, rfl, ok, b3⟩
  have ha := progFrom_all ok.steps
  have od0 : OdL (progD ts) := by
    refine ⟨?_, fun _ e => nomatch e⟩
    have hl := ok.len
    refine .tup (by rw [List.length_map]; omega) fun d hd => ?_
    obtain ⟨t, _, rfl⟩ := List.mem_map.mp hd
    exact stp_odd t
  rw [does_for]
  have hit : ∀ Q : List D → Sto → Prop, (∀ ds S', Bag p 70000 S' → (∀ d, d ∈ ds → OdL d) → Q ds S') → (iSeq (mFz (mLst (mCons (mVar 4) (mCons (mCall m_law_bent_plan (mCons (mVar 2) (mCons (mVar 3) (mCons (mVar 4) mNil)))) (mCons (mVar 4) (mCons (mCall m_law_bent_plan (mCons (mVar 2) (mCons (mVar 3) (mCons (mVar 4) mNil)))) mNil)))))) [some L, some (.int c), some (.cell p), some (zonesD zs), some (progD ts), x5, x6, x7] S3).Does Q := by
    intro Q q
    simp
    refine bent_plan_does (n := 75000) (b3.mono (by omega)) z ok fun d1 S5 b5 g5 od1 => ?_
    refine bent_plan_does (n := 70000) (b5.mono (by omega)) z ok fun d2 S6 b6 g6 od2 => ?_
    exact q _ _ b6 (List.forall_mem_cons.mpr ⟨od0, List.forall_mem_cons.mpr ⟨od1, List.forall_mem_cons.mpr ⟨od0, List.forall_mem_cons.mpr ⟨od2, List.forall_mem_nil _⟩⟩⟩⟩)
  refine Res.Does.toE (hit _ fun things S6 b6 hall => ?_)
  refine forL_cut (fun ds ρ S' => (∀ d, d ∈ ds → OdL d) ∧ ∃ x5 x6 x7, ρ = [some L, some (.int c), some (.cell p), some (zonesD zs), some (progD ts), x5, x6, x7]) _
    ⟨hall, x5, x6, x7, rfl⟩ ?_ ?_
  · rintro d ds ρ S7 ⟨hall, x5, x6, x7, rfl⟩
    have od := hall d List.mem_cons_self
    have hall2 := fun d h => hall d (List.mem_cons_of_mem _ h)
    refine ⟨_, rfl, fun M2 hM2 => ?_⟩
    refine seq_cut (fun ρ S' => S7 = S' ∧ ρ = [some L, some (.int c), some (.cell p), some (zonesD zs), some (progD ts), some d, some (.lst []), x7]) (fun M hM => ?_) ?_
    · simp
      exact hM _ _ ⟨rfl, rfl⟩
    rintro ρ _ ⟨rfl, rfl⟩
    refine seq_cut (fun ρ S' => S7 = S' ∧ ∃ k, ρ = [some L, some (.int c), some (.cell p), some (zonesD zs), some (progD ts), some d, some k, x7] ∧ ∀ es, d = .lst es → k = .lst es) (fun M hM => ?_) ?_
    · obtain ⟨od, ol⟩ := od
      cases od with
      | lst hl hd =>
        simp [isTn]
        exact hM _ _ ⟨rfl, _, rfl, fun es e => by injection e with e; rw [e]⟩
      | _ =>
        simp [isTn]
        exact hM _ _ ⟨rfl, _, rfl, fun es e => nomatch e⟩
    rintro ρ _ ⟨rfl, k, rfl, hk⟩
    refine seq_cut (fun ρ S' => ρ = [some L, some (.int c), some (.cell p), some (zonesD zs), some (progD ts), some d, some k, some (.bl (planB zs.length d))]) (fun M hM => ?_) ?_
    · simp
      refine is_plan_odd od.1 fun S8 g8 => ?_
      exact hM _ _ rfl
    rintro ρ S8 rfl
    refine seq_cut (fun ρ S' => ρ = [some L, some (.int c), some (.cell p), some (zonesD zs), some (progD ts), some d, some k, some (.bl (planB zs.length d))]) (fun M hM => ?_) ?_
    · simp
      refine is_program_odd z od.1 fun S9 g9 => ?_
      simp [same_bl]
      exact hM _ _ rfl
    rintro ρ S9 rfl
    refine seq_cut (fun ρ S' => ρ = [some L, some (.int c), some (.cell p), some (zonesD zs), some (progD ts), some d, some k, some (.bl (planB zs.length d))]) (fun M hM => ?_) ?_
    · simp
      refine kinds_told_does z od.1 (fun us eu ku hb S10 cc g10 h10 => ?_) (fun hb S10 g10 => ?_)
      · subst eu
        simp [hb]
        have lu := ku.len
        have lk := kindsFrom_length [.mom] us
        simp at lk
        refine kind_row_does ku.steps (by omega) ?_
        have h11 : (S10 ++ [.lst ((kindsFrom [.mom] us).map Kd.d)])[cc]? = some (.lst ((kindsFrom [.mom] us).map Kd.d)) := app_at _ h10
        have h12 : (S10 ++ [.lst ((kindsFrom [.mom] us).map Kd.d)])[S10.length]? = some (.lst ((kindsFrom [.mom] us).map Kd.d)) := by simp
        simp [same_kinds h11 h12 (by omega)]
        exact hM _ _ (by rw [hb])
      · simp [hb]
        have sp := same_py (S := S10) (d := .str "InvalidProgram") (d' := .str "InvalidProgram") (p := .str "InvalidProgram") rfl rfl ⟨by decide +kernel, by decide +kernel, by decide +kernel, by decide +kernel⟩
        simp [sp]
        exact hM _ _ (by rw [hb])
    rintro ρ S10 rfl
    obtain ⟨od, ols⟩ := od
    cases od with
    | @lst ds0 hl hd =>
      have e2 := hk _ rfl
      subst e2
      simp [isTn, ls_same ols]
      exact hM2 _ _ ⟨hall2, _, _, _, rfl⟩
    | _ =>
      simp [isTn]
      exact hM2 _ _ ⟨hall2, _, _, _, rfl⟩
  · rintro ρ S7 ⟨_, x5, x6, x7, rfl⟩
    exact ⟨_, _, rfl, rfl⟩
end Dm
-- text E_k19
open PySem PySem.W PyProof.Rows in
set_option maxRecDepth 100000 in
set_option maxHeartbeats 0 in
theorem PySem.Challenge.cw_hoursmeant_k19_programs_looked_at_holds : PySem.Challenge.rw_hoursmeant_k19_programs_looked_at.Holds := by
  w_on; o_law; k_head; (case hw => w_witness2)
  k_fill
  refine V.walk (l := PySem.Challenge.rw_hoursmeant_k19_programs_looked_at) rfl rfl (fun w h Y => PySem.W.kIn_of Y) ?F
  case F =>
    intro w mg fa h KX G hmg
    refine' V.all_mk Dm.law_k19_programs_looked_at_true KX G hmg ?a0 ?l0 ?c0 ?k0 ?a1 ?l1 ?c1 ?k1 ?a2 ?l2 ?c2 ?k2 ?a3 ?l3 ?c3 ?k3 ?a4 ?l4 ?c4 ?k4 ?a5 ?l5 ?c5 ?k5 ?a6 ?l6 ?c6 ?k6 ?a7 ?l7 ?c7 ?k7 ?a8 ?l8 ?c8 ?k8 ?a9 ?l9 ?c9 ?k9 ?a10 ?l10 ?c10 ?k10 ?a11 ?l11 ?c11 ?k11 ?a12 ?l12 ?c12 ?k12 ?a13 ?l13 ?c13 ?k13 ?a14 ?l14 ?c14 ?k14 ?a15 ?l15 ?c15 ?k15 ?a16 ?l16 ?c16 ?k16 ?a17 ?l17 ?c17 ?k17 ?a18 ?l18 ?c18 ?k18 ?a19 ?l19 ?c19 ?k19 ?a20 ?l20 ?c20 ?k20 ?a21 ?l21 ?c21 ?k21 ?a22 ?l22 ?c22 ?k22 ?a23 ?l23 ?c23 ?k23 ?a24 ?l24 ?c24 ?k24 ?a25 ?l25 ?c25 ?k25 ?a26 ?l26 ?c26 ?k26 ?a27 ?l27 ?c27 ?k27 ?a28 ?l28 ?c28 ?k28 ?a29 ?l29 ?c29 ?k29 ?a30 ?l30 ?c30 ?k30 ?a31 ?l31 ?c31 ?k31 ?a32 ?l32 ?c32 ?k32 ?a33 ?l33 ?c33 ?k33 ?z0 ?z1 ?z2 ?z3 ?z4 ?z5 ?z6 ?z7 ?z8 ?z9 ?z10 ?z11 ?z12 ?z13 ?v0 ?q0_1 ?v1 ?q1_1 ?v2 ?tb2 ?hs2_0 ?hs2_1 ?hs2_2 ?hs2_3 ?hs2_4 ?hs2_5 ?lw2 ?v3 ?v4 ?v5 ?v6 ?v7 ?tb7 ?hs7_0 ?hs7_1 ?hs7_2 ?hs7_3 ?hs7_4 ?hs7_5 ?hs7_6 ?lw7 ?q7_1 ?q7_4 ?q7_9 ?q7_12 ?q7_15 ?q7_18 ?q7_21 ?xa0 ?xq0 ?xk0 ?xb0 ?xt0 ?xa1 ?xq1 ?xk1 ?xb1 ?xt1 ?xa2 ?xf0 ?xf1 ?xf2 ?xf3 ?xf4 ?xf5 ?xf6 ?xf7 ?xf8 ?xf9 ?xf10 ?xf11 ?xf12 ?xf13 ?xa3 ?xf14 ?xf15 ?xf16 ?xf17 ?xf18 ?xf19 ?xf20 ?xf21 ?xL2 ?rb2 ?xf22 ?xf23 ?lI2 ?cI2 ?xf24 ?xf25 ?xf26 ?xf27 ?xf28 ?xf29 ?xf30 ?xf31
    (case a0 => k_is)
    (case l0 => k_is)
    (case c0 => k_is)
    (case k0 => k_is)
    (case a1 => k_is)
    (case l1 => k_is)
    (case c1 => k_is)
    (case k1 => k_is)
    (case a2 => k_is)
    (case l2 => k_is)
    (case c2 => k_is)
    (case k2 => k_is)
    (case a3 => k_is)
    (case l3 => k_is)
    (case c3 => k_is)
    (case k3 => k_is)
    (case a4 => k_is)
    (case l4 => k_is)
    (case c4 => k_is)
    (case k4 => k_is)
    (case a5 => k_is)
    (case l5 => k_is)
    (case c5 => k_is)
    (case k5 => k_is)
    (case a6 => k_is)
    (case l6 => k_is)
    (case c6 => k_is)
    (case k6 => k_is)
    (case a7 => k_is)
    (case l7 => k_is)
    (case c7 => k_is)
    (case k7 => k_is)
    (case a8 => k_is)
    (case l8 => k_is)
    (case c8 => k_is)
    (case k8 => k_is)
    (case a9 => k_is)
    (case l9 => k_is)
    (case c9 => k_is)
    (case k9 => k_is)
    (case a10 => k_is)
    (case l10 => k_is)
    (case c10 => k_is)
    (case k10 => k_is)
    (case a11 => k_is)
    (case l11 => k_is)
    (case c11 => k_is)
    (case k11 => k_is)
    (case a12 => k_is)
    (case l12 => k_is)
    (case c12 => k_is)
    (case k12 => k_is)
    (case a13 => k_is)
    (case l13 => k_is)
    (case c13 => k_is)
    (case k13 => k_is)
    (case a14 => k_is)
    (case l14 => k_is)
    (case c14 => k_is)
    (case k14 => k_is)
    (case a15 => k_is)
    (case l15 => k_is)
    (case c15 => k_is)
    (case k15 => k_is)
    (case a16 => k_is)
    (case l16 => k_is)
    (case c16 => k_is)
    (case k16 => k_is)
    (case a17 => k_is)
    (case l17 => k_is)
    (case c17 => k_is)
    (case k17 => k_is)
    (case a18 => k_is)
    (case l18 => k_is)
    (case c18 => k_is)
    (case k18 => k_is)
    (case a19 => k_is)
    (case l19 => k_is)
    (case c19 => k_is)
    (case k19 => k_is)
    (case a20 => k_is)
    (case l20 => k_is)
    (case c20 => k_is)
    (case k20 => k_is)
    (case a21 => k_is)
    (case l21 => k_is)
    (case c21 => k_is)
    (case k21 => k_is)
    (case a22 => k_is)
    (case l22 => k_is)
    (case c22 => k_is)
    (case k22 => k_is)
    (case a23 => k_is)
    (case l23 => k_is)
    (case c23 => k_is)
    (case k23 => k_is)
    (case a24 => k_is)
    (case l24 => k_is)
    (case c24 => k_is)
    (case k24 => k_is)
    (case a25 => k_is)
    (case l25 => k_is)
    (case c25 => k_is)
    (case k25 => k_is)
    (case a26 => k_is)
    (case l26 => k_is)
    (case c26 => k_is)
    (case k26 => k_is)
    (case a27 => k_is)
    (case l27 => k_is)
    (case c27 => k_is)
    (case k27 => k_is)
    (case a28 => k_is)
    (case l28 => k_is)
    (case c28 => k_is)
    (case k28 => k_is)
    (case a29 => k_is)
    (case l29 => k_is)
    (case c29 => k_is)
    (case k29 => k_is)
    (case a30 => k_is)
    (case l30 => k_is)
    (case c30 => k_is)
    (case k30 => k_is)
    (case a31 => k_is)
    (case l31 => k_is)
    (case c31 => k_is)
    (case k31 => k_is)
    (case a32 => k_is)
    (case l32 => k_is)
    (case c32 => k_is)
    (case k32 => k_is)
    (case a33 => k_is)
    (case l33 => k_is)
    (case c33 => k_is)
    (case k33 => k_is)
    (case z0 => k_is)
    (case z1 => k_is)
    (case z2 => k_is)
    (case z3 => k_is)
    (case z4 => k_is)
    (case z5 => k_is)
    (case z6 => k_is)
    (case z7 => k_is)
    (case z8 => k_is)
    (case z9 => k_is)
    (case z10 => k_is)
    (case z11 => k_is)
    (case z12 => k_is)
    (case z13 => k_is)
    (case v0 => k_is)
    (case q0_1 => k_is)
    (case v1 => k_is)
    (case q1_1 => k_is)
    (case v2 => k_is)
    (case tb2 => k_is)
    (case hs2_0 => rfl)
    (case hs2_1 => rfl)
    (case hs2_2 => rfl)
    (case hs2_3 => rfl)
    (case hs2_4 => rfl)
    (case hs2_5 => rfl)
    (case lw2 => rfl)
    (case v3 => k_is)
    (case v4 => k_is)
    (case v5 => k_is)
    (case v6 => k_is)
    (case v7 => k_is)
    (case tb7 => k_is)
    (case hs7_0 => rfl)
    (case hs7_1 => rfl)
    (case hs7_2 => rfl)
    (case hs7_3 => rfl)
    (case hs7_4 => rfl)
    (case hs7_5 => rfl)
    (case hs7_6 => rfl)
    (case lw7 => rfl)
    (case q7_1 => k_is)
    (case q7_4 => k_is)
    (case q7_9 => k_is)
    (case q7_12 => k_is)
    (case q7_15 => k_is)
    (case q7_18 => k_is)
    (case q7_21 => k_is)
    (case xa0 => k_is)
    (case xq0 => k_exc)
    (case xk0 => k_is)
    (case xb0 => k_is)
    (case xt0 => k_is)
    (case xa1 => k_is)
    (case xq1 => k_exc)
    (case xk1 => k_is)
    (case xb1 => k_is)
    (case xt1 => k_is)
    (case xa2 => k_is)
    (case xf0 => k_is)
    (case xf1 => k_is)
    (case xf2 => k_is)
    (case xf3 => k_is)
    (case xf4 => k_is)
    (case xf5 => k_is)
    (case xf6 => k_is)
    (case xf7 => k_is)
    (case xf8 => k_is)
    (case xf9 => k_is)
    (case xf10 => k_is)
    (case xf11 => k_is)
    (case xf12 => k_is)
    (case xf13 => k_is)
    (case xa3 => k_is)
    (case xf14 => k_is)
    (case xf15 => k_is)
    (case xf16 => k_is)
    (case xf17 => k_is)
    (case xf18 => k_is)
    (case xf19 => k_is)
    (case xf20 => k_is)
    (case xf21 => k_is)
    (case xL2 => k_is)
    (case rb2 => first | rfl | decide +kernel)
    (case xf22 => k_is)
    (case xf23 => k_is)
    (case lI2 => k_is)
    (case cI2 => k_is)
    (case xf24 => k_is)
    (case xf25 => k_is)
    (case xf26 => k_is)
    (case xf27 => k_is)
    (case xf28 => k_is)
    (case xf29 => k_is)
    (case xf30 => k_is)
    (case xf31 => k_is)
