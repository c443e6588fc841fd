import PyProof.Rows.All
import Wide.All
import OpenK.AllK
import Wide.FinOn
import HandS.ForMost
import HandS.ForExc
import HandS.Wide
import HandS.IsInst
import HandS.Flow
import HandS.CallSlots
import HandS.ExcIs
import HandS.Strs
import HandS.TupAny
import HandS.Conv
import HandS.Deep
import HandS.ExcField
import KE.GoesEnum
import HandS.Style
import HandS.Ends
import HandS.SortRule
import HandS.SortInts
import HandS.Dict
import HandS.DictComp
import HandS.Defaults
import HandS.MakeKwOnly
import HandS.TryOnly
import HandS.SetFor
import PyProof.P3In
import HandS.More
import PyProof.ReprRoads
import HandS.TryMany
import HandS.ExcInit
import HandS.ClsMeth
import HandS.ExcValue
import HandS.TupMul
import HandS.LawCells
import HandS.JoinGen
import HandS.GenList
import KE.SortData
import HandS.Text
import HandS.StrMore
import HandS.RaiseMore
import HandS.Steps
import HandS.Iter
import PyProof.StrOps2
import PyProof.Rows.StrMul
import PySem.Challenge.RW_hoursmeant_k65_words_of_no_wish
import PyProof.ReprLen
import PyProof.FitsInt
import PyProof.StrLawsChain
import KE.KIntText
set_option Elab.async false
set_option linter.all false
set_option maxRecDepth 100000
set_option maxHeartbeats 4000000
-- text DmCore
/-! Plain data in place of the heap: values D, a store of cells, programs as Lean functions of both. -/
namespace Dm
open PySem L2
open PySem.W (Frag)
inductive D where
  | non | bl (b : Bool) | int (i : Int) | str (x : Str)
  | tup (xs : List D) | lst (xs : List D)
  | cell (n : Nat) | glo (x : Str)
  | exn (c : Str) (fs : List (Str × Int))
inductive Cell where
  | lst (xs : List D)
  | obj (c : Str) (fs : List (Str × D))
  | exc (c : Str) (fs : List (Str × D))
  | dic (kvs : List (Key × D))
  | set (xs : List Int)
abbrev Sto := List Cell
inductive Res (α : Type) where
  | ok (a : α) (S : Sto)
  | exc (c : Str) (fs : List (Str × D)) (S : Sto)
  | bad
def Res.bind {α β : Type} (r : Res α) (f : α → Sto → Res β) : Res β := match r with
  | .ok a S => f a S
  | .exc c fs S => .exc c fs S
  | .bad => .bad
abbrev Rho := List (Option D)
abbrev ME := Rho → Sto → Res D
abbrev MA := Rho → Sto → Res (List D)
inductive Out where
  | nx (ρ : Rho) (S : Sto) | rt (d : D) (S : Sto) | bk (ρ : Rho) (S : Sto) | ct (ρ : Rho) (S : Sto)
  | exc (c : Str) (fs : List (Str × D)) (ρ : Rho) (S : Sto) | bad
abbrev MS := Rho → Sto → Out
/-! ### what stands for what -/
def KT (K : Frag) (a : Addr) (xs : List V) : Prop := ∃ (o : Obj) (its : Array Value) (n : Nat), K.lookup a = some o ∧ o.cls = .type "tuple" ∧ o.data = .seq its n ∧ its.size ≤ sizeLine ∧ Vals xs its.toList
def KL (K : Frag) (a : Addr) (xs : List V) : Prop := ∃ (o : Obj) (its : Array Value) (n : Nat), K.lookup a = some o ∧ o.cls = .type "list" ∧ o.dict = none ∧ o.data = .seq its n ∧ its.size ≤ sizeLine ∧ Vals xs its.toList
/-- what is fixed: the written part, the module's names, the addresses of lists that are being made -/
structure Fx where
  K : Frag
  mg : Str → Option Value
  ξ : List Addr
  w : World
abbrev fx (X : Cx) (ξ : List Addr) : Fx := ⟨X.K, X.mg, ξ, X.w⟩
def FzT (F : Fx) (μ : List Addr) (H : Hp) (a : Addr) (xs : List V) : Prop := (Rd H a (.tup xs) ∧ a ∉ μ ∧ a ∉ F.ξ) ∨ KT F.K a xs
def FzL (F : Fx) (μ : List Addr) (H : Hp) (a : Addr) (xs : List V) : Prop := (Rd H a (.lst xs) ∧ a ∉ μ ∧ a ∉ F.ξ) ∨ KL F.K a xs
theorem FzT.sq {F : Fx} {μ : List Addr} {H : Hp} {a : Addr} {xs : List V} (h : FzT F μ H a xs) : SqT F.K H a xs := h.imp (·.1) id
theorem FzL.sq {F : Fx} {μ : List Addr} {H : Hp} {a : Addr} {xs : List V} (h : FzL F μ H a xs) : SqL F.K H a xs := h.imp (·.1) id
/-- at a: an exception that was raised once, of the class cls, its dict -/
def ExV (cls : Value) (d : Option Addr) (a : Addr) : HO := .ext fun h => ∃ (oe : Obj) (vs : Array Value), h.get? a = some oe ∧ Zc cls d oe ∧ oe.data = .fields vs
def intFs (ns : List (Str × Int)) : List (Str × V) := ns.map fun p => (p.1, .int p.2)
/-- an own error class: isinstance asks its instances rightly, they are of no plain type -/
def PlX (K : Frag) (cls : Value) : Prop := ∃ D : Addr, cls = .ref D ∧ ExcC K D ∧ ∀ x : String, x ∈ ["tuple", "list", "int", "str", "bool", "dict"] → PySem.W.kitOne K (.ref D) (.type x) = some false
structure ClsK (K : Frag) (mg : Str → Option Value) (c : Str) (cls : Value) : Prop where
  mg : mg c = some cls
  pl : PlX K cls
/-- an exception as a value; without fields: its fields are not known -/
def FzX (F : Fx) (μ : List Addr) (H : Hp) (a : Addr) (c : Str) (ns : List (Str × Int)) : Prop := ∃ cls dd, ClsK F.K F.mg c cls ∧ (H a = some (ExV cls dd a) ∧ a ∉ μ ∧ a ∉ F.ξ) ∧ ((ns = [] ∧ dd = none) ∨ ∃ d fs, dd = some d ∧ H d = some (.xd fs) ∧ (ns = [] ∨ fs = intFs ns) ∧ d ∉ μ ∧ d ∉ F.ξ)
mutual
inductive RD (F : Fx) (μ : List Addr) (H : Hp) : V → D → Prop
  | non : RD F μ H .non .non
  | bl (b : Bool) : RD F μ H (.bl b) (.bl b)
  | int (i : Int) : RD F μ H (.int i) (.int i)
  | str (x : Str) : RD F μ H (.str x) (.str x)
  | tup {a : Addr} {xs : List V} {ds : List D} : FzT F μ H a xs → RDs F μ H xs ds → RD F μ H (.ref a) (.tup ds)
  | lst {a : Addr} {xs : List V} {ds : List D} : FzL F μ H a xs → RDs F μ H xs ds → RD F μ H (.ref a) (.lst ds)
  | cell {a : Addr} {n : Nat} : μ[n]? = some a → RD F μ H (.ref a) (.cell n)
  | glo {a : Addr} {x : Str} : F.mg x = some (.ref a) → RD F μ H (.ref a) (.glo x)
  | exn {a : Addr} {c : Str} {ns : List (Str × Int)} : FzX F μ H a c ns → RD F μ H (.ref a) (.exn c ns)
inductive RDs (F : Fx) (μ : List Addr) (H : Hp) : List V → List D → Prop
  | nil : RDs F μ H [] []
  | cons {v : V} {vs : List V} {d : D} {ds : List D} : RD F μ H v d → RDs F μ H vs ds → RDs F μ H (v :: vs) (d :: ds)
end
/-- what has gone on: new cells behind the old ones, all but the cells is as it was -/
structure Up (μ : List Addr) (H : Hp) (μ' : List Addr) (H' : Hp) : Prop where
  pre : ∃ ν, μ' = μ ++ ν
  new : ∀ a, a ∈ μ' → a ∉ μ → H a = none
  keep : ∀ a o, H a = some o → a ∉ μ → H' a = some o
section
variable {F : Fx} {μ μ' μ1 μ2 : List Addr} {H H' H1 H2 : Hp}
theorem Up.refl : Up μ H μ H := ⟨⟨[], (List.append_nil _).symm⟩, fun _ h n => absurd h n, fun _ _ h _ => h⟩
theorem Up.notin (u : Up μ H μ' H') {a : Addr} {o : HO} (h : H a = some o) (n : a ∉ μ) : a ∉ μ' := fun z => by
  have q := u.new a z n
  rw [h] at q; cases q
theorem Up.trans (u : Up μ H μ1 H1) (v : Up μ1 H1 μ2 H2) : Up μ H μ2 H2 := by
  obtain ⟨ν, e⟩ := u.pre
  obtain ⟨ν', e'⟩ := v.pre
  refine ⟨⟨ν ++ ν', by rw [e', e, List.append_assoc]⟩, fun a h n => ?_, fun a o h n => v.keep a o (u.keep a o h n) (u.notin h n)⟩
  by_cases h1 : a ∈ μ1
  · exact u.new a h1 n
  · have q := v.new a h h1
    cases z : H a with
    | none => rfl
    | some o =>
      rw [u.keep a o z n] at q; cases q
theorem Up.back (u : Up μ H μ' H') {p : Addr} (h : H' p = none) (n : p ∉ μ := by assumption) : H p = none := by
  cases z : H p with
  | none => rfl
  | some o =>
    rw [u.keep p o z n] at h; cases h
theorem Up.mem (u : Up μ H μ' H') {a : Addr} (h : a ∈ μ) : a ∈ μ' := by
  obtain ⟨ν, e⟩ := u.pre
  rw [e]
  exact List.mem_append_left _ h
theorem Up.get (u : Up μ H μ' H') {n : Nat} {a : Addr} (h : μ[n]? = some a) : μ'[n]? = some a := by
  obtain ⟨ν, e⟩ := u.pre
  rw [e, List.getElem?_append_left (List.getElem?_eq_some_iff.mp h).1]
  exact h
theorem FzT.up (u : Up μ H μ' H') {a : Addr} {xs : List V} (h : FzT F μ H a xs) : FzT F μ' H' a xs := by
  rcases h with ⟨h, n, nx⟩ | h
  · rcases h with h | ⟨o, h⟩
    · exact .inl ⟨.inl (u.keep _ _ h n), u.notin h n, nx⟩
    · exact .inl ⟨.inr ⟨o, u.keep _ _ h n⟩, u.notin h n, nx⟩
  · exact .inr h
theorem FzL.up (u : Up μ H μ' H') {a : Addr} {xs : List V} (h : FzL F μ H a xs) : FzL F μ' H' a xs := by
  rcases h with ⟨h, n, nx⟩ | h
  · rcases h with h | ⟨o, h⟩
    · exact .inl ⟨.inl (u.keep _ _ h n), u.notin h n, nx⟩
    · exact .inl ⟨.inr ⟨o, u.keep _ _ h n⟩, u.notin h n, nx⟩
  · exact .inr h
theorem FzX.up (u : Up μ H μ' H') {a : Addr} {c : Str} {ns : List (Str × Int)} (h : FzX F μ H a c ns) : FzX F μ' H' a c ns := by
  obtain ⟨cls, dd, e, ⟨h1, h2, h3⟩, h4⟩ := h
  refine ⟨cls, dd, e, ⟨u.keep _ _ h1 h2, u.notin h1 h2, h3⟩, h4.imp id ?_⟩
  rintro ⟨d, fs, e2, h5, hf, h6, h7⟩
  exact ⟨d, fs, e2, u.keep _ _ h5 h6, hf, u.notin h5 h6, h7⟩
mutual
theorem RD.up (u : Up μ H μ' H') : ∀ {v : V} (d : D), RD F μ H v d → RD F μ' H' v d
  | _, .non, h => by cases h; exact .non
  | _, .bl b, h => by cases h; exact .bl b
  | _, .int i, h => by cases h; exact .int i
  | _, .str x, h => by cases h; exact .str x
  | _, .tup ds, h => by
    cases h with
    | tup f r => exact .tup (f.up u) (RDs.up u ds r)
  | _, .lst ds, h => by
    cases h with
    | lst f r => exact .lst (f.up u) (RDs.up u ds r)
  | _, .cell n, h => by
    cases h with
    | cell e => exact .cell (u.get e)
  | _, .glo x, h => by
    cases h with
    | glo e => exact .glo e
  | _, .exn c ns, h => by
    cases h with
    | exn f => exact .exn (f.up u)
theorem RDs.up (u : Up μ H μ' H') : ∀ {vs : List V} (ds : List D), RDs F μ H vs ds → RDs F μ' H' vs ds
  | _, [], h => by cases h; exact .nil
  | _, d :: ds, h => by
    cases h with
    | cons a b => exact .cons (RD.up u d a) (RDs.up u ds b)
end
theorem RDs.length : ∀ {vs : List V} {ds : List D}, RDs F μ H vs ds → vs.length = ds.length
  | _, [], h => by cases h; rfl
  | _, d :: ds, h => by
    cases h with
    | cons a b => rw [List.length_cons, List.length_cons, RDs.length b]
theorem RDs.get : ∀ {vs : List V} {ds : List D}, RDs F μ H vs ds → ∀ {i : Nat} {d : D}, ds[i]? = some d → ∃ v, vs[i]? = some v ∧ RD F μ H v d
  | _, [], _, i, d, e => by simp at e
  | _, d0 :: ds, h, 0, d, e => by
    cases h with
    | cons a b =>
      simp at e; subst e
      exact ⟨_, rfl, a⟩
  | _, d0 :: ds, h, i + 1, d, e => by
    cases h with
    | cons a b =>
      obtain ⟨v, h1, h2⟩ := RDs.get b (i := i) (d := d) (by simpa using e)
      exact ⟨v, by simpa using h1, h2⟩
theorem RDs.append : ∀ {vs ws : List V} {ds es : List D}, RDs F μ H vs ds → RDs F μ H ws es → RDs F μ H (vs ++ ws) (ds ++ es)
  | _, _, [], _, h, k => by cases h; exact k
  | _, _, d :: ds, _, h, k => by
    cases h with
    | cons a b => exact .cons a (RDs.append b k)
theorem RDs.take : ∀ {vs : List V} {ds : List D} (n : Nat), RDs F μ H vs ds → RDs F μ H (vs.take n) (ds.take n)
  | _, _, 0, _ => .nil
  | _, [], _ + 1, h => by cases h; exact .nil
  | _, d :: ds, n + 1, h => by
    cases h with
    | cons a b => exact .cons a (RDs.take n b)
theorem RDs.drop : ∀ {vs : List V} {ds : List D} (n : Nat), RDs F μ H vs ds → RDs F μ H (vs.drop n) (ds.drop n)
  | _, _, 0, h => h
  | _, [], _ + 1, h => by cases h; exact .nil
  | _, d :: ds, n + 1, h => by
    cases h with
    | cons a b => exact RDs.drop n b
theorem RDs.reverse : ∀ {vs : List V} {ds : List D}, RDs F μ H vs ds → RDs F μ H vs.reverse ds.reverse
  | _, [], h => by cases h; exact .nil
  | _, d :: ds, h => by
    cases h with
    | cons a b =>
      rw [List.reverse_cons, List.reverse_cons]
      exact RDs.append (RDs.reverse b) (.cons a .nil)
theorem RDs.set : ∀ {vs : List V} {ds : List D} (n : Nat) {v : V} {d : D}, RDs F μ H vs ds → RD F μ H v d → RDs F μ H (vs.set n v) (ds.set n d)
  | _, [], n, _, _, h, _ => by cases h; exact .nil
  | _, d0 :: ds, 0, _, _, h, k => by
    cases h with
    | cons a b => exact .cons k b
  | _, d0 :: ds, n + 1, _, _, h, k => by
    cases h with
    | cons a b => exact .cons a (RDs.set n b k)
end
/-- fields by name -/
def FsR (F : Fx) (μ : List Addr) (H : Hp) (vfs : List (Str × V)) (fs : List (Str × D)) : Prop := Paired (fun p q => p.1 = q.1 ∧ RD F μ H p.2 q.2) vfs fs
def KvR (F : Fx) (μ : List Addr) (H : Hp) (vk : List (Key × V)) (kvs : List (Key × D)) : Prop := Paired (fun p q => p.1 = q.1 ∧ RD F μ H p.2 q.2) vk kvs
theorem FsR.up {F : Fx} {μ μ' : List Addr} {H H' : Hp} (u : Up μ H μ' H') {vfs : List (Str × V)} {fs : List (Str × D)} (h : FsR F μ H vfs fs) : FsR F μ' H' vfs fs :=
  Paired.mapP h fun _ _ z => ⟨z.1, z.2.up u⟩
theorem KvR.up {F : Fx} {μ μ' : List Addr} {H H' : Hp} (u : Up μ H μ' H') {vfs : List (Key × V)} {fs : List (Key × D)} (h : KvR F μ H vfs fs) : KvR F μ' H' vfs fs :=
  Paired.mapP h fun _ _ z => ⟨z.1, z.2.up u⟩
/-- a cell at its address -/
def CellOk (F : Fx) (μ : List Addr) (H : Hp) (a : Addr) : Cell → Prop
  | .lst ds => ∃ xs, H a = some (.lst xs) ∧ RDs F μ H xs ds
  | .obj c fs => ∃ C dx vfs, H a = some (.ins C dx vfs) ∧ F.mg c = some (.ref C) ∧ FsR F μ H vfs fs
  | .dic kvs => ∃ vk, H a = some (.dK vk) ∧ KvR F μ H vk kvs
  | .exc _ _ => False
  | .set ns => ns.Nodup ∧ H a = some (SetO F.w a (fun j => decide (j ∈ ns)) ns.length)
structure RS (F : Fx) (μ : List Addr) (H : Hp) (S : Sto) : Prop where
  len : μ.length = S.length
  nd : μ.Nodup
  at_ : ∀ (n : Nat) (a : Addr) (c : Cell), μ[n]? = some a → S[n]? = some c → CellOk F μ H a c
  xi : ∀ a, a ∈ F.ξ → a ∉ μ ∧ ∃ o, H a = some o
/-- the slots -/
structure RG (F : Fx) (μ : List Addr) (H : Hp) (σ : St) (ρ : Rho) : Prop where
  len : σ.length = ρ.length
  at_ : ∀ (i : Nat) (d : D), ρ[i]? = some (some d) → ∃ v, σ[i]? = some (some v) ∧ RD F μ H v d
/-- an exception in the air -/
def XR (F : Fx) (μ : List Addr) (H : Hp) (cls : Value) (dd : Option Addr) (c : Str) (fs : List (Str × D)) : Prop :=
  F.mg c = some cls ∧ ((fs = [] ∧ dd = none) ∨ ∃ d vfs, dd = some d ∧ H d = some (.xd vfs) ∧ d ∉ μ ∧ d ∉ F.ξ ∧ FsR F μ H vfs fs)
section
variable {F : Fx} {μ μ' μ1 : List Addr} {H H' H1 : Hp} {S S' S1 : Sto} {σ : St} {ρ : Rho}
theorem RG.up (u : Up μ H μ' H') (g : RG F μ H σ ρ) : RG F μ' H' σ ρ := ⟨g.len, fun i d e => by
  obtain ⟨v, h, r⟩ := g.at_ i d e
  exact ⟨v, h, r.up u⟩⟩
theorem RG.set {v : V} {d : D} (i : Nat) (g : RG F μ H σ ρ) (r : RD F μ H v d) : RG F μ H (σ.set i (some v)) (ρ.set i (some d)) := ⟨by rw [List.length_set, List.length_set, g.len], fun j d' e => by
  by_cases hj : i = j
  · subst hj
    by_cases hl : i < ρ.length
    · rw [List.getElem?_set_self hl] at e; cases e
      exact ⟨v, List.getElem?_set_self (by rw [g.len]; exact hl), r⟩
    · rw [List.getElem?_eq_none (by simpa using hl)] at e; cases e
  · rw [List.getElem?_set_ne hj] at e
    obtain ⟨w, h, r'⟩ := g.at_ j d' e
    exact ⟨w, by rw [List.getElem?_set_ne hj]; exact h, r'⟩⟩
theorem RG.forget {σ' : St} (i : Nat) (g : RG F μ H σ ρ) : RG F μ H (σ.set i none) (ρ.set i none) := ⟨by rw [List.length_set, List.length_set, g.len], fun j d' e => by
  by_cases hj : i = j
  · subst hj
    by_cases hl : i < ρ.length
    · rw [List.getElem?_set_self hl] at e; cases e
    · rw [List.getElem?_eq_none (by simpa using hl)] at e; cases e
  · rw [List.getElem?_set_ne hj] at e
    obtain ⟨w, h, r'⟩ := g.at_ j d' e
    exact ⟨w, by rw [List.getElem?_set_ne hj]; exact h, r'⟩⟩
/-- a new object beside the cells -/
theorem Up.fresh {p : Addr} {o : HO} (h : H p = none) : Up μ H μ (upd H p o) := ⟨⟨[], (List.append_nil _).symm⟩, fun _ h n => absurd h n, fun a u e _ => by rw [upd_ne (ne_of_none e h)]; exact e⟩
theorem CellOk.up (u : Up μ H μ' H') {a : Addr} {c : Cell} (e : H' a = H a) (h : CellOk F μ H a c) : CellOk F μ' H' a c := by
  cases c with
  | lst ds =>
    obtain ⟨xs, h1, h2⟩ := h
    exact ⟨xs, e.trans h1, h2.up u⟩
  | obj c fs =>
    obtain ⟨C, dx, vfs, h1, h2, h3⟩ := h
    exact ⟨C, dx, vfs, e.trans h1, h2, h3.up u⟩
  | dic kvs =>
    obtain ⟨vk, h1, h2⟩ := h
    exact ⟨vk, e.trans h1, h2.up u⟩
  | exc _ _ => exact h.elim
  | set ns => exact ⟨h.1, e.trans h.2⟩
theorem CellOk.hasO {a : Addr} {c : Cell} (h : CellOk F μ H a c) : ∃ o, H a = some o := by
  cases c with
  | lst ds =>
    obtain ⟨xs, h1, h2⟩ := h
    exact ⟨_, h1⟩
  | obj c fs =>
    obtain ⟨C, dx, vfs, h1, _⟩ := h
    exact ⟨_, h1⟩
  | dic kvs =>
    obtain ⟨vk, h1, h2⟩ := h
    exact ⟨_, h1⟩
  | exc _ _ => exact h.elim
  | set ns => exact ⟨_, h.2⟩
theorem RS.there (r : RS F μ H S) {n : Nat} {a : Addr} (h : μ[n]? = some a) : ∃ c, S[n]? = some c := by
  have hn := (List.getElem?_eq_some_iff.mp h).1
  rw [r.len] at hn
  exact ⟨S[n], List.getElem?_eq_getElem hn⟩
theorem RS.hasO (r : RS F μ H S) {a : Addr} (h : a ∈ μ) : ∃ o, H a = some o := by
  obtain ⟨n, e⟩ := List.getElem?_of_mem h
  obtain ⟨c, hc⟩ := r.there e
  exact (r.at_ n a c e hc).hasO
theorem RS.out (r : RS F μ H S) {p : Addr} (h : H p = none) : p ∉ μ := fun z => by
  obtain ⟨o, e⟩ := r.hasO z
  rw [h] at e; cases e
theorem RS.outX (r : RS F μ H S) {p : Addr} (h : H p = none) : p ∉ F.ξ := fun z => by
  obtain ⟨_, o, e⟩ := r.xi p z
  rw [h] at e; cases e
theorem RS.fresh (r : RS F μ H S) {p : Addr} {o : HO} (h : H p = none) : RS F μ (upd H p o) S := ⟨r.len, r.nd, fun n a c e1 e2 => by
  have q := r.at_ n a c e1 e2
  refine q.up (.fresh h) (upd_ne ?_)
  intro z
  subst z
  obtain ⟨o', e⟩ := q.hasO
  rw [h] at e; exact (nomatch e), fun a ha => ⟨(r.xi a ha).1, by
    obtain ⟨o', e⟩ := (r.xi a ha).2
    exact ⟨o', by rw [upd_ne (ne_of_none e h)]; exact e⟩⟩⟩
theorem alloc_at {p : Addr} : (μ ++ [p])[μ.length]? = some p := by rw [List.getElem?_append_right (Nat.le_refl _), Nat.sub_self]; rfl
/-- a cell is written -/
theorem Up.write {n : Nat} {a : Addr} {o : HO} (h : μ[n]? = some a) : Up μ H μ (upd H a o) := ⟨⟨[], (List.append_nil _).symm⟩, fun _ h n => absurd h n, fun b u e nb => by
  rw [upd_ne]
  · exact e
  · rintro rfl
    exact nb (List.mem_of_getElem? h)⟩
theorem RS.write (r : RS F μ H S) {n : Nat} {a : Addr} {o : HO} {c : Cell} (h : μ[n]? = some a) (hc : CellOk F μ (upd H a o) a c) : RS F μ (upd H a o) (S.set n c) := by
  refine ⟨by rw [List.length_set, r.len], r.nd, fun m b c' e1 e2 => ?_, fun b hb => ⟨(r.xi b hb).1, by
    obtain ⟨o', e⟩ := (r.xi b hb).2
    refine ⟨o', ?_⟩
    rw [upd_ne]
    · exact e
    · rintro rfl
      exact (r.xi b hb).1 (List.mem_of_getElem? h)⟩⟩
  by_cases hm : n = m
  · subst hm
    rw [h] at e1; cases e1
    have hl : n < S.length := by rw [← r.len]; exact (List.getElem?_eq_some_iff.mp h).1
    rw [List.getElem?_set_self hl] at e2; cases e2
    exact hc
  · rw [List.getElem?_set_ne hm] at e2
    refine (r.at_ m b c' e1 e2).up (.write h) (upd_ne ?_)
    rintro rfl
    have h1 := (List.getElem?_eq_some_iff.mp h)
    have h2 := (List.getElem?_eq_some_iff.mp e1)
    exact hm ((List.getElem_inj r.nd).mp (h1.2.trans h2.2.symm))
/-- a list that is being made: reserved, then let go -/
def Fx.hold (F : Fx) (p : Addr) : Fx := ⟨F.K, F.mg, p :: F.ξ, F.w⟩
theorem FzT.free {p a : Addr} {xs : List V} (h : FzT (F.hold p) μ H a xs) : FzT F μ H a xs := h.imp (fun z => ⟨z.1, z.2.1, fun q => z.2.2 (List.mem_cons_of_mem _ q)⟩) id
theorem FzL.free {p a : Addr} {xs : List V} (h : FzL (F.hold p) μ H a xs) : FzL F μ H a xs := h.imp (fun z => ⟨z.1, z.2.1, fun q => z.2.2 (List.mem_cons_of_mem _ q)⟩) id
theorem FzX.free {p a : Addr} {c : Str} {ns : List (Str × Int)} (h : FzX (F.hold p) μ H a c ns) : FzX F μ H a c ns := by
  obtain ⟨cls, dd, e, ⟨h1, h2, h3⟩, h4⟩ := h
  refine ⟨cls, dd, e, ⟨h1, h2, fun q => h3 (List.mem_cons_of_mem _ q)⟩, h4.imp id ?_⟩
  rintro ⟨d, fs, e2, h5, hf, h6, h7⟩
  exact ⟨d, fs, e2, h5, hf, h6, fun q => h7 (List.mem_cons_of_mem _ q)⟩
mutual
theorem RD.free {p : Addr} : ∀ {v : V} (d : D), RD (F.hold p) μ H v d → RD F μ H v d
  | _, .non, h => by cases h; exact .non
  | _, .bl b, h => by cases h; exact .bl b
  | _, .int i, h => by cases h; exact .int i
  | _, .str x, h => by cases h; exact .str x
  | _, .tup ds, h => by
    cases h with
    | tup f r => exact .tup f.free (RDs.free ds r)
  | _, .lst ds, h => by
    cases h with
    | lst f r => exact .lst f.free (RDs.free ds r)
  | _, .cell n, h => by
    cases h with
    | cell e => exact .cell e
  | _, .glo x, h => by
    cases h with
    | glo e => exact .glo e
  | _, .exn c ns, h => by
    cases h with
    | exn f => exact .exn f.free
theorem RDs.free {p : Addr} : ∀ {vs : List V} (ds : List D), RDs (F.hold p) μ H vs ds → RDs F μ H vs ds
  | _, [], h => by cases h; exact .nil
  | _, d :: ds, h => by
    cases h with
    | cons a b => exact .cons (RD.free d a) (RDs.free ds b)
end
/-- .. reserved at its making, .. written while it is reserved -/
theorem FzT.holds {p a : Addr} {o : HO} {xs : List V} (hp : H p = none) (h : FzT F μ H a xs) : FzT (F.hold p) μ (upd H p o) a xs := by
  rcases h with ⟨h, n, nx⟩ | h
  · have hne : a ≠ p := by
      rcases h with h | ⟨o, h⟩ <;> exact ne_of_none h hp
    refine .inl ⟨?_, n, fun q => (List.mem_cons.mp q).elim hne nx⟩
    rcases h with h | ⟨o, h⟩
    · exact .inl (by rw [upd_ne hne]; exact h)
    · exact .inr ⟨o, by rw [upd_ne hne]; exact h⟩
  · exact .inr h
theorem FzL.holds {p a : Addr} {o : HO} {xs : List V} (hp : H p = none) (h : FzL F μ H a xs) : FzL (F.hold p) μ (upd H p o) a xs := by
  rcases h with ⟨h, n, nx⟩ | h
  · have hne : a ≠ p := by
      rcases h with h | ⟨o, h⟩ <;> exact ne_of_none h hp
    refine .inl ⟨?_, n, fun q => (List.mem_cons.mp q).elim hne nx⟩
    rcases h with h | ⟨o, h⟩
    · exact .inl (by rw [upd_ne hne]; exact h)
    · exact .inr ⟨o, by rw [upd_ne hne]; exact h⟩
  · exact .inr h
theorem FzT.wr {p a : Addr} {o : HO} {xs : List V} (h : FzT (F.hold p) μ H a xs) : FzT (F.hold p) μ (upd H p o) a xs := by
  rcases h with ⟨h, n, nx⟩ | h
  · have hne : a ≠ p := fun z => nx (z ▸ List.mem_cons_self)
    refine .inl ⟨?_, n, nx⟩
    rcases h with h | ⟨o, h⟩
    · exact .inl (by rw [upd_ne hne]; exact h)
    · exact .inr ⟨o, by rw [upd_ne hne]; exact h⟩
  · exact .inr h
theorem FzL.wr {p a : Addr} {o : HO} {xs : List V} (h : FzL (F.hold p) μ H a xs) : FzL (F.hold p) μ (upd H p o) a xs := by
  rcases h with ⟨h, n, nx⟩ | h
  · have hne : a ≠ p := fun z => nx (z ▸ List.mem_cons_self)
    refine .inl ⟨?_, n, nx⟩
    rcases h with h | ⟨o, h⟩
    · exact .inl (by rw [upd_ne hne]; exact h)
    · exact .inr ⟨o, by rw [upd_ne hne]; exact h⟩
  · exact .inr h
theorem FzX.upHold {p a : Addr} {c : Str} {ns : List (Str × Int)} (u : Up μ H μ' H') (hp : H p = none) (h : FzX F μ H a c ns) : FzX (F.hold p) μ' H' a c ns := by
  obtain ⟨cls, dd, e, ⟨h1, h2, h3⟩, h4⟩ := h
  refine ⟨cls, dd, e, ⟨u.keep _ _ h1 h2, u.notin h1 h2, fun q => (List.mem_cons.mp q).elim (ne_of_none h1 hp) h3⟩, h4.imp id ?_⟩
  rintro ⟨d, fs, e2, h5, hf, h6, h7⟩
  exact ⟨d, fs, e2, u.keep _ _ h5 h6, hf, u.notin h5 h6, fun q => (List.mem_cons.mp q).elim (ne_of_none h5 hp) h7⟩
theorem FzX.holds {p a : Addr} {o : HO} {c : Str} {ns : List (Str × Int)} (hp : H p = none) (h : FzX F μ H a c ns) : FzX (F.hold p) μ (upd H p o) a c ns := by
  obtain ⟨cls, dd, e, ⟨h1, h2, h3⟩, h4⟩ := h
  refine ⟨cls, dd, e, ⟨by rw [upd_ne (ne_of_none h1 hp)]; exact h1, h2, fun q => (List.mem_cons.mp q).elim (ne_of_none h1 hp) h3⟩, h4.imp id ?_⟩
  rintro ⟨d, fs, e2, h5, hf, h6, h7⟩
  exact ⟨d, fs, e2, by rw [upd_ne (ne_of_none h5 hp)]; exact h5, hf, h6, fun q => (List.mem_cons.mp q).elim (ne_of_none h5 hp) h7⟩
theorem FzX.wr {p a : Addr} {o : HO} {c : Str} {ns : List (Str × Int)} (h : FzX (F.hold p) μ H a c ns) : FzX (F.hold p) μ (upd H p o) a c ns := by
  obtain ⟨cls, dd, e, ⟨h1, h2, h3⟩, h4⟩ := h
  have ne : ∀ {b : Addr}, b ∉ (F.hold p).ξ → b ≠ p := fun n z => n (by rw [z]; exact List.mem_cons_self)
  refine ⟨cls, dd, e, ⟨by rw [upd_ne (ne h3)]; exact h1, h2, h3⟩, h4.imp id ?_⟩
  rintro ⟨d, fs, e2, h5, hf, h6, h7⟩
  exact ⟨d, fs, e2, by rw [upd_ne (ne h7)]; exact h5, hf, h6, h7⟩
theorem FzX.asCell {p a : Addr} {c : Str} {ns : List (Str × Int)} (h : FzX (F.hold p) μ H a c ns) : FzX F (μ ++ [p]) H a c ns := by
  have no : ∀ {b : Addr}, b ∉ μ → b ∉ (F.hold p).ξ → b ∉ μ ++ [p] := fun h1 h2 q => (List.mem_append.mp q).elim h1 fun q => h2 (by rw [List.mem_singleton.mp q]; exact List.mem_cons_self)
  obtain ⟨cls, dd, e, ⟨h1, h2, h3⟩, h4⟩ := h
  refine ⟨cls, dd, e, ⟨h1, no h2 h3, fun q => h3 (List.mem_cons_of_mem _ q)⟩, h4.imp id ?_⟩
  rintro ⟨d, fs, e2, h5, hf, h6, h7⟩
  exact ⟨d, fs, e2, h5, hf, no h6 h7, fun q => h7 (List.mem_cons_of_mem _ q)⟩
/-- .. as a cell -/
theorem FzT.asCell {p a : Addr} {xs : List V} (h : FzT (F.hold p) μ H a xs) : FzT F (μ ++ [p]) H a xs :=
  h.imp (fun z => ⟨z.1, fun q => (List.mem_append.mp q).elim z.2.1 fun q => z.2.2 (by rw [List.mem_singleton.mp q]; exact List.mem_cons_self), fun q => z.2.2 (List.mem_cons_of_mem _ q)⟩) id
theorem FzL.asCell {p a : Addr} {xs : List V} (h : FzL (F.hold p) μ H a xs) : FzL F (μ ++ [p]) H a xs :=
  h.imp (fun z => ⟨z.1, fun q => (List.mem_append.mp q).elim z.2.1 fun q => z.2.2 (by rw [List.mem_singleton.mp q]; exact List.mem_cons_self), fun q => z.2.2 (List.mem_cons_of_mem _ q)⟩) id
theorem getl {n : Nat} {a p : Addr} (h : μ[n]? = some a) : (μ ++ [p])[n]? = some a := by
  rw [List.getElem?_append_left (List.getElem?_eq_some_iff.mp h).1]
  exact h
/-- a map of what stands for what -/
structure Mv (F : Fx) (μ : List Addr) (H : Hp) (F' : Fx) (μ' : List Addr) (H' : Hp) : Prop where
  t : ∀ {a : Addr} {xs : List V}, FzT F μ H a xs → FzT F' μ' H' a xs
  l : ∀ {a : Addr} {xs : List V}, FzL F μ H a xs → FzL F' μ' H' a xs
  c : ∀ {n : Nat} {a : Addr}, μ[n]? = some a → μ'[n]? = some a
  gw : (F'.mg, F'.w) = (F.mg, F.w)
  x : ∀ {a : Addr} {c : Str} {ns : List (Str × Int)}, FzX F μ H a c ns → FzX F' μ' H' a c ns
theorem Mv.g {F F' : Fx} {μ μ' : List Addr} {H H' : Hp} (m : Mv F μ H F' μ' H') : F'.mg = F.mg := congrArg Prod.fst m.gw
theorem Mv.w {F F' : Fx} {μ μ' : List Addr} {H H' : Hp} (m : Mv F μ H F' μ' H') : F'.w = F.w := congrArg Prod.snd m.gw
mutual
theorem RD.mv {F' : Fx} (m : Mv F μ H F' μ' H') : ∀ {v : V} (d : D), RD F μ H v d → RD F' μ' H' v d
  | _, .non, h => by cases h; exact .non
  | _, .bl b, h => by cases h; exact .bl b
  | _, .int i, h => by cases h; exact .int i
  | _, .str x, h => by cases h; exact .str x
  | _, .tup ds, h => by
    cases h with
    | tup f r => exact .tup (m.t f) (RDs.mv m ds r)
  | _, .lst ds, h => by
    cases h with
    | lst f r => exact .lst (m.l f) (RDs.mv m ds r)
  | _, .cell n, h => by
    cases h with
    | cell e => exact .cell (m.c e)
  | _, .glo x, h => by
    cases h with
    | glo e => exact .glo (by rw [m.g]; exact e)
  | _, .exn c ns, h => by
    cases h with
    | exn f => exact .exn (m.x f)
theorem RDs.mv {F' : Fx} (m : Mv F μ H F' μ' H') : ∀ {vs : List V} (ds : List D), RDs F μ H vs ds → RDs F' μ' H' vs ds
  | _, [], h => by cases h; exact .nil
  | _, d :: ds, h => by
    cases h with
    | cons a b => exact .cons (RD.mv m d a) (RDs.mv m ds b)
end
theorem Mv.holds {p : Addr} {o : HO} (hp : H p = none) : Mv F μ H (F.hold p) μ (upd H p o) := ⟨fun h => h.holds hp, fun h => h.holds hp, fun h => h, rfl, fun h => h.holds hp⟩
theorem Mv.wr {p : Addr} {o : HO} : Mv (F.hold p) μ H (F.hold p) μ (upd H p o) := ⟨fun h => h.wr, fun h => h.wr, fun h => h, rfl, fun h => h.wr⟩
theorem Mv.asCell {p : Addr} : Mv (F.hold p) μ H F (μ ++ [p]) H := ⟨fun h => h.asCell, fun h => h.asCell, fun h => getl h, rfl, fun h => h.asCell⟩
theorem Mv.free {p : Addr} : Mv (F.hold p) μ H F μ H := ⟨fun h => h.free, fun h => h.free, fun h => h, rfl, fun h => h.free⟩
theorem CellOk.mv {F' : Fx} (m : Mv F μ H F' μ' H') {a : Addr} {c : Cell} (e : H' a = H a) (h : CellOk F μ H a c) : CellOk F' μ' H' a c := by
  cases c with
  | lst ds =>
    obtain ⟨xs, h1, h2⟩ := h
    exact ⟨xs, e.trans h1, h2.mv m⟩
  | obj c fs =>
    obtain ⟨C, dx, vfs, h1, h2, h3⟩ := h
    exact ⟨C, dx, vfs, e.trans h1, by rw [m.g]; exact h2, Paired.mapP h3 fun _ _ z => ⟨z.1, z.2.mv m⟩⟩
  | dic kvs =>
    obtain ⟨vk, h1, h2⟩ := h
    exact ⟨vk, e.trans h1, Paired.mapP h2 fun _ _ z => ⟨z.1, z.2.mv m⟩⟩
  | exc _ _ => exact h.elim
  | set ns => exact ⟨h.1, by rw [m.w]; exact e.trans h.2⟩
theorem RG.mv {F' : Fx} (m : Mv F μ H F' μ' H') (g : RG F μ H σ ρ) : RG F' μ' H' σ ρ := ⟨g.len, fun i d e => by
  obtain ⟨v, h, r⟩ := g.at_ i d e
  exact ⟨v, h, r.mv m⟩⟩
theorem RS.holds (r : RS F μ H S) {p : Addr} {o : HO} (hp : H p = none) : RS (F.hold p) μ (upd H p o) S := ⟨r.len, r.nd, fun n a c e1 e2 => by
  have q := r.at_ n a c e1 e2
  refine q.mv (.holds hp) (upd_ne ?_)
  rintro rfl
  obtain ⟨o', e⟩ := q.hasO
  rw [hp] at e; exact (nomatch e), fun a ha => by
  rcases List.mem_cons.mp ha with z | z
  · rw [z]; exact ⟨r.out hp, o, upd_same⟩
  · obtain ⟨h1, o', e⟩ := r.xi a z
    exact ⟨h1, o', by rw [upd_ne (ne_of_none e hp)]; exact e⟩⟩
theorem RS.wr {p : Addr} {o : HO} (r : RS (F.hold p) μ H S) : RS (F.hold p) μ (upd H p o) S := ⟨r.len, r.nd, fun n a c e1 e2 => by
  have q := r.at_ n a c e1 e2
  refine q.mv .wr (upd_ne fun z => ?_)
  rw [z] at e1
  exact (r.xi p List.mem_cons_self).1 (List.mem_of_getElem? e1), fun a ha => by
  obtain ⟨h1, o', e⟩ := r.xi a ha
  by_cases z : a = p
  · rw [z] at h1 ⊢; exact ⟨h1, o, upd_same⟩
  · exact ⟨h1, o', by rw [upd_ne z]; exact e⟩⟩
theorem RS.free {p : Addr} (r : RS (F.hold p) μ H S) : RS F μ H S := ⟨r.len, r.nd, fun n a c e1 e2 => (r.at_ n a c e1 e2).mv .free rfl, fun a ha => r.xi a (List.mem_cons_of_mem _ ha)⟩
theorem RS.asCell {p : Addr} {ds : List D} {xs : List V} (r : RS (F.hold p) μ H S) (hx : p ∉ F.ξ) (h : H p = some (.lst xs)) (q : RDs (F.hold p) μ H xs ds) : RS F (μ ++ [p]) H (S ++ [.lst ds]) := by
  have np := (r.xi p List.mem_cons_self).1
  refine ⟨by rw [List.length_append, List.length_append, r.len] <;> rfl, ?_, fun n a c' e1 e2 => ?_, fun a ha => ⟨fun z => ?_, (r.xi a (List.mem_cons_of_mem _ ha)).2⟩⟩
  · refine List.nodup_append.mpr ⟨r.nd, by simp, fun a ha b hb => ?_⟩
    rw [List.mem_singleton.mp hb]
    rintro rfl
    exact np ha
  · by_cases hn : n < μ.length
    · rw [List.getElem?_append_left hn] at e1
      rw [List.getElem?_append_left (by rw [← r.len]; exact hn)] at e2
      exact (r.at_ n a c' e1 e2).mv .asCell rfl
    · have hn' : n = μ.length := by
        have q := (List.getElem?_eq_some_iff.mp e1).1
        rw [List.length_append, List.length_singleton] at q
        omega
      subst hn'
      rw [List.getElem?_append_right (Nat.le_refl _), Nat.sub_self] at e1
      rw [List.getElem?_append_right (by rw [r.len]; exact Nat.le_refl _), r.len, Nat.sub_self] at e2
      cases e1; cases e2
      exact ⟨xs, h, q.mv .asCell⟩
  · rcases List.mem_append.mp z with z | z
    · exact (r.xi a (List.mem_cons_of_mem _ ha)).1 z
    · rw [List.mem_singleton.mp z] at ha
      exact hx ha
theorem XR.up (u : Up μ H μ' H') {cls : Value} {dd : Option Addr} {c : Str} {fs : List (Str × D)} (h : XR F μ H cls dd c fs) : XR F μ' H' cls dd c fs := by
  obtain ⟨h1, h2⟩ := h
  refine ⟨h1, h2.imp id ?_⟩
  rintro ⟨d, vfs, e, h3, h4, h6, h5⟩
  exact ⟨d, vfs, e, u.keep _ _ h3 h4, u.notin h3 h4, h6, h5.up u⟩
end
/-! ### what is wanted of a run -/
def WR {α β : Type} (F : Fx) (rel : List Addr → Hp → β → α → Prop) (r : Res α) (Q : β → Hp → Prop) (Wx : Value → Option Addr → Hp → Prop) (μ : List Addr) (H : Hp) : Prop := match r with
  | .ok d S' => ∀ v μ' H', Up μ H μ' H' → RS F μ' H' S' → rel μ' H' v d → Q v H'
  | .exc c fs S' => ∀ cls dd μ' H', Up μ H μ' H' → RS F μ' H' S' → XR F μ' H' cls dd c fs → Wx cls dd H'
  | .bad => False
abbrev WE' (F : Fx) := WR F (fun μ H v d => RD F μ H v d)
abbrev WA' (F : Fx) := WR F (fun μ H v d => RDs F μ H v d)
/-- a fresh list: reserved yet -/
def WL' (F : Fx) (r : Res (List D)) (Q : VK) (Wx : Value → Option Addr → Hp → Prop) (μ : List Addr) (H : Hp) : Prop := match r with
  | .ok ds S' => ∀ p xs μ' H', Up μ H μ' H' → H p = none → RS (F.hold p) μ' H' S' → RDs (F.hold p) μ' H' xs ds → H' p = some (.lst xs) → Q (.ref p) H'
  | .exc c fs S' => ∀ cls dd μ' H', Up μ H μ' H' → RS F μ' H' S' → XR F μ' H' cls dd c fs → Wx cls dd H'
  | .bad => False
/-- a truth value -/
def WT' (F : Fx) (r : Res D) (Q : Bool → Hp → Prop) (Wx : Value → Option Addr → Hp → Prop) (μ : List Addr) (H : Hp) : Prop := match r with
  | .ok (.bl b) S' => ∀ μ' H', Up μ H μ' H' → RS F μ' H' S' → Q b H'
  | .exc c fs S' => ∀ cls dd μ' H', Up μ H μ' H' → RS F μ' H' S' → XR F μ' H' cls dd c fs → Wx cls dd H'
  | _ => False
def WS' (F : Fx) (r : Out) (E : Ends) (W : WX) (μ : List Addr) (H : Hp) : Prop := match r with
  | .nx ρ S => ∀ σ μ' H', Up μ H μ' H' → RS F μ' H' S → RG F μ' H' σ ρ → E.nx σ H'
  | .rt d S => ∀ v μ' H', Up μ H μ' H' → RS F μ' H' S → RD F μ' H' v d → E.rt v H'
  | .bk ρ S => ∀ σ μ' H', Up μ H μ' H' → RS F μ' H' S → RG F μ' H' σ ρ → E.bk σ H'
  | .ct ρ S => ∀ σ μ' H', Up μ H μ' H' → RS F μ' H' S → RG F μ' H' σ ρ → E.ct σ H'
  | .exc c fs ρ S => ∀ cls dd σ μ' H', Up μ H μ' H' → RS F μ' H' S → RG F μ' H' σ ρ → XR F μ' H' cls dd c fs → W cls dd σ H'
  | .bad => False
section
variable {F : Fx} {α β γ δ : Type} {rel : List Addr → Hp → β → α → Prop} {rel' : List Addr → Hp → δ → γ → Prop} {μ μ1 : List Addr} {H H1 : Hp} {Q : β → Hp → Prop} {Wx : Value → Option Addr → Hp → Prop}
theorem WR.shift {r : Res α} (u : Up μ H μ1 H1) (h : WR F rel r Q Wx μ H) : WR F rel r Q Wx μ1 H1 := by
  cases r with
  | ok d S => exact fun v μ' H' u' => h v μ' H' (u.trans u')
  | exc c fs S => exact fun cls dd μ' H' u' => h cls dd μ' H' (u.trans u')
  | bad => exact h
theorem WS'.shift {r : Out} {E : Ends} {W : WX} (u : Up μ H μ1 H1) (h : WS' F r E W μ H) : WS' F r E W μ1 H1 := by
  cases r with
  | nx ρ S => exact fun σ μ' H' u' => h σ μ' H' (u.trans u')
  | rt d S => exact fun v μ' H' u' => h v μ' H' (u.trans u')
  | bk ρ S => exact fun σ μ' H' u' => h σ μ' H' (u.trans u')
  | ct ρ S => exact fun σ μ' H' u' => h σ μ' H' (u.trans u')
  | exc c fs ρ S => exact fun cls dd σ μ' H' u' => h cls dd σ μ' H' (u.trans u')
  | bad => exact h
/-- first r, then f -/
theorem WR.bind {r : Res γ} {f : γ → Sto → Res α} {Q1 : δ → Hp → Prop} (h : WR F rel (r.bind f) Q Wx μ H)
    (k : ∀ x S1 v μ1 H1, Up μ H μ1 H1 → RS F μ1 H1 S1 → rel' μ1 H1 v x → WR F rel (f x S1) Q Wx μ1 H1 → Q1 v H1) : WR F rel' r Q1 Wx μ H := by
  cases r with
  | ok x S1 => exact fun v μ1 H1 u1 s1 r1 => k x S1 v μ1 H1 u1 s1 r1 (WR.shift u1 h)
  | exc c fs S => exact h
  | bad => exact h
theorem WL'.shift {r : Res (List D)} {Q : VK} (u : Up μ H μ1 H1) (h : WL' F r Q Wx μ H) : WL' F r Q Wx μ1 H1 := by
  cases r with
  | ok d S =>
    intro p xs μ' H' u' hp s' r' e'
    have np : p ∉ μ := fun z => (s'.xi p List.mem_cons_self).1 (u'.mem (u.mem z))
    exact h p xs μ' H' (u.trans u') (u.back hp np) s' r' e'
  | exc c fs S => exact fun cls dd μ' H' u' => h cls dd μ' H' (u.trans u')
  | bad => exact h
theorem WL'.bind {r : Res γ} {f : γ → Sto → Res (List D)} {Q : VK} {Q1 : δ → Hp → Prop} (h : WL' F (r.bind f) Q Wx μ H)
    (k : ∀ x S1 v μ1 H1, Up μ H μ1 H1 → RS F μ1 H1 S1 → rel' μ1 H1 v x → WL' F (f x S1) Q Wx μ1 H1 → Q1 v H1) : WR F rel' r Q1 Wx μ H := by
  cases r with
  | ok x S1 => exact fun v μ1 H1 u1 s1 r1 => k x S1 v μ1 H1 u1 s1 r1 (WL'.shift u1 h)
  | exc c fs S => exact h
  | bad => exact h
theorem WT'.shift {r : Res D} {Q : Bool → Hp → Prop} (u : Up μ H μ1 H1) (h : WT' F r Q Wx μ H) : WT' F r Q Wx μ1 H1 := by
  cases r with
  | ok d S =>
    cases d with
    | bl b => exact fun μ' H' u' => h μ' H' (u.trans u')
    | _ => exact h
  | exc c fs S => exact fun cls dd μ' H' u' => h cls dd μ' H' (u.trans u')
  | bad => exact h
/-- first r, then f, whose answer is a truth value -/
theorem WT'.bind {r : Res γ} {f : γ → Sto → Res D} {Q : Bool → Hp → Prop} {Q1 : δ → Hp → Prop} (h : WT' F (r.bind f) Q Wx μ H)
    (k : ∀ x S1 v μ1 H1, Up μ H μ1 H1 → RS F μ1 H1 S1 → rel' μ1 H1 v x → WT' F (f x S1) Q Wx μ1 H1 → Q1 v H1) : WR F rel' r Q1 Wx μ H := by
  cases r with
  | ok x S1 => exact fun v μ1 H1 u1 s1 r1 => k x S1 v μ1 H1 u1 s1 r1 (WT'.shift u1 h)
  | exc c fs S => exact h
  | bad => exact h
/-- first a test, then f -/
theorem WR.bindT {r : Res D} {f : D → Sto → Res α} {Q1 : Bool → Hp → Prop} (h : WR F rel (r.bind f) Q Wx μ H) (hb : ∀ d S, (∀ b, d ≠ .bl b) → f d S = .bad)
    (k : ∀ b S1 μ1 H1, Up μ H μ1 H1 → RS F μ1 H1 S1 → WR F rel (f (.bl b) S1) Q Wx μ1 H1 → Q1 b H1) : WT' F r Q1 Wx μ H := by
  cases r with
  | ok d S =>
    have h : WR F rel (f d S) Q Wx μ H := h
    cases d with
    | bl b => exact fun μ1 H1 u1 s1 => k b S μ1 H1 u1 s1 (WR.shift u1 h)
    | _ =>
      rw [hb _ _ (by intro b e; cases e)] at h
      exact h
  | exc c fs S => exact h
  | bad => exact h
theorem WT'.bindT {r : Res D} {f : D → Sto → Res D} {Q Q1 : Bool → Hp → Prop} (h : WT' F (r.bind f) Q Wx μ H) (hb : ∀ d S, (∀ b, d ≠ .bl b) → f d S = .bad)
    (k : ∀ b S1 μ1 H1, Up μ H μ1 H1 → RS F μ1 H1 S1 → WT' F (f (.bl b) S1) Q Wx μ1 H1 → Q1 b H1) : WT' F r Q1 Wx μ H := by
  cases r with
  | ok d S =>
    have h : WT' F (f d S) Q Wx μ H := h
    cases d with
    | bl b => exact fun μ1 H1 u1 s1 => k b S μ1 H1 u1 s1 (WT'.shift u1 h)
    | _ =>
      rw [hb _ _ (by intro b e; cases e)] at h
      exact h
  | exc c fs S => exact h
  | bad => exact h
/-- as a value -/
theorem WT'.val {r : Res D} {Q : Bool → Hp → Prop} (h : WT' F r Q Wx μ H) : WE' F r (fun x H' => ∃ k, x = .bl k ∧ Q k H') Wx μ H := by
  cases r with
  | ok d S =>
    cases d with
    | bl b =>
      intro v μ' H' u' s' r'
      cases r'
      exact ⟨b, rfl, h μ' H' u' s'⟩
    | _ => exact h.elim
  | exc c fs S => exact h
  | bad => exact h
end
end Dm
-- text DmRules
namespace Dm
open PySem L2
open PySem.W (Frag)
structure DE (X : Cx) (W : WX) (e : Expr) (m : ME) : Prop where
  ex : ∃ te, PE X e te ∧ ∀ ξ μ σ H ρ S Q, RG (fx X ξ) μ H σ ρ → RS (fx X ξ) μ H S → WE' (fx X ξ) (m ρ S) Q (fun cls dd H' => W cls dd σ H') μ H → te σ H Q
structure DT (X : Cx) (W : WX) (e : Expr) (m : ME) : Prop where
  ex : ∃ te, PT X e te ∧ ∀ ξ μ σ H ρ S Q, RG (fx X ξ) μ H σ ρ → RS (fx X ξ) μ H S → WT' (fx X ξ) (m ρ S) Q (fun cls dd H' => W cls dd σ H') μ H → te σ H Q
structure DW (X : Cx) (W : WX) (e : Expr) (m : ME) : Prop where
  ex : ∃ te, PW X e te ∧ ∀ ξ μ σ H ρ S Q, RG (fx X ξ) μ H σ ρ → RS (fx X ξ) μ H S → WT' (fx X ξ) (m ρ S) Q (fun cls dd H' => W cls dd σ H') μ H → te σ H Q
structure DA (X : Cx) (W : WX) (es : List Expr) (m : MA) : Prop where
  ex : ∃ te, PA X es te ∧ ∀ ξ μ σ H ρ S Q, RG (fx X ξ) μ H σ ρ → RS (fx X ξ) μ H S → WA' (fx X ξ) (m ρ S) Q (fun cls dd H' => W cls dd σ H') μ H → te σ H Q
/-- a fresh list, its items -/
structure DL (X : Cx) (W : WX) (e : Expr) (m : MA) : Prop where
  ex : ∃ te, PE X e te ∧ ∀ ξ μ σ H ρ S Q, RG (fx X ξ) μ H σ ρ → RS (fx X ξ) μ H S →
    WL' (fx X ξ) (m ρ S) Q (fun cls dd H' => W cls dd σ H') μ H → te σ H Q
structure DS (X : Cx) (W : WX) (st : Stmt) (m : MS) : Prop where
  ex : ∃ ts, PS X st ts ∧ ∀ ξ μ σ H ρ S D, RG (fx X ξ) μ H σ ρ → RS (fx X ξ) μ H S → WS' (fx X ξ) (m ρ S) D W μ H → ts D σ H
structure DSs (X : Cx) (W : WX) (st : List Stmt) (m : MS) : Prop where
  ex : ∃ ts, PSs X st ts ∧ ∀ ξ μ σ H ρ S D, RG (fx X ξ) μ H σ ρ → RS (fx X ξ) μ H S → WS' (fx X ξ) (m ρ S) D W μ H → ts D σ H
/-! ### the words -/
def mVar (i : Nat) : ME := fun ρ S => match ρ[i]? with
  | some (some d) => .ok d S
  | _ => .bad
def mK (d : D) : ME := fun _ S => .ok d S
def mOp (g : Sto → D → D → Option D) (a b : ME) : ME := fun ρ S => (a ρ S).bind fun x S1 => (b ρ S1).bind fun y S2 => match g S2 x y with
  | some z => .ok z S2
  | none => .bad
def mUn (g : Sto → D → Option D) (a : ME) : ME := fun ρ S => (a ρ S).bind fun x S1 => match g S1 x with
  | some z => .ok z S1
  | none => .bad
def mAnd (a b : ME) : ME := fun ρ S => (a ρ S).bind fun x S1 => match x with
  | .bl true => b ρ S1
  | .bl false => .ok (.bl false) S1
  | _ => .bad
def mOr (a b : ME) : ME := fun ρ S => (a ρ S).bind fun x S1 => match x with
  | .bl true => .ok (.bl true) S1
  | .bl false => b ρ S1
  | _ => .bad
def mNot (a : ME) : ME := fun ρ S => (a ρ S).bind fun x S1 => match x with
  | .bl c => .ok (.bl (!c)) S1
  | _ => .bad
def mIf (c a b : ME) : ME := fun ρ S => (c ρ S).bind fun x S1 => match x with
  | .bl true => a ρ S1
  | .bl false => b ρ S1
  | _ => .bad
def mNil : MA := fun _ S => .ok [] S
def mCons (a : ME) (r : MA) : MA := fun ρ S => (a ρ S).bind fun x S1 => (r ρ S1).bind fun xs S2 => .ok (x :: xs) S2
def mTup (a : MA) : ME := fun ρ S => (a ρ S).bind fun xs S1 => if xs.length ≤ 16777216 then .ok (.tup xs) S1 else .bad
def mLst (a : MA) : MA := fun ρ S => (a ρ S).bind fun xs S1 => if xs.length ≤ 16777216 then .ok xs S1 else .bad
def mCall (f : List D → Sto → Res D) (a : MA) : ME := fun ρ S => (a ρ S).bind fun xs S1 => f xs S1
/-- a fresh list as plain data; as a cell -/
def mFz (a : MA) : ME := fun ρ S => (a ρ S).bind fun xs S1 => .ok (.lst xs) S1
def mNew (a : MA) : ME := fun ρ S => (a ρ S).bind fun xs S1 => .ok (.cell S1.length) (S1 ++ [.lst xs])
section
variable {X : Cx} {W : WX} {e a b c : Expr} {es : List Expr} {ma mb mc m : ME} {mr : MA} {pos : Pos}
/-- weakening by what a rule asks -/
theorem d_var (i : Nat) {x : Str} (hN : X.N[i]? = some x := by rfl) (hv : Vis X.env.scope x := by first | exact Or.inl rfl | exact Or.inr (Or.inl rfl) | exact Or.inr (Or.inr rfl)) (hd : (x == ("__debug__" : Str)) = false := by decide)
    (hcd : (x == ("__classdict__" : Str)) = false := by decide) : DE X W (.Name x pos) (mVar i) :=
  ⟨_, pe_var hN hv hd hcd, fun ξ μ σ H ρ S Q g s h => by
    unfold mVar at h
    cases e : ρ[i]? with
    | none => rw [e] at h; exact h.elim
    | some o =>
      cases o with
      | none => rw [e] at h; exact h.elim
      | some d =>
        rw [e] at h
        obtain ⟨v, hv, r⟩ := g.at_ i d e
        exact ⟨v, hv, h v μ H .refl s r⟩⟩
theorem d_k {te : TE} {v : V} {d : D} (hp : PE X e te) (ht : te = tC v) (hr : ∀ ξ μ H, RD (fx X ξ) μ H v d) : DE X W e (mK d) :=
  ⟨te, hp, fun ξ μ σ H ρ S Q g s h => by subst ht; exact h v μ H .refl s (hr ξ μ H)⟩
theorem d_int {i : Int} {j} : DE X W (.Constant (.int i) j pos) (mK (.int i)) := d_k pe_int rfl fun _ _ _ => .int i
theorem d_bl {i : Bool} {j} : DE X W (.Constant (.bool i) j pos) (mK (.bl i)) := d_k pe_bl rfl fun _ _ _ => .bl i
theorem d_non {j} : DE X W (.Constant .none j pos) (mK .non) := d_k pe_non rfl fun _ _ _ => .non
theorem d_str {i : Str} {j} : DE X W (.Constant (.str i) j pos) (mK (.str i)) := d_k pe_str rfl fun _ _ _ => .str i
/-- a constant of the module -/
def GlD (X : Cx) (x : Str) (d : D) : Prop := ∃ u v, X.mg x = some u ∧ RelV v u ∧ ∀ ξ μ H, RD (fx X ξ) μ H v d
theorem d_glob {x : Str} {d : D} (hg : Gl X x) (hm : GlD X x d) (hd : (x == ("__debug__" : Str)) = false := by decide) : DE X W (.Name x pos) (mK d) := by
  obtain ⟨u, v, h1, h2, h3⟩ := hm
  exact d_k (pe_glob hg h1 h2 hd) rfl h3
/-! operators -/
def OpD (X : Cx) (r : R2) (g : Sto → D → D → Option D) : Prop :=
  ∀ ξ μ H S x y v u z Q, RS (fx X ξ) μ H S → RD (fx X ξ) μ H v x → RD (fx X ξ) μ H u y → g S x y = some z → (∀ w μ' H', Up μ H μ' H' → RS (fx X ξ) μ' H' S → RD (fx X ξ) μ' H' w z → Q w H') → r v u H Q
theorem op2 {r : R2} {g : Sto → D → D → Option D} {ta tb : TE} {μ ξ : List Addr} {σ : St} {H : Hp} {ρ : Rho} {S : Sto} {Q : VK} (hd : OpD X r g)
    (ka : ∀ ξ μ σ H ρ S Q, RG (fx X ξ) μ H σ ρ → RS (fx X ξ) μ H S → WE' (fx X ξ) (ma ρ S) Q (fun cls dd H' => W cls dd σ H') μ H → ta σ H Q)
    (kb : ∀ ξ μ σ H ρ S Q, RG (fx X ξ) μ H σ ρ → RS (fx X ξ) μ H S → WE' (fx X ξ) (mb ρ S) Q (fun cls dd H' => W cls dd σ H') μ H → tb σ H Q)
    (g0 : RG (fx X ξ) μ H σ ρ) (s : RS (fx X ξ) μ H S) (h : WE' (fx X ξ) (mOp g ma mb ρ S) Q (fun cls dd H' => W cls dd σ H') μ H) : tOp r ta tb σ H Q := by
  refine ka ξ μ σ H ρ S _ g0 s (WR.bind h fun x S1 v μ1 H1 u1 s1 r1 h1 => ?_)
  refine kb ξ μ1 σ H1 ρ S1 _ (g0.up u1) s1 (WR.bind h1 fun y S2 v2 μ2 H2 u2 s2 r2 h2 => ?_)
  cases e : g S2 x y with
  | none => rw [e] at h2; exact h2.elim
  | some z =>
    rw [e] at h2
    exact hd ξ μ2 H2 S2 x y v v2 z Q s2 (r1.up u2) r2 e fun w μ' H' u' s' r' => h2 w μ' H' u' s' r'
theorem d_op {op : Operator} {r : R2} {g : Sto → D → D → Option D} (ho : OpR X (binaryOp op) r) (hd : OpD X r g) (ha : DE X W a ma) (hb : DE X W b mb) : DE X W (.BinOp a op b pos) (mOp g ma mb) := by
  obtain ⟨ta, pa, ka⟩ := ha
  obtain ⟨tb, pb, kb⟩ := hb
  exact ⟨_, pe_op ho pa pb, fun ξ μ σ H ρ S Q g0 s h => op2 (ξ := ξ) hd ka kb g0 s h⟩
theorem d_cmp {op : CmpOp} {r : R2} {g : Sto → D → D → Option D} (ho : OpR X (compareOp op) r) (hd : OpD X r g) (ha : DE X W a ma) (hb : DE X W b mb) (hm : behindInMarks op b = false := by first | exact nomark _ | rfl) : DE X W (.Compare a [op] [b] pos) (mOp g ma mb) := by
  obtain ⟨ta, pa, ka⟩ := ha
  obtain ⟨tb, pb, kb⟩ := hb
  exact ⟨_, pe_cmpR ho pa pb hm, fun ξ μ σ H ρ S Q g0 s h => op2 (ξ := ξ) hd ka kb g0 s h⟩
theorem dt_val (h : DE X W e m) (he : ∀ whole, isTrue e X.env whole = (do let v ← whole; standAt e.pos; holding [v] (truthy v)) := by intro _; rfl) : DT X W e m := by
  obtain ⟨te, p, k⟩ := h
  exact ⟨_, pt_val p he, fun ξ μ σ H ρ S Q g s h => k ξ μ σ H ρ S _ g s (WT'.val h)⟩
theorem dt_cmp {op : CmpOp} {r : R2} {g : Sto → D → D → Option D} (ho : OpR X (compareOp op) r) (hd : OpD X r g) (ha : DE X W a ma) (hb : DE X W b mb) (hm : behindInMarks op b = false := by first | exact nomark _ | rfl) : DT X W (.Compare a [op] [b] pos) (mOp g ma mb) := by
  obtain ⟨ta, pa, ka⟩ := ha
  obtain ⟨tb, pb, kb⟩ := hb
  exact ⟨_, pt_cmpR ho pa pb hm, fun ξ μ σ H ρ S Q g0 s h => op2 (ξ := ξ) hd ka kb g0 s (WT'.val h)⟩
theorem DT.w (h : DW X W e m) : DT X W e m := let ⟨t, p, k⟩ := h; ⟨t, p.pt, k⟩
theorem notb2 {α : Type} {k l : Sto → Res α} : ∀ (d : D) (S : Sto), (∀ b, d ≠ .bl b) → (match d with | .bl true => k S | .bl false => l S | _ => Res.bad) = Res.bad := fun d S h => by
  cases d with
  | bl b => exact absurd rfl (h b)
  | _ => rfl
theorem dw_and1 (ha : DT X W a ma) : DW X W (.BoolOp .And [a] pos) ma := let ⟨_, p, k⟩ := ha; ⟨_, pw_and1 p, k⟩
theorem dw_or1 (ha : DT X W a ma) : DW X W (.BoolOp .Or [a] pos) ma := let ⟨_, p, k⟩ := ha; ⟨_, pw_or1 p, k⟩
theorem dw_and {rest : List Expr} (ha : DT X W a ma) (hb : DW X W (.BoolOp .And (b :: rest) pos) mb) : DW X W (.BoolOp .And (a :: b :: rest) pos) (mAnd ma mb) := by
  obtain ⟨ta, pa, ka⟩ := ha
  obtain ⟨tb, pb, kb⟩ := hb
  refine ⟨_, pw_and pa pb, fun ξ μ σ H ρ S Q g s h => ?_⟩
  refine ka ξ μ σ H ρ S _ g s (WT'.bindT h (fun d S h => notb2 d S h) fun c S1 μ1 H1 u1 s1 h1 => ?_)
  cases c with
  | true => exact kb ξ μ1 σ H1 ρ S1 Q (g.up u1) s1 h1
  | false => exact h1 μ1 H1 .refl s1
theorem dw_or {rest : List Expr} (ha : DT X W a ma) (hb : DW X W (.BoolOp .Or (b :: rest) pos) mb) : DW X W (.BoolOp .Or (a :: b :: rest) pos) (mOr ma mb) := by
  obtain ⟨ta, pa, ka⟩ := ha
  obtain ⟨tb, pb, kb⟩ := hb
  refine ⟨_, pw_or pa pb, fun ξ μ σ H ρ S Q g s h => ?_⟩
  refine ka ξ μ σ H ρ S _ g s (WT'.bindT h (fun d S h => notb2 d S h) fun c S1 μ1 H1 u1 s1 h1 => ?_)
  cases c with
  | false => exact kb ξ μ1 σ H1 ρ S1 Q (g.up u1) s1 h1
  | true => exact h1 μ1 H1 .refl s1
theorem dt_not (ha : DT X W a ma) : DT X W (.UnaryOp .Not a pos) (mNot ma) := by
  obtain ⟨ta, pa, ka⟩ := ha
  refine ⟨_, pt_not pa, fun ξ μ σ H ρ S Q g s h => ?_⟩
  refine ka ξ μ σ H ρ S _ g s (WT'.bindT h (fun d S h => by cases d <;> first | rfl | exact absurd rfl (h _)) fun c S1 μ1 H1 u1 s1 h1 => ?_)
  exact h1 μ1 H1 .refl s1
/-- and, or, not as values -/
theorem d_one {op} (h : DE X W a m) : DE X W (.BoolOp op [a] pos) m := let ⟨_, p, k⟩ := h; ⟨_, pe_one p, k⟩
theorem WE'.boolv {r : Res D} {f : D → Sto → Res D} {Q Q1 : VK} {Wx : Value → Option Addr → Hp → Prop} {μ ξ : List Addr} {H : Hp} (h : WE' (fx X ξ) (r.bind f) Q Wx μ H) (hb : ∀ d S, (∀ b, d ≠ .bl b) → f d S = .bad)
    (k : ∀ b S1 μ1 H1, Up μ H μ1 H1 → RS (fx X ξ) μ1 H1 S1 → WE' (fx X ξ) (f (.bl b) S1) Q Wx μ1 H1 → Q1 (.bl b) H1) : WE' (fx X ξ) r Q1 Wx μ H := by
  refine WR.bind h fun x S1 v μ1 H1 u1 s1 r1 h1 => ?_
  cases r1 with
  | bl b => exact k b S1 μ1 H1 u1 s1 h1
  | _ =>
    rw [hb _ _ (by intro b e; cases e)] at h1
    exact h1.elim
theorem d_and {rest : List Expr} (ha : DE X W a ma) (hb : DE X W (.BoolOp .And (b :: rest) pos) mb) : DE X W (.BoolOp .And (a :: b :: rest) pos) (mAnd ma mb) := by
  obtain ⟨ta, pa, ka⟩ := ha
  obtain ⟨tb, pb, kb⟩ := hb
  refine ⟨_, pe_and pa pb, fun ξ μ σ H ρ S Q g s h => ?_⟩
  refine ka ξ μ σ H ρ S _ g s (WE'.boolv h (fun d S h => notb2 d S h) fun c S1 μ1 H1 u1 s1 h1 => ⟨c, rfl, ?_⟩)
  cases c with
  | true => exact kb ξ μ1 σ H1 ρ S1 Q (g.up u1) s1 h1
  | false => exact h1 _ μ1 H1 .refl s1 (.bl _)
theorem d_not (ha : DE X W a ma) : DE X W (.UnaryOp .Not a pos) (mNot ma) := by
  obtain ⟨ta, pa, ka⟩ := ha
  refine ⟨_, pe_not pa, fun ξ μ σ H ρ S Q g s h => ?_⟩
  exact ka ξ μ σ H ρ S _ g s (WE'.boolv h (fun d S h => by cases d <;> first | rfl | exact absurd rfl (h _)) fun c S1 μ1 H1 u1 s1 h1 => ⟨c, rfl, h1 _ μ1 H1 .refl s1 (.bl _)⟩)
theorem d_ifExp (hc : DT X W c mc) (ha : DE X W a ma) (hb : DE X W b mb) : DE X W (.IfExp c a b pos) (mIf mc ma mb) := by
  obtain ⟨tc, pc, kc⟩ := hc
  obtain ⟨ta, pa, ka⟩ := ha
  obtain ⟨tb, pb, kb⟩ := hb
  refine ⟨_, pe_ifExp pc pa pb, fun ξ μ σ H ρ S Q g s h => ?_⟩
  refine kc ξ μ σ H ρ S _ g s (WR.bindT h (fun d S h => notb2 d S h) fun c S1 μ1 H1 u1 s1 h1 => ?_)
  cases c with
  | true => exact ka ξ μ1 σ H1 ρ S1 Q (g.up u1) s1 h1
  | false => exact kb ξ μ1 σ H1 ρ S1 Q (g.up u1) s1 h1
/-- one-place operators -/
def UnD (X : Cx) (r : V → Hp → VK → Prop) (g : Sto → D → Option D) : Prop :=
  ∀ ξ μ H S x v z Q, RS (fx X ξ) μ H S → RD (fx X ξ) μ H v x → g S x = some z → (∀ w μ' H', Up μ H μ' H' → RS (fx X ξ) μ' H' S → RD (fx X ξ) μ' H' w z → Q w H') → r v H Q
theorem d_un {op : UnaryOp} {r : V → Hp → VK → Prop} {g : Sto → D → Option D} (ho : UnR X (unaryOp op) r) (hd : UnD X r g) (ha : DE X W a ma) : DE X W (.UnaryOp op a pos) (mUn g ma) := by
  obtain ⟨ta, pa, ka⟩ := ha
  refine ⟨_, pe_un ho pa, fun ξ μ σ H ρ S Q g0 s h => ka ξ μ σ H ρ S _ g0 s (WR.bind h fun x S1 v μ1 H1 u1 s1 r1 h1 => ?_)⟩
  cases e : g S1 x with
  | none => rw [e] at h1; exact h1.elim
  | some z =>
    rw [e] at h1
    exact hd ξ μ1 H1 S1 x v z Q s1 r1 e h1
/-- arguments -/
theorem da_nil : DA X W [] mNil := ⟨_, pa_nil, fun ξ μ σ H ρ S Q g s h => h [] μ H .refl s .nil⟩
theorem da_cons (ha : DE X W e ma) (hr : DA X W es mr) (hs : starEach (e :: es) X.env = (false, eval e X.env) :: starEach es X.env := by rfl) : DA X W (e :: es) (mCons ma mr) := by
  obtain ⟨ta, pa, ka⟩ := ha
  obtain ⟨tr, pr, kr⟩ := hr
  refine ⟨_, pa_cons pa pr hs, fun ξ μ σ H ρ S Q g s h => ka ξ μ σ H ρ S _ g s (WR.bind h fun x S1 v μ1 H1 u1 s1 r1 h1 => ?_)⟩
  refine kr ξ μ1 σ H1 ρ S1 _ (g.up u1) s1 (WR.bind h1 fun xs S2 vs μ2 H2 u2 s2 r2 h2 => ?_)
  exact h2 _ μ2 H2 .refl s2 (.cons (r1.up u2) r2)
theorem d_tup {x1} (h : DA X W es mr) : DE X W (.Tuple es x1 pos) (mTup mr) := by
  obtain ⟨ta, pa, ka⟩ := h
  refine ⟨_, pe_tup pa, fun ξ μ σ H ρ S Q g s h => ka ξ μ σ H ρ S _ g s (WR.bind h fun xs S1 vs μ1 H1 u1 s1 r1 h1 => ?_)⟩
  by_cases hz : xs.length ≤ 16777216
  · rw [if_pos hz] at h1
    refine ⟨by rw [r1.length, sizeLine_eq]; exact hz, fun p hp => ?_⟩
    exact h1 _ μ1 _ (.fresh hp) (s1.fresh hp) (.tup (.inl ⟨.inl upd_same, s1.out hp, s1.outX hp⟩) (r1.up (.fresh hp)))
  · rw [if_neg hz] at h1; exact h1.elim
theorem dl_lst (h : DA X W es mr) : DL X W (.List es pos) (mLst mr) := by
  obtain ⟨ta, pa, ka⟩ := h
  refine ⟨_, pe_lst pa, fun ξ μ σ H ρ S Q g s h => ka ξ μ σ H ρ S _ g s (WL'.bind h fun xs S1 vs μ1 H1 u1 s1 r1 h1 => ?_)⟩
  by_cases hz : xs.length ≤ 16777216
  · rw [if_pos hz] at h1
    exact ⟨by rw [r1.length, sizeLine_eq]; exact hz, fun p hp => h1 p vs μ1 _ (.fresh hp) hp (s1.holds hp) (r1.mv (.holds hp)) upd_same⟩
  · rw [if_neg hz] at h1; exact h1.elim
/-- a fresh list as data, as a cell -/
theorem d_fz (h : DL X W e mr) : DE X W e (mFz mr) := by
  obtain ⟨te, p, k⟩ := h
  refine ⟨_, p, fun ξ μ σ H ρ S Q g s h => k ξ μ σ H ρ S Q g s ?_⟩
  unfold mFz at h
  cases e : mr ρ S with
  | bad => rw [e] at h; exact h.elim
  | exc c fs S' => rw [e] at h; exact h
  | ok ds S' =>
    rw [e] at h
    intro q xs μ' H' u' hq s' r' e'
    exact h _ μ' H' u' s'.free (.lst (.inl ⟨.inl e', (s'.xi q List.mem_cons_self).1, s.outX hq⟩) (r'.mv .free))
theorem d_new (h : DL X W e mr) : DE X W e (mNew mr) := by
  obtain ⟨te, p, k⟩ := h
  refine ⟨_, p, fun ξ μ σ H ρ S Q g s h => k ξ μ σ H ρ S Q g s ?_⟩
  unfold mNew at h
  cases e : mr ρ S with
  | bad => rw [e] at h; exact h.elim
  | exc c fs S' => rw [e] at h; exact h
  | ok ds S' =>
    rw [e] at h
    intro q xs μ' H' u' hq s' r' e'
    have l : S'.length = μ'.length := s'.len.symm
    refine h (.ref q) (μ' ++ [q]) H' ⟨?_, fun a ha n => ?_, u'.keep⟩ (s'.asCell (s.outX hq) e' r') (.cell (by rw [l]; exact alloc_at))
    · obtain ⟨ν, z⟩ := u'.pre
      exact ⟨ν ++ [q], by rw [z, List.append_assoc]⟩
    · rcases List.mem_append.mp ha with z | z
      · exact u'.new a z n
      · rw [List.mem_singleton.mp z]; exact hq
end
end Dm
-- text DmOps
namespace Dm
open PySem L2
open PySem.W (Frag)
/-! ### the items of a tuple, a list -/
def lstOf (S : Sto) : D → Option (List D)
  | .lst ds => some ds
  | .cell n => match S[n]? with
    | some (.lst ds) => some ds
    | _ => none
  | _ => none
def seqOf (S : Sto) : D → Option (List D)
  | .tup ds => some ds
  | d => lstOf S d
section
variable {F : Fx} {μ : List Addr} {H : Hp} {S : Sto} {v : V} {d : D} {ds : List D}
theorem RD.lstS (s : RS F μ H S) (r : RD F μ H v d) (h : lstOf S d = some ds) : ∃ a xs, v = .ref a ∧ SqL F.K H a xs ∧ RDs F μ H xs ds := by
  cases r with
  | lst f r =>
    cases h
    exact ⟨_, _, rfl, f.sq, r⟩
  | @cell a n e =>
    simp only [lstOf] at h
    cases q : S[n]? with
    | none => rw [q] at h; exact nomatch h
    | some c =>
      rw [q] at h
      cases c with
      | lst es =>
        cases h
        obtain ⟨xs, h1, h2⟩ := s.at_ n a _ e q
        exact ⟨a, xs, rfl, SqL.of h1, h2⟩
      | _ => exact nomatch h
  | _ => exact nomatch h
theorem RD.seqS (s : RS F μ H S) (r : RD F μ H v d) (h : seqOf S d = some ds) : ∃ a xs, v = .ref a ∧ (SqL F.K H a xs ∨ SqT F.K H a xs) ∧ RDs F μ H xs ds := by
  cases r with
  | tup f r =>
    cases h
    exact ⟨_, _, rfl, .inr f.sq, r⟩
  | lst f r =>
    obtain ⟨a, xs, e, q, z⟩ := RD.lstS s (.lst f r) h
    exact ⟨a, xs, e, .inl q, z⟩
  | cell e =>
    obtain ⟨a, xs, e, q, z⟩ := RD.lstS s (.cell e) h
    exact ⟨a, xs, e, .inl q, z⟩
  | _ => exact nomatch h
theorem RDs.atI {vs : List V} {i : Int} (r : RDs F μ H vs ds) (h : atI ds i = some d) : ∃ v, L2.atI vs i = some v ∧ RD F μ H v d := by
  unfold L2.atI at h ⊢
  rw [r.length]
  cases e : ixN ds.length i with
  | none => rw [e] at h; exact nomatch h
  | some j =>
    rw [e] at h
    exact r.get h
end
/-! ### whole numbers -/
def gI (f : Int → Int → D) : Sto → D → D → Option D := fun _ x y => match x, y with
  | .int i, .int j => some (f i j)
  | _, _ => none
def gIC (C : Int → Int → Prop) [∀ i j, Decidable (C i j)] (f : Int → Int → D) : Sto → D → D → Option D := fun _ x y => match x, y with
  | .int i, .int j => if C i j then some (f i j) else none
  | _, _ => none
section
variable {X : Cx}
theorem opd_I0 {fv : Int → Int → V} {fd : Int → Int → D} (h : ∀ i j ξ μ H, RD (fx X ξ) μ H (fv i j) (fd i j)) : OpD X (rI0 fv) (gI fd) := by
  intro ξ μ H S x y v u z Q s rx ry e k
  cases rx with
  | int i =>
    cases ry with
    | int j =>
      cases e
      exact ⟨i, j, rfl, rfl, k _ μ H .refl s (h i j ξ μ H)⟩
    | _ => exact nomatch e
  | _ => exact nomatch e
theorem opd_I {C : Int → Int → Prop} [∀ i j, Decidable (C i j)] {fv : Int → Int → V} {fd : Int → Int → D} (h : ∀ i j ξ μ H, RD (fx X ξ) μ H (fv i j) (fd i j)) : OpD X (rI C fv) (gIC C fd) := by
  intro ξ μ H S x y v u z Q s rx ry e k
  cases rx with
  | int i =>
    cases ry with
    | int j =>
      unfold gIC at e
      by_cases c : C i j
      · simp only [if_pos c] at e
        cases e
        exact ⟨i, j, rfl, rfl, c, k _ μ H .refl s (h i j ξ μ H)⟩
      · simp only [if_neg c] at e
        exact nomatch e
    | _ => exact nomatch e
  | _ => exact nomatch e
theorem OpD.or {r r' : R2} {g g' : Sto → D → D → Option D} (h : OpD X r g) (h' : OpD X r' g') : OpD X (fun x y H Q => r x y H Q ∨ r' x y H Q) (fun S x y => (g S x y).or (g' S x y)) := by
  intro ξ μ H S x y v u z Q s rx ry e k
  have e : (g S x y).or (g' S x y) = some z := e
  cases q : g S x y with
  | some w =>
    rw [q] at e
    cases e
    exact .inl (h ξ μ H S x y v u _ Q s rx ry q k)
  | none =>
    rw [q] at e
    exact .inr (h' ξ μ H S x y v u z Q s rx ry e k)
abbrev gSub := gI fun i j => .int (i - j)
abbrev gLt := gI fun i j => .bl (decide (i < j))
abbrev gLe := gI fun i j => .bl (decide (i ≤ j))
abbrev gGt := gI fun i j => .bl (decide (j < i))
abbrev gGe := gI fun i j => .bl (decide (j ≤ i))
instance : ∀ i j, Decidable (CMulW i j) := fun i j => inferInstanceAs (Decidable (_ < _))
instance : ∀ i j, Decidable (CDivW i j) := fun i j => inferInstanceAs (Decidable (_ ∧ _))
instance : ∀ i j, Decidable (CPow i j) := fun i j => inferInstanceAs (Decidable (_ ∧ _ ∧ _))
abbrev gMul := gIC CMulW fun i j => .int (i * j)
abbrev gFdiv := gIC CDivW fun i j => .int (i / j)
abbrev gMod := gIC (fun _ j => 0 < j) fun i j => .int (i % j)
abbrev gPow := gIC CPow fun i j => .int (i ^ j.toNat)
theorem o_sub : OpD X (rI0 fun i j => .int (i - j)) gSub := opd_I0 fun _ _ _ _ _ => .int _
theorem o_lt : OpD X (rI0 fun i j => .bl (decide (i < j))) gLt := opd_I0 fun _ _ _ _ _ => .bl _
theorem o_le : OpD X (rI0 fun i j => .bl (decide (i ≤ j))) gLe := opd_I0 fun _ _ _ _ _ => .bl _
theorem o_gt : OpD X (rI0 fun i j => .bl (decide (j < i))) gGt := opd_I0 fun _ _ _ _ _ => .bl _
theorem o_ge : OpD X (rI0 fun i j => .bl (decide (j ≤ i))) gGe := opd_I0 fun _ _ _ _ _ => .bl _
theorem o_mul : OpD X (rI CMulW fun i j => .int (i * j)) gMul := opd_I fun _ _ _ _ _ => .int _
theorem o_fdiv : OpD X (rI CDivW fun i j => .int (i / j)) gFdiv := opd_I fun _ _ _ _ _ => .int _
theorem o_mod : OpD X (rI (fun _ j => 0 < j) fun i j => .int (i % j)) gMod := opd_I fun _ _ _ _ _ => .int _
theorem o_pow : OpD X (rI CPow fun i j => .int (i ^ j.toNat)) gPow := opd_I fun _ _ _ _ _ => .int _
/-- + of ints, of tuples -/
def gCatT : Sto → D → D → Option D := fun _ x y => match x, y with
  | .tup a, .tup b => if a.length + b.length ≤ 16777216 then some (.tup (a ++ b)) else none
  | _, _ => none
def gAdd : Sto → D → D → Option D := fun S x y => (gI (fun i j => .int (i + j)) S x y).or (gCatT S x y)
theorem o_catT : OpD X (rCatA X.K) gCatT := by
  intro ξ μ H S x y v u z Q s rx ry e k
  cases rx with
  | @tup a xs ds f r =>
    cases ry with
    | @tup b ys es f' r' =>
      unfold gCatT at e
      by_cases c : ds.length + es.length ≤ 16777216
      · simp only [if_pos c] at e
        cases e
        refine ⟨a, b, xs, ys, rfl, rfl, f.sq, f'.sq, by rw [r.length, r'.length, sizeLine_eq]; exact c, fun e => ?_, fun _ e => ?_, fun _ _ p hp => ?_⟩
        · subst e
          have e' : ds = [] := List.eq_nil_of_length_eq_zero r.length.symm
          subst e'
          exact k _ μ H .refl s (.tup f' r')
        · subst e
          have e' : es = [] := List.eq_nil_of_length_eq_zero r'.length.symm
          subst e'
          rw [List.append_nil] at k
          exact k _ μ H .refl s (.tup f r)
        · exact k _ μ _ (.fresh hp) (s.fresh hp) (.tup (.inl ⟨.inl upd_same, s.out hp, s.outX hp⟩) ((r.append r').up (.fresh hp)))
      · simp only [if_neg c] at e
        exact nomatch e
    | _ => exact nomatch e
  | _ => exact nomatch e
theorem op_addD : OpR X (binaryOp .Add) (fun x y H Q => rI0 (fun i j => .int (i + j)) x y H Q ∨ rCatA X.K x y H Q) := op_add.or op_catA
theorem o_add : OpD X (fun x y H Q => rI0 (fun i j => .int (i + j)) x y H Q ∨ rCatA X.K x y H Q) gAdd := (opd_I0 fun _ _ _ _ _ => .int _).or o_catT
/-- -i -/
def gNeg : Sto → D → Option D := fun _ x => match x with
  | .int i => some (.int (-i))
  | _ => none
theorem o_neg : UnD X (rU fun i => .int (-i)) gNeg := by
  intro ξ μ H S x v z Q s rx e k
  cases rx with
  | int i =>
    cases e
    exact ⟨i, rfl, k _ μ H .refl s (.int _)⟩
  | _ => exact nomatch e
/-! ### == -/
mutual
def toPy : D → Option PyData
  | .non => some .none
  | .bl b => some (.bool b)
  | .int i => some (.int i)
  | .str x => some (.str x)
  | .tup ds => (toPys ds).map .tuple
  | .lst ds => (toPys ds).map .list
  | .cell _ => none
  | .glo _ => none
  | .exn _ _ => none
def toPys : List D → Option (List PyData)
  | [] => some []
  | d :: ds => (toPy d).bind fun p => (toPys ds).map fun ps => p :: ps
end
/-- a cell's list, its items plain -/
def toPyS (S : Sto) (d : D) : Option PyData := match d with
  | .cell n => match S[n]? with
    | some (.lst ds) => (toPys ds).map .list
    | _ => none
  | d => toPy d
section
variable {F : Fx} {μ : List Addr} {H : Hp} {S : Sto}
mutual
theorem dp_of : ∀ {v : V} (d : D) {p : PyData}, RD F μ H v d → toPy d = some p → Dp F.K H v p
  | _, .non, p, r, e => by cases r; cases e; exact .non
  | _, .bl b, p, r, e => by cases r; cases e; exact .bl b
  | _, .int i, p, r, e => by cases r; cases e; exact .int i
  | _, .str x, p, r, e => by cases r; cases e; exact .str x
  | _, .tup ds, p, r, e => by
    cases r with
    | tup f r =>
      unfold toPy at e
      cases q : toPys ds with
      | none => rw [q] at e; exact nomatch e
      | some ps =>
        rw [q] at e; cases e
        exact .tup f.sq (dps_of ds r q)
  | _, .lst ds, p, r, e => by
    cases r with
    | lst f r =>
      unfold toPy at e
      cases q : toPys ds with
      | none => rw [q] at e; exact nomatch e
      | some ps =>
        rw [q] at e; cases e
        exact .lst f.sq (dps_of ds r q)
  | _, .cell _, p, r, e => nomatch e
  | _, .glo _, p, r, e => nomatch e
  | _, .exn _ _, p, r, e => nomatch e
theorem dps_of : ∀ {vs : List V} (ds : List D) {ps : List PyData}, RDs F μ H vs ds → toPys ds = some ps → DpAll F.K H vs ps
  | _, [], ps, r, e => by cases r; cases e; exact .nil
  | _, d :: ds, ps, r, e => by
    cases r with
    | cons a b =>
      unfold toPys at e
      cases q : toPy d with
      | none => rw [q] at e; exact nomatch e
      | some p =>
        rw [q] at e
        cases q' : toPys ds with
        | none => rw [q'] at e; exact nomatch e
        | some ps' =>
          rw [q'] at e; cases e
          exact .cons (dp_of d a q) (dps_of ds b q')
end
theorem dpS_of {v : V} {d : D} {p : PyData} (s : RS F μ H S) (r : RD F μ H v d) (e : toPyS S d = some p) : Dp F.K H v p := by
  cases d with
  | cell n =>
    unfold toPyS at e
    cases r with
    | @cell a _ ea =>
      cases q : S[n]? with
      | none => simp only [q] at e; exact nomatch e
      | some c =>
        simp only [q] at e
        cases c with
        | lst ds =>
          cases q' : toPys ds with
          | none => simp only [q'] at e; exact nomatch e
          | some ps =>
            simp only [q'] at e; cases e
            obtain ⟨xs, h1, h2⟩ := s.at_ n a _ ea q
            exact .lst (SqL.of h1) (dps_of ds h2 q')
        | _ => exact nomatch e
  | _ => exact dp_of _ r e
end
/-- == of two values; none: no rule -/
def eqD (S : Sto) (x y : D) : Option Bool := match x, y with
  | .int i, .int j => some (i == j)
  | .str i, .str j => some (i == j)
  | x, y => match toPyS S x, toPyS S y with
    | some p, some q => if SeqAt.shaped p = true ∧ SeqAt.shaped q = true then some (PyData.eqv p q) else none
    | _, _ => none
theorem eqD_cases {S : Sto} {x y : D} {b : Bool} (h : eqD S x y = some b) : (∃ i j, x = .int i ∧ y = .int j ∧ b = (i == j)) ∨ (∃ i j, x = .str i ∧ y = .str j ∧ b = (i == j)) ∨
    ∃ p q, toPyS S x = some p ∧ toPyS S y = some q ∧ SeqAt.shaped p = true ∧ SeqAt.shaped q = true ∧ b = PyData.eqv p q := by
  unfold eqD at h
  split at h
  · cases h; exact .inl ⟨_, _, rfl, rfl, rfl⟩
  · cases h; exact .inr (.inl ⟨_, _, rfl, rfl, rfl⟩)
  · split at h
    · rename_i p q hp hq
      split at h
      · rename_i hs
        cases h
        exact .inr (.inr ⟨p, q, hp, hq, hs.1, hs.2, rfl⟩)
      · exact nomatch h
    · exact nomatch h
def gEq : Sto → D → D → Option D := fun S x y => (eqD S x y).map .bl
def gNe : Sto → D → D → Option D := fun S x y => (eqD S x y).map fun b => .bl (!b)
def rEqA (K : Frag) : R2 := fun x y H Q => rEq x y H Q ∨ rEqD K x y H Q
def rNeA (K : Frag) : R2 := fun x y H Q => rNe x y H Q ∨ rNeD K x y H Q
theorem op_eqA (hu : X.A.units + 64 < cLine) : OpR X (compareOp .Eq) (rEqA X.K) := op_eq.or (op_eqD hu)
theorem op_neA (hu : X.A.units + 64 < cLine) : OpR X (compareOp .NotEq) (rNeA X.K) := op_ne.or (op_neD hu)
theorem o_eq : OpD X (rEqA X.K) gEq := by
  intro ξ μ H S x y v u z Q s rx ry e k
  unfold gEq at e
  cases q : eqD S x y with
  | none => rw [q] at e; exact nomatch e
  | some b =>
    rw [q] at e; cases e
    rcases eqD_cases q with ⟨i, j, rfl, rfl, rfl⟩ | ⟨i, j, rfl, rfl, rfl⟩ | ⟨p, q', h1, h2, h3, h4, rfl⟩
    · cases rx; cases ry
      exact .inl ⟨rfl, by rw [dec_int]; exact k _ μ H .refl s (.bl _)⟩
    · cases rx; cases ry
      exact .inl ⟨rfl, by rw [dec_str]; exact k _ μ H .refl s (.bl _)⟩
    · exact .inr ⟨p, q', dpS_of s rx h1, dpS_of s ry h2, h3, h4, k _ μ H .refl s (.bl _)⟩
theorem o_ne : OpD X (rNeA X.K) gNe := by
  intro ξ μ H S x y v u z Q s rx ry e k
  unfold gNe at e
  cases q : eqD S x y with
  | none => rw [q] at e; exact nomatch e
  | some b =>
    rw [q] at e; cases e
    rcases eqD_cases q with ⟨i, j, rfl, rfl, rfl⟩ | ⟨i, j, rfl, rfl, rfl⟩ | ⟨p, q', h1, h2, h3, h4, rfl⟩
    · cases rx; cases ry
      exact .inl ⟨rfl, by rw [dec_int]; exact k _ μ H .refl s (.bl _)⟩
    · cases rx; cases ry
      exact .inl ⟨rfl, by rw [dec_str]; exact k _ μ H .refl s (.bl _)⟩
    · exact .inr ⟨p, q', dpS_of s rx h1, dpS_of s ry h2, h3, h4, k _ μ H .refl s (.bl _)⟩
/-! ### in -/
def flatD : D → Bool
  | .non => true
  | .bl _ => true
  | .int _ => true
  | .str _ => true
  | _ => false
def eqF : D → D → Bool
  | .non, .non => true
  | .bl a, .bl b => a == b
  | .bl a, .int b => (if a then 1 else 0) == b
  | .int a, .bl b => a == (if b then 1 else 0)
  | .int a, .int b => a == b
  | .str a, .str b => a == b
  | _, _ => false
theorem flat_of {F : Fx} {μ : List Addr} {H : Hp} {v : V} {d : D} (r : RD F μ H v d) : flatV v = flatD d := by cases r <;> rfl
theorem eqF_of {F : Fx} {μ : List Addr} {H : Hp} {v u : V} {d e : D} (r : RD F μ H v d) (r' : RD F μ H u e) : eqV v u = eqF d e := by cases r <;> cases r' <;> rfl
theorem flats_of {F : Fx} {μ : List Addr} {H : Hp} : ∀ {vs : List V} {ds : List D}, RDs F μ H vs ds → vs.all flatV = ds.all flatD
  | _, [], r => by cases r; rfl
  | _, d :: ds, r => by
    cases r with
    | cons a b => rw [List.all_cons, List.all_cons, flat_of a, flats_of b]
theorem anyF_of {F : Fx} {μ : List Addr} {H : Hp} {u : V} {e : D} (r' : RD F μ H u e) : ∀ {vs : List V} {ds : List D}, RDs F μ H vs ds → inV u vs = ds.any (eqF · e)
  | _, [], r => by cases r; rfl
  | _, d :: ds, r => by
    cases r with
    | cons a b =>
      have q := anyF_of r' b
      unfold inV at q ⊢
      rw [List.any_cons, List.any_cons, eqF_of a r', q]
def gIn (neg : Bool) : Sto → D → D → Option D := fun S x y => match seqOf S y with
  | some ds => if flatD x = true ∧ ds.all flatD = true then some (.bl (if neg then !ds.any (eqF · x) else ds.any (eqF · x))) else none
  | none => none
theorem o_in {neg : Bool} : OpD X (rIn X.K neg) (gIn neg) := by
  intro ξ μ H S x y v u z Q s rx ry e k
  unfold gIn at e
  cases q : seqOf S y with
  | none => rw [q] at e; exact nomatch e
  | some ds =>
    rw [q] at e
    by_cases c : flatD x = true ∧ ds.all flatD = true
    · simp only [if_pos c] at e
      cases e
      obtain ⟨a, xs, rfl, h1, h2⟩ := RD.seqS s ry q
      refine ⟨a, xs, rfl, h1, by rw [flat_of rx]; exact c.1, by rw [flats_of h2]; exact c.2, ?_⟩
      rw [anyF_of rx h2]
      exact k _ μ H .refl s (.bl _)
    · simp only [if_neg c] at e
      exact nomatch e
/-! ### is None -/
def isNon : D → Bool
  | .non => true
  | _ => false
def gIsN (neg : Bool) : Sto → D → D → Option D := fun _ x y => match y with
  | .non => some (.bl (if neg then !isNon x else isNon x))
  | _ => none
theorem isNon_of {F : Fx} {μ : List Addr} {H : Hp} {v : V} {d : D} (r : RD F μ H v d) : decide (v = .non) = isNon d := by cases r <;> rfl
theorem o_isN : OpD X (fun x y H Q => y = .non ∧ Q (.bl (decide (x = .non))) H) (gIsN false) := by
  intro ξ μ H S x y v u z Q s rx ry e k
  cases ry with
  | non =>
    cases e
    exact ⟨rfl, by rw [isNon_of rx]; exact k _ μ H .refl s (.bl _)⟩
  | _ => exact nomatch e
end
/-! ### chains -/
def mChain (g g' : Sto → D → D → Option D) (a b c : ME) : ME := fun ρ S => (a ρ S).bind fun x S1 => (b ρ S1).bind fun y S2 => match g S2 x y with
  | some (.bl true) => (c ρ S2).bind fun z S3 => match g' S3 y z with
    | some w => .ok w S3
    | none => .bad
  | some (.bl false) => .ok (.bl false) S2
  | _ => .bad
section
variable {X : Cx} {W : WX} {e a b c : Expr} {es : List Expr} {ma mb mc m : ME} {mr : MA} {pos : Pos}
theorem chain2 {r r' : R2} {g g' : Sto → D → D → Option D} {ta tb tc : TE} {ξ μ : List Addr} {σ : St} {H : Hp} {ρ : Rho} {S : Sto} {Q : VK} (hd : OpD X r g) (hd' : OpD X r' g')
    (ka : ∀ ξ μ σ H ρ S Q, RG (fx X ξ) μ H σ ρ → RS (fx X ξ) μ H S → WE' (fx X ξ) (ma ρ S) Q (fun cls dd H' => W cls dd σ H') μ H → ta σ H Q)
    (kb : ∀ ξ μ σ H ρ S Q, RG (fx X ξ) μ H σ ρ → RS (fx X ξ) μ H S → WE' (fx X ξ) (mb ρ S) Q (fun cls dd H' => W cls dd σ H') μ H → tb σ H Q)
    (kc : ∀ ξ μ σ H ρ S Q, RG (fx X ξ) μ H σ ρ → RS (fx X ξ) μ H S → WE' (fx X ξ) (mc ρ S) Q (fun cls dd H' => W cls dd σ H') μ H → tc σ H Q)
    (g0 : RG (fx X ξ) μ H σ ρ) (s : RS (fx X ξ) μ H S) (h : WE' (fx X ξ) (mChain g g' ma mb mc ρ S) Q (fun cls dd H' => W cls dd σ H') μ H) : tChain r r' ta tb tc σ H Q := by
  refine ka ξ μ σ H ρ S _ g0 s (WR.bind h fun x S1 v μ1 H1 u1 s1 r1 h1 => ?_)
  refine kb ξ μ1 σ H1 ρ S1 _ (g0.up u1) s1 (WR.bind h1 fun y S2 v2 μ2 H2 u2 s2 r2 h2 => ?_)
  cases e : g S2 x y with
  | none => rw [e] at h2; exact h2.elim
  | some z =>
    rw [e] at h2
    refine hd ξ μ2 H2 S2 x y v v2 z _ s2 (r1.up u2) r2 e fun w μ' H' u' s' r' => ?_
    cases r' with
    | bl k =>
      refine ⟨k, rfl, ?_⟩
      cases k with
      | false => exact h2 _ μ' H' u' s' (.bl false)
      | true =>
        refine kc ξ μ' σ H' ρ S2 _ (g0.up (u1.trans (u2.trans u'))) s' (WR.bind (WR.shift u' h2) fun z S3 v3 μ3 H3 u3 s3 r3 h3 => ?_)
        cases e3 : g' S3 y z with
        | none => rw [e3] at h3; exact h3.elim
        | some w =>
          rw [e3] at h3
          exact hd' ξ μ3 H3 S3 y z v2 v3 w Q s3 (r2.up (u'.trans u3)) r3 e3 h3
    | _ => exact h2.elim
theorem d_chain {op op' : CmpOp} {r r' : R2} {g g' : Sto → D → D → Option D} (ho : OpR X (compareOp op) r) (ho' : OpR X (compareOp op') r') (hd : OpD X r g) (hd' : OpD X r' g') (ha : DE X W a ma) (hb : DE X W b mb) (hc : DE X W c mc)
    (hm : lastMarks [op, op'] [b, c] = false := by with_unfolding_all rfl) : DE X W (.Compare a [op, op'] [b, c] pos) (mChain g g' ma mb mc) := by
  obtain ⟨ta, pa, ka⟩ := ha
  obtain ⟨tb, pb, kb⟩ := hb
  obtain ⟨tc, pc, kc⟩ := hc
  exact ⟨_, pe_chain ho ho' pa pb pc hm, fun ξ μ σ H ρ S Q g0 s h => chain2 hd hd' ka kb kc g0 s h⟩
theorem dt_chain {op op' : CmpOp} {r r' : R2} {g g' : Sto → D → D → Option D} (ho : OpR X (compareOp op) r) (ho' : OpR X (compareOp op') r') (hd : OpD X r g) (hd' : OpD X r' g') (ha : DE X W a ma) (hb : DE X W b mb) (hc : DE X W c mc)
    (hm : lastMarks [op, op'] [b, c] = false := by with_unfolding_all rfl) : DT X W (.Compare a [op, op'] [b, c] pos) (mChain g g' ma mb mc) := by
  obtain ⟨ta, pa, ka⟩ := ha
  obtain ⟨tb, pb, kb⟩ := hb
  obtain ⟨tc, pc, kc⟩ := hc
  exact ⟨_, pt_chain ho ho' pa pb pc hm, fun ξ μ σ H ρ S Q g0 s h => chain2 hd hd' ka kb kc g0 s (WT'.val h)⟩
/-! ### subscripts -/
def gIx : Sto → D → D → Option D := fun S x i => match i with
  | .int k => match x with
    | .str z => if z.length ≤ 16777216 then (atI z.cps.toList k).map fun c => .str ⟨#[c]⟩ else none
    | x => (seqOf S x).bind fun ds => atI ds k
  | _ => none
theorem o_ix : OpD X (rIx X.K) gIx := by
  intro ξ μ H S x y v u z Q s rx ry e k
  unfold gIx at e
  cases ry with
  | int i =>
    have main : ∀ ds, seqOf S x = some ds → atI ds i = some z → rIx X.K v (.int i) H Q := fun ds h1 h2 => by
      obtain ⟨a, xs, rfl, h3, h4⟩ := RD.seqS s rx h1
      obtain ⟨w, h5, h6⟩ := h4.atI h2
      rcases h3 with h3 | h3
      · exact .inl ⟨a, xs, i, w, rfl, rfl, h3, h5, k w μ H .refl s h6⟩
      · exact .inr (.inl ⟨a, xs, i, w, rfl, rfl, h3, h5, k w μ H .refl s h6⟩)
    cases rx with
    | str z =>
      simp only at e
      by_cases c : z.length ≤ 16777216
      · rw [if_pos c] at e
        cases q : atI z.cps.toList i with
        | none => rw [q] at e; exact nomatch e
        | some w =>
          rw [q] at e; cases e
          exact .inr (.inr ⟨z, i, w, rfl, rfl, by rw [sizeLine_eq]; exact c, q, k _ μ H .refl s (.str _)⟩)
      · rw [if_neg c] at e; exact nomatch e
    | tup f r =>
      exact main _ rfl e
    | @lst _ _ ds f r => exact main ds rfl e
    | @cell a n ea =>
      simp only at e
      cases q : seqOf S (.cell n) with
      | none => rw [q] at e; exact nomatch e
      | some ds => rw [q] at e; exact main ds q e
    | _ => exact nomatch e
  | _ => exact nomatch e
theorem d_ix {r : R2} {g : Sto → D → D → Option D} (hr : IxR X r) (hd : OpD X r g) (ha : DE X W a ma) (hb : DE X W b mb) (hs : PlainIx b := by exact fun _ _ => rfl) : DE X W (.Subscript a b pos) (mOp g ma mb) := by
  obtain ⟨ta, pa, ka⟩ := ha
  obtain ⟨tb, pb, kb⟩ := hb
  exact ⟨_, pe_ix hr pa pb hs, fun ξ μ σ H ρ S Q g0 s h => op2 (ξ := ξ) hd ka kb g0 s h⟩
/-- slices -/
abbrev MO := Rho → Sto → Res (Option Int)
structure DO (X : Cx) (W : WX) (e : Option Expr) (m : MO) : Prop where
  ex : ∃ te, PO X e te ∧ ∀ ξ μ σ H ρ S Q, RG (fx X ξ) μ H σ ρ → RS (fx X ξ) μ H S → WR (fx X ξ) (fun _ _ (o : Option Int) o' => o = o') (m ρ S) Q (fun cls dd H' => W cls dd σ H') μ H → te σ H Q
def mPart (m : ME) : MO := fun ρ S => (m ρ S).bind fun x S1 => match x with
  | .int i => .ok (some i) S1
  | _ => .bad
def mNoPart : MO := fun _ S => .ok none S
theorem do_none : DO X W none mNoPart := ⟨_, po_none, fun ξ μ σ H ρ S Q g s h => h none μ H .refl s rfl⟩
theorem do_some (h : DE X W e m) : DO X W (some e) (mPart m) := by
  obtain ⟨te, p, k⟩ := h
  refine ⟨_, po_some p, fun ξ μ σ H ρ S Q g s h => k ξ μ σ H ρ S _ g s (WR.bind h fun x S1 v μ1 H1 u1 s1 r1 h1 => ?_)⟩
  cases r1 with
  | int i => exact ⟨i, rfl, h1 _ μ1 H1 .refl s1 rfl⟩
  | _ => exact h1.elim
def cutD (ds : List D) (lo hi : Option Int) : List D := (ds.drop (HT.sIx ds.length 0 lo)).take (HT.sIx ds.length ds.length hi - HT.sIx ds.length 0 lo)
theorem cut_of {F : Fx} {μ : List Addr} {H : Hp} {vs : List V} {ds : List D} {lo hi : Option Int} (r : RDs F μ H vs ds) : RDs F μ H (cutV vs lo hi) (cutD ds lo hi) := by
  unfold cutV cutD
  rw [r.length]
  exact (r.drop _).take _
def mSlT (a : ME) (lo hi : MO) : ME := fun ρ S => (a ρ S).bind fun x S1 => (lo ρ S1).bind fun l S2 => (hi ρ S2).bind fun h S3 => match x with
  | .tup ds => .ok (.tup (cutD ds l h)) S3
  | _ => .bad
def mSlL (a : ME) (lo hi : MO) : MA := fun ρ S => (a ρ S).bind fun x S1 => (lo ρ S1).bind fun l S2 => (hi ρ S2).bind fun h S3 => match lstOf S3 x with
  | some ds => .ok (cutD ds l h) S3
  | none => .bad
variable {lo hi : Option Expr} {ml mh : MO} {p2 : Pos}
theorem cut_whole {ds : List D} {lo hi : Option Int} (h : HT.sIx ds.length 0 lo = 0 ∧ HT.sIx ds.length ds.length hi = ds.length) : cutD ds lo hi = ds := by
  unfold cutD
  rw [h.1, h.2, List.drop_zero, Nat.sub_zero, List.take_length]
theorem d_slT (ha : DE X W a ma) (hl : DO X W lo ml) (hh : DO X W hi mh) : DE X W (.Subscript a (.Slice lo hi none p2) pos) (mSlT ma ml mh) := by
  obtain ⟨ta, pa, ka⟩ := ha
  obtain ⟨tl, pl, kl⟩ := hl
  obtain ⟨th, ph, kh⟩ := hh
  refine ⟨_, pe_slice sl_tupA pa pl ph, fun ξ μ σ H ρ S Q g s h => ka ξ μ σ H ρ S _ g s (WR.bind h fun x S1 v μ1 H1 u1 s1 r1 h1 => ?_)⟩
  refine kl ξ μ1 σ H1 ρ S1 _ (g.up u1) s1 (WR.bind h1 fun l S2 l' μ2 H2 u2 s2 r2 h2 => ?_)
  subst r2
  refine kh ξ μ2 σ H2 ρ S2 _ (g.up (u1.trans u2)) s2 (WR.bind h2 fun u S3 u' μ3 H3 u3 s3 r3 h3 => ?_)
  subst r3
  have rx := r1.up (u2.trans u3)
  cases rx with
  | @tup a xs ds f r =>
    refine ⟨a, xs, rfl, f.sq, fun hw => ?_, fun _ p hp => ?_⟩
    · rw [r.length] at hw
      have e := cut_whole hw
      exact h3 _ μ3 H3 .refl s3 (by rw [e]; exact .tup f r)
    · exact h3 _ μ3 _ (.fresh hp) (s3.fresh hp) (.tup (.inl ⟨.inl upd_same, s3.out hp, s3.outX hp⟩) ((cut_of r).up (.fresh hp)))
  | _ => exact h3.elim
theorem dl_slL (ha : DE X W a ma) (hl : DO X W lo ml) (hh : DO X W hi mh) : DL X W (.Subscript a (.Slice lo hi none p2) pos) (mSlL ma ml mh) := by
  obtain ⟨ta, pa, ka⟩ := ha
  obtain ⟨tl, pl, kl⟩ := hl
  obtain ⟨th, ph, kh⟩ := hh
  refine ⟨_, pe_slice sl_list pa pl ph, fun ξ μ σ H ρ S Q g s h => ka ξ μ σ H ρ S _ g s (WL'.bind h fun x S1 v μ1 H1 u1 s1 r1 h1 => ?_)⟩
  refine kl ξ μ1 σ H1 ρ S1 _ (g.up u1) s1 (WL'.bind h1 fun l S2 l' μ2 H2 u2 s2 r2 h2 => ?_)
  subst r2
  refine kh ξ μ2 σ H2 ρ S2 _ (g.up (u1.trans u2)) s2 (WL'.bind h2 fun u S3 u' μ3 H3 u3 s3 r3 h3 => ?_)
  subst r3
  have rx := r1.up (u2.trans u3)
  cases e : lstOf S3 x with
  | none => rw [e] at h3; exact h3.elim
  | some ds =>
    rw [e] at h3
    obtain ⟨a, xs, rfl, h4, h5⟩ := RD.lstS s3 rx e
    exact ⟨a, xs, rfl, h4, fun p hp => h3 p _ μ3 _ (.fresh hp) hp (s3.holds hp) ((cut_of h5).mv (.holds hp)) upd_same⟩
end
end Dm
-- text DmIsV
/-! isinstance of an exception that was made or raised once -/
namespace Dm
open PySem L2 PySem.Spec PyProof.Rows
open PySem.W (Frag)
/-! ### isinstance(e, X) -/
section
variable {prog : Program} {w : World} {A : Around} {E : Value → Shared → Prop} {s : Shared} {K : Frag} {x D : Addr} {ox : Obj} {od : Option Obj}
open PySem.W in
theorem findObj_dataO {C : Addr} {name : Str} {a g : Value} (hc : (clsIn K C).isSome = true) (ha : findIn K (.ref C) name = some (some a)) (hg : specialIn K a "__get__" = some (some g)) (ht : takesIn K a = some true) : findObj K C od name = some (.bind g a) := by
  obtain ⟨cd, hc⟩ := Option.isSome_iff_exists.mp hc
  unfold findObj
  rw [hc, Option.bind_some, ha, Option.bind_some]
  simp [hg, ht]
open PySem.W PySem.Calls in
theorem kin_classO {Q : Option Value → Shared → Prop} (hga : findIn K (.ref D) "__getattribute__" = some (some (.builtin "BaseException.__getattribute__"))) (hgt : findIn K (.ref D) "__getattr__" = some none) (hsub : subIn K (.ref D) (.type "BaseException") = some true)
    (hdct : hasDictIn K D = true) (ha : findIn K (.ref D) "__class__" = some (some (.builtin "object.__class__")))
    (hn : specialIn K (.builtin "object.__class__") "__get__" = some (some (.builtin "getset_descriptor.__get__"))) (htk : takesIn K (.builtin "object.__class__") = some true) (hm : mroIn K D (.type "object") = some true)
    (X : K.In s.heap) (I : InstAt s.heap x ox D od) (h : Q (some (.ref D)) { s with toks := s.toks + 1 }) : wpAny (model prog w) A (getAttr? (.ref x) "__class__") Q E s := by
  have hf : findObj K D od "__class__" = some (.bind (.builtin "getset_descriptor.__get__") (.builtin "object.__class__")) := findObj_dataO (by obtain ⟨cd, hc, _⟩ := any_some hdct; rw [hc]; rfl) ha hn htk
  obtain ⟨hp, g, d, t, os⟩ := s
  have L0 := I.type (M := model prog w)
  have L1 := looks_findIn (M := model prog w) X hga
  have L2 := looks_findIn (M := model prog w) X hgt
  have L3 := looks_find (M := model prog w) X I hf
  have sub : Looks (model prog w) hp (isInstance (.ref x) (.type "BaseException")) true := L0.andThen (looks_subIn X hsub)
  have hx0 : (false && onTheHeap (Value.builtin "BaseException.__getattribute__")) = false := rfl
  have hx2 : (Value.builtin "BaseException.__getattribute__" == Value.builtin "object.__getattribute__") = false := by decide +kernel
  have hx1 : (onTheHeap (Value.ref D) && Value.builtin "BaseException.__getattribute__" == Value.builtin "object.__getattribute__") = false := by rw [hx2]; rfl
  unfold getAttr? getAttrBy? getAttrBy
  refine wpAny_bind (wpAny_mkText (wpAny_bind (wpAny_attempt (wpAny_holding (wpAny_bind (L0.at (wpAny_bind (L1.at ?_))))))))
  show wpAny _ _ (if (onTheHeap (Value.ref D) && Value.builtin "BaseException.__getattribute__" == Value.builtin "object.__getattribute__") = true then _ else _) _ _ _
  rw [hx1, if_neg Bool.false_ne_true]
  unfold getAttrByItsOwn hookBefore
  refine wpAny_bind ?_
  rw [if_pos (show onTheHeap (Value.ref D) = true from rfl)]
  refine L2.at ?_
  refine wpAny_bind (wpAny_attempt (wpAny_holding ?_))
  unfold callGetattribute
  rw [hx0, if_neg Bool.false_ne_true]
  unfold boundAndCalled
  rw [PySem.F.excAttr_ValueError.ga.bind (.ref x)]
  refine wpAny_bind (wpAny_pure ?_)
  show wpAny _ _ (call (.builtin "BaseException.__getattribute__") [.ref x, .str "__class__" t]) _ _ _
  refine wpAny_call (codeAny_call_builtin PySem.F.excAttr_ValueError.ga.plain PySem.F.entry_bexc_ga ?_)
  refine @check_slot (model prog w) _ _ ⟨hp, g, d, t + 1, os⟩ "BaseException.__getattribute__" "BaseException" "__getattribute__" (.ref x) [.str "__class__" t] [] _ (by decide +kernel) (by decide +kernel) sub (PySem.F.args_bexc_ga (.ref x) (.str "__class__" t)) ?_
  unfold Builtin.«object.__getattribute__»
  refine wpAny_bind (wpAny_of_eq (a := ((Value.ref x : Value), [Value.str "__class__" t])) (by first | rfl | (simp only [slotArgs]; rfl)) ?_)
  refine wpAny_bind (wpAny_pure (wpAny_bind (L0.at (wpAny_bind (L3.at ?_)))))
  show wpAny _ _ (holding [Value.builtin "object.__class__"] (call (.builtin "getset_descriptor.__get__") [.builtin "object.__class__", .ref x, .ref D]) >>= ret) _ _ _
  refine wpAny_bind (wpAny_holding (wpAny_call (class_get (s := ⟨hp, g, d, t + 1, os⟩) (ox := ox) (od := od) X I hm ?_)))
  refine wpAny_pure ?_
  show wpAny _ _ (handedOut (.ref D)) _ _ _
  rw [handedOut_of (v := .ref D) rfl]
  first
    | exact wpAny_pure (wpAny_pure h)
    | exact wpAny_pure h
    | exact wpAny_pure (wpAny_bind (wpAny_pure (wpAny_pure h)))
open PySem.W in
theorem kitx_excO (C : ExcC K D) : KitX K (.ref x) (.ref D) (fun h => InstAt h x ox D od) where
  ty := fun _ _ _ I => I.type
  it := fun _ _ X _ => by
    obtain ⟨cdD, hcD, _⟩ := any_some C.hd
    unfold clsIn at hcD
    split at hcD
    · rename_i c' d' cd' sl' ho
      intro A' Q' E' s' k q
      unfold isType loadHead
      exact wpAny_bind (wpAny_loadPart (k _ _ (X _ _ ho)) (wpAny_pure q))
    · cases hcD
  ne := (handS_kitx_exc (x := x) (ox := ox) C.hg C.hk C.hs C.hd C.ha C.hn C.ht C.hm).ne
  ca := fun X I k => kin_classO C.hg C.hk C.hs C.hd C.ha C.hn C.ht C.hm X I k
end
/-- isinstance(e, c), e an exception that was raised once -/
def rIsV (K : Frag) : List V → Hp → VK → Prop := fun xs H Q => ∃ (a D : Addr) (dd : Option Addr) (c : V) (cv : Value) (b : Bool), xs = [.ref a, c] ∧ H a = some (ExV (.ref D) dd a) ∧ ExcC K D ∧ (dd = none ∨ ∃ d fs, dd = some d ∧ H d = some (.xd fs)) ∧
  (∀ u, RelV c u → u = cv) ∧ PySem.W.kitOne K (.ref D) cv = some b ∧ Q (.bl b) H
theorem call_isV {X : Cx} : CallR X (.builtin "isinstance") (rIsV X.K) := by
  intro pins s σ H xs us Q I r h
  obtain ⟨a, D, dd, c, cv, b, rfl, ea, C, ed, hcv, e, q⟩ := h
  cases r with
  | cons rx rr =>
    cases rr with
    | cons rt rr =>
      cases rr
      cases rx
      have ec := hcv _ rt
      subst ec
      have xa : ObjOk X.prog X.w H s.heap a (.ext fun h => ∃ (oe : Obj) (vs : Array Value), h.get? a = some oe ∧ Zc (.ref D) dd oe ∧ oe.data = .fields vs) := I.hok a _ ea
      obtain ⟨oe, vs, hget, hz, hv⟩ := xa.1
      have J : ∃ od, PySem.W.InstAt s.heap a oe D od := by
        rcases ed with rfl | ⟨d, fs, rfl, ed⟩
        · exact ⟨none, hget, hz.1, by unfold PySem.W.notCls; rw [hv] <;> rfl, by rw [hz.2]; trivial⟩
        · have hx : ObjOk X.prog X.w H s.heap d (.xd fs) := I.hok d _ ed
          obtain ⟨mA, hns, hr⟩ := hx
          obtain ⟨od, ho, hl⟩ := lookIn_ns hns
          exact ⟨some od, hget, hz.1, by unfold PySem.W.notCls; rw [hv] <;> rfl, by rw [hz.2]; exact ho⟩
      obtain ⟨od, J⟩ := J
      exact PySem.W.kia_one (kitx_excO C) I.kIn J e (fun z => nomatch z) fun tk => ⟨.bl b, H, I.kept (t' := tk) fun _ _ z => z, rfl, q⟩
theorem call_or {X : Cx} {f : Value} {r1 r2 : List V → Hp → VK → Prop} (h1 : CallR X f r1) (h2 : CallR X f r2) : CallR X f (fun xs H Q => r1 xs H Q ∨ r2 xs H Q) :=
  fun pins s σ H xs us Q I r h => h.elim (h1 pins s σ H xs us Q I r) (h2 pins s σ H xs us Q I r)
end Dm
-- text DmStm
namespace Dm
open PySem L2
open PySem.W (Frag)
/-! ### isinstance -/
inductive Tn where | non | bl | int | str | tup | lst | dic | exn
  deriving DecidableEq
def tnName : Tn → String
  | .non => "NoneType" | .bl => "bool" | .int => "int" | .str => "str" | .tup => "tuple" | .lst => "list" | .dic => "dict" | .exn => "BaseException"
def isTn : Tn → Tn → Bool
  | .bl, .int => true
  | a, b => decide (a = b)
theorem kit_tn (a b : Tn) (h : b ≠ .non) (h2 : b ≠ .exn) (h3 : a ≠ .exn) : kitB (tnName a) (tnName b) = some (isTn a b) := by
  cases b <;> first | exact absurd rfl h | exact absurd rfl h2 | (cases a <;> first | exact absurd rfl h3 | decide +kernel)
def tyOf (S : Sto) : D → Option Tn
  | .non => some .non
  | .bl _ => some .bl
  | .int _ => some .int
  | .str _ => some .str
  | .tup _ => some .tup
  | .lst _ => some .lst
  | .cell n => match S[n]? with
    | some (.lst _) => some .lst
    | some (.dic _) => some .dic
    | _ => none
  | .glo _ => none
  | .exn _ _ => some .exn
theorem tyX_of {F : Fx} {μ : List Addr} {H : Hp} {S : Sto} {v : V} {d : D} {t : Tn} (s : RS F μ H S) (r : RD F μ H v d) (e : tyOf S d = some t) (ht : t ≠ .exn) : TyX F.K H v (.type (tnName t)) := by
  cases r with
  | non => cases e; exact .base .non
  | bl b => cases e; exact .base (.bl b)
  | int i => cases e; exact .base (.int i)
  | str x => cases e; exact .base (.str x)
  | tup f r =>
    cases e
    rcases f with ⟨h | ⟨o, h⟩, _⟩ | ⟨o, its, n, h1, h2, _⟩
    · exact .base (.tup h)
    · exact .fTuple h
    · exact .kTuple h1 h2
  | lst f r =>
    cases e
    rcases f with ⟨h | ⟨o, h⟩, _⟩ | ⟨o, its, n, h1, h2, _⟩
    · exact .base (.lst h)
    · exact .base (.frz h)
    · exact .kList h1 h2
  | @cell a n ea =>
    simp only [tyOf] at e
    cases q : S[n]? with
    | none => rw [q] at e; exact nomatch e
    | some c =>
      rw [q] at e
      cases c with
      | lst ds =>
        cases e
        obtain ⟨xs, h1, _⟩ := s.at_ n a _ ea q
        exact .base (.lst h1)
      | dic kvs =>
        cases e
        obtain ⟨xs, h1, _⟩ := s.at_ n a _ ea q
        exact .base (.dK h1)
      | _ => exact nomatch e
  | glo _ => exact nomatch e
  | exn f => cases e; exact absurd rfl ht
theorem tyOf_exn {S : Sto} {d : D} (e : tyOf S d = some .exn) : ∃ c fs, d = .exn c fs := by
  cases d with
  | exn c fs => exact ⟨c, fs, rfl⟩
  | cell n =>
    simp only [tyOf] at e
    cases q : S[n]? with
    | none => rw [q] at e; exact nomatch e
    | some c => rw [q] at e; cases c <;> cases e
  | _ => cases e
theorem tn_plain {T : Tn} (h : T ≠ .non) (h2 : T ≠ .exn) : tnName T ∈ ["tuple", "list", "int", "str", "bool", "dict"] ∧ isTn .exn T = false := by
  cases T <;> first | exact absurd rfl h | exact absurd rfl h2 | exact ⟨by decide, rfl⟩
def mIsi (T : Tn) (m : ME) : ME := mUn (fun S d => (tyOf S d).map fun t => .bl (isTn t T)) m
def mIsiT (Ts : List Tn) (m : ME) : ME := mUn (fun S d => (tyOf S d).map fun t => .bl (Ts.any (isTn t ·))) m
section
variable {X : Cx} {W : WX} {e a b c : Expr} {es : List Expr} {ma mb mc m : ME} {mr : MA} {pos p p1 p2 p3 : Pos}
theorem d_isi (T : Tn) {x : Str} (h : DE X W e m) (hm : X.mg "isinstance" = none) (hx : X.mg x = none) (hv : bootBuiltins x = some (.type (tnName T)) := by decide +kernel) (hT : T ≠ .non := by decide) (hT2 : T ≠ .exn := by decide) (hg : Gl X "isinstance" := by rfl) (hgx : Gl X x := by rfl)
    (hn : x ≠ "__name__" := by decide) (hd : (x == ("__debug__" : Str)) = false := by decide)
    (he : starEach [e, .Name x p1] X.env = (false, eval e X.env) :: starEach [.Name x p1] X.env := by rfl) (hpl : (backTo pos (starEach [.Name x p1] X.env)).any (·.1) = false := by rfl)
    (hs2 : starEach [.Name x p1] X.env = (false, eval (.Name x p1) X.env) :: starEach [] X.env := by rfl) :
    DE X W (.Call (.Name "isinstance" p) [e, .Name x p1] [] pos) (mIsi T m) := by
  obtain ⟨te, pe, k⟩ := h
  refine ⟨_, pe_callB (call_or call_isi call_isV) hg hm (by decide +kernel) (pa_cons pe (pa_cons (pe_bltn (v := .ty (tnName T)) hgx hx hv rfl hn hd) pa_nil hs2) he) (he := he) (hpl := hpl), fun ξ μ σ H ρ S Q g s h => k ξ μ σ H ρ S _ g s (WR.bind h fun x S1 v μ1 H1 u1 s1 r1 h1 => ?_)⟩
  cases q : tyOf S1 x with
  | none => simp only [q] at h1; exact h1.elim
  | some t =>
    simp only [q] at h1
    by_cases hx : t = .exn
    · subst hx
      obtain ⟨c, ns, rfl⟩ := tyOf_exn q
      obtain ⟨p1, p2⟩ := tn_plain hT hT2
      cases r1 with
      | @exn a _ _ z =>
        obtain ⟨cls, dd, ⟨z1, D, rfl, z5, z6⟩, ⟨z2, z3, z4⟩, z7⟩ := z
        refine .inr ⟨a, D, dd, .ty (tnName T), .type (tnName T), _, rfl, z2, z5, ?_, fun u hu => hu, z6 _ p1, ?_⟩
        · rcases z7 with ⟨_, rfl⟩ | ⟨d, fs, q1, q2, _⟩
          · exact .inl rfl
          · exact .inr ⟨d, _, q1, q2⟩
        · have h1 := h1 _ μ1 H1 .refl s1 (.bl _)
          rw [p2] at h1
          exact h1
    · exact .inl ⟨v, .ty (tnName T), _, _, _, rfl, .ty _, tyX_of s1 r1 q hx, kit_ty (kit_tn t T hT hT2 hx), h1 _ μ1 H1 .refl s1 (.bl _)⟩
/-! ### built-in functions and types called -/
def CallD (X : Cx) (r : List V → Hp → VK → Prop) (g : Sto → List D → Option D) : Prop :=
  ∀ ξ μ H S ds vs z Q, RS (fx X ξ) μ H S → RDs (fx X ξ) μ H vs ds → g S ds = some z → (∀ w μ' H', Up μ H μ' H' → RS (fx X ξ) μ' H' S → RD (fx X ξ) μ' H' w z → Q w H') → r vs H Q
/-- .. that give a fresh list -/
def CallDL (X : Cx) (r : List V → Hp → VK → Prop) (g : Sto → List D → Option (List D)) : Prop :=
  ∀ ξ μ H S ds vs zs Q, RS (fx X ξ) μ H S → RDs (fx X ξ) μ H vs ds → g S ds = some zs → (∀ p xs μ' H', Up μ H μ' H' → H p = none → RS ((fx X ξ).hold p) μ' H' S → RDs ((fx X ξ).hold p) μ' H' xs zs → H' p = some (.lst xs) → Q (.ref p) H') → r vs H Q
def mCallB (g : Sto → List D → Option D) (a : MA) : ME := fun ρ S => (a ρ S).bind fun xs S1 => match g S1 xs with
  | some z => .ok z S1
  | none => .bad
def mCallBL (g : Sto → List D → Option (List D)) (a : MA) : MA := fun ρ S => (a ρ S).bind fun xs S1 => match g S1 xs with
  | some z => .ok z S1
  | none => .bad
theorem d_callB {id : String} {x : Str} {r : List V → Hp → VK → Prop} {g : Sto → List D → Option D} (hc : CallR X (.builtin id) r) (hd : CallD X r g) (hm : X.mg x = none) (ha : DA X W (e :: es) mr) (hv : bootBuiltins x = some (.builtin id) := by decide +kernel) (hg : Gl X x := by rfl)
    (hn : x ≠ "__name__" := by decide) (hdb : (x == ("__debug__" : Str)) = false := by decide)
    (he : starEach (e :: es) X.env = (false, eval e X.env) :: starEach es X.env := by rfl) (hpl : (backTo pos (starEach es X.env)).any (·.1) = false := by rfl) : DE X W (.Call (.Name x p) (e :: es) [] pos) (mCallB g mr) := by
  obtain ⟨ta, pa, ka⟩ := ha
  refine ⟨_, pe_callB hc hg hm hv pa hn hdb he hpl, fun ξ μ σ H ρ S Q g0 s h => ka ξ μ σ H ρ S _ g0 s (WR.bind h fun xs S1 vs μ1 H1 u1 s1 r1 h1 => ?_)⟩
  cases q : g S1 xs with
  | none => rw [q] at h1; exact h1.elim
  | some z =>
    rw [q] at h1
    exact hd ξ μ1 H1 S1 xs vs z Q s1 r1 q h1
theorem d_callTy {T : String} {x : Str} {r : List V → Hp → VK → Prop} {g : Sto → List D → Option D} (hc : CallR X (.type T) r) (hd : CallD X r g) (hm : X.mg x = none) (ha : DA X W (e :: es) mr) (hv : bootBuiltins x = some (.type T) := by decide +kernel) (hg : Gl X x := by rfl)
    (hn : x ≠ "__name__" := by decide) (hdb : (x == ("__debug__" : Str)) = false := by decide)
    (he : starEach (e :: es) X.env = (false, eval e X.env) :: starEach es X.env := by rfl) (hpl : (backTo pos (starEach es X.env)).any (·.1) = false := by rfl) : DE X W (.Call (.Name x p) (e :: es) [] pos) (mCallB g mr) := by
  obtain ⟨ta, pa, ka⟩ := ha
  refine ⟨_, pe_callTy hc hg hm hv pa hn hdb he hpl, fun ξ μ σ H ρ S Q g0 s h => ka ξ μ σ H ρ S _ g0 s (WR.bind h fun xs S1 vs μ1 H1 u1 s1 r1 h1 => ?_)⟩
  cases q : g S1 xs with
  | none => rw [q] at h1; exact h1.elim
  | some z =>
    rw [q] at h1
    exact hd ξ μ1 H1 S1 xs vs z Q s1 r1 q h1
theorem dl_callTy {T : String} {x : Str} {r : List V → Hp → VK → Prop} {g : Sto → List D → Option (List D)} (hc : CallR X (.type T) r) (hd : CallDL X r g) (hm : X.mg x = none) (ha : DA X W (e :: es) mr) (hv : bootBuiltins x = some (.type T) := by decide +kernel) (hg : Gl X x := by rfl)
    (hn : x ≠ "__name__" := by decide) (hdb : (x == ("__debug__" : Str)) = false := by decide)
    (he : starEach (e :: es) X.env = (false, eval e X.env) :: starEach es X.env := by rfl) (hpl : (backTo pos (starEach es X.env)).any (·.1) = false := by rfl) : DL X W (.Call (.Name x p) (e :: es) [] pos) (mCallBL g mr) := by
  obtain ⟨ta, pa, ka⟩ := ha
  refine ⟨_, pe_callTy hc hg hm hv pa hn hdb he hpl, fun ξ μ σ H ρ S Q g0 s h => ka ξ μ σ H ρ S _ g0 s (WL'.bind h fun xs S1 vs μ1 H1 u1 s1 r1 h1 => ?_)⟩
  cases q : g S1 xs with
  | none => rw [q] at h1; exact h1.elim
  | some z =>
    rw [q] at h1
    exact hd ξ μ1 H1 S1 xs vs z Q s1 r1 q h1
def gLen : Sto → List D → Option D := fun S ds => match ds with
  | [.str z] => if z.length ≤ 16777216 then some (.int z.length) else none
  | [d] => (seqOf S d).map fun ds => .int ds.length
  | _ => none
theorem c_len : CallD X (fun xs H Q => ∃ x n, xs = [x] ∧ LenV X.K x H n ∧ Q (.int n) H) gLen := by
  intro ξ μ H S ds vs z Q s r e k
  unfold gLen at e
  cases r with
  | nil => exact nomatch e
  | @cons v vs d ds r rr =>
    cases rr with
    | cons _ _ => cases d <;> exact nomatch e
    | nil =>
      have main : ∀ es, seqOf S d = some es → D.int es.length = z → ∃ x n, [v] = [x] ∧ LenV X.K x H n ∧ Q (.int n) H := fun es h1 h2 => by
        obtain ⟨a, xs, rfl, h3, h4⟩ := RD.seqS s r h1
        refine ⟨.ref a, xs.length, rfl, h3.imp (fun z => ⟨xs, z, rfl⟩) fun z => ⟨xs, z, rfl⟩, ?_⟩
        rw [h4.length]
        subst h2
        exact k _ μ H .refl s (.int _)
      cases r with
      | str x =>
        simp only at e
        by_cases c : x.length ≤ 16777216
        · rw [if_pos c] at e; cases e
          exact ⟨_, _, rfl, ⟨by rw [sizeLine_eq]; exact c, rfl⟩, k _ μ H .refl s (.int _)⟩
        · rw [if_neg c] at e; exact nomatch e
      | tup f r => exact main _ rfl (Option.some.inj e)
      | lst f r => exact main _ rfl (Option.some.inj e)
      | @cell a n ea =>
        simp only at e
        cases q : seqOf S (.cell n) with
        | none => rw [q] at e; exact nomatch e
        | some es => rw [q] at e; exact main es q (Option.some.inj e)
      | _ => exact nomatch e
def gInt1 : Sto → List D → Option D := fun _ ds => match ds with
  | [.int i] => some (.int i)
  | [.bl b] => some (.int (if b then 1 else 0))
  | _ => none
theorem c_int1 : CallD X (fun xs H Q => (∃ i, xs = [.int i] ∧ Q (.int i) H) ∨ ∃ k, xs = [.bl k] ∧ Q (.int (if k then 1 else 0)) H) gInt1 := by
  intro ξ μ H S ds vs z Q s r e k
  unfold gInt1 at e
  cases r with
  | nil => exact nomatch e
  | @cons v vs d ds r rr =>
    cases rr with
    | cons _ _ => cases d <;> exact nomatch e
    | nil =>
      cases r with
      | int i => cases e; exact .inl ⟨i, rfl, k _ μ H .refl s (.int _)⟩
      | bl b => cases e; exact .inr ⟨b, rfl, k _ μ H .refl s (.int _)⟩
      | _ => exact nomatch e
def gII (f : Int → Int → Int) : Sto → List D → Option D := fun _ ds => match ds with
  | [.int i, .int j] => some (.int (f i j))
  | _ => none
theorem c_II {f : Int → Int → Int} : CallD X (fun xs H Q => ∃ i j, xs = [.int i, .int j] ∧ Q (.int (f i j)) H) (gII f) := by
  intro ξ μ H S ds vs z Q s r e k
  unfold gII at e
  cases r with
  | nil => exact nomatch e
  | @cons v vs d ds r rr =>
    cases rr with
    | nil => cases d <;> exact nomatch e
    | @cons v2 vs2 d2 ds2 r2 rr2 =>
      cases rr2 with
      | cons _ _ => cases d <;> cases d2 <;> exact nomatch e
      | nil =>
        cases r with
        | int i =>
          cases r2 with
          | int j => cases e; exact ⟨i, j, rfl, k _ μ H .refl s (.int _)⟩
          | _ => exact nomatch e
        | _ => exact nomatch e
abbrev gMax2 := gII fun i j => if j > i then j else i
abbrev gMin2 := gII fun i j => if j < i then j else i
def gTuple : Sto → List D → Option D := fun S ds => match ds with
  | [d] => (seqOf S d).map .tup
  | _ => none
theorem c_tuple : CallD X (fun xs H Q => ∃ p ys, xs = [.ref p] ∧ ((SqL X.K H p ys ∧ ∀ l, H l = none → Q (.ref l) (upd H l (.tup ys))) ∨ (SqT X.K H p ys ∧ Q (.ref p) H))) gTuple := by
  intro ξ μ H S ds vs z Q s r e k
  unfold gTuple at e
  cases r with
  | nil => exact nomatch e
  | @cons v vs d ds r rr =>
    cases rr with
    | cons _ _ => exact nomatch e
    | nil =>
      simp only at e
      have lst : ∀ es, lstOf S d = some es → D.tup es = z → ∃ p ys, [v] = [.ref p] ∧ ((SqL X.K H p ys ∧ ∀ l, H l = none → Q (.ref l) (upd H l (.tup ys))) ∨ (SqT X.K H p ys ∧ Q (.ref p) H)) := fun es h1 h2 => by
        obtain ⟨a, xs, rfl, h3, h4⟩ := RD.lstS s r h1
        subst h2
        exact ⟨a, xs, rfl, .inl ⟨h3, fun l hl => k _ μ _ (.fresh hl) (s.fresh hl) (.tup (.inl ⟨.inl upd_same, s.out hl, s.outX hl⟩) (h4.up (.fresh hl)))⟩⟩
      cases r with
      | tup f r =>
        cases Option.some.inj e
        exact ⟨_, _, rfl, .inr ⟨f.sq, k _ μ H .refl s (.tup f r)⟩⟩
      | lst f r => exact lst _ rfl (Option.some.inj e)
      | @cell a n ea =>
        cases q : lstOf S (.cell n) with
        | none =>
          have e : (lstOf S (.cell n)).map D.tup = some z := e
          rw [q] at e; exact nomatch e
        | some es =>
          have e : (lstOf S (.cell n)).map D.tup = some z := e
          rw [q] at e; exact lst es q (Option.some.inj e)
      | _ => exact nomatch e
def gList : Sto → List D → Option (List D) := fun S ds => match ds with
  | [d] => seqOf S d
  | _ => none
theorem c_list : CallDL X (fun xs H Q => ∃ p ys, xs = [.ref p] ∧ (SqL X.K H p ys ∨ SqT X.K H p ys) ∧ ∀ l, H l = none → Q (.ref l) (upd H l (.lst ys))) gList := by
  intro ξ μ H S ds vs z Q s r e k
  unfold gList at e
  cases r with
  | nil => exact nomatch e
  | @cons v vs d ds r rr =>
    cases rr with
    | cons _ _ => exact nomatch e
    | nil =>
      obtain ⟨a, xs, rfl, h1, h2⟩ := RD.seqS s r e
      exact ⟨a, xs, rfl, h1, fun l hl => k l xs μ _ (.fresh hl) hl (s.holds hl) (h2.mv (.holds hl)) upd_same⟩
def blsOf : List D → Option (List Bool)
  | [] => some []
  | .bl b :: ds => (blsOf ds).map (b :: ·)
  | _ :: _ => none
theorem bls_of {F : Fx} {μ : List Addr} {H : Hp} : ∀ {vs : List V} {ds : List D} {bs : List Bool}, RDs F μ H vs ds → blsOf ds = some bs → vs = bs.map V.bl
  | _, [], bs, r, e => by cases r; cases e; rfl
  | _, d :: ds, bs, r, e => by
    cases r with
    | cons a b =>
      cases a with
      | bl x =>
        have e : (blsOf ds).map (x :: ·) = some bs := e
        cases q : blsOf ds with
        | none => rw [q] at e; exact nomatch e
        | some cs =>
          rw [q] at e; cases e
          rw [bls_of b q] <;> rfl
      | _ => exact nomatch e
def gAll : Sto → List D → Option D := fun S ds => match ds with
  | [d] => (lstOf S d).bind fun es => (blsOf es).map fun bs => .bl (bs.all id)
  | _ => none
theorem c_all : CallD X (rAll X.K) gAll := by
  intro ξ μ H S ds vs z Q s r e k
  unfold gAll at e
  cases r with
  | nil => exact nomatch e
  | @cons v vs d ds r rr =>
    cases rr with
    | cons _ _ => exact nomatch e
    | nil =>
      simp only at e
      cases q : lstOf S d with
      | none => rw [q] at e; exact nomatch e
      | some es =>
        rw [q] at e
        have e : (blsOf es).map (fun bs => D.bl (bs.all id)) = some z := e
        cases q' : blsOf es with
        | none => rw [q'] at e; exact nomatch e
        | some bs =>
          rw [q'] at e; cases e
          obtain ⟨a, xs, rfl, h1, h2⟩ := RD.lstS s r q
          have e := bls_of h2 q'
          subst e
          exact ⟨a, bs, rfl, h1, k _ μ H .refl s (.bl _)⟩
/-! ### lists put together -/
def mCatL (a b : MA) : MA := fun ρ S => (a ρ S).bind fun xs S1 => (b ρ S1).bind fun ys S2 => if xs.length + ys.length ≤ 16777216 then .ok (xs ++ ys) S2 else .bad
theorem WL'.bindL {F : Fx} {Q : VK} {Q1 : VK} {Wx : Value → Option Addr → Hp → Prop} {μ : List Addr} {H : Hp} {r : Res (List D)} {f : List D → Sto → Res (List D)} (h : WL' F (r.bind f) Q Wx μ H)
    (k : ∀ ds S1 p xs μ1 H1, Up μ H μ1 H1 → H p = none → RS (F.hold p) μ1 H1 S1 → RDs (F.hold p) μ1 H1 xs ds → H1 p = some (.lst xs) → WL' F (f ds S1) Q Wx μ1 H1 → Q1 (.ref p) H1) : WL' F r Q1 Wx μ H := by
  cases r with
  | ok x S1 => exact fun p xs μ1 H1 u1 hp s1 r1 e1 => k x S1 p xs μ1 H1 u1 hp s1 r1 e1 (WL'.shift u1 h)
  | exc c fs S => exact h
  | bad => exact h
theorem XR.hold {F : Fx} {μ : List Addr} {H : Hp} {cls : Value} {dd : Option Addr} {c : Str} {fs : List (Str × D)} {p : Addr} (h : XR (F.hold p) μ H cls dd c fs) : XR F μ H cls dd c fs := by
  obtain ⟨h1, h2⟩ := h
  refine ⟨h1, h2.imp id ?_⟩
  rintro ⟨d, vfs, e, h3, h4, h6, h5⟩
  exact ⟨d, vfs, e, h3, h4, fun q => h6 (List.mem_cons_of_mem _ q), Paired.mapP h5 fun _ _ z => ⟨z.1, z.2.mv .free⟩⟩
theorem dl_cat {na nb : MA} (ha : DL X W a na) (hb : DL X W b nb) : DL X W (.BinOp a .Add b pos) (mCatL na nb) := by
  obtain ⟨ta, pa, ka⟩ := ha
  obtain ⟨tb, pb, kb⟩ := hb
  refine ⟨_, pe_op op_cat pa pb, fun ξ μ σ H ρ S Q g s h => ka ξ μ σ H ρ S _ g s (WL'.bindL h fun ds S1 p xs μ1 H1 u1 hp s1 r1 e1 h1 => ?_)⟩
  refine kb (p :: ξ) μ1 σ H1 ρ S1 _ ?_ s1 ?_
  · exact ⟨g.len, fun i d e => by
      obtain ⟨v, h, r⟩ := (g.up u1).at_ i d e
      obtain ⟨v', h', r'⟩ := g.at_ i d e
      rw [h] at h'; cases h'
      have m : Mv (fx X ξ) μ H ((fx X ξ).hold p) μ1 H1 := ⟨fun {a xs} q => by
        rcases q.up u1 with ⟨z, n, nx⟩ | z
        · rcases q with ⟨z0, _⟩ | z0
          · refine .inl ⟨z, n, fun m => (List.mem_cons.mp m).elim (fun e => ?_) nx⟩
            subst e
            rcases z0 with z0 | ⟨o, z0⟩ <;> (rw [hp] at z0; cases z0)
          · exact .inr z0
        · exact .inr z, fun {a xs} q => by
        rcases q.up u1 with ⟨z, n, nx⟩ | z
        · rcases q with ⟨z0, _⟩ | z0
          · refine .inl ⟨z, n, fun m => (List.mem_cons.mp m).elim (fun e => ?_) nx⟩
            subst e
            rcases z0 with z0 | ⟨o, z0⟩ <;> (rw [hp] at z0; cases z0)
          · exact .inr z0
        · exact .inr z, fun q => u1.get q, rfl, fun q => q.upHold u1 hp⟩
      exact ⟨v, h, r'.mv m⟩⟩
  cases e : nb ρ S1 with
  | bad => rw [e] at h1; exact h1.elim
  | exc c fs S2 =>
    rw [e] at h1
    exact fun cls dd μ' H' u' s' x' => h1 cls dd μ' H' u' (RS.free (F := fx X ξ) (p := p) s') (XR.hold (F := fx X ξ) (p := p) x')
  | ok es S2 =>
    rw [e] at h1
    intro q ys μ2 H2 u2 hq s2 r2 e2
    have hpq : p ∉ μ1 := (s1.xi p List.mem_cons_self).1
    have ep := u2.keep _ _ e1 hpq
    by_cases c : ds.length + es.length ≤ 16777216
    · have h1 : WL' (fx X ξ) (if ds.length + es.length ≤ 16777216 then Res.ok (ds ++ es) S2 else .bad) Q (fun cls dd H' => W cls dd σ H') μ1 H1 := h1
      rw [if_pos c] at h1
      refine ⟨p, q, xs, ys, rfl, rfl, ep, e2, by rw [r1.length, r2.length, sizeLine_eq]; exact c, fun r hr => ?_⟩
      have rr : RDs (fx X ξ) μ2 H2 (xs ++ ys) (ds ++ es) := RDs.append ((r1.mv .free).up u2) ((RDs.free (F := fx X ξ) (p := p) es (RDs.free (F := fx X (p :: ξ)) (p := q) es r2)))
      have ss : RS (fx X ξ) μ2 H2 S2 := RS.free (F := fx X ξ) (p := p) (RS.free (F := fx X (p :: ξ)) (p := q) s2)
      have nr : r ∉ μ1 := fun z => ss.out hr (u2.mem z)
      exact h1 r _ μ2 _ (u2.trans (.fresh hr)) (u2.back hr nr) (ss.holds hr) (rr.mv (.holds hr)) upd_same
    · have h1 : WL' (fx X ξ) (if ds.length + es.length ≤ 16777216 then Res.ok (ds ++ es) S2 else .bad) Q (fun cls dd H' => W cls dd σ H') μ1 H1 := h1
      rw [if_neg c] at h1
      exact h1.elim
end
/-! ### statements -/
def mNop : MS := fun ρ S => .nx ρ S
def mSeq (a b : MS) : MS := fun ρ S => match a ρ S with
  | .nx ρ1 S1 => b ρ1 S1
  | o => o
def ofRes {α : Type} (r : Res α) (ρ : Rho) (k : α → Sto → Out) : Out := match r with
  | .ok a S => k a S
  | .exc c fs S => .exc c fs ρ S
  | .bad => .bad
def mAsg (i : Nat) (m : ME) : MS := fun ρ S => ofRes (m ρ S) ρ fun d S1 => .nx (ρ.set i (some d)) S1
def mRet (m : ME) : MS := fun ρ S => ofRes (m ρ S) ρ fun d S1 => .rt d S1
def mRetN : MS := fun _ S => .rt .non S
def mDrop (m : ME) : MS := fun ρ S => ofRes (m ρ S) ρ fun _ S1 => .nx ρ S1
def mIfS (c : ME) (a b : MS) : MS := fun ρ S => ofRes (c ρ S) ρ fun d S1 => match d with
  | .bl true => a ρ S1
  | .bl false => b ρ S1
  | _ => .bad
def mBrk : MS := fun ρ S => .bk ρ S
def mCont : MS := fun ρ S => .ct ρ S
section
variable {F : Fx} {α β : Type} {rel : List Addr → Hp → β → α → Prop} {μ : List Addr} {H : Hp} {E : Ends} {W : WX} {σ : St} {ρ : Rho}
/-- first r, then the statement's rest -/
theorem WS'.bind {r : Res α} {f : α → Sto → Out} {Q1 : β → Hp → Prop} (g : RG F μ H σ ρ) (h : WS' F (ofRes r ρ f) E W μ H)
    (k : ∀ x S1 v μ1 H1, Up μ H μ1 H1 → RS F μ1 H1 S1 → rel μ1 H1 v x → WS' F (f x S1) E W μ1 H1 → Q1 v H1) : WR F rel r Q1 (fun cls dd H' => W cls dd σ H') μ H := by
  cases r with
  | ok x S1 => exact fun v μ1 H1 u1 s1 r1 => k x S1 v μ1 H1 u1 s1 r1 (WS'.shift u1 h)
  | exc c fs S => exact fun cls dd μ' H' u' s' x' => h cls dd σ μ' H' u' s' (g.up u') x'
  | bad => exact h
theorem WS'.bindT {r : Res D} {f : D → Sto → Out} {Q1 : Bool → Hp → Prop} (g : RG F μ H σ ρ) (h : WS' F (ofRes r ρ f) E W μ H) (hb : ∀ d S, (∀ b, d ≠ .bl b) → f d S = .bad)
    (k : ∀ b S1 μ1 H1, Up μ H μ1 H1 → RS F μ1 H1 S1 → WS' F (f (.bl b) S1) E W μ1 H1 → Q1 b H1) : WT' F r Q1 (fun cls dd H' => W cls dd σ H') μ H := by
  cases r with
  | ok d S1 =>
    have h : WS' F (f d S1) E W μ H := h
    cases d with
    | bl b => exact fun μ1 H1 u1 s1 => k b S1 μ1 H1 u1 s1 (WS'.shift u1 h)
    | _ =>
      rw [hb _ _ (by intro b e; cases e)] at h
      exact h
  | exc c fs S => exact fun cls dd μ' H' u' s' x' => h cls dd σ μ' H' u' s' (g.up u') x'
  | bad => exact h
end
section
variable {X : Cx} {W : WX} {e a b c : Expr} {es : List Expr} {st : Stmt} {sts ts : List Stmt} {ma mb mc m : ME} {mr : MA} {m1 m2 : MS} {pos p p1 p2 p3 : Pos}
theorem dss_nil : DSs X W [] mNop := ⟨_, pss_nil, fun ξ μ σ H ρ S D g s h => h σ μ H .refl s g⟩
theorem WS'.seq {F : Fx} {μ : List Addr} {H : Hp} {D : Ends} {W : WX} {o : Out} {k : Rho → Sto → Out} {u : TS} (h : WS' F (match o with | .nx ρ1 S1 => k ρ1 S1 | o => o) D W μ H)
    (hu : ∀ σ ρ1 S1 μ1 H1, Up μ H μ1 H1 → RS F μ1 H1 S1 → RG F μ1 H1 σ ρ1 → WS' F (k ρ1 S1) D W μ1 H1 → u D σ H1) : WS' F o { D with nx := u D } W μ H := by
  cases o with
  | nx ρ1 S1 => exact fun σ μ1 H1 u1 s1 g1 => hu σ ρ1 S1 μ1 H1 u1 s1 g1 (WS'.shift u1 h)
  | _ => exact h
theorem dss_cons (h1 : DS X W st m1) (h2 : DSs X W sts m2) : DSs X W (st :: sts) (mSeq m1 m2) := by
  obtain ⟨ta, pa, ka⟩ := h1
  obtain ⟨tb, pb, kb⟩ := h2
  exact ⟨_, pss_cons pa pb, fun ξ μ σ H ρ S D g s h => ka ξ μ σ H ρ S _ g s (WS'.seq h fun σ' ρ1 S1 μ1 H1 u1 s1 g1 h1 => kb ξ μ1 σ' H1 ρ1 S1 D g1 s1 h1)⟩
theorem dss_one (h1 : DS X W st m1) : DSs X W [st] m1 := let ⟨_, p, k⟩ := h1; ⟨_, pss_one p, k⟩
theorem ds_set (i : Nat) {x : Str} {pos' : Pos} (hN : X.N.Nodup) (he : DE X W e m) (hi : X.N[i]? = some x := by rfl) (hx : Loc X.env.scope x := by first | exact Or.inl rfl | exact Or.inr rfl) (hs : swapsWith e (some (.Name x pos')) pos.line X.env = pure false := by rfl)
    (hf : X.fn x = true ∨ X.env.scope.names.lookup x = some .local := by first | exact .inl rfl | exact .inr rfl) : DS X W (.Assign [.Name x pos'] e pos) (mAsg i m) := by
  obtain ⟨te, p, k⟩ := he
  refine ⟨_, ps_set hN hi hx p hs hf, fun ξ μ σ H ρ S D g s h => k ξ μ σ H ρ S _ g s (WS'.bind g h fun x S1 v μ1 H1 u1 s1 r1 h1 => ?_)⟩
  exact h1 _ μ1 H1 .refl s1 ((g.up u1).set i r1)
theorem ds_ret (he : DE X W e m) : DS X W (.Return (some e) pos) (mRet m) := by
  obtain ⟨te, p, k⟩ := he
  exact ⟨_, ps_ret p, fun ξ μ σ H ρ S D g s h => k ξ μ σ H ρ S _ g s (WS'.bind g h fun x S1 v μ1 H1 u1 s1 r1 h1 => h1 _ μ1 H1 .refl s1 r1)⟩
theorem ds_expr (he : DE X W e m) (hs : swapsWith e none pos.line X.env = pure false := by rfl) : DS X W (.Expr e pos) (mDrop m) := by
  obtain ⟨te, p, k⟩ := he
  exact ⟨_, ps_expr p hs, fun ξ μ σ H ρ S D g s h => k ξ μ σ H ρ S _ g s (WS'.bind g h fun x S1 v μ1 H1 u1 s1 r1 h1 => h1 _ μ1 H1 .refl s1 (g.up u1))⟩
theorem ds_if (hc : DT X W c mc) (ha : DSs X W sts m1) (hb : DSs X W ts m2) : DS X W (.If c sts ts pos) (mIfS mc m1 m2) := by
  obtain ⟨tc, pc, kc⟩ := hc
  obtain ⟨ta, pa, ka⟩ := ha
  obtain ⟨tb, pb, kb⟩ := hb
  refine ⟨_, ps_if pc pa pb, fun ξ μ σ H ρ S D g s h => kc ξ μ σ H ρ S _ g s (WS'.bindT g h (fun d S h => by cases d <;> first | rfl | exact absurd rfl (h _)) fun c S1 μ1 H1 u1 s1 h1 => ?_)⟩
  cases c with
  | true => exact ka ξ μ1 σ H1 ρ S1 D (g.up u1) s1 h1
  | false => exact kb ξ μ1 σ H1 ρ S1 D (g.up u1) s1 h1
/-! ### targets -/
structure DG (X : Cx) (tg : Expr) (f : D → Rho → Option Rho) (is : List Nat) : Prop where
  ex : ∃ t, PG X tg t ∧ ∀ ξ μ σ H ρ v d ρ' (Q : St → Hp → Prop), RG (fx X ξ) μ H σ ρ → RD (fx X ξ) μ H v d → f d ρ = some ρ' →
    (∀ σ', RG (fx X ξ) μ H σ' ρ' → (∀ js : List Nat, (∀ i ∈ is, i ∈ js) → wipe σ' js = wipe σ js) → Q σ' H) → t v σ H Q
structure DGs (X : Cx) (tg : List Expr) (f : List D → Rho → Option Rho) (is : List Nat) : Prop where
  ex : ∃ t, PGs X tg t ∧ ∀ ξ μ σ H ρ vs ds ρ' (Q : St → Hp → Prop), RG (fx X ξ) μ H σ ρ → RDs (fx X ξ) μ H vs ds → f ds ρ = some ρ' →
    (∀ σ', RG (fx X ξ) μ H σ' ρ' → (∀ js : List Nat, (∀ i ∈ is, i ∈ js) → wipe σ' js = wipe σ js) → Q σ' H) → t vs σ H Q
theorem wipe_get (σ : St) (i : Nat) : ∀ js : List Nat, (wipe σ js)[i]? = if i ∈ js ∧ i < σ.length then some none else σ[i]?
  | [] => by simp [wipe]
  | j :: js => by
    unfold wipe
    have ih := wipe_get σ i js
    by_cases hj : j = i
    · subst hj
      by_cases hl : j < σ.length
      · rw [List.getElem?_set_self (by rw [wipe_length]; exact hl), if_pos ⟨List.mem_cons_self, hl⟩]
      · rw [List.getElem?_eq_none (by rw [List.length_set, wipe_length]; omega), if_neg (fun z => hl z.2), List.getElem?_eq_none (by omega)]
    · rw [List.getElem?_set_ne hj, ih]
      have e : (i ∈ j :: js ∧ i < σ.length) ↔ (i ∈ js ∧ i < σ.length) := by
        constructor
        · rintro ⟨z, l⟩
          exact ⟨(List.mem_cons.mp z).resolve_left fun q => hj q.symm, l⟩
        · rintro ⟨z, l⟩
          exact ⟨List.mem_cons_of_mem _ z, l⟩
      by_cases q : i ∈ js ∧ i < σ.length
      · rw [if_pos q, if_pos (e.mpr q)]
      · rw [if_neg q, if_neg fun z => q (e.mp z)]
theorem wipe_set {σ : St} {i : Nat} {o : Option V} {js : List Nat} (h : i ∈ js) : wipe (σ.set i o) js = wipe σ js := by
  refine List.ext_getElem? fun k => ?_
  rw [wipe_get, wipe_get, List.length_set]
  by_cases q : k ∈ js ∧ k < σ.length
  · rw [if_pos q, if_pos q]
  · rw [if_neg q, if_neg q]
    by_cases e : i = k
    · subst e
      have l : ¬ i < σ.length := fun l => q ⟨h, l⟩
      rw [List.getElem?_eq_none (by rw [List.length_set]; omega), List.getElem?_eq_none (by omega)]
    · rw [List.getElem?_set_ne e]
def tgN (i : Nat) : D → Rho → Option Rho := fun d ρ => some (ρ.set i (some d))
theorem dg_name (i : Nat) {x : Str} (hN : X.N.Nodup) (hi : X.N[i]? = some x := by rfl) (hx : Loc X.env.scope x := by first | exact Or.inl rfl | exact Or.inr rfl) (hf : X.fn x = true ∨ X.env.scope.names.lookup x = some .local := by first | exact .inl rfl | exact .inr rfl) : DG X (.Name x pos) (tgN i) [i] :=
  ⟨_, pg_name hN hi hx hf, fun ξ μ σ H ρ v d ρ' Q g r e k => by
    cases e
    exact k _ (g.set i r) fun js h => wipe_set (h i List.mem_cons_self)⟩
def tgNil : List D → Rho → Option Rho := fun ds ρ => match ds with
  | [] => some ρ
  | _ => none
def tgCons (f : D → Rho → Option Rho) (g : List D → Rho → Option Rho) : List D → Rho → Option Rho := fun ds ρ => match ds with
  | d :: ds => (f d ρ).bind fun ρ1 => g ds ρ1
  | [] => none
theorem dgs_nil : DGs X [] tgNil [] := ⟨_, pgs_nil, fun ξ μ σ H ρ vs ds ρ' Q g r e k => by
  cases r with
  | nil => cases e; exact ⟨rfl, k σ g fun _ _ => rfl⟩
  | cons _ _ => exact nomatch e⟩
theorem dgs_cons {f : D → Rho → Option Rho} {fs : List D → Rho → Option Rho} {is js : List Nat} (h1 : DG X e f is) (h2 : DGs X es fs js) (hs : (assignEach (e :: es) X.env).map (·.2) = assign e X.env :: (assignEach es X.env).map (·.2) := by rfl) : DGs X (e :: es) (tgCons f fs) (is ++ js) := by
  obtain ⟨t1, p1, k1⟩ := h1
  obtain ⟨t2, p2, k2⟩ := h2
  refine ⟨_, pgs_cons p1 p2 hs, fun ξ μ σ H ρ vs ds ρ' Q g r e k => ?_⟩
  cases r with
  | nil => exact nomatch e
  | @cons v vs d ds r rr =>
    have e : (f d ρ).bind (fun ρ1 => fs ds ρ1) = some ρ' := e
    cases q : f d ρ with
    | none => rw [q] at e; exact nomatch e
    | some ρ1 =>
      rw [q] at e
      refine ⟨v, vs, rfl, k1 ξ μ σ H ρ v d ρ1 _ g r q fun σ1 g1 w1 => ?_⟩
      refine k2 ξ μ σ1 H ρ1 vs ds ρ' Q g1 rr e fun σ2 g2 w2 => k σ2 g2 fun ks hk => ?_
      rw [w2 ks fun i hi => hk i (List.mem_append_right _ hi), w1 ks fun i hi => hk i (List.mem_append_left _ hi)]
def tgT (n : Nat) (f : List D → Rho → Option Rho) : D → Rho → Option Rho := fun d ρ => match d with
  | .tup ds => if ds.length = n then f ds ρ else none
  | _ => none
theorem dg_tup {k n : Nat} {f : List D → Rho → Option Rho} {is : List Nat} {tp : Pos} (hc : X.calm = true) (h : DGs X es f is) (hn : (assignEach es X.env).length = n := by rfl) (hst : (assignEach es X.env).findIdx? (·.1) = none := by rfl) : DG X (.Tuple es k tp) (tgT n f) is := by
  obtain ⟨t, p, k⟩ := h
  refine ⟨_, pg_tup hc p hn hst, fun ξ μ σ H ρ v d ρ' Q g r e kk => ?_⟩
  cases r with
  | @tup a xs ds fz r =>
    unfold tgT at e
    by_cases c : ds.length = n
    · simp only [if_pos c] at e
      exact ⟨a, xs, rfl, fz.sq, by rw [r.length]; exact c, k ξ μ σ H ρ xs ds ρ' Q g r e kk⟩
    · simp only [if_neg c] at e
      exact nomatch e
  | _ => exact nomatch e
/-- target = e -/
def mAsgG (f : D → Rho → Option Rho) (m : ME) : MS := fun ρ S => ofRes (m ρ S) ρ fun d S1 => match f d ρ with
  | some ρ1 => .nx ρ1 S1
  | none => .bad
theorem ds_asg {tg : Expr} {f : D → Rho → Option Rho} {is : List Nat} (he : DE X W e m) (hg : DG X tg f is) (hs : swapsWithSole [tg] e pos.line X.env = pure false := by rfl) (hw : swappedStores [tg] e X.env = pure none := by rfl) (h1 : (assignEach [tg] X.env).map (·.2) = [assign tg X.env] := by rfl) : DS X W (.Assign [tg] e pos) (mAsgG f m) := by
  obtain ⟨te, p, k⟩ := he
  obtain ⟨tg, pg, kg⟩ := hg
  refine ⟨_, ps_asg p pg hs hw h1, fun ξ μ σ H ρ S D g s h => k ξ μ σ H ρ S _ g s (WS'.bind g h fun x S1 v μ1 H1 u1 s1 r1 h1 => ?_)⟩
  cases q : f x ρ with
  | none => rw [q] at h1; exact h1.elim
  | some ρ1 =>
    rw [q] at h1
    exact kg ξ μ1 σ H1 ρ v x ρ1 _ (g.up u1) r1 q fun σ' g' _ => h1 σ' μ1 H1 .refl s1 g'
/-- o[i] = e, o a list's cell -/
def mSetIx (m o i : ME) : MS := fun ρ S => ofRes (m ρ S) ρ fun d S1 => ofRes (o ρ S1) ρ fun x S2 => ofRes (i ρ S2) ρ fun y S3 => match x, y with
  | .cell n, .int j => match S3[n]? with
    | some (.lst ds) => match ixN ds.length j with
      | some k => .nx ρ (S3.set n (.lst (ds.set k d)))
      | none => .bad
    | _ => .bad
  | _, _ => .bad
theorem ds_setIx {o i : Expr} {mo mi : ME} (he : DE X W e m) (ho : DE X W o mo) (hi : DE X W i mi)
    (ha : ∀ v, assign (.Subscript o i p) X.env v = (do
      let ov ← holding [v] (eval o X.env)
      let iv ← holding [v, ov] (eval i X.env)
      standAt p
      holding [v, ov, iv] (setItem ov iv v)
      release [v, ov, iv] []) := by intro _; rfl) (hs : swapsWithSole [.Subscript o i p] e pos.line X.env = pure false := by rfl) (hw : swappedStores [.Subscript o i p] e X.env = pure none := by rfl) : DS X W (.Assign [.Subscript o i p] e pos) (mSetIx m mo mi) := by
  obtain ⟨te, pe, ke⟩ := he
  obtain ⟨to, po, ko⟩ := ho
  obtain ⟨ti, pi, ki⟩ := hi
  refine ⟨_, ps_asg pe (pg_sub po pi set_list ha) hs hw, fun ξ μ σ H ρ S D g s h => ke ξ μ σ H ρ S _ g s (WS'.bind g h fun d S1 v μ1 H1 u1 s1 r1 h1 => ?_)⟩
  refine ko ξ μ1 σ H1 ρ S1 _ (g.up u1) s1 (WS'.bind (g.up u1) h1 fun x S2 v2 μ2 H2 u2 s2 r2 h2 => ?_)
  refine ki ξ μ2 σ H2 ρ S2 _ (g.up (u1.trans u2)) s2 (WS'.bind (g.up (u1.trans u2)) h2 fun y S3 v3 μ3 H3 u3 s3 r3 h3 => ?_)
  have rd := r1.up (u2.trans u3)
  have rx := r2.up u3
  cases rx with
  | @cell a n ea =>
    cases r3 with
    | int j =>
      simp only at h3
      cases q : S3[n]? with
      | none => rw [q] at h3; exact h3.elim
      | some c =>
        rw [q] at h3
        cases c with
        | lst ds =>
          simp only at h3
          cases q2 : ixN ds.length j with
          | none => rw [q2] at h3; exact h3.elim
          | some k =>
            rw [q2] at h3
            obtain ⟨xs, e1, e2⟩ := s3.at_ n a _ ea q
            refine ⟨a, xs, j, k, rfl, rfl, e1, by rw [e2.length]; exact q2, ?_⟩
            exact h3 σ μ3 _ (.write ea) (s3.write ea ⟨_, upd_same, ((e2.set k rd).up (.write ea))⟩) (g.up (u1.trans (u2.trans (u3.trans (.write ea)))))
        | _ => exact h3.elim
    | _ => exact h3.elim
  | _ => exact h3.elim
/-- o.append(e), o a list's cell -/
def mApp (o m : ME) : MS := fun ρ S => ofRes (o ρ S) ρ fun x S1 => match x with
  | .cell n => match S1[n]? with
    | some (.lst _) => ofRes (m ρ S1) ρ fun d S2 => match S2[n]? with
      | some (.lst ds) => if ds.length < 16777216 then .nx ρ (S2.set n (.lst (ds ++ [d]))) else .bad
      | _ => .bad
    | _ => .bad
  | _ => .bad
theorem ds_app {o : Expr} {mo : ME} (ho : DE X W o mo) (he : DE X W e m) (hp : ∀ {to te : TE}, PE X o to → PE X e te → PS X st (tDrop (tBM X.K "list" rAppend to (tCons te tNil)))) : DS X W st (mApp mo m) := by
  obtain ⟨to, po, ko⟩ := ho
  obtain ⟨te, pe, ke⟩ := he
  refine ⟨_, hp po pe, fun ξ μ σ H ρ S D g s h => ?_⟩
  refine ko ξ μ σ H ρ S _ g s (WS'.bind g h fun x S1 v μ1 H1 u1 s1 r1 h1 => ?_)
  cases r1 with
  | @cell a n ea =>
    simp only at h1
    cases q : S1[n]? with
    | none => rw [q] at h1; exact h1.elim
    | some c =>
      rw [q] at h1
      cases c with
      | lst ds0 =>
        simp only at h1
        obtain ⟨xs0, e1, _⟩ := s1.at_ n a _ ea q
        refine ⟨.inl ⟨rfl, _, SqL.of e1⟩, ?_⟩
        refine ke ξ μ1 σ H1 ρ S1 _ (g.up u1) s1 (WS'.bind (g.up u1) h1 fun d S2 v2 μ2 H2 u2 s2 r2 h2 => ?_)
        cases q2 : S2[n]? with
        | none => simp only [q2] at h2; exact h2.elim
        | some c2 =>
          simp only [q2] at h2
          cases c2 with
          | lst ds =>
            simp only at h2
            by_cases l : ds.length < 16777216
            · rw [if_pos l] at h2
              have ea2 := u2.get ea
              obtain ⟨xs, e2, e3⟩ := s2.at_ n a _ ea2 q2
              refine ⟨a, xs, v2, rfl, rfl, e2, by rw [e3.length, sizeLine_eq]; exact l, ?_⟩
              exact h2 σ μ2 _ (.write ea2) (s2.write ea2 ⟨_, upd_same, (e3.append (.cons r2 .nil)).up (.write ea2)⟩) (g.up (u1.trans (u2.trans (.write ea2))))
            · rw [if_neg l] at h2; exact h2.elim
          | _ => exact h2.elim
      | _ => exact h1.elim
  | _ => exact h1.elim
end
end Dm
-- text DmLoop
namespace Dm
open PySem L2
open PySem.W (Frag)
/-- more may be reserved later -/
structure Ext (F F' : Fx) (H : Hp) : Prop where
  k : F'.K = F.K
  gw : (F'.mg, F'.w) = (F.mg, F.w)
  x : ∀ a, a ∈ F'.ξ → a ∈ F.ξ ∨ H a = none
theorem Ext.g {F F' : Fx} {H : Hp} (e : Ext F F' H) : F'.mg = F.mg := congrArg Prod.fst e.gw
theorem Ext.refl {F : Fx} {H : Hp} : Ext F F H := ⟨rfl, rfl, fun _ h => .inl h⟩
theorem Mv.ext {F F' : Fx} {μ μ' : List Addr} {H H' : Hp} (e : Ext F F' H) (u : Up μ H μ' H') : Mv F μ H F' μ' H' := ⟨fun {a xs} q => by
    rcases q.up u with ⟨z, n, nx⟩ | z
    · rcases q with ⟨z0, _⟩ | z0
      · refine .inl ⟨z, n, fun m => ?_⟩
        rcases e.x _ m with q | q
        · exact nx q
        · rcases z0 with z0 | ⟨o, z0⟩ <;> (rw [q] at z0; cases z0)
      · exact .inr (by rw [e.k]; exact z0)
    · exact .inr (by rw [e.k]; exact z), fun {a xs} q => by
    rcases q.up u with ⟨z, n, nx⟩ | z
    · rcases q with ⟨z0, _⟩ | z0
      · refine .inl ⟨z, n, fun m => ?_⟩
        rcases e.x _ m with q | q
        · exact nx q
        · rcases z0 with z0 | ⟨o, z0⟩ <;> (rw [q] at z0; cases z0)
      · exact .inr (by rw [e.k]; exact z0)
    · exact .inr (by rw [e.k]; exact z), fun q => u.get q, e.gw, fun {a c ns} h => by
    obtain ⟨cls, dd, e0, ⟨h1, h2, h3⟩, h4⟩ := h
    have no : ∀ {b : Addr} {o : HO}, H b = some o → b ∉ F.ξ → b ∉ F'.ξ := fun {b o} hb n m => (e.x b m).elim n fun q => by
      rw [q] at hb; cases hb
    refine ⟨cls, dd, by rw [e.g, e.k]; exact e0, ⟨u.keep _ _ h1 h2, u.notin h1 h2, no h1 h3⟩, h4.imp id ?_⟩
    rintro ⟨d, fs, e2, h5, hf, h6, h7⟩
    exact ⟨d, fs, e2, u.keep _ _ h5 h6, hf, u.notin h5 h6, no h5 h7⟩⟩
/-- an iterator gives these items -/
def ItOk (F : Fx) (μ : List Addr) (H : Hp) (J : It) (ds : List D) : Prop := ds.length ≤ 16777216 ∧
  ∀ (F' : Fx) (μ' : List Addr) (H' : Hp) (S' : Sto) (i : Nat), Ext F F' H → Up μ H μ' H' → RS F' μ' H' S' → i ≤ ds.length →
    (∀ d, ds[i]? = some d → J.go i H' ∧ ∀ x H'', J.yld i H' x H'' → Up μ' H' μ' H'' ∧ RS F' μ' H'' S' ∧ RD F' μ' H'' x d) ∧ (i = ds.length → J.stop i H')
structure DI (X : Cx) (W : WX) (tg iter : Expr) (m : MA) : Prop where
  ex : ∃ wi, PI X tg iter wi ∧ ∀ ξ μ σ H ρ S R, RG (fx X ξ) μ H σ ρ → RS (fx X ξ) μ H S → WR (fx X ξ) (fun μ H (J : It) (ds : List D) => ItOk (fx X ξ) μ H J ds) (m ρ S) R (fun cls dd H' => W cls dd σ H') μ H → wi σ H R
section
variable {X : Cx} {W : WX} {tg e a b c : Expr} {es : List Expr} {st : Stmt} {sts ts : List Stmt} {ma mb mc m : ME} {mr : MA} {m1 m2 : MS} {pos p p1 p2 p3 : Pos}
def Sized (K : Frag) (H : Hp) : Prop := ∀ a xs, SqL K H a xs ∨ SqT K H a xs → xs.length ≤ 16777216
theorem sized_of {pins : List (Addr × Obj)} {σ : St} {H : Hp} {s : Shared} (I : Inv X pins σ H s) : Sized X.K H := fun a xs h => by
  rcases h with h | h
  · obtain ⟨_, _, _, z⟩ := I.list h
    rw [sizeLine_eq] at z; exact z
  · obtain ⟨_, _, _, z⟩ := I.tuple h
    rw [sizeLine_eq] at z; exact z
theorem piSized {wi : TI} (h : PI X tg e wi) : PI X tg e (fun σ H R => wi σ H fun J H1 => Sized X.K H1 → R J H1) := ⟨fun pins s σ H R I hw =>
  thn (h.run pins s σ H _ I hw) fun v s1 h1 => thn h1 fun itv s2 ⟨it, fp, tn, J, H', a1, a2, a3, a4, a5, a6⟩ => ⟨it, fp, tn, J, H', a1, a2, a3, a4, a5, a6 (sized_of a2)⟩⟩
theorem piOr {wi wj : TI} (h : PI X tg e wi) (h' : PI X tg e wj) : PI X tg e (fun σ H R => wi σ H R ∨ wj σ H R) := ⟨fun pins s σ H R I hw =>
  hw.elim (h.run pins s σ H R I) (h'.run pins s σ H R I)⟩
theorem itt_ok {F : Fx} {μ : List Addr} {H : Hp} {a : Addr} {xs : List V} {ds : List D} (f : FzT F μ H a xs) (r : RDs F μ H xs ds) (z : Sized F.K H) : ItOk F μ H (Itt F.K a) ds := by
  refine ⟨by rw [← r.length]; exact z a xs (.inr f.sq), fun F' μ' H' S' i e u s hi => ⟨fun d hd => ?_, fun hi => ?_⟩⟩
  · obtain ⟨v, h1, h2⟩ := r.get hd
    refine ⟨⟨xs, v, (f.up u).sq, h1⟩, fun x H'' y => ?_⟩
    obtain ⟨e1, y⟩ := y
    subst e1
    have q := y xs (f.up u).sq
    rw [h1] at q; cases q
    exact ⟨.refl, s, h2.mv (.ext e u)⟩
  · exact ⟨xs, (f.up u).sq, by rw [r.length, hi]; exact Nat.le_refl _⟩
theorem itl_ok {F : Fx} {μ : List Addr} {H : Hp} {a : Addr} {xs : List V} {ds : List D} (f : FzL F μ H a xs) (r : RDs F μ H xs ds) (z : Sized F.K H) : ItOk F μ H (Itl F.K a) ds := by
  refine ⟨by rw [← r.length]; exact z a xs (.inl f.sq), fun F' μ' H' S' i e u s hi => ⟨fun d hd => ?_, fun hi => ?_⟩⟩
  · obtain ⟨v, h1, h2⟩ := r.get hd
    refine ⟨⟨xs, v, (f.up u).sq, h1⟩, fun x H'' y => ?_⟩
    obtain ⟨e1, y⟩ := y
    subst e1
    have q := y xs (f.up u).sq
    rw [h1] at q; cases q
    exact ⟨.refl, s, h2.mv (.ext e u)⟩
  · exact ⟨xs, (f.up u).sq, by rw [r.length, hi]; exact Nat.le_refl _⟩
/-- over a tuple, a list that stands still -/
def iSeq (m : ME) : MA := fun ρ S => (m ρ S).bind fun d S1 => match d with
  | .tup ds => .ok ds S1
  | .lst ds => .ok ds S1
  | _ => .bad
theorem di_seq (h : DE X W e m) : DI X W tg e (iSeq m) := by
  obtain ⟨te, pe, k⟩ := h
  refine ⟨_, piOr (piSized (pi_tup pe)) (piSized (pi_list pe)), fun ξ μ σ H ρ S R g s h => ?_⟩
  cases e1 : m ρ S with
  | bad => unfold iSeq at h; rw [e1] at h; exact h.elim
  | exc c fs S1 =>
    unfold iSeq at h; rw [e1] at h
    refine .inl (k ξ μ σ H ρ S _ g s ?_)
    rw [e1]; exact h
  | ok d S1 =>
    cases d with
    | tup ds =>
      refine .inl (k ξ μ σ H ρ S _ g s ?_)
      unfold iSeq at h
      rw [e1] at h ⊢
      intro v μ1 H1 u1 s1 r1
      cases r1 with
      | @tup a xs _ f r => exact ⟨a, rfl, ⟨xs, f.sq⟩, fun z => h _ μ1 H1 u1 s1 (itt_ok f r z)⟩
    | lst ds =>
      refine .inr (k ξ μ σ H ρ S _ g s ?_)
      unfold iSeq at h
      rw [e1] at h ⊢
      intro v μ1 H1 u1 s1 r1
      cases r1 with
      | @lst a xs _ f r => exact ⟨a, rfl, ⟨xs, f.sq⟩, fun z => h _ μ1 H1 u1 s1 (itl_ok f r z)⟩
    | _ => unfold iSeq at h; rw [e1] at h; exact h.elim
/-- over range(n), range(a, n) -/
def rngD (lo : Int) (n : Nat) : List D := (List.range n).map fun (i : Nat) => D.int (lo + i)
theorem rngD_length {lo : Int} {n : Nat} : (rngD lo n).length = n := by unfold rngD; rw [List.length_map, List.length_range]
theorem itr_ok {F : Fx} {μ : List Addr} {H : Hp} {lo : Int} {n : Nat} (hn : n ≤ 16777216) : ItOk F μ H (Itr lo n) (rngD lo n) := by
  refine ⟨by rw [rngD_length]; exact hn, fun F' μ' H' S' i e u s hi => ⟨fun d hd => ?_, fun hi => ?_⟩⟩
  · have hl : i < n := by
      have q := (List.getElem?_eq_some_iff.mp hd).1
      rw [rngD_length] at q; exact q
    refine ⟨hl, fun x H'' y => ?_⟩
    obtain ⟨e1, y⟩ := y
    subst e1
    subst y
    have e2 : d = .int (lo + i) := by
      unfold rngD at hd
      rw [List.getElem?_map, List.getElem?_range hl] at hd
      exact (Option.some.inj hd).symm
    subst e2
    exact ⟨.refl, s, .int _⟩
  · rw [rngD_length] at hi
    exact Nat.le_of_eq hi.symm
noncomputable def iRange1 (a : MA) : MA := fun ρ S => (a ρ S).bind fun ds S1 => match ds with
  | [.int j] => @ite _ (j ≤ 16777216 ∧ -4611686018427387904 ≤ j) (Classical.propDecidable _) (.ok (rngD 0 j.toNat) S1) .bad
  | _ => .bad
theorem di_range1 (ha : DA X W [a] mr) (hm : X.mg "range" = none) (hg : Gl X "range" := by rfl) (hs : starEach [a] X.env = [(false, eval a X.env)] := by rfl) : DI X W tg (.Call (.Name "range" p) [a] [] pos) (iRange1 mr) := by
  obtain ⟨ta, pa, ka⟩ := ha
  refine ⟨_, pi_range1 hg hm pa hs, fun ξ μ σ H ρ S R g s h => ka ξ μ σ H ρ S _ g s (WR.bind h fun ds S1 vs μ1 H1 u1 s1 r1 h1 => ?_)⟩
  cases r1 with
  | nil => exact h1.elim
  | @cons v vs d ds r rr =>
    cases rr with
    | cons _ _ => cases d <;> exact h1.elim
    | nil =>
      cases r with
      | int j =>
        simp only at h1
        by_cases c : j ≤ 16777216 ∧ -4611686018427387904 ≤ j
        · rw [if_pos c] at h1
          exact ⟨j, rfl, by omega, by omega, h1 _ μ1 H1 .refl s1 (itr_ok (by omega))⟩
        · rw [if_neg c] at h1; exact h1.elim
      | _ => exact h1.elim
noncomputable def iRange2 (a : MA) : MA := fun ρ S => (a ρ S).bind fun ds S1 => match ds with
  | [.int i, .int j] => @ite _ (-1000000000000 ≤ i ∧ i ≤ 1000000000000 ∧ -1000000000000 ≤ j ∧ j ≤ 1000000000000 ∧ j - i ≤ 16777216) (Classical.propDecidable _) (.ok (rngD i (j - i).toNat) S1) .bad
  | _ => .bad
theorem di_range2 (ha : DA X W [a, b] mr) (hm : X.mg "range" = none) (hg : Gl X "range" := by rfl) (hs : starEach [a, b] X.env = [(false, eval a X.env), (false, eval b X.env)] := by rfl) (hs2 : starEach [b] X.env = [(false, eval b X.env)] := by rfl) :
    DI X W tg (.Call (.Name "range" p) [a, b] [] pos) (iRange2 mr) := by
  obtain ⟨ta, pa, ka⟩ := ha
  refine ⟨_, pi_range2 hg hm pa hs hs2, fun ξ μ σ H ρ S R g s h => ka ξ μ σ H ρ S _ g s (WR.bind h fun ds S1 vs μ1 H1 u1 s1 r1 h1 => ?_)⟩
  cases r1 with
  | nil => exact h1.elim
  | @cons v vs d ds r rr =>
    cases rr with
    | nil => cases d <;> exact h1.elim
    | @cons v2 vs2 d2 ds2 r2 rr2 =>
      cases rr2 with
      | cons _ _ => cases d <;> cases d2 <;> exact h1.elim
      | nil =>
        cases r with
        | int i =>
          cases r2 with
          | int j =>
            simp only at h1
            by_cases c : -1000000000000 ≤ i ∧ i ≤ 1000000000000 ∧ -1000000000000 ≤ j ∧ j ≤ 1000000000000 ∧ j - i ≤ 16777216
            · rw [if_pos c] at h1
              exact ⟨i, j, rfl, ⟨by omega, by omega, by omega, by omega⟩, h1 _ μ1 H1 .refl s1 (itr_ok (by omega))⟩
            · rw [if_neg c] at h1; exact h1.elim
          | _ => exact h1.elim
        | _ => exact h1.elim
/-! ### for -/
def forL (f : D → Rho → Option Rho) (mb : MS) : List D → Rho → Sto → Out
  | [], ρ, S => .nx ρ S
  | d :: r, ρ, S => match f d ρ with
    | none => .bad
    | some ρ1 => match mb ρ1 S with
      | .nx ρ2 S2 => forL f mb r ρ2 S2
      | .ct ρ2 S2 => forL f mb r ρ2 S2
      | .bk ρ2 S2 => .nx ρ2 S2
      | .rt d S2 => .rt d S2
      | .exc c fs ρ2 S2 => .exc c fs ρ2 S2
      | .bad => .bad
def mFor (mi : MA) (f : D → Rho → Option Rho) (mb : MS) : MS := fun ρ S => ofRes (mi ρ S) ρ fun ds S1 => forL f mb ds ρ S1
theorem ds_for {f : D → Rho → Option Rho} {is : List Nat} {mb : MS} (hp : PassesOwn (model X.prog X.w) X.A X.env X.xe) (hc : X.calm = true) (hi : DI X W tg e mr) (hg : DG X tg f is) (hb : DSs X W sts mb)
    (hs : ∀ x, foldedSetIterable e X.env x = pure x := by intro _; rfl) : DS X W (.For tg e sts [] pos) (mFor mr f mb) := by
  obtain ⟨wi, pi, ki⟩ := hi
  obtain ⟨tg', pg, kg⟩ := hg
  obtain ⟨tb, pb, kb⟩ := hb
  refine ⟨_, ps_for hp hc pi pg pb hs, fun ξ μ σ H ρ S D g s h => ki ξ μ σ H ρ S _ g s (WS'.bind g h fun ds S1 J μ1 H1 u1 s1 r1 h1 => ?_)⟩
  refine ⟨fun i m σ' H' => ∃ μ' ρ' S', Up μ1 H1 μ' H' ∧ RS (fx X ξ) μ' H' S' ∧ RG (fx X ξ) μ' H' σ' ρ' ∧ i ≤ ds.length ∧ m = ds.length - i ∧ WS' (fx X ξ) (forL f mb (ds.drop i) ρ' S') D W μ' H',
    ⟨_, μ1, ρ, S1, .refl, s1, g.up u1, Nat.zero_le _, rfl, by rw [List.drop_zero]; exact h1⟩, ?_⟩
  rintro i m σ' H' ⟨μ', ρ', S', u', s', g', hi, rfl, w⟩
  obtain ⟨t1, t2⟩ := r1.2 (fx X ξ) μ' H' S' i .refl u' s' hi
  by_cases hl : i < ds.length
  · have hd : ds[i]? = some ds[i] := List.getElem?_eq_getElem hl
    obtain ⟨go, yl⟩ := t1 _ hd
    rw [List.drop_eq_getElem_cons hl] at w
    unfold forL at w
    cases ef : f ds[i] ρ' with
    | none => rw [ef] at w; exact w.elim
    | some ρ1 =>
      rw [ef] at w
      simp only at w
      refine .inr ⟨go, fun σ2 H2 => ∃ μ' ρ' S', Up μ1 H1 μ' H2 ∧ RS (fx X ξ) μ' H2 S' ∧ RG (fx X ξ) μ' H2 σ2 ρ' ∧ WS' (fx X ξ) (forL f mb (ds.drop (i + 1)) ρ' S') D W μ' H2,
        fun σ2 H2 ⟨μ2, ρ2, S2, a1, a2, a3, a4⟩ => ⟨_, by omega, μ2, ρ2, S2, a1, a2, a3, hl, rfl, a4⟩, fun x H2 y => ?_⟩
      obtain ⟨u2, s2, r2⟩ := yl x H2 y
      refine kg ξ μ' σ' H2 ρ' x _ ρ1 _ (g'.up u2) r2 ef fun σ2 g2 _ => ?_
      refine kb ξ μ' σ2 H2 ρ1 S' _ g2 s2 ?_
      have w := WS'.shift u2 w
      cases eb : mb ρ1 S' with
      | nx ρ2 S2 =>
        rw [eb] at w
        exact fun σ3 μ3 H3 u3 s3 g3 => ⟨μ3, ρ2, S2, u'.trans (u2.trans u3), s3, g3, w.shift u3⟩
      | ct ρ2 S2 =>
        rw [eb] at w
        exact fun σ3 μ3 H3 u3 s3 g3 => ⟨μ3, ρ2, S2, u'.trans (u2.trans u3), s3, g3, w.shift u3⟩
      | bk ρ2 S2 => rw [eb] at w; exact w
      | rt d S2 => rw [eb] at w; exact w
      | exc c fs ρ2 S2 => rw [eb] at w; exact w
      | bad => rw [eb] at w; exact w
  · have e : i = ds.length := by omega
    rw [e, List.drop_length] at w
    exact .inl ⟨t2 e, w σ' μ' H' .refl s' g'⟩
/-! ### for over a list's cell, as it stands at each turn -/
/-! ### while -/
end
/-! ### comprehensions -/
def wipeD (ρ : Rho) : List Nat → Rho
  | [] => ρ
  | v :: vs => (wipeD ρ vs).set v none
theorem RG.wipe {F : Fx} {μ : List Addr} {H : Hp} {σ : St} {ρ : Rho} (g : RG F μ H σ ρ) : ∀ vs : List Nat, RG F μ H (L2.wipe σ vs) (wipeD ρ vs)
  | [] => g
  | v :: vs => (RG.wipe g vs).forget (σ' := σ) v
def lcL (f : D → Rho → Option Rho) (mt me : ME) (ρ : Rho) : List D → Sto → Option (List D × Sto)
  | [], S => some ([], S)
  | d :: r, S => match f d ρ with
    | none => none
    | some ρ1 => match mt ρ1 S with
      | .ok (.bl true) S1 => match me ρ1 S1 with
        | .ok y S2 => match lcL f mt me ρ r S2 with
          | some (ys, S3) => some (y :: ys, S3)
          | none => none
        | _ => none
      | .ok (.bl false) S1 => lcL f mt me ρ r S1
      | _ => none
def mLc (mi : MA) (f : D → Rho → Option Rho) (mt me : ME) (vs : List Nat) : MA := fun ρ S => (mi ρ S).bind fun ds S1 => match lcL f mt me (wipeD ρ vs) ds S1 with
  | some (ys, S2) => .ok ys S2
  | none => .bad
def mYes : ME := fun _ S => .ok (.bl true) S
abbrev W0 : WX := fun _ _ _ _ => False
structure DTs (X : Cx) (W : WX) (es : List Expr) (m : ME) : Prop where
  ex : ∃ te, PTs X es te ∧ ∀ ξ μ σ H ρ S Q, RG (fx X ξ) μ H σ ρ → RS (fx X ξ) μ H S → WT' (fx X ξ) (m ρ S) Q (fun cls dd H' => W cls dd σ H') μ H → te σ H Q
section
variable {X : Cx} {W : WX} {tg e a b c : Expr} {es : List Expr} {st : Stmt} {sts ts : List Stmt} {ma mb mc m : ME} {mr : MA} {m1 m2 : MS} {pos p p1 p2 p3 : Pos}
theorem dts_nil : DTs X W [] mYes := ⟨_, pts_nil, fun ξ μ σ H ρ S Q g s h => h μ H .refl s⟩
theorem dts_one (h : DT X W c mc) : DTs X W [c] mc := let ⟨_, p, k⟩ := h; ⟨_, pts_one p, k⟩
theorem fx_fam {ι : Type} {Xf : ι → Cx} {K : Frag} {mg : Str → Option Value} {w : World} {ξ : List Addr} {i : ι} (hK : ∀ i, (Xf i).K = K) (hg : ∀ i, ((Xf i).mg, (Xf i).w) = (mg, w)) : fx (Xf i) ξ = ⟨K, mg, ξ, w⟩ := by
  have e1 : (Xf i).mg = mg := congrArg Prod.fst (hg i)
  have e2 : (Xf i).w = w := congrArg Prod.snd (hg i)
  unfold fx
  rw [hK, e1, e2]
/-- one word for all contexts of a family -/
theorem de_all {ι : Type} {Xf : ι → Cx} {e : Expr} {m : ME} {K : Frag} {mg : Str → Option Value} {w : World} (hK : ∀ i, (Xf i).K = K) (hg : ∀ i, ((Xf i).mg, (Xf i).w) = (mg, w)) (h : ∀ i, DE (Xf i) W e m) :
    ∃ te, (∀ i, PE (Xf i) e te) ∧ ∀ ξ μ σ H ρ S Q, RG ⟨K, mg, ξ, w⟩ μ H σ ρ → RS ⟨K, mg, ξ, w⟩ μ H S → WE' ⟨K, mg, ξ, w⟩ (m ρ S) Q (fun cls dd H' => W cls dd σ H') μ H → te σ H Q := by
  refine ⟨fun σ H Q => ∀ i, ∃ te, PE (Xf i) e te ∧ te σ H Q, fun i => ⟨fun pins s σ H Q I hw => ?_⟩, fun ξ μ σ H ρ S Q g s hw i => ?_⟩
  · obtain ⟨te, p, q⟩ := hw i
    exact p.run pins s σ H Q I q
  · obtain ⟨te, p, k⟩ := h i
    refine ⟨te, p, k ξ μ σ H ρ S Q ?_ ?_ ?_⟩
    all_goals (rw [fx_fam hK hg]; assumption)
theorem dts_all {ι : Type} {Xf : ι → Cx} {es : List Expr} {m : ME} {K : Frag} {mg : Str → Option Value} {w : World} (hK : ∀ i, (Xf i).K = K) (hg : ∀ i, ((Xf i).mg, (Xf i).w) = (mg, w)) (h : ∀ i, DTs (Xf i) W es m) :
    ∃ te, (∀ i, PTs (Xf i) es te) ∧ ∀ ξ μ σ H ρ S Q, RG ⟨K, mg, ξ, w⟩ μ H σ ρ → RS ⟨K, mg, ξ, w⟩ μ H S → WT' ⟨K, mg, ξ, w⟩ (m ρ S) Q (fun cls dd H' => W cls dd σ H') μ H → te σ H Q := by
  refine ⟨fun σ H Q => ∀ i, ∃ te, PTs (Xf i) es te ∧ te σ H Q, fun i => ⟨fun pins s σ H Q I hw => ?_⟩, fun ξ μ σ H ρ S Q g s hw i => ?_⟩
  · obtain ⟨te, p, q⟩ := hw i
    exact p.run pins s σ H Q I q
  · obtain ⟨te, p, k⟩ := h i
    refine ⟨te, p, k ξ μ σ H ρ S Q ?_ ?_ ?_⟩
    all_goals (rw [fx_fam hK hg]; assumption)
theorem dg_all {ι : Type} {Xf : ι → Cx} {tg : Expr} {f : D → Rho → Option Rho} {is : List Nat} {K : Frag} {mg : Str → Option Value} {w : World} (hK : ∀ i, (Xf i).K = K) (hg : ∀ i, ((Xf i).mg, (Xf i).w) = (mg, w)) (h : ∀ i, DG (Xf i) tg f is) :
    ∃ t, (∀ i, PG (Xf i) tg t) ∧ ∀ ξ μ σ H ρ v d ρ' (Q : St → Hp → Prop), RG ⟨K, mg, ξ, w⟩ μ H σ ρ → RD ⟨K, mg, ξ, w⟩ μ H v d → f d ρ = some ρ' →
    (∀ σ', RG ⟨K, mg, ξ, w⟩ μ H σ' ρ' → (∀ js : List Nat, (∀ i ∈ is, i ∈ js) → wipe σ' js = wipe σ js) → Q σ' H) → t v σ H Q := by
  refine ⟨fun v σ H Q => ∀ i, ∃ t, PG (Xf i) tg t ∧ t v σ H Q, fun i => ⟨fun pins s σ H v u Q I r hw => ?_⟩, fun ξ μ σ H ρ v d ρ' Q g r e k i => ?_⟩
  · obtain ⟨t, p, q⟩ := hw i
    exact p.run pins s σ H v u Q I r q
  · obtain ⟨t, p, kk⟩ := h i
    refine ⟨t, p, kk ξ μ σ H ρ v d ρ' Q ?_ ?_ e fun σ' g' w => k σ' ?_ w⟩
    · rw [fx_fam hK hg]; exact g
    · rw [fx_fam hK hg]; exact r
    · have g'' := g'
      rw [fx_fam hK hg] at g''
      exact g''
abbrev Blk := Shared × Hp × Addr × List (Str × Addr) × List Addr
abbrev blkOf (X : Cx) (scope : Scope) (i : Blk) : Cx := X.blk i.1 i.2.1 scope (compEnvC scope i.2.2.2.1 i.2.2.1 X.env) i.2.2.2.2
/-- the reading of a comprehension -/
theorem lc_read {wi : TI} {tg' : TG} {tt : TT} {te : TE} {f : D → Rho → Option Rho} {is vs : List Nat} {ξ μ : List Addr} {σ : St} {H : Hp} {ρ : Rho} {S : Sto} {Q : VK} {Wx : Value → Option Addr → Hp → Prop} {mi : MA} {mt me : ME}
    (ki : ∀ R, WR (fx X ξ) (fun μ H (J : It) (ds : List D) => ItOk (fx X ξ) μ H J ds) (mi ρ S) R Wx μ H → wi σ H R)
    (kg : ∀ ξ μ σ H ρ v d ρ' (Q : St → Hp → Prop), RG (fx X ξ) μ H σ ρ → RD (fx X ξ) μ H v d → f d ρ = some ρ' → (∀ σ', RG (fx X ξ) μ H σ' ρ' → (∀ js : List Nat, (∀ i ∈ is, i ∈ js) → wipe σ' js = wipe σ js) → Q σ' H) → tg' v σ H Q)
    (kt : ∀ ξ μ σ H ρ S Q, RG (fx X ξ) μ H σ ρ → RS (fx X ξ) μ H S → WT' (fx X ξ) (mt ρ S) Q (fun cls dd H' => W0 cls dd σ H') μ H → tt σ H Q)
    (ke : ∀ ξ μ σ H ρ S Q, RG (fx X ξ) μ H σ ρ → RS (fx X ξ) μ H S → WE' (fx X ξ) (me ρ S) Q (fun cls dd H' => W0 cls dd σ H') μ H → te σ H Q)
    (hv : ∀ i ∈ is, i ∈ vs) (g : RG (fx X ξ) μ H σ ρ) (s : RS (fx X ξ) μ H S) (h : WL' (fx X ξ) (mLc mi f mt me vs ρ S) Q Wx μ H) : tLc wi tg' tt te vs σ H Q := by
  refine ki _ (WL'.bind h fun ds S1 J μ1 H1 u1 s1 r1 h1 => ?_)
  intro D hD
  obtain ⟨hz, r1⟩ := r1
  have n1 : D ∉ μ1 := s1.out hD
  have x1 : D ∉ ξ := s1.outX hD
  have ext : Ext (fx X ξ) ((fx X ξ).hold D) H1 := ⟨rfl, rfl, fun a ha => (List.mem_cons.mp ha).elim (fun z => .inr (by rw [z]; exact hD)) .inl⟩
  have main : WL' (fx X ξ) (match lcL f mt me (wipeD ρ vs) ds S1 with
    | some (ys, S2) => Res.ok ys S2
    | none => .bad) Q Wx μ1 H1 := h1
  refine ⟨fun i m H' => ∃ μ' S' acc dacc, Up μ1 H1 μ' H' ∧ RS ((fx X ξ).hold D) μ' H' S' ∧ H' D = some (.lst acc) ∧ RDs ((fx X ξ).hold D) μ' H' acc dacc ∧ acc.length ≤ i ∧ i ≤ ds.length ∧ m = ds.length - i ∧
      ∃ ys S2, lcL f mt me (wipeD ρ vs) (ds.drop i) S' = some (ys, S2) ∧ ∀ μ2 H2 xs, Up μ1 H1 μ2 H2 → RS ((fx X ξ).hold D) μ2 H2 S2 → RDs ((fx X ξ).hold D) μ2 H2 xs (dacc ++ ys) → H2 D = some (.lst xs) → Q (.ref D) H2,
    ⟨_, μ1, S1, [], [], .fresh hD, s1.holds hD, upd_same, .nil, Nat.le_refl _, Nat.zero_le _, rfl, ?_⟩, ?_⟩
  · rw [List.drop_zero]
    cases q : lcL f mt me (wipeD ρ vs) ds S1 with
    | none => rw [q] at main; exact main.elim
    | some r =>
      obtain ⟨ys, S2⟩ := r
      rw [q] at main
      exact ⟨ys, S2, rfl, fun μ2 H2 xs u2 s2 r2 e2 => main D xs μ2 H2 u2 hD s2 r2 e2⟩
  rintro i m H' ⟨μ', S', acc, dacc, u', s', hacc, racc, hla, hi, rfl, ys, S2, eL, fin⟩
  obtain ⟨t1, t2⟩ := r1 ((fx X ξ).hold D) μ' H' S' i ext u' s' hi
  by_cases hl : i < ds.length
  · obtain ⟨go, yl⟩ := t1 _ (List.getElem?_eq_getElem hl)
    rw [List.drop_eq_getElem_cons hl] at eL
    unfold lcL at eL
    cases ef : f ds[i] (wipeD ρ vs) with
    | none => rw [ef] at eL; exact nomatch eL
    | some ρ1 =>
      rw [ef] at eL
      simp only at eL
      refine .inr ⟨go, fun H2 => ∃ μ' S' acc dacc, Up μ1 H1 μ' H2 ∧ RS ((fx X ξ).hold D) μ' H2 S' ∧ H2 D = some (.lst acc) ∧ RDs ((fx X ξ).hold D) μ' H2 acc dacc ∧ acc.length ≤ i + 1 ∧
          ∃ ys S2, lcL f mt me (wipeD ρ vs) (ds.drop (i + 1)) S' = some (ys, S2) ∧ ∀ μ2 H2 xs, Up μ1 H1 μ2 H2 → RS ((fx X ξ).hold D) μ2 H2 S2 → RDs ((fx X ξ).hold D) μ2 H2 xs (dacc ++ ys) → H2 D = some (.lst xs) → Q (.ref D) H2,
        fun H2 ⟨μ2, S3, acc2, dacc2, a1, a2, a3, a4, a5, a6⟩ => ⟨_, by omega, μ2, S3, acc2, dacc2, a1, a2, a3, a4, a5, hl, rfl, a6⟩, fun x H2 y => ?_⟩
      obtain ⟨u2, s2, r2⟩ := yl x H2 y
      have g2 : RG (fx X (D :: ξ)) μ' H2 (wipe σ vs) (wipeD ρ vs) := (((g.up u1).mv (.ext ext (u'.trans u2)))).wipe vs
      refine kg (D :: ξ) μ' (wipe σ vs) H2 (wipeD ρ vs) x _ ρ1 _ g2 r2 ef fun σ3 g3 w3 => ?_
      have nD : D ∉ μ' := (s'.xi D List.mem_cons_self).1
      have eD : H2 D = some (.lst acc) := u2.keep _ _ hacc nD
      have ww : wipe (wipe σ vs) vs = wipe σ vs := by
        refine List.ext_getElem? fun k => ?_
        rw [wipe_get, wipe_get, wipe_length]
        by_cases q : k ∈ vs ∧ k < σ.length
        · rw [if_pos q, if_pos q]
        · rw [if_neg q, if_neg q]
      refine ⟨by rw [w3 vs hv, ww], ?_⟩
      refine kt (D :: ξ) μ' σ3 H2 ρ1 S' _ g3 s2 ?_
      have racc2 := racc.up u2
      cases et : mt ρ1 S' with
      | bad => rw [et] at eL; exact nomatch eL
      | exc c fs S3 => rw [et] at eL; exact nomatch eL
      | ok d S3 =>
        rw [et] at eL
        cases d with
        | bl b =>
          intro μ3 H3 u3 s3
          have eD3 : H3 D = some (.lst acc) := u3.keep _ _ eD nD
          cases b with
          | false =>
            exact ⟨μ3, S3, acc, dacc, u'.trans (u2.trans u3), s3, eD3, racc2.up u3, Nat.le_succ_of_le hla, ys, S2, eL, fin⟩
          | true =>
            simp only at eL
            refine ke (D :: ξ) μ3 σ3 H3 ρ1 S3 _ (g3.up u3) s3 ?_
            cases ee : me ρ1 S3 with
            | bad => rw [ee] at eL; exact nomatch eL
            | exc c fs S4 => rw [ee] at eL; exact nomatch eL
            | ok y S4 =>
              rw [ee] at eL
              intro v μ4 H4 u4 s4 r4
              simp only at eL
              cases er : lcL f mt me (wipeD ρ vs) (ds.drop (i + 1)) S4 with
              | none => rw [er] at eL; exact nomatch eL
              | some q =>
                obtain ⟨zs, S5⟩ := q
                rw [er] at eL
                cases eL
                have nD3 : D ∉ μ3 := (s3.xi D List.mem_cons_self).1
                have eD4 : H4 D = some (.lst acc) := u4.keep _ _ eD3 nD3
                refine ⟨acc, eD4, by rw [sizeLine_eq]; omega, μ4, S4, acc ++ [v], dacc ++ [y], ?_, RS.wr (F := fx X ξ) (p := D) s4, upd_same, RDs.mv (Mv.wr (F := fx X ξ) (p := D)) _ (RDs.append (F := (fx X ξ).hold D) ((racc2.up u3).up u4) (.cons r4 .nil)), by rw [List.length_append, List.length_singleton]; omega, zs, S2, er, fun μ5 H5 xs u5 s5 r5 e5 => fin μ5 H5 xs u5 s5 (by rw [List.append_assoc] at r5; exact r5) e5⟩
                have U := u'.trans (u2.trans (u3.trans u4))
                exact ⟨U.pre, U.new, fun a o ha na => by
                  rw [upd_ne (ne_of_none ha hD)]
                  exact U.keep a o ha na⟩
        | _ => exact nomatch eL
  · have e : i = ds.length := by omega
    rw [e, List.drop_length] at eL
    cases eL
    exact .inl ⟨t2 e, fin μ' H' acc u' s' (by rw [List.append_nil]; exact racc) hacc⟩
theorem dl_lc {elt : Expr} {ifs : List Expr} {scope : Scope} {own : List (Str × Nat)} {f : D → Rho → Option Rho} {is : List Nat} {mt me : ME} (hc : X.calm = true) (hN : X.N.Nodup) (hi : DI X W tg e mr) (ok : BlkOk X.N X.env.scope scope own)
    (hg : ∀ (s : Shared) (H : Hp) (C : Addr) (cl : List (Str × Addr)) (fp : List Addr), DG (X.blk s H scope (compEnvC scope cl C X.env) fp) tg f is)
    (ht : ∀ (s : Shared) (H : Hp) (C : Addr) (cl : List (Str × Addr)) (fp : List Addr), DTs (X.blk s H scope (compEnvC scope cl C X.env) fp) W0 ifs mt)
    (he : ∀ (s : Shared) (H : Hp) (C : Addr) (cl : List (Str × Addr)) (fp : List Addr), DE (X.blk s H scope (compEnvC scope cl C X.env) fp) W0 elt me)
    (hv : ∀ i ∈ is, i ∈ own.map (·.2) := by decide) (hs : ∀ x, foldedSetIterable e X.env x = pure x := by intro _; rfl) : DL X W (.ListComp elt [⟨tg, e, ifs, 0⟩] scope pos) (mLc mr f mt me (own.map (·.2))) := by
  obtain ⟨wi, pi, ki⟩ := hi
  obtain ⟨tg', pg, kg⟩ := dg_all (Xf := blkOf X scope) (K := X.K) (mg := X.mg) (fun _ => rfl) (fun _ => rfl) fun i => hg i.1 i.2.1 i.2.2.1 i.2.2.2.1 i.2.2.2.2
  obtain ⟨tt, pt, kt⟩ := dts_all (Xf := blkOf X scope) (K := X.K) (mg := X.mg) (fun _ => rfl) (fun _ => rfl) fun i => ht i.1 i.2.1 i.2.2.1 i.2.2.2.1 i.2.2.2.2
  obtain ⟨te, pe, ke⟩ := de_all (Xf := blkOf X scope) (K := X.K) (mg := X.mg) (fun _ => rfl) (fun _ => rfl) fun i => he i.1 i.2.1 i.2.2.1 i.2.2.2.1 i.2.2.2.2
  refine ⟨_, pe_lc hc hN pi ok (fun s H C cl fp => pg (s, H, C, cl, fp)) (fun s H C cl fp => pt (s, H, C, cl, fp)) (fun s H C cl fp => pe (s, H, C, cl, fp)) hs, fun ξ μ σ H ρ S Q g s h => ?_⟩
  exact lc_read (fun R => ki ξ μ σ H ρ S R g s) kg kt ke hv g s h
end
end Dm
-- text DmDef
namespace Dm
open PySem L2 PySem.Spec PyProof.Rows
open PySem.W (Frag)
/-! ### defs -/
def mDef (np nN : Nat) (b : MS) (ds : List D) (S : Sto) : Res D := if ds.length = np then
    match b (ds.map some ++ List.replicate (nN - np) none) S with
    | .nx _ S' => .ok .non S'
    | .rt d S' => .ok d S'
    | .exc c fs _ S' => .exc c fs S'
    | _ => .bad
  else .bad
/-- a def's promise: what its word says -/
def spD (w : World) (K : Frag) (mg : Str → Option Value) (m : List D → Sto → Res D) : Sp := fun vs H Q E => ∃ ξ μ ds S, RS ⟨K, mg, ξ, w⟩ μ H S ∧ RDs ⟨K, mg, ξ, w⟩ μ H vs ds ∧ WE' ⟨K, mg, ξ, w⟩ (m ds S) Q (fun cls dd H' => E cls dd H') μ H
structure FnD (P : Program) (w : World) (K : Frag) (mg : Str → Option Value) (base : Heap) (k : Nat) (x : Str) (st : Stmt) (ps : List Str) (m : List D → Sto → Res D) : Prop where
  ex : ∃ f fd, mg x = some (.ref f) ∧ Fun K x x st f fd ∧ Binds K fd ps [] ∧ FnOk P w K mg base (L2.CX P w) k f fd ps (spD w K mg m)
section
variable {P : Program} {w : World} {K : Frag} {mg : Str → Option Value} {base : Heap}
theorem FnD.mono {j k : Nat} {x : Str} {st : Stmt} {ps : List Str} {m : List D → Sto → Res D} (F : FnD P w K mg base j x st ps m) (h : j ≤ k) : FnD P w K mg base k x st ps m :=
  let ⟨f, fd, a, b, c, d⟩ := F; ⟨f, fd, a, b, c, d.mono h⟩
theorem rg_start {F : Fx} {μ : List Addr} {H : Hp} {N : List Str} {vs : List V} {ds : List D} (r : RDs F μ H vs ds) : RG F μ H (L2.start N vs) (ds.map some ++ List.replicate (N.length - ds.length) none) := by
  refine ⟨by unfold L2.start; rw [List.length_append, List.length_append, List.length_map, List.length_map, List.length_replicate, List.length_replicate, r.length], fun i d e => ?_⟩
  by_cases h : i < ds.length
  · rw [List.getElem?_append_left (by rw [List.length_map]; exact h), List.getElem?_map] at e
    cases q : ds[i]? with
    | none => rw [q] at e; exact nomatch e
    | some d' =>
      rw [q] at e
      cases e
      obtain ⟨v, h1, h2⟩ := r.get q
      refine ⟨v, ?_, h2⟩
      unfold L2.start
      rw [List.getElem?_append_left (by rw [List.length_map, r.length]; exact h), List.getElem?_map, h1] <;> rfl
  · rw [List.getElem?_append_right (by rw [List.length_map]; omega), List.getElem?_replicate] at e
    split at e <;> cases e
end
/-! ### calls of defs -/
section
variable {X : Cx} {W : WX} {tg e a b c : Expr} {es : List Expr} {kws : List Keyword} {st : Stmt} {sts ts : List Stmt} {ma mb mc m : ME} {mr mk : MA} {m1 m2 : MS} {pos p p1 p2 p3 kpos : Pos} {nm : Option Str}
/-- f(e, .., k = v, ..): perm puts the written values, then the keywords', in the parameters' order; n, q: how many of each -/
def mCallK (f : List D → Sto → Res D) (n q : Nat) (perm : List Nat) (a k : MA) : ME := fun ρ S => (a ρ S).bind fun xs S1 => (k ρ S1).bind fun zs S2 => if xs.length = n ∧ zs.length = q then f (perm.filterMap ((xs ++ zs)[·]?)) S2 else .bad
/-! ### raise X('..') -/
structure XcOk (K : Frag) (mg : Str → Option Value) (x : Str) : Prop where
  ex : ∃ C : Addr, mg x = some (.ref C) ∧ PySem.W.excIn K C [.type "ValueError", .type "Exception", .type "BaseException", .type "object"] "ValueError.__new__" = true ∧ PySem.W.keepIn K (.ref C) = true ∧ PySem.W.subIn K (.ref C) (.type "BaseException") = some true ∧ PySem.W.typeIn K (.ref C) = some (.type "type")
def mRaise (c : Str) : MS := fun ρ S => .exc c [] ρ S
theorem ds_raise {x msg : Str} {jj : Nat} {pos2 : Pos} (C : XcOk X.K X.mg x) (hc : X.calm = true) (tk : Takes X W) (hg : Gl X x := by rfl) (hdb : (x == ("__debug__" : Str)) = false := by decide) :
    DS X W (.Raise (some (.Call (.Name x p) [.Constant (.str msg) jj p2] [] pos)) none pos2) (mRaise x) := by
  obtain ⟨C, h1, h2, h3, h4, h5⟩ := C
  exact ⟨_, ps_raise hc tk (pmk_own PySem.F.excBase_ValueError h2 h1 h3 (raises_own h4 h5) hg hdb), fun ξ μ σ H ρ S D g s h => h _ none σ μ H .refl s g ⟨h1, .inl ⟨rfl, rfl⟩⟩⟩
/-- x += e -/
def mAug (i : Nat) (f : Int → Int → Int) (m : ME) : MS := fun ρ S => match ρ[i]? with
  | some (some (.int a)) => ofRes (m ρ S) ρ fun d S1 => match d with
    | .int b => .nx (ρ.set i (some (.int (f a b)))) S1
    | _ => .bad
  | _ => .bad
theorem ds_aug (i : Nat) {x : Str} {f : Int → Int → Int} {op : Operator} {pos' : Pos} (hN : X.N.Nodup) (ho : PIp X op (ipI f)) (he : DE X W e ma) (hi : X.N[i]? = some x := by rfl) (hx : Loc X.env.scope x := by first | exact Or.inl rfl | exact Or.inr rfl)
    (hf : X.fn x = true ∨ X.env.scope.names.lookup x = some .local := by first | exact .inl rfl | exact .inr rfl)
    (hp : ∀ {te : TE}, X.N.Nodup → PIp X op (ipI f) → PE X e te → PS X (.AugAssign (.Name x pos') op e pos) (tAug i te (ipI f)) := by exact fun hN ho h => ps_aug hN rfl (by first | exact Or.inl rfl | exact Or.inr rfl) h ho) : DS X W (.AugAssign (.Name x pos') op e pos) (mAug i f ma) := by
  obtain ⟨te, pe, ke⟩ := he
  refine ⟨_, hp hN ho pe, fun ξ μ σ H ρ S D g s h => ?_⟩
  unfold mAug at h
  cases q : ρ[i]? with
  | none => rw [q] at h; exact h.elim
  | some o =>
    cases o with
    | none => rw [q] at h; exact h.elim
    | some d =>
      obtain ⟨v, hv, rv⟩ := g.at_ i d q
      rw [q] at h
      cases rv with
      | int a =>
        refine ⟨_, hv, ke ξ μ σ H ρ S _ g s (WS'.bind g h fun y S1 v1 μ1 H1 u1 s1 r1 h1 => ?_)⟩
        cases r1 with
        | int b => exact ⟨a, b, rfl, rfl, h1 _ μ1 H1 .refl s1 ((g.up u1).set i (.int _))⟩
        | _ => exact h1.elim
      | _ => exact h.elim
end
end Dm
-- text DmIter
namespace Dm
open PySem L2 PySem.Spec PyProof.Rows
open PySem.W (Frag)
/-! ### enumerate of a tuple -/
theorem enumNew1 {v : Value} {o : Obj} {Hh : Heap → Prop} (B : Begins v o Hh) :
    Meets (Builtin.«enumerate.__new__» ⟨[.type "enumerate", v], []⟩) (fun _ R s => Hh s.heap ∧
      R (.ok (.ret (.ref (s.heap.push o).objs.size))) { s with heap := (s.heap.push o).push { cls := .type "enumerate", data := .fields #[.none, .bool false, .ref s.heap.objs.size, rawInt 0, .none, .none] } }) :=
  .of_wp fun prog w A R s hh => by
    obtain ⟨hp, g, d, tk, os⟩ := s
    obtain ⟨ha, hb⟩ := hh
    have hsub := sub_enumerate
    have q1 : ∀ {A' : Around} {E : Value → Shared → Prop} {Q : Value → Shared → Prop}, Q (.ref hp.objs.size) ⟨hp.push o, g, d, tk, os⟩ → wpAny (model prog w) A' (pyIter v) Q E ⟨hp, g, d, tk, os⟩ :=
      fun q => B.iter prog w _ _ ⟨hp, g, d, tk, os⟩ _ ha q
    wp_walk using q1
    refine wpAny_stack_any fun st => wpAny_pure ?_
    split
    · rename_i c _ _ _ _ _
      cases (c == Value.type "enumerate") <;> (wp_walk using q1; exact ⟨_, rfl, hb⟩)
    · (wp_walk using q1); exact ⟨_, rfl, hb⟩
theorem enumBegin1 {prog : Program} {w : World} {A : Around} {E : Value → Shared → Prop} {s : Shared} {v : Value} {o : Obj} {Hh : Heap → Prop} {Q : Value → Shared → Prop} (B : Begins v o Hh) (ha : Hh s.heap)
    (k : ∀ h', IsEnum h' (s.heap.objs.size + 1) s.heap.objs.size 0 .none → h'.get? s.heap.objs.size = some o → (∀ b u, s.heap.get? b = some u → h'.get? b = some u) → Q (.ref (s.heap.objs.size + 1)) { s with heap := h' }) :
    wpAny (model prog w) A (call (.type "enumerate") [v]) Q E s := by
  refine callType_new F.called_enumerate (by decide) (F.typeCall_enumerate_1 _) (F.newCall_enumerate_1 _) (fun obj => F.args_object_init_2 obj _) F.entry_enumerate_new (enumNew1 B) ⟨ha, ?_⟩
  have z : (s.heap.push o).objs.size = s.heap.objs.size + 1 := Heap.size_push ..
  have en := Heap.get?_push_size (s.heap.push o) (o := { cls := .type "enumerate", data := .fields #[.none, .bool false, .ref s.heap.objs.size, rawInt 0, .none, .none] }) rfl
  rw [z] at en
  show _ ∧ _
  rw [z]
  exact ⟨⟨_, en, rfl⟩, k _ en (Heap.get?_push_of_some _ (Heap.get?_push_size _ B.free)) fun b u q => Heap.get?_push_of_some _ (Heap.get?_push_of_some _ q)⟩
def IteT (K : Frag) (a : Addr) : It :=
  ⟨fun i H => ∃ (xs : List V) (x : V), SqT K H a xs ∧ xs[i]? = some x, fun i H v H' => ∃ T x, v = .ref T ∧ H T = none ∧ H' = upd H T (.tup [.int (i : Nat), x]) ∧ ∀ xs, SqT K H a xs → xs[i]? = some x, fun i H => ∃ xs : List V, SqT K H a xs ∧ xs.length ≤ i⟩
theorem turn_enumT {P : Program} {w : World} {K : Frag} {elts : List Expr} {kk : Nat} {tpos : Pos} (a e it : Addr) (hne : e ≠ it) :
    Turn P w K (.Tuple elts kk tpos) (IteT K a) [e, it] e (fun i h => (∃ old, IsEnum h e it ((i : Nat) : Int) old) ∧ h.IsTupleIter it a i) where
  mem := List.mem_cons_self
  obj := fun i h st b hb => by
    obtain ⟨⟨old, he⟩, ⟨o, ho, hc, hd⟩⟩ := st
    rcases List.mem_cons.mp hb with z | z
    · rw [z]; exact ⟨_, he, fun v q => nomatch q⟩
    · rw [List.mem_singleton.mp z]; exact ⟨o, ho, fun v q => by rw [hd] at q; cases q⟩
  keep := fun i h h' st k => by
    obtain ⟨⟨old, he⟩, ⟨o, ho, r⟩⟩ := st
    exact ⟨⟨old, k e List.mem_cons_self _ he⟩, ⟨o, k it (List.mem_cons_of_mem _ List.mem_cons_self) o ho, r⟩⟩
  item := by
    intro X hP hw hK hc i pins s σ H E I hf st hg
    subst hP hw hK
    obtain ⟨⟨old, he⟩, hit⟩ := st
    obtain ⟨xs, x, hq, hx⟩ := hg
    obtain ⟨its, rv, ht, hz⟩ := I.tuple hq
    obtain ⟨u, hu, ru⟩ := rv.get hx
    have hel : e < s.heap.objs.size := Heap.lt_size he
    have hil : it < s.heap.objs.size := by obtain ⟨_, q, _⟩ := hit; exact Heap.lt_size q
    have nai : a ≠ it := by
      rintro rfl
      obtain ⟨o1, q1, c1, _⟩ := ht
      obtain ⟨o2, q2, c2, _⟩ := hit
      rw [q1] at q2; cases q2
      rw [c1] at c2
      exact absurd (Value.type.inj c2) (by decide)
    have nae : e ∉ [it, a] := fun z => by
      rcases List.mem_cons.mp z with z | z
      · exact hne z
      · rw [List.mem_singleton.mp z] at he
        obtain ⟨o1, q1, c1, _⟩ := ht
        have he' : s.heap.get? a = some _ := he
        rw [q1] at he'; cases he'
        exact absurd (Value.type.inj c1) (by decide)
    have D := Draws.tuple (prog := X.prog) (w := X.w) (A := X.A.in1) (by exact I.ok.hd hc) it a nai its.toArray
    have hlt : i < its.toArray.size := by
      have q := (List.getElem?_eq_some_iff.mp hu).1
      rw [List.size_toArray]; exact q
    refine wpAny_pyNext_enum_itemD D he ⟨hit, ht⟩ hlt hne nae fun x' h' tk hx' ho hit' hT hsz hk => ?_
    have ex : x' = u := by
      have hx'' : its.toArray[i]? = some x' := hx'
      rw [List.getElem?_toArray, hu] at hx''
      exact (Option.some.inj hx'').symm
    subst ex
    refine ⟨_, rfl, wpAny_letOwnedTupleGo_enum (s := { s with heap := h', toks := tk + 1 }) ho fun h'' he' sb => ?_⟩
    have hT2 : h''.get? s.heap.objs.size = some { cls := .type "tuple", data := .seq #[.int i tk, x'] } := (sb.2 _ (Nat.ne_of_gt hel)).trans hT
    have new : ObjOk X.prog X.w (upd H s.heap.objs.size (.tup [.int (i : Nat), x])) h'' s.heap.objs.size (.tup [.int (i : Nat), x]) :=
      ⟨by rw [sizeLine_eq]; show 2 ≤ 16777216; decide, [.int i tk, x'], .cons ⟨_, rfl⟩ (.cons ru .nil), ⟨_, hT2, rfl, _, rfl⟩⟩
    have I1 : Inv X pins σ (upd H s.heap.objs.size (.tup [.int (i : Nat), x])) { s with heap := h'', toks := tk + 1 } :=
      I.turnedNew (ch := [e, it]) (fun b ob hb q => (sb.2 b fun z => hb (by rw [z]; exact List.mem_cons_self)).trans (hk b ob (fun z => hb (by rw [z]; exact List.mem_cons_self)) (fun z => hb (by rw [z]; exact List.mem_cons_of_mem _ List.mem_cons_self)) q)) hf (Nat.le_refl _) new
    refine ⟨.ref s.heap.objs.size, _, I1, rfl, ⟨_, x, rfl, I.hok.fresh (Nat.le_refl _), rfl, fun ys hy => by rw [I.tuple_inj hy hq]; exact hx⟩, ⟨⟨x', ?_⟩, ?_⟩, fun b hb => ?_⟩
    · have e1 : ((i + 1 : Nat) : Int) = (i : Int) + 1 := by omega
      rw [e1]; exact he'
    · obtain ⟨⟨o1, q1, r1⟩, _⟩ := hit'
      exact ⟨o1, (sb.2 it hne.symm).trans q1, r1⟩
    · have hb' : b < s.heap.objs.size := by
        rcases List.mem_cons.mp hb with z | z
        · rw [z]; exact hel
        · rw [List.mem_singleton.mp z]; exact hil
      rw [upd_ne (Nat.ne_of_lt hb')]
      exact (hf b hb).1
  done := by
    intro X hP hw hK hc i pins s σ H E I hf st hg
    subst hP hw hK
    obtain ⟨⟨old, he⟩, hit⟩ := st
    obtain ⟨xs, hq, hx⟩ := hg
    obtain ⟨its, rv, ht, hz⟩ := I.tuple hq
    obtain ⟨f0, f1, f2, f3, f4, f5⟩ := hf it (List.mem_cons_of_mem _ List.mem_cons_self)
    have hl := rv.length
    have nx : its.toArray[i]? = none := by
      rw [List.getElem?_toArray]
      exact List.getElem?_eq_none_iff.mpr (by omega)
    have D : Draws X.prog X.w X.A.in1 it [it, a] i (fun _ _ => False) (fun j hh => j = i ∧ hh.IsTupleIter it a i ∧ hh.IsTuple a its.toArray) :=
      { live := fun j hh z => let ⟨o, ho, _⟩ := z.2.1; ⟨o, ho⟩
        frame := fun j hh h' z k => by
          obtain ⟨z1, ⟨o1, e1, r1⟩, ⟨o2, e2, r2⟩⟩ := z
          exact ⟨z1, ⟨o1, k it List.mem_cons_self o1 e1, r1⟩, ⟨o2, k a (List.mem_cons_of_mem _ List.mem_cons_self) o2 e2, r2⟩⟩
        item := fun j s Q E hj z => absurd z.1 (Nat.ne_of_lt hj)
        done := fun s Q E z kE => wpAny_nextOf_tuple_end (I.ok.hd hc) z.2.1 z.2.2 nx kE }
    exact wpAny_pyNext_enum_endD D he ⟨rfl, hit, ht⟩ fun h' eb => ⟨rfl, I.turned (t' := s.toks) (fun b o hb q => eb b o hb q) f0 f1 f3 f4 f5⟩
  self := fun A i s Q E st k => let ⟨⟨_, he⟩, _⟩ := st; wpAny_pyIter_enum he k
def iEnumT (K : Frag) (ta : TA) : TI := fun σ H R => ta σ H fun vs H1 => ∃ a xs, vs = [.ref a] ∧ SqT K H1 a xs ∧ R (IteT K a) H1
theorem pi_enumT {X : Cx} {e : Expr} {ta : TA} {p pos tpos : Pos} {elts : List Expr} {kk : Nat} (hg : Gl X "enumerate") (hm : X.mg "enumerate" = none) (ha : PA X [e] ta) (hs : starEach [e] X.env = [(false, eval e X.env)] := by rfl) :
    PI X (.Tuple elts kk tpos) (.Call (.Name "enumerate" p) [e] [] pos) (iEnumT X.K ta) := by
  refine ⟨fun pins s σ H R I hw => ?_⟩
  refine Call_ (ld_blt I hg hm boot_enumerate (PyProof.Rows.callWith_type1 (thn (ha.run pos pins s σ H _ I hw) fun us s1 hh => ?_) hs rfl))
  obtain ⟨vs, H1, I1, r1, a, xs, ex, hq, q⟩ := hh
  subst ex
  cases r1 with
  | cons r rr =>
    cases rr
    cases r
    obtain ⟨its, rv, ht, hz⟩ := I1.tuple hq
    refine enumBegin1 (begins_tuple a its.toArray) ht fun h' he ho hk => wpAny_pyIter_enum he ?_
    have I2 : Inv X pins σ H1 { s1 with heap := h' } := I1.kept (t' := s1.toks) hk
    refine ⟨s1.heap.objs.size + 1, [s1.heap.objs.size + 1, s1.heap.objs.size], _, _, H1, rfl, I2, turn_enumT a (s1.heap.objs.size + 1) s1.heap.objs.size (Nat.succ_ne_self _), ⟨⟨.none, he⟩, ⟨_, ho, rfl, rfl⟩⟩, fun b hb => ?_, q⟩
    have hle : s1.heap.objs.size ≤ b := by
      rcases List.mem_cons.mp hb with z | z
      · rw [z]; exact Nat.le_succ _
      · rw [List.mem_singleton.mp z]; exact Nat.le_refl _
    exact I1.fpOk hle (I1.hok.fresh hle)
/-- enumerate(v): a tuple, a list that stands still -/
def enumD (ds : List D) : List D := ds.zipIdx.map fun p => .tup [.int (p.2 : Nat), p.1]
theorem enumD_length {ds : List D} : (enumD ds).length = ds.length := by unfold enumD; rw [List.length_map, List.length_zipIdx]
theorem enumD_get {ds : List D} {i : Nat} {d : D} (h : (enumD ds)[i]? = some d) : ∃ x, ds[i]? = some x ∧ d = .tup [.int (i : Nat), x] := by
  unfold enumD at h
  rw [List.getElem?_map, List.getElem?_zipIdx] at h
  cases q : ds[i]? with
  | none => rw [q] at h; exact nomatch h
  | some x =>
    rw [q] at h
    refine ⟨x, rfl, ?_⟩
    have h' := Option.some.inj h
    rw [← h', Nat.zero_add]
def iEnumS (m : ME) : MA := fun ρ S => (m ρ S).bind fun d S1 => match d with
  | .tup ds => .ok (enumD ds) S1
  | .lst ds => .ok (enumD ds) S1
  | _ => .bad
section
variable {X : Cx} {W : WX} {tg e a b c : Expr} {m : ME} {pos p tpos : Pos}
theorem di_enum {elts : List Expr} {kk : Nat} (h : DE X W e m) (hm : X.mg "enumerate" = none) (hg : Gl X "enumerate" := by rfl) (hs : starEach [e] X.env = [(false, eval e X.env)] := by rfl)
    (hs1 : starEach [e] X.env = (false, eval e X.env) :: starEach [] X.env := by rfl) : DI X W (.Tuple elts kk tpos) (.Call (.Name "enumerate" p) [e] [] pos) (iEnumS m) := by
  obtain ⟨te, pe, k⟩ := h
  refine ⟨_, piOr (piSized (pi_enumT hg hm (pa_cons pe pa_nil hs1) hs)) (piSized (pi_enum hg hm (pa_cons pe pa_nil hs1) hs)), fun ξ μ σ H ρ S R g s h => ?_⟩
  cases e1 : m ρ S with
  | bad => unfold iEnumS at h; rw [e1] at h; exact h.elim
  | exc c fs S1 =>
    unfold iEnumS at h; rw [e1] at h
    refine .inl (k ξ μ σ H ρ S _ g s ?_)
    rw [e1]; exact h
  | ok d S1 =>
    cases d with
    | tup ds =>
      refine .inl (k ξ μ σ H ρ S _ g s ?_)
      unfold iEnumS at h
      rw [e1] at h ⊢
      intro v μ1 H1 u1 s1 r1
      cases r1 with
      | @tup a xs _ f r =>
        refine ⟨a, xs, rfl, f.sq, fun z => h _ μ1 H1 u1 s1 ⟨by rw [enumD_length, ← r.length]; exact z a xs (.inr f.sq), fun F' μ' H' S' i ex u s hi => ⟨fun d hd => ?_, fun hi => ?_⟩⟩⟩
        · obtain ⟨x, hx, rfl⟩ := enumD_get hd
          obtain ⟨v, h1, h2⟩ := r.get hx
          refine ⟨⟨xs, v, (f.up u).sq, h1⟩, fun y H'' yy => ?_⟩
          obtain ⟨T, x', e2, e3, e4, e5⟩ := yy
          subst e2 e4
          have q := e5 xs (f.up u).sq
          rw [h1] at q; cases q
          exact ⟨.fresh e3, s.fresh e3, .tup (.inl ⟨.inl upd_same, s.out e3, s.outX e3⟩) (.cons (.int _) (.cons ((h2.mv (.ext ex u)).up (.fresh e3)) .nil))⟩
        · rw [enumD_length] at hi
          exact ⟨xs, (f.up u).sq, by rw [r.length, hi]; exact Nat.le_refl _⟩
    | lst ds =>
      refine .inr (k ξ μ σ H ρ S _ g s ?_)
      unfold iEnumS at h
      rw [e1] at h ⊢
      intro v μ1 H1 u1 s1 r1
      cases r1 with
      | @lst a xs _ f r =>
        refine ⟨a, xs, rfl, f.sq, fun z => h _ μ1 H1 u1 s1 ⟨by rw [enumD_length, ← r.length]; exact z a xs (.inl f.sq), fun F' μ' H' S' i ex u s hi => ⟨fun d hd => ?_, fun hi => ?_⟩⟩⟩
        · obtain ⟨x, hx, rfl⟩ := enumD_get hd
          obtain ⟨v, h1, h2⟩ := r.get hx
          refine ⟨⟨xs, v, (f.up u).sq, h1⟩, fun y H'' yy => ?_⟩
          obtain ⟨T, x', e2, e3, e4, e5⟩ := yy
          subst e2 e4
          have q := e5 xs (f.up u).sq
          rw [h1] at q; cases q
          exact ⟨.fresh e3, s.fresh e3, .tup (.inl ⟨.inl upd_same, s.out e3, s.outX e3⟩) (.cons (.int _) (.cons ((h2.mv (.ext ex u)).up (.fresh e3)) .nil))⟩
        · rw [enumD_length] at hi
          exact ⟨xs, (f.up u).sq, by rw [r.length, hi]; exact Nat.le_refl _⟩
    | _ => unfold iEnumS at h; rw [e1] at h; exact h.elim
end
end Dm
-- text DmRev
namespace Dm
open PySem L2 PySem.Spec PyProof.Rows
open PySem.W (Frag)
/-! ### t[::-1] of a tuple -/
section
variable {prog : Program} {w : World} {A : Around} {E : Value → Shared → Prop} {s : Shared}
theorem backPlaces (n : Nat) : Builtin.Slice.sliceAdjust none none (-1) (n : Int) = ((n : Int) - 1, -1) ∧ Builtin.Slice.slicePlaces ((n : Int) - 1) (-1) (-1) = n := by
  refine ⟨rfl, ?_⟩
  unfold Builtin.Slice.slicePlaces
  rw [if_neg (by decide)]
  by_cases hn : n = 0
  · subst hn; decide
  · rw [if_pos (by omega)]
    have e : ((n : Int) - 1 - -1 - 1) / (- -1) = (n : Int) - 1 := by
      rw [show (- -1 : Int) = 1 from rfl, Int.ediv_one]; omega
    rw [e]; omega
theorem fm_congr {α β : Type} {f g : α → Option β} : ∀ l : List α, (∀ x ∈ l, f x = g x) → l.filterMap f = l.filterMap g
  | [], _ => rfl
  | x :: l, h => by rw [List.filterMap_cons, List.filterMap_cons, h x List.mem_cons_self, fm_congr l fun y hy => h y (List.mem_cons_of_mem _ hy)]
theorem backPick (xs : Array Value) : ((List.range xs.size).filterMap fun (m : Nat) => xs[(((xs.size : Nat) : Int) - 1 + (m : Int) * -1).toNat]?) = xs.toList.reverse := by
  refine List.ext_getElem? fun k => ?_
  have e : ((List.range xs.size).filterMap fun (m : Nat) => xs[(((xs.size : Nat) : Int) - 1 + (m : Int) * -1).toNat]?) = (List.range xs.size).map fun m => xs.toList.reverse.getD m .none := by
    rw [← List.filterMap_eq_map]
    refine fm_congr _ fun m hm => ?_
    have hl : m < xs.size := List.mem_range.mp hm
    have e1 : (((xs.size : Nat) : Int) - 1 + (m : Int) * -1).toNat = xs.size - 1 - m := by omega
    rw [e1]
    have hr : m < xs.toList.reverse.length := by rw [List.length_reverse, Array.length_toList]; exact hl
    have h2 : xs.size - 1 - m < xs.size := by omega
    rw [Array.getElem?_eq_getElem h2]
    show some _ = some (xs.toList.reverse.getD m .none)
    rw [List.getD_eq_getElem?_getD, List.getElem?_eq_getElem hr, List.getElem_reverse]
    simp
  rw [e, List.getElem?_map]
  by_cases hk : k < xs.size
  · rw [List.getElem?_range hk]
    have hr : k < xs.toList.reverse.length := by rw [List.length_reverse, Array.length_toList]; exact hk
    rw [List.getElem?_eq_getElem hr]
    show some (xs.toList.reverse.getD k .none) = _
    rw [List.getD_eq_getElem?_getD, List.getElem?_eq_getElem hr] <;> rfl
  · rw [List.getElem?_eq_none (by rw [List.length_range]; omega), List.getElem?_eq_none (by rw [List.length_reverse, Array.length_toList]; omega)] <;> rfl
theorem backSlice {t sl : Addr} {items : Array Value} {vl vu vs : Value} {Q : Value → Shared → Prop} (ht : IsTup s.heap t items) (hs : s.heap.IsSliceOf sl vl vu vs) (pl : IsPart vl none) (pu : IsPart vu none) (ps : IsPart vs (some (-1)))
    (h : Q (.ref s.heap.objs.size) { s with heap := s.heap.push { cls := .type "tuple", data := .seq items.toList.reverse.toArray } }) (hsz : items.size ≤ sizeLine) : wpAny (model prog w) A (getItem (.ref t) (.ref sl)) Q E s := by
  have fits : sizeOk (.seq items.toList.reverse.toArray) := by
    show items.toList.reverse.toArray.size ≤ sizeLine
    rw [List.size_toArray, List.length_reverse, Array.length_toList]; exact hsz
  obtain ⟨os, hos, hcs, hds⟩ := id hs
  have tS : s.TypeIs (.ref sl) "slice" := ⟨os, hos, hcs⟩
  unfold getItem
  try with_reducible refine wpAny_holding ?_
  first | refine wpAny_bind (wpAny_pure ?_) | skip
  refine wpAny_bind (wpAny_sequenceKey ht.typeIs (by decide) ?_)
  refine wpAny_bind (wpAny_callSpecial?_slot (name := Str.ofString "__getitem__") ht.typeIs PyProof.Rows.slot_tuple_getitem (wpAny_call_entry PyProof.Rows.slot_tuple_getitem ht.typeIs entry_tuple_getitem ?_ (args_tuple_getitem _ _)))
  show wpAny _ _ (Builtin.Tuple.tupleItemsOf (.ref t) >>= _) _ _ s
  refine wpAny_bind (tupleItemsOf_ ht (wpAny_bind (wpAny_typeOf tS ?_)))
  rw [if_pos (by decide)]
  have app : ∀ {Q' : Int × Int × Nat → Shared → Prop} {E' : Value → Shared → Prop} {A' : Around}, Q' ((items.size : Int) - 1, -1, items.size) s → wpAny (model prog w) A' (Builtin.Slice.sliceApplied (.ref sl) (pure (items.size : Int))) Q' E' s := fun {Q' E' A'} hq => by
    unfold Builtin.Slice.sliceApplied Builtin.Slice.sliceFields
    refine wpAny_bind (wpAny_bind (wpAny_field hos hds (x := vl) rfl (wpAny_bind (wpAny_field hos hds (x := vu) rfl (wpAny_bind (wpAny_field hos hds (x := vs) rfl (wpAny_pure ?_)))))))
    refine wpAny_bind (HT.slicePart_ ps ?_)
    show wpAny _ _ (if ((-1 : Int) == 0) = true then _ else _) _ _ s
    rw [if_neg (by decide)]
    refine wpAny_bind (HT.slicePart_ pl (wpAny_bind (HT.slicePart_ pu (wpAny_bind (wpAny_pure ?_)))))
    show wpAny _ _ (match Builtin.Slice.sliceAdjust none none (-1) (items.size : Int) with | (lo, hi) => pure (lo, (-1 : Int), Builtin.Slice.slicePlaces lo hi (-1))) _ _ s
    rw [(backPlaces items.size).1]
    show wpAny _ _ (pure ((items.size : Int) - 1, (-1 : Int), Builtin.Slice.slicePlaces ((items.size : Int) - 1) (-1) (-1))) _ _ s
    rw [(backPlaces items.size).2]
    exact wpAny_pure hq
  refine wpAny_bind (app ?_)
  have no : ¬ ((((items.size : Int) - 1) == 0 && (-1 : Int) == 1 && items.size == items.size) = true) := by
    intro q
    rw [Bool.and_eq_true, Bool.and_eq_true] at q
    exact absurd q.1.2 (by decide)
  show wpAny _ _ (if (((items.size : Int) - 1) == 0 && (-1 : Int) == 1 && items.size == items.size) = true then _ else _) _ _ s
  rw [if_neg no]
  rw [backPick]
  first
    | exact wpAny_bind (m := Builtin.Tuple.tupleExact _) (wpAny_newObj_type (wpAny_pure ⟨_, rfl, wpAny_pure h⟩) fits)
    | exact wpAny_bind (m := Builtin.Tuple.tupleExact _) (wpAny_newObj_type (wpAny_bind (wpAny_pure (wpAny_pure ⟨_, rfl, wpAny_pure h⟩))) fits)
    | exact wpAny_bind (wpAny_bind (m := Builtin.Tuple.tupleExact _) (wpAny_newObj_type (wpAny_pure (wpAny_pure ⟨_, rfl, wpAny_pure h⟩)) fits))
    | exact wpAny_bind (wpAny_bind (m := Builtin.Tuple.tupleExact _) (wpAny_newObj_type (wpAny_pure ⟨_, rfl, wpAny_pure h⟩) fits))
end
def tBackT (K : Frag) (te : TE) : TE := fun σ H Q => te σ H fun x H1 => ∃ a xs, x = .ref a ∧ SqT K H1 a xs ∧ ∀ p, H1 p = none → Q (.ref p) (upd H1 p (.tup xs.reverse))
section
variable {X : Cx} {W : WX} {e : Expr} {m : ME} {te : TE} {k : Nat} {p1 p2 p3 pos : Pos}
theorem pe_backT (he : PE X e te) : PE X (.Subscript e (.Slice none none (some (.UnaryOp .USub (.Constant (.int 1) k p1) p2)) p3) pos) (tBackT X.K te) := by
  refine ⟨fun pins s σ H Q I hw => ?_⟩
  refine Subscript_ (thn (he.run pins s σ H _ I hw) fun v s1 hh => ?_)
  obtain ⟨x, H1, I1, r1, a, xs, ex, hx, q⟩ := hh
  subst ex
  cases r1
  have stp : PO X (some (.UnaryOp .USub (.Constant (.int 1) k p1) p2)) (tPart (tUn (rU fun i => .int (-i)) (tC (.int 1)))) := po_some (pe_un un_neg pe_int)
  refine wpAny_Slice (thn (po_none.run pins s1 σ H1 (fun o H2 => o = none ∧ H2 = H1) I1 ⟨rfl, rfl⟩) fun vl s2 hh => ?_)
  obtain ⟨l, H2, I2, pl, el, e2⟩ := hh
  subst el e2
  refine thn (po_none.run pins s2 σ H2 (fun o H3 => o = none ∧ H3 = H2) I2 ⟨rfl, rfl⟩) fun vu s3 hh => ?_
  obtain ⟨u, H3, I3, pu, eu, e3⟩ := hh
  subst eu e3
  refine thn (stp.run pins s3 σ H3 (fun o H4 => o = some (-1) ∧ H4 = H3) I3 ⟨1, rfl, -1, rfl, rfl, rfl⟩) fun vs s4 hh => ?_
  obtain ⟨o, H4, I4, ps, eo, e4⟩ := hh
  subst eo e4
  have I5 : Inv X pins σ H4 { s4 with heap := s4.heap.push { cls := .type "slice", data := .fields #[vl, vu, vs] } } := I4.kept (t' := s4.toks) fun b ob q => Heap.get?_push_of_some _ q
  obtain ⟨its, r, ht, hz⟩ := I5.tuple hx
  have hlen := r.length
  show wpAny (model X.prog X.w) X.A (subscriptTail e (.Slice none none (some (.UnaryOp .USub (.Constant (.int 1) k p1) p2)) p3) (.ref a) (.ref s4.heap.objs.size)) (EP X pins σ Q) X.xe { s4 with heap := s4.heap.push { cls := .type "slice", data := .fields #[vl, vu, vs] } }
  refine tail_any (ops := [.ref a, .ref s4.heap.objs.size]) ht.typeIs (PyProof.Rows.slot_tuple_getitem.lookup) ?_ (by with_unfolding_all rfl)
  refine backSlice ht (Heap.IsSliceOf.new _ vl vu vs) pl pu ps ?_ (by rw [List.size_toArray]; omega)
  refine ⟨.ref _, _, I5.laid (t' := s4.toks) (o := .tup xs.reverse) (fun b ob q => Heap.get?_push_of_some _ q) (Nat.le_refl _) ?_, rfl, q _ (I5.hok.fresh (Nat.le_refl _))⟩
  exact ⟨by rw [List.length_reverse]; exact hz, its.reverse, r.reverse, ⟨_, Heap.get?_push_size _ rfl, rfl, _, rfl⟩⟩
def mBack (m : ME) : ME := fun ρ S => (m ρ S).bind fun x S1 => match x with
  | .tup ds => .ok (.tup ds.reverse) S1
  | _ => .bad
end
end Dm
-- text DmEnd
namespace Dm
open PySem L2 PySem.Spec PyProof.Rows
open PySem.W (Frag)
theorem d_fold {X : Cx} {W : WX} {e : Expr} {m : ME} {d : D} (h : DE X W e m) (hm : ∀ ρ S, m ρ S = .ok d S) : DE X W e (mK d) := by
  have q : m = mK d := funext fun ρ => funext fun S => hm ρ S
  rw [← q]; exact h
def LawTrue (m : List D → Sto → Res D) : Prop := ∀ ns : List Int, ns.length ≤ 63 → ∃ S', m [.lst (ns.map .int)] [] = .ok (.bl true) S'
def spLaw (K : Frag) : Sp := fun vs H Q _ => ∃ (a : Addr) (ns : List Int), vs = [.ref a] ∧ SqL K H a (ns.map V.int) ∧ ns.length ≤ 63 ∧ ∀ H', Q (.bl true) H'
section
variable {P : Program} {w : World} {K : Frag} {mg : Str → Option Value} {base : Heap}
theorem rds_ints {F : Fx} {μ : List Addr} {H : Hp} : ∀ ns : List Int, RDs F μ H (ns.map V.int) (ns.map D.int)
  | [] => .nil
  | n :: ns => .cons (.int n) (rds_ints ns)
theorem cx_no {P : Program} {w : World} {H : Hp} {s s' : Shared} {e : Value} (z : L2.CX P w [] H s (fun _ _ _ => False) e s') : False := by
  obtain ⟨_, _, _, _, _, _, _, _, _, _, _, _, z⟩ := z
  exact z
end
end Dm
-- text DmMore
namespace Dm
open PySem L2
open PySem.W (Frag)
section
variable {X : Cx} {W : WX} {tg e a b c : Expr} {es : List Expr} {ma mb mc m : ME} {pos p p1 p2 p3 : Pos}
/-! ### a list some times -/
def mRepL (a : MA) (b : ME) : MA := fun ρ S => (a ρ S).bind fun xs S1 => (b ρ S1).bind fun y S2 => match y with
  | .int k => if k < 1000000 ∧ xs.length * k.toNat ≤ 16777216 ∧ -1000000 < k then .ok (List.replicate k.toNat xs).flatten S2 else .bad
  | _ => .bad
/-! ### a comprehension that is kept by a name -/
abbrev RdL (X : Cx) (W : WX) (te : TE) (mr : MA) : Prop := ∀ ξ μ σ H ρ S Q, RG (fx X ξ) μ H σ ρ → RS (fx X ξ) μ H S → WL' (fx X ξ) (mr ρ S) Q (fun cls dd H' => W cls dd σ H') μ H → te σ H Q
abbrev RdE (X : Cx) (W : WX) (te : TE) (m : ME) : Prop := ∀ ξ μ σ H ρ S Q, RG (fx X ξ) μ H σ ρ → RS (fx X ξ) μ H S → WE' (fx X ξ) (m ρ S) Q (fun cls dd H' => W cls dd σ H') μ H → te σ H Q
theorem rd_fz {te : TE} {mr : MA} (k : RdL X W te mr) : RdE X W te (mFz mr) := by
  intro ξ μ σ H ρ S Q g s h
  refine k ξ μ σ H ρ S Q g s ?_
  unfold mFz at h
  cases e : mr ρ S with
  | bad => rw [e] at h; exact h.elim
  | exc c fs S' => rw [e] at h; exact h
  | ok ds S' =>
    rw [e] at h
    exact fun q xs μ' H' u' hq s' r' e' => h _ μ' H' u' s'.free (.lst (.inl ⟨.inl e', (s'.xi q List.mem_cons_self).1, s.outX hq⟩) (r'.mv .free))
/-- .. the ways to keep it: as it is, or as a cell -/
theorem ds_setLc {mr : MA} (i : Nat) {y : Str} {py spos : Pos} {elt : Expr} {ifs : List Expr} {scope : Scope} {own : List (Str × Nat)} {f : D → Rho → Option Rho} {is : List Nat} {mt me : ME} {mw : MA → ME} (hw : ∀ {te : TE} {mr : MA}, RdL X W te mr → RdE X W te (mw mr)) (hc : X.calm = true) (hN : X.N.Nodup) (hi : DI X W tg e mr) (ok : BlkOk X.N X.env.scope scope own)
    (hg : ∀ (s : Shared) (H : Hp) (C : Addr) (cl : List (Str × Addr)) (fp : List Addr), DG (X.blk s H scope (compEnvC scope cl C X.env) fp) tg f is)
    (ht : ∀ (s : Shared) (H : Hp) (C : Addr) (cl : List (Str × Addr)) (fp : List Addr), DTs (X.blk s H scope (compEnvC scope cl C X.env) fp) W0 ifs mt)
    (he : ∀ (s : Shared) (H : Hp) (C : Addr) (cl : List (Str × Addr)) (fp : List Addr), DE (X.blk s H scope (compEnvC scope cl C X.env) fp) W0 elt me)
    (hv : ∀ i ∈ is, i ∈ own.map (·.2) := by decide) (hy : X.N[i]? = some y := by rfl) (hyl : X.env.scope.names.lookup y = some .local := by rfl)
    (hsw : swapsWith (.ListComp elt [⟨tg, e, ifs, 0⟩] scope pos) (some (.Name y py)) spos.line X.env = pure true := by rfl) (hs : ∀ x, foldedSetIterable e X.env x = pure x := by intro _; rfl) :
    DS X W (.Assign [.Name y py] (.ListComp elt [⟨tg, e, ifs, 0⟩] scope pos) spos) (mAsg i (mw (mLc mr f mt me (own.map (·.2))))) := by
  obtain ⟨wi, pi, ki⟩ := hi
  obtain ⟨tg', pg, kg⟩ := dg_all (Xf := blkOf X scope) (K := X.K) (mg := X.mg) (fun _ => rfl) (fun _ => rfl) fun i => hg i.1 i.2.1 i.2.2.1 i.2.2.2.1 i.2.2.2.2
  obtain ⟨tt, pt, kt⟩ := dts_all (Xf := blkOf X scope) (K := X.K) (mg := X.mg) (fun _ => rfl) (fun _ => rfl) fun i => ht i.1 i.2.1 i.2.2.1 i.2.2.2.1 i.2.2.2.2
  obtain ⟨te, pe, ke⟩ := de_all (Xf := blkOf X scope) (K := X.K) (mg := X.mg) (fun _ => rfl) (fun _ => rfl) fun i => he i.1 i.2.1 i.2.2.1 i.2.2.2.1 i.2.2.2.2
  have rd : RdL X W (tLc wi tg' tt te (own.map (·.2))) (mLc mr f mt me (own.map (·.2))) := fun ξ μ σ H ρ S Q g s h => lc_read (fun R => ki ξ μ σ H ρ S R g s) kg kt ke hv g s h
  refine ⟨_, ps_setLc (i := i) hc hN hy hyl hsw pi ok (fun s H C cl fp => pg (s, H, C, cl, fp)) (fun s H C cl fp => pt (s, H, C, cl, fp)) (fun s H C cl fp => pe (s, H, C, cl, fp)) hs, fun ξ μ σ H ρ S D g s h => ?_⟩
  exact hw rd ξ μ σ H ρ S _ g s (WS'.bind g h fun x S1 v μ1 H1 u1 s1 r1 h1 => h1 _ μ1 H1 .refl s1 ((g.up u1).set i r1))
/-! ### a kept list and a new one behind it -/
def mCatC (a : ME) (b : MA) : MA := fun ρ S => (a ρ S).bind fun x S1 => (b ρ S1).bind fun ys S2 => match x with
  | .cell n => match S2[n]? with
    | some (.lst xs) => if xs.length + ys.length ≤ 16777216 then .ok (xs ++ ys) S2 else .bad
    | _ => .bad
  | _ => .bad
end
end Dm
-- text DmCat
namespace Dm
open PySem L2 PySem.Spec PyProof.Rows
open PySem.W (Frag)
section
variable {X : Cx} {W : WX} {tg e a b c : Expr} {es : List Expr} {ma mb mc m : ME} {pos p p1 p2 p3 : Pos}
def rCatB (K : Frag) : R2 := fun x y H Q => ∃ l b xs zs, x = .ref l ∧ y = .ref b ∧ SqL K H l xs ∧ SqL K H b zs ∧ xs.length + zs.length ≤ sizeLine ∧ ∀ p, H p = none → Q (.ref p) (upd H p (.lst (xs ++ zs)))
theorem op_catB : OpR X (binaryOp .Add) (rCatB X.K) := by
  intro pins s σ H x y v u Q I rx ry h
  obtain ⟨l, b, xs, zs, rfl, rfl, hl, hb, hz, q⟩ := h
  cases rx
  cases ry
  obtain ⟨its, r, ⟨o, n, ho, hc, hd, hs⟩, z⟩ := I.list hl
  obtain ⟨its2, r2, ⟨o2, n2, ho2, hc2, hd2, hs2⟩, z2⟩ := I.list hb
  obtain ⟨cls, dd, data, sl⟩ := o
  obtain ⟨cls2, dd2, data2, sl2⟩ := o2
  simp only at hc hd hs hc2 hd2 hs2
  subst hc hd hs hc2 hd2 hs2
  have ea : its.toArray ++ its2.toArray = (its ++ its2).toArray := by simp
  refine concat_meets ⟨_, ho, rfl⟩ ⟨_, ho2, rfl⟩ noFill_list_add seq_list_add PySem.F.slot_list_add PySem.F.entry_list_add (PySem.F.args_list_add_2 _ _) (list_addW l b its.toArray its2.toArray n n2 none none sl sl2 (by rw [List.size_toArray, List.size_toArray, ← r.length, ← r2.length]; exact hz)) ⟨ho, ho2, ?_⟩
  rw [ea]
  exact ⟨.ref _, _, I.lnew (t' := s.toks) (r.append r2) (by rw [List.length_append]; exact hz), rfl, q _ I.fresh⟩
/-- a list that stands somewhere and a new one behind it -/
def mCatV (a : ME) (b : MA) : MA := fun ρ S => (a ρ S).bind fun x S1 => (b ρ S1).bind fun ys S2 => match lstOf S2 x with
  | some xs => if xs.length + ys.length ≤ 16777216 then .ok (xs ++ ys) S2 else .bad
  | none => .bad
theorem dl_catV {nb : MA} (ha : DE X W a ma) (hb : DL X W b nb) : DL X W (.BinOp a .Add b pos) (mCatV ma nb) := by
  obtain ⟨ta, pa, ka⟩ := ha
  obtain ⟨tb, pb, kb⟩ := hb
  refine ⟨_, pe_op op_catB pa pb, fun ξ μ σ H ρ S Q g s h => ka ξ μ σ H ρ S _ g s (WL'.bind h fun x S1 v μ1 H1 u1 s1 r1 h1 => ?_)⟩
  refine kb ξ μ1 σ H1 ρ S1 _ (g.up u1) s1 (WL'.bindL h1 fun es S2 q ys μ2 H2 u2 hq s2 r2 e2 h2 => ?_)
  cases c : lstOf S2 x with
  | none => simp only [c] at h2; exact h2.elim
  | some ds =>
    simp only [c] at h2
    have ss : RS (fx X ξ) μ2 H2 S2 := RS.free (F := fx X ξ) (p := q) s2
    obtain ⟨l, xs, rfl, h4, r3⟩ := RD.lstS ss (r1.up u2) c
    by_cases l : ds.length + es.length ≤ 16777216
    · rw [if_pos l] at h2
      refine ⟨_, q, xs, ys, rfl, rfl, h4, SqL.of e2, by rw [r3.length, r2.length, sizeLine_eq]; exact l, fun r hr => ?_⟩
      have rr : RDs (fx X ξ) μ2 H2 (xs ++ ys) (ds ++ es) := RDs.append r3 (RDs.free (F := fx X ξ) (p := q) _ r2)
      exact h2 r _ μ2 _ (.fresh hr) hr (ss.holds hr) (rr.mv (.holds hr)) upd_same
    · rw [if_neg l] at h2
      exact h2.elim
end
end Dm
-- text DmAll

-- text Hw
namespace Dm
open PySem L2
noncomputable section
def m_is_integer : List D → Sto → Res D := mDef 1 1 (mRet (mAnd (mIsi .int (mVar 0)) (mNot (mIsi .bl (mVar 0)))))
def m_is_zone : List D → Sto → Res D := mDef 1 5 (mSeq (mIfS (mOr (mNot (mIsi .tup (mVar 0))) (mOp gNe (mCallB gLen (mCons (mVar 0) mNil)) (mK (.int 2)))) (mRet (mK (.bl false))) mNop) (mSeq (mAsgG (tgT 2 (tgCons (tgN 1) (tgCons (tgN 2) tgNil))) (mVar 0)) (mSeq (mIfS (mOr (mNot (mIsi .tup (mVar 1))) (mNot (mChain gLe gLe (mK (.int 1)) (mCallB gLen (mCons (mVar 1) mNil)) (mK (.int 3))))) (mRet (mK (.bl false))) mNop) (mSeq (mFor (iSeq (mVar 1)) (tgN 3) (mIfS (mOr (mNot (mCall m_is_integer (mCons (mVar 3) mNil))) (mNot (mChain gLe gLe (mUn gNeg (mK (.int 900))) (mVar 3) (mK (.int 900))))) (mRet (mK (.bl false))) mNop)) (mSeq (mFor (iRange2 (mCons (mK (.int 1)) (mCons (mCallB gLen (mCons (mVar 1) mNil)) mNil))) (tgN 4) (mIfS (mOp gLe (mOp gIx (mVar 1) (mVar 4)) (mOp gIx (mVar 1) (mOp gSub (mVar 4) (mK (.int 1))))) (mRet (mK (.bl false))) mNop)) (mRet (mAnd (mCall m_is_integer (mCons (mVar 2) mNil)) (mChain gLt gLe (mOp gSub (mOp gIx (mVar 1) (mK (.int (-1)))) (mOp gIx (mVar 1) (mK (.int 0)))) (mVar 2) (mK (.int 1000000))))))))))
def m_need_zone : List D → Sto → Res D := mDef 1 1 (mIfS (mNot (mCall m_is_zone (mCons (mVar 0) mNil))) (mRaise "InvalidZone") mNop)
def m_need_number : List D → Sto → Res D := mDef 1 1 (mIfS (mNot (mCall m_is_integer (mCons (mVar 0) mNil))) (mRaise "InvalidNumber") mNop)
def m_is_offset : List D → Sto → Res D := mDef 2 2 (mRet (mAnd (mCall m_is_integer (mCons (mVar 1) mNil)) (mOp (gIn false) (mVar 1) (mOp gIx (mVar 0) (mK (.int 0))))))
def m_is_mark : List D → Sto → Res D := mDef 2 2 (mRet (mAnd (mIsi .tup (mVar 1)) (mAnd (mOp gEq (mCallB gLen (mCons (mVar 1) mNil)) (mK (.int 2))) (mAnd (mCall m_is_integer (mCons (mOp gIx (mVar 1) (mK (.int 0))) mNil)) (mCall m_is_offset (mCons (mVar 0) (mCons (mOp gIx (mVar 1) (mK (.int 1))) mNil)))))))
def m_is_table : List D → Sto → Res D := mDef 2 6 (mSeq (mDrop (mCall m_need_zone (mCons (mVar 0) mNil))) (mSeq (mIfS (mOr (mNot (mIsi .tup (mVar 1))) (mOr (mOp gNe (mCallB gLen (mCons (mVar 1) mNil)) (mK (.int 2))) (mNot (mCall m_is_offset (mCons (mVar 0) (mCons (mOp gIx (mVar 1) (mK (.int 0))) mNil)))))) (mRet (mK (.bl false))) mNop) (mSeq (mAsgG (tgT 2 (tgCons (tgN 2) (tgCons (tgN 3) tgNil))) (mVar 1)) (mSeq (mIfS (mNot (mIsi .tup (mVar 3))) (mRet (mK (.bl false))) mNop) (mSeq (mFor (iEnumS (mVar 3)) (tgT 2 (tgCons (tgN 4) (tgCons (tgN 5) tgNil))) (mSeq (mIfS (mOr (mNot (mCall m_is_mark (mCons (mVar 0) (mCons (mVar 5) mNil)))) (mOp gEq (mOp gIx (mVar 5) (mK (.int 1))) (mVar 2))) (mRet (mK (.bl false))) mNop) (mSeq (mIfS (mAnd (mOp gGt (mVar 4) (mK (.int 0))) (mOp gLt (mOp gSub (mOp gIx (mVar 5) (mK (.int 0))) (mOp gIx (mOp gIx (mVar 3) (mOp gSub (mVar 4) (mK (.int 1)))) (mK (.int 0)))) (mOp gIx (mVar 0) (mK (.int 1))))) (mRet (mK (.bl false))) mNop) (mAsg 2 (mOp gIx (mVar 5) (mK (.int 1))))))) (mRet (mK (.bl true))))))))
def m_need_table : List D → Sto → Res D := mDef 2 2 (mIfS (mNot (mCall m_is_table (mCons (mVar 0) (mCons (mVar 1) mNil)))) (mRaise "InvalidTable") mNop)
def m_law_whole : List D → Sto → Res D := mDef 1 1 (mRet (mAnd (mIsi .int (mVar 0)) (mNot (mIsi .bl (mVar 0)))))
def m_law_same : Nat → List D → Sto → Res D
  | 0 => fun _ _ => .bad
  | n + 1 => mDef 2 3 (mSeq (mIfS (mIsiT [.tup, .lst] (mVar 1)) (mSeq (mIfS (mOr (mNot (mIsiT [.tup, .lst] (mVar 0))) (mOp gNe (mIsi .lst (mVar 0)) (mIsi .lst (mVar 1)))) (mRet (mK (.bl false))) mNop) (mRet (mAnd (mOp gEq (mCallB gLen (mCons (mVar 0) mNil)) (mCallB gLen (mCons (mVar 1) mNil))) (mCallB gAll (mCons (mFz (mLc (iRange1 (mCons (mCallB gLen (mCons (mVar 1) mNil)) mNil)) (tgN 2) mYes (mCall (m_law_same n) (mCons (mOp gIx (mVar 0) (mVar 2)) (mCons (mOp gIx (mVar 1) (mVar 2)) mNil))) [2])) mNil))))) mNop) (mSeq (mIfS (mOp (gIsN false) (mVar 1) (mK .non)) (mRet (mOp (gIsN false) (mVar 0) (mK .non))) mNop) (mSeq (mIfS (mIsi .bl (mVar 1)) (mRet (mAnd (mIsi .bl (mVar 0)) (mOp gEq (mVar 0) (mVar 1)))) mNop) (mSeq (mIfS (mIsi .int (mVar 1)) (mRet (mAnd (mCall m_law_whole (mCons (mVar 0) mNil)) (mOp gEq (mVar 0) (mVar 1)))) mNop) (mSeq (mIfS (mIsi .str (mVar 1)) (mRet (mAnd (mIsi .str (mVar 0)) (mOp gEq (mVar 0) (mVar 1)))) mNop) (mRet (mAnd (mNot (mIsiT [.tup, .lst, .int, .str] (mVar 0))) (mOp (gIsN true) (mVar 0) (mK .non)))))))))
end
end Dm
-- text DmSort
namespace Dm
open PySem L2 PySem.Spec PyProof.Rows
open PySem.W (Frag)
/-! ### sorted of ints, of pairs of ints -/
def insP (x : Int × Int) : List (Int × Int) → List (Int × Int)
  | [] => [x]
  | y :: r => if SrtO.lexB y x then y :: insP x r else x :: y :: r
def srtP : List (Int × Int) → List (Int × Int)
  | [] => []
  | x :: r => insP x (srtP r)
def insN (x : Int) : List Int → List Int
  | [] => [x]
  | y :: r => if y < x then y :: insN x r else x :: y :: r
def srtN : List Int → List Int
  | [] => []
  | x :: r => insN x (srtN r)
theorem IsPair.inj {h : Heap} {v : Value} {x y x' y' : Int} (a : Srt.IsPair h v x y) (b : Srt.IsPair h v x' y') : x = x' ∧ y = y' := by
  obtain ⟨a1, o, t, u, n, rfl, e1, e2, e3⟩ := a
  obtain ⟨a2, o', t', u', n', e0, f1, f2, f3⟩ := b
  cases e0
  rw [e1] at f1; cases f1
  rw [e3] at f3
  cases f3
  exact ⟨rfl, rfl⟩
section
variable {X : Cx}
def intsOf : List D → Option (List Int)
  | [] => some []
  | .int i :: ds => (intsOf ds).map (i :: ·)
  | _ :: _ => none
def pairsOf : List D → Option (List (Int × Int))
  | [] => some []
  | .tup [.int i, .int j] :: ds => (pairsOf ds).map ((i, j) :: ·)
  | _ :: _ => none
def prD (p : Int × Int) : D := .tup [.int p.1, .int p.2]
@[simp] theorem intsOf_map {ns : List Int} : intsOf (ns.map .int) = some ns := by
  induction ns with
  | nil => rfl
  | cons n ns ih => rw [List.map_cons]; show (intsOf _).map _ = _; rw [ih] <;> rfl
@[simp] theorem pairsOf_map {ps : List (Int × Int)} : pairsOf (ps.map prD) = some ps := by
  induction ps with
  | nil => rfl
  | cons n ns ih => rw [List.map_cons]; show (pairsOf _).map _ = _; rw [ih] <;> rfl
def sortD (ds : List D) : Option (List D) := match intsOf ds with
  | some ns => some ((srtN ns).map .int)
  | none => (pairsOf ds).map fun ps => (srtP ps).map prD
def gSort : Sto → List D → Option (List D) := fun S ds => match ds with
  | [d] => (lstOf S d).bind sortD
  | _ => none
theorem CallR.or {f : Value} {r r' : List V → Hp → VK → Prop} (h : CallR X f r) (h' : CallR X f r') : CallR X f (fun vs H Q => r vs H Q ∨ r' vs H Q) := by
  intro pins s σ H vs us Q I rv z
  rcases z with z | z
  · exact h pins s σ H vs us Q I rv z
  · exact h' pins s σ H vs us Q I rv z
end
@[simp] theorem gSort_ints {S : Sto} {d : D} {ns : List Int} (h : lstOf S d = some (ns.map .int)) : gSort S [d] = some ((srtN ns).map .int) := by
  show (lstOf S d).bind sortD = _
  rw [h]
  show sortD _ = _
  unfold sortD
  rw [intsOf_map]
end Dm
-- text DmWp
namespace Dm
open PySem L2
/-! ### what a word does -/
abbrev EX := Str → List (Str × D) → Sto → Prop
abbrev EXO := Str → List (Str × D) → Rho → Sto → Prop
def NoE : EX := fun _ _ _ => False
def NoEO : EXO := fun _ _ _ _ => False
/-- what is wished of an exception: of an expression's at these slots; of a def's body -/
def eAt (E : EXO) (ρ : Rho) : EX := fun c fs S => E c fs ρ S
def eOut (E : EX) : EXO := fun c fs _ S => E c fs S
@[simp] theorem eAt_out {E : EX} {ρ : Rho} : eAt (eOut E) ρ = E := rfl
@[simp] theorem eAt_no {ρ : Rho} : eAt NoEO ρ = NoE := rfl
@[simp] theorem eOut_no : eOut NoE = NoEO := rfl
@[simp] theorem noE_app {c : Str} {fs : List (Str × D)} {S : Sto} : NoE c fs S = False := rfl
@[simp] theorem noEO_app {c : Str} {fs : List (Str × D)} {ρ : Rho} {S : Sto} : NoEO c fs ρ S = False := rfl
def Res.DoesE {α : Type} (r : Res α) (E : EX) (Q : α → Sto → Prop) : Prop := match r with
  | .ok a S => Q a S
  | .exc c fs S => E c fs S
  | .bad => False
def Out.DoesE (o : Out) (E : EXO) (N : Rho → Sto → Prop) (R : D → Sto → Prop) (B : Rho → Sto → Prop := fun _ _ => False) (C : Rho → Sto → Prop := fun _ _ => False) : Prop := match o with
  | .nx ρ S => N ρ S
  | .rt d S => R d S
  | .bk ρ S => B ρ S
  | .ct ρ S => C ρ S
  | .exc c fs ρ S => E c fs ρ S
  | .bad => False
abbrev Res.Does {α : Type} (r : Res α) (Q : α → Sto → Prop) : Prop := r.DoesE NoE Q
abbrev Out.Does (o : Out) (N : Rho → Sto → Prop) (R : D → Sto → Prop) (B : Rho → Sto → Prop := fun _ _ => False) (C : Rho → Sto → Prop := fun _ _ => False) : Prop := o.DoesE NoEO N R B C
section
variable {α β : Type} {a : α} {S : Sto} {ρ : Rho} {Q : α → Sto → Prop} {N B C : Rho → Sto → Prop} {R : D → Sto → Prop} {E : EX} {EO : EXO}
@[simp] theorem does_ok : (Res.ok a S).DoesE E Q = Q a S := rfl
@[simp] theorem does_bind {r : Res β} {f : β → Sto → Res α} : (r.bind f).DoesE E Q = r.DoesE E fun b S => (f b S).DoesE E Q := by cases r <;> rfl
@[simp] theorem bind_ok {f : α → Sto → Res β} : (Res.ok a S).bind f = f a S := rfl
@[simp] theorem ofRes_ok {k : α → Sto → Out} : ofRes (.ok a S) ρ k = k a S := rfl
@[simp] theorem does_ofRes {r : Res α} {k : α → Sto → Out} : (ofRes r ρ k).DoesE EO N R B C = r.DoesE (eAt EO ρ) fun a S => (k a S).DoesE EO N R B C := by cases r <;> rfl
@[simp] theorem does_nx : (Out.nx ρ S).DoesE EO N R B C = N ρ S := rfl
@[simp] theorem does_rt {d : D} : (Out.rt d S).DoesE EO N R B C = R d S := rfl
@[simp] theorem does_bk : (Out.bk ρ S).DoesE EO N R B C = B ρ S := rfl
@[simp] theorem does_ct : (Out.ct ρ S).DoesE EO N R B C = C ρ S := rfl
theorem Res.DoesE.mono {r : Res α} {Q Q' : α → Sto → Prop} (h : r.DoesE E Q) (k : ∀ a S, Q a S → Q' a S) : r.DoesE E Q' := by
  cases r with
  | ok a S => exact k a S h
  | _ => exact h
theorem Res.DoesE.monoE {r : Res α} {E' : EX} {Q Q' : α → Sto → Prop} (h : r.DoesE E Q) (e : ∀ c fs S, E c fs S → E' c fs S) (k : ∀ a S, Q a S → Q' a S) : r.DoesE E' Q' := by
  cases r with
  | ok a S => exact k a S h
  | exc c fs S => exact e _ _ _ h
  | bad => exact h
theorem Res.DoesE.toE {r : Res α} {Q : α → Sto → Prop} (h : r.DoesE NoE Q) : r.DoesE E Q := h.monoE (fun _ _ _ z => z.elim) fun _ _ z => z
theorem Res.Does.toE {r : Res α} {Q : α → Sto → Prop} (h : r.Does Q) : r.DoesE E Q := Res.DoesE.toE h
theorem Res.Does.mono {r : Res α} {Q Q' : α → Sto → Prop} (h : r.Does Q) (k : ∀ a S, Q a S → Q' a S) : r.Does Q' := Res.DoesE.mono h k
theorem Res.DoesE.eq {r : Res α} {Q : α → Sto → Prop} (h : r.DoesE NoE Q) : ∃ a S, r = .ok a S ∧ Q a S := by
  cases r with
  | ok a S => exact ⟨a, S, rfl, h⟩
  | _ => exact h.elim
theorem Res.Does.eq {r : Res α} {Q : α → Sto → Prop} (h : r.Does Q) : ∃ a S, r = .ok a S ∧ Q a S := Res.DoesE.eq h
theorem Out.DoesE.mono {o : Out} {N' B' C' : Rho → Sto → Prop} {R' : D → Sto → Prop} (h : o.DoesE EO N R B C) (hN : ∀ ρ S, N ρ S → N' ρ S) (hR : ∀ d S, R d S → R' d S) (hB : ∀ ρ S, B ρ S → B' ρ S) (hC : ∀ ρ S, C ρ S → C' ρ S) : o.DoesE EO N' R' B' C' := by
  cases o with
  | nx ρ S => exact hN _ _ h
  | rt d S => exact hR _ _ h
  | bk ρ S => exact hB _ _ h
  | ct ρ S => exact hC _ _ h
  | _ => exact h
theorem Out.Does.mono {o : Out} {N' B' C' : Rho → Sto → Prop} {R' : D → Sto → Prop} (h : o.Does N R B C) (hN : ∀ ρ S, N ρ S → N' ρ S) (hR : ∀ d S, R d S → R' d S) (hB : ∀ ρ S, B ρ S → B' ρ S) (hC : ∀ ρ S, C ρ S → C' ρ S) : o.Does N' R' B' C' := Out.DoesE.mono h hN hR hB hC
end
section
variable {S : Sto} {ρ : Rho} {Q : D → Sto → Prop} {N B C : Rho → Sto → Prop} {R : D → Sto → Prop} {E : EX} {EO : EXO}
@[simp] theorem does_seq {a b : MS} : (mSeq a b ρ S).DoesE EO N R B C = (a ρ S).DoesE EO (fun ρ S => (b ρ S).DoesE EO N R B C) R B C := by
  unfold mSeq
  cases a ρ S <;> rfl
@[simp] theorem does_asg {i : Nat} {m : ME} : (mAsg i m ρ S).DoesE EO N R B C = (m ρ S).DoesE (eAt EO ρ) fun d S => N (ρ.set i (some d)) S := by
  unfold mAsg
  rw [does_ofRes] <;> rfl
@[simp] theorem does_ret {m : ME} : (mRet m ρ S).DoesE EO N R B C = (m ρ S).DoesE (eAt EO ρ) R := by
  unfold mRet
  rw [does_ofRes] <;> rfl
@[simp] theorem does_retN : (mRetN ρ S).DoesE EO N R B C = R .non S := rfl
@[simp] theorem does_drop {m : ME} : (mDrop m ρ S).DoesE EO N R B C = (m ρ S).DoesE (eAt EO ρ) fun _ S => N ρ S := by
  unfold mDrop
  rw [does_ofRes] <;> rfl
@[simp] theorem does_nop : (mNop ρ S).DoesE EO N R B C = N ρ S := rfl
@[simp] theorem does_brk : (mBrk ρ S).DoesE EO N R B C = B ρ S := rfl
@[simp] theorem does_cont : (mCont ρ S).DoesE EO N R B C = C ρ S := rfl
/-- an if by what its test says -/
def BlQ (k : Bool → Sto → Prop) : D → Sto → Prop := fun d S => match d with
  | .bl b => k b S
  | _ => False
@[simp] theorem blQ_bl {k : Bool → Sto → Prop} {b : Bool} : BlQ k (.bl b) S = k b S := rfl
@[simp] theorem does_ifS {c : ME} {a b : MS} : (mIfS c a b ρ S).DoesE EO N R B C = (c ρ S).DoesE (eAt EO ρ) (BlQ fun k S => if k = true then (a ρ S).DoesE EO N R B C else (b ρ S).DoesE EO N R B C) := by
  unfold mIfS
  rw [does_ofRes]
  congr 1
  funext d S
  cases d with
  | bl k => cases k <;> rfl
  | _ => rfl
@[simp] theorem does_var {i : Nat} : (mVar i ρ S).DoesE E Q = match ρ[i]? with
    | some (some d) => Q d S
    | _ => False := by
  unfold mVar
  cases ρ[i]? with
  | none => rfl
  | some o => cases o <;> rfl
@[simp] theorem does_k {d : D} : (mK d ρ S).DoesE E Q = Q d S := rfl
@[simp] theorem var_eq {i : Nat} : mVar i ρ S = match ρ[i]? with
    | some (some d) => .ok d S
    | _ => .bad := rfl
@[simp] theorem k_eq {d : D} : mK d ρ S = .ok d S := rfl
def OptQ (o : Option D) (k : D → Prop) : Prop := match o with
  | some d => k d
  | none => False
@[simp] theorem optQ_some {d : D} {k : D → Prop} : OptQ (some d) k = k d := rfl
@[simp] theorem does_op {g : Sto → D → D → Option D} {a b : ME} : (mOp g a b ρ S).DoesE E Q = (a ρ S).DoesE E fun x S1 => (b ρ S1).DoesE E fun y S2 => OptQ (g S2 x y) fun z => Q z S2 := by
  unfold mOp
  rw [does_bind]
  congr 1
  funext x S1
  rw [does_bind]
  congr 1
  funext y S2
  cases g S2 x y <;> rfl
@[simp] theorem does_un {g : Sto → D → Option D} {a : ME} : (mUn g a ρ S).DoesE E Q = (a ρ S).DoesE E fun x S1 => OptQ (g S1 x) fun z => Q z S1 := by
  unfold mUn
  rw [does_bind]
  congr 1
  funext x S1
  cases g S1 x <;> rfl
@[simp] theorem does_and {a b : ME} : (mAnd a b ρ S).DoesE E Q = (a ρ S).DoesE E (BlQ fun k S1 => if k = true then (b ρ S1).DoesE E Q else Q (.bl false) S1) := by
  unfold mAnd
  rw [does_bind]
  congr 1
  funext d S
  cases d with
  | bl k => cases k <;> rfl
  | _ => rfl
@[simp] theorem does_or {a b : ME} : (mOr a b ρ S).DoesE E Q = (a ρ S).DoesE E (BlQ fun k S1 => if k = true then Q (.bl true) S1 else (b ρ S1).DoesE E Q) := by
  unfold mOr
  rw [does_bind]
  congr 1
  funext d S
  cases d with
  | bl k => cases k <;> rfl
  | _ => rfl
@[simp] theorem does_not {a : ME} : (mNot a ρ S).DoesE E Q = (a ρ S).DoesE E (BlQ fun k S1 => Q (.bl (!k)) S1) := by
  unfold mNot
  rw [does_bind]
  congr 1
  funext d S
  cases d <;> rfl
@[simp] theorem does_if {c a b : ME} : (mIf c a b ρ S).DoesE E Q = (c ρ S).DoesE E (BlQ fun k S1 => if k = true then (a ρ S1).DoesE E Q else (b ρ S1).DoesE E Q) := by
  unfold mIf
  rw [does_bind]
  congr 1
  funext d S
  cases d with
  | bl k => cases k <;> rfl
  | _ => rfl
@[simp] theorem does_nil {Q : List D → Sto → Prop} : (mNil ρ S).DoesE E Q = Q [] S := rfl
@[simp] theorem does_cons {a : ME} {r : MA} {Q : List D → Sto → Prop} : (mCons a r ρ S).DoesE E Q = (a ρ S).DoesE E fun x S1 => (r ρ S1).DoesE E fun xs S2 => Q (x :: xs) S2 := by
  unfold mCons
  rw [does_bind]
  congr 1
  funext x S1
  rw [does_bind] <;> rfl
@[simp] theorem does_tup {a : MA} : (mTup a ρ S).DoesE E Q = (a ρ S).DoesE E fun xs S1 => xs.length ≤ 16777216 ∧ Q (.tup xs) S1 := by
  unfold mTup
  rw [does_bind]
  congr 1
  funext xs S1
  by_cases h : xs.length ≤ 16777216
  · rw [if_pos h]; simp [h]
  · rw [if_neg h]; simp [h, Res.DoesE]
@[simp] theorem does_lst {a : MA} {Q : List D → Sto → Prop} : (mLst a ρ S).DoesE E Q = (a ρ S).DoesE E fun xs S1 => xs.length ≤ 16777216 ∧ Q xs S1 := by
  unfold mLst
  rw [does_bind]
  congr 1
  funext xs S1
  by_cases h : xs.length ≤ 16777216
  · rw [if_pos h]; simp [h]
  · rw [if_neg h]; simp [h, Res.DoesE]
@[simp] theorem does_fz {a : MA} : (mFz a ρ S).DoesE E Q = (a ρ S).DoesE E fun xs S1 => Q (.lst xs) S1 := by
  unfold mFz
  rw [does_bind] <;> rfl
@[simp] theorem does_new {a : MA} : (mNew a ρ S).DoesE E Q = (a ρ S).DoesE E fun xs S1 => Q (.cell S1.length) (S1 ++ [.lst xs]) := by
  unfold mNew
  rw [does_bind] <;> rfl
@[simp] theorem does_call {f : List D → Sto → Res D} {a : MA} : (mCall f a ρ S).DoesE E Q = (a ρ S).DoesE E fun xs S1 => (f xs S1).DoesE E Q := by
  unfold mCall
  rw [does_bind] <;> rfl
@[simp] theorem does_callB {g : Sto → List D → Option D} {a : MA} : (mCallB g a ρ S).DoesE E Q = (a ρ S).DoesE E fun xs S1 => OptQ (g S1 xs) fun z => Q z S1 := by
  unfold mCallB
  rw [does_bind]
  congr 1
  funext x S1
  cases g S1 x <;> rfl
@[simp] theorem does_callK {f : List D → Sto → Res D} {n q : Nat} {p : List Nat} {a k : MA} : (mCallK f n q p a k ρ S).DoesE E Q = (a ρ S).DoesE E fun xs S1 => (k ρ S1).DoesE E fun zs S2 => (xs.length = n ∧ zs.length = q) ∧ (f (p.filterMap ((xs ++ zs)[·]?)) S2).DoesE E Q := by
  unfold mCallK
  rw [does_bind]
  congr 1
  funext xs S1
  rw [does_bind]
  congr 1
  funext zs S2
  by_cases h : xs.length = n ∧ zs.length = q
  · rw [if_pos h]; simp [h]
  · rw [if_neg h]; simp [h, Res.DoesE]
@[simp] theorem does_chain {g g' : Sto → D → D → Option D} {a b c : ME} : (mChain g g' a b c ρ S).DoesE E Q = (a ρ S).DoesE E fun x S1 => (b ρ S1).DoesE E fun y S2 => OptQ (g S2 x y) fun z => BlQ (fun k S2 => if k = true then (c ρ S2).DoesE E fun w S3 => OptQ (g' S3 y w) fun z => Q z S3 else Q (.bl false) S2) z S2 := by
  unfold mChain
  rw [does_bind]
  congr 1
  funext x S1
  rw [does_bind]
  congr 1
  funext y S2
  cases g S2 x y with
  | none => rfl
  | some z =>
    cases z with
    | bl k =>
      cases k with
      | false => rfl
      | true =>
        show ((c ρ S2).bind _).DoesE E Q = _
        rw [does_bind]
        show _ = (c ρ S2).DoesE E _
        congr 1
        funext w S3
        cases g' S3 y w <;> rfl
    | _ => rfl
@[simp] theorem does_isi {T : Tn} {m : ME} : (mIsi T m ρ S).DoesE E Q = (m ρ S).DoesE E fun d S1 => OptQ ((tyOf S1 d).map fun t => .bl (isTn t T)) fun z => Q z S1 := by
  unfold mIsi
  rw [does_un]
@[simp] theorem does_isiT {T : List Tn} {m : ME} : (mIsiT T m ρ S).DoesE E Q = (m ρ S).DoesE E fun d S1 => OptQ ((tyOf S1 d).map fun t => .bl (T.any (isTn t ·))) fun z => Q z S1 := by
  unfold mIsiT
  rw [does_un]
@[simp] theorem does_asgG {f : D → Rho → Option Rho} {m : ME} : (mAsgG f m ρ S).DoesE EO N R B C = (m ρ S).DoesE (eAt EO ρ) fun d S1 => match f d ρ with
    | some ρ1 => N ρ1 S1
    | none => False := by
  unfold mAsgG
  rw [does_ofRes]
  congr 1
  funext d S1
  cases f d ρ <;> rfl
/-- a def -/
theorem does_def {np nN : Nat} {b : MS} {ds : List D} (h : ds.length = np) (hb : (b (ds.map some ++ List.replicate (nN - np) none) S).DoesE (eOut E) (fun _ S' => Q .non S') Q) : (mDef np nN b ds S).DoesE E Q := by
  unfold mDef
  rw [if_pos h]
  cases e : b (ds.map some ++ List.replicate (nN - np) none) S <;> rw [e] at hb <;> exact hb
@[simp] theorem does_for {mi : MA} {f : D → Rho → Option Rho} {mb : MS} : (mFor mi f mb ρ S).DoesE EO N R B C = (mi ρ S).DoesE (eAt EO ρ) fun ds S1 => (forL f mb ds ρ S1).DoesE EO N R B C := by
  unfold mFor
  rw [does_ofRes]
@[simp] theorem does_forL_nil {f : D → Rho → Option Rho} {mb : MS} : (forL f mb [] ρ S).DoesE EO N R B C = N ρ S := rfl
@[simp] theorem does_forL_cons {f : D → Rho → Option Rho} {mb : MS} {d : D} {r : List D} : (forL f mb (d :: r) ρ S).DoesE EO N R B C = match f d ρ with
    | none => False
    | some ρ1 => (mb ρ1 S).DoesE EO (fun ρ S => (forL f mb r ρ S).DoesE EO N R B C) R N (fun ρ S => (forL f mb r ρ S).DoesE EO N R B C) := by
  rw [forL]
  cases f d ρ with
  | none => rfl
  | some ρ1 =>
    simp only
    cases mb ρ1 S <;> rfl
/-- a loop by what holds ahead of each turn -/
theorem forL_does {f : D → Rho → Option Rho} {mb : MS} (I : List D → Rho → Sto → Prop) (step : ∀ d r ρ S, I (d :: r) ρ S → ∃ ρ1, f d ρ = some ρ1 ∧ (mb ρ1 S).DoesE EO (I r) R N (I r)) (stop : ∀ ρ S, I [] ρ S → N ρ S) :
    ∀ (ds : List D) (ρ : Rho) (S : Sto), I ds ρ S → (forL f mb ds ρ S).DoesE EO N R B C
  | [], ρ, S, h => stop ρ S h
  | d :: r, ρ, S, h => by
    obtain ⟨ρ1, e, k⟩ := step d r ρ S h
    unfold forL
    rw [e]
    simp only
    cases q : mb ρ1 S with
    | nx ρ2 S2 => rw [q] at k; exact forL_does I step stop r ρ2 S2 k
    | ct ρ2 S2 => rw [q] at k; exact forL_does I step stop r ρ2 S2 k
    | bk ρ2 S2 => rw [q] at k; exact k
    | rt d S2 => rw [q] at k; exact k
    | exc c fs ρ2 S2 => rw [q] at k; exact k
    | bad => rw [q] at k; exact k
theorem forL_cut {f : D → Rho → Option Rho} {mb : MS} (I : List D → Rho → Sto → Prop) (ds : List D) (start : I ds ρ S) (step : ∀ d r ρ S, I (d :: r) ρ S → ∃ ρ1, f d ρ = some ρ1 ∧ ∀ M : Rho → Sto → Prop, (∀ ρ S, I r ρ S → M ρ S) → (mb ρ1 S).DoesE EO M R N M) (stop : ∀ ρ S, I [] ρ S → N ρ S) :
    (forL f mb ds ρ S).DoesE EO N R B C :=
  forL_does I (fun d r ρ S h => let ⟨ρ1, e, k⟩ := step d r ρ S h; ⟨ρ1, e, k _ fun _ _ h => h⟩) stop ds ρ S start
@[simp] theorem does_iSeq {m : ME} {Q : List D → Sto → Prop} : (iSeq m ρ S).DoesE E Q = (m ρ S).DoesE E fun d S1 => match d with
    | .tup ds => Q ds S1
    | .lst ds => Q ds S1
    | _ => False := by
  unfold iSeq
  rw [does_bind]
  congr 1
  funext d S1
  cases d <;> rfl
@[simp] theorem does_iEnumS {m : ME} {Q : List D → Sto → Prop} : (iEnumS m ρ S).DoesE E Q = (m ρ S).DoesE E fun d S1 => match d with
    | .tup ds => Q (enumD ds) S1
    | .lst ds => Q (enumD ds) S1
    | _ => False := by
  unfold iEnumS
  rw [does_bind]
  congr 1
  funext d S1
  cases d <;> rfl
@[simp] theorem does_iRange1 {a : MA} {Q : List D → Sto → Prop} : (iRange1 a ρ S).DoesE E Q = (a ρ S).DoesE E fun ds S1 => match ds with
    | [.int j] => (j ≤ 16777216 ∧ -4611686018427387904 ≤ j) ∧ Q (rngD 0 j.toNat) S1
    | _ => False := by
  unfold iRange1
  rw [does_bind]
  congr 1
  funext ds S1
  split
  · rename_i j
    by_cases h : j ≤ 16777216 ∧ -4611686018427387904 ≤ j
    · rw [if_pos h]; simp [h]
    · rw [if_neg h]; simp [h, Res.DoesE]
  · rename_i h
    first
    | rfl
    | (split <;> first
      | rfl
      | (rename_i j; exact absurd rfl (h j)))
@[simp] theorem does_iRange2 {a : MA} {Q : List D → Sto → Prop} : (iRange2 a ρ S).DoesE E Q = (a ρ S).DoesE E fun ds S1 => match ds with
    | [.int i, .int j] => (-1000000000000 ≤ i ∧ i ≤ 1000000000000 ∧ -1000000000000 ≤ j ∧ j ≤ 1000000000000 ∧ j - i ≤ 16777216) ∧ Q (rngD i (j - i).toNat) S1
    | _ => False := by
  unfold iRange2
  rw [does_bind]
  congr 1
  funext ds S1
  split
  · rename_i i j
    by_cases h : -1000000000000 ≤ i ∧ i ≤ 1000000000000 ∧ -1000000000000 ≤ j ∧ j ≤ 1000000000000 ∧ j - i ≤ 16777216
    · rw [if_pos h]; simp [h]
    · rw [if_neg h]; simp [h, Res.DoesE]
  · rename_i h
    first
    | rfl
    | (split <;> first
      | rfl
      | (rename_i i j; exact absurd rfl (h i j)))
/-- what a comprehension gives -/
def LcQ (f : D → Rho → Option Rho) (mt me : ME) (ρ : Rho) (ds : List D) (S : Sto) (Q : List D → Sto → Prop) : Prop := ∃ ys S2, lcL f mt me ρ ds S = some (ys, S2) ∧ Q ys S2
@[simp] theorem lcQ_nil {f : D → Rho → Option Rho} {mt me : ME} {Q : List D → Sto → Prop} : LcQ f mt me ρ [] S Q = Q [] S := by
  refine propext ⟨?_, fun q => ⟨[], S, rfl, q⟩⟩
  rintro ⟨ys, S2, e, q⟩
  cases e
  exact q
@[simp] theorem lcQ_cons {f : D → Rho → Option Rho} {mt me : ME} {d : D} {r : List D} {Q : List D → Sto → Prop} : LcQ f mt me ρ (d :: r) S Q = match f d ρ with
    | none => False
    | some ρ1 => (mt ρ1 S).Does (BlQ fun k S1 => if k = true then (me ρ1 S1).Does fun y S2 => LcQ f mt me ρ r S2 fun ys S3 => Q (y :: ys) S3 else LcQ f mt me ρ r S1 Q) := by
  unfold LcQ
  rw [lcL]
  cases f d ρ with
  | none => simp
  | some ρ1 =>
    simp only
    cases mt ρ1 S with
    | ok v S1 =>
      cases v with
      | bl b =>
        cases b with
        | true =>
          simp only [does_ok, blQ_bl, if_true]
          cases me ρ1 S1 with
          | ok y S2 =>
            simp only [does_ok]
            cases lcL f mt me ρ r S2 with
            | none => simp
            | some z =>
              obtain ⟨ys, S3⟩ := z
              refine propext ⟨?_, ?_⟩
              · rintro ⟨ys', S', e, q⟩
                cases e
                exact ⟨_, _, rfl, q⟩
              · rintro ⟨ys', S', e, q⟩
                cases e
                exact ⟨_, _, rfl, q⟩
          | _ => simp [Res.DoesE]
        | false => simp [does_ok, blQ_bl]
      | _ => simp [does_ok, BlQ]
    | _ => simp [Res.DoesE]
@[simp] theorem does_yes {Q : D → Sto → Prop} : (mYes ρ S).DoesE E Q = Q (.bl true) S := rfl
@[simp] theorem does_lc {mi : MA} {f : D → Rho → Option Rho} {mt me : ME} {vs : List Nat} {Q : List D → Sto → Prop} : (mLc mi f mt me vs ρ S).DoesE E Q = (mi ρ S).DoesE E fun ds S1 => LcQ f mt me (wipeD ρ vs) ds S1 Q := by
  unfold mLc
  rw [does_bind]
  congr 1
  funext ds S1
  unfold LcQ
  cases e : lcL f mt me (wipeD ρ vs) ds S1 with
  | none => simp [Res.DoesE]
  | some r =>
    obtain ⟨ys, S2⟩ := r
    refine propext ⟨fun q => ⟨ys, S2, rfl, q⟩, ?_⟩
    rintro ⟨ys', S2', e', q⟩
    cases e'
    exact q
@[simp] theorem does_slT {a : ME} {lo hi : MO} : (mSlT a lo hi ρ S).DoesE E Q = (a ρ S).DoesE E fun x S1 => (lo ρ S1).DoesE E fun l S2 => (hi ρ S2).DoesE E fun h S3 => match x with
    | .tup ds => Q (.tup (cutD ds l h)) S3
    | _ => False := by
  unfold mSlT
  rw [does_bind]; congr 1; funext x S1
  rw [does_bind]; congr 1; funext l S2
  rw [does_bind]; congr 1; funext h S3
  cases x <;> rfl
@[simp] theorem does_slL {a : ME} {lo hi : MO} {Q : List D → Sto → Prop} : (mSlL a lo hi ρ S).DoesE E Q = (a ρ S).DoesE E fun x S1 => (lo ρ S1).DoesE E fun l S2 => (hi ρ S2).DoesE E fun h S3 => match lstOf S3 x with
    | some ds => Q (cutD ds l h) S3
    | none => False := by
  unfold mSlL
  rw [does_bind]; congr 1; funext x S1
  rw [does_bind]; congr 1; funext l S2
  rw [does_bind]; congr 1; funext h S3
  cases lstOf S3 x <;> rfl
@[simp] theorem does_part {m : ME} {Q : Option Int → Sto → Prop} : (mPart m ρ S).DoesE E Q = (m ρ S).DoesE E fun x S1 => match x with
    | .int i => Q (some i) S1
    | _ => False := by
  unfold mPart
  rw [does_bind]; congr 1; funext x S1
  cases x <;> rfl
@[simp] theorem does_noPart {Q : Option Int → Sto → Prop} : (mNoPart ρ S).DoesE E Q = Q none S := rfl
@[simp] theorem does_back {m : ME} : (mBack m ρ S).DoesE E Q = (m ρ S).DoesE E fun x S1 => match x with
    | .tup ds => Q (.tup ds.reverse) S1
    | _ => False := by
  unfold mBack
  rw [does_bind]; congr 1; funext x S1
  cases x <;> rfl
@[simp] theorem does_catL {a b : MA} {Q : List D → Sto → Prop} : (mCatL a b ρ S).DoesE E Q = (a ρ S).DoesE E fun xs S1 => (b ρ S1).DoesE E fun ys S2 => xs.length + ys.length ≤ 16777216 ∧ Q (xs ++ ys) S2 := by
  unfold mCatL
  rw [does_bind]; congr 1; funext xs S1
  rw [does_bind]; congr 1; funext ys S2
  by_cases h : xs.length + ys.length ≤ 16777216
  · rw [if_pos h]; simp [h]
  · rw [if_neg h]; simp [h, Res.DoesE]
@[simp] theorem does_app {o m : ME} : (mApp o m ρ S).DoesE EO N R B C = (o ρ S).DoesE (eAt EO ρ) fun x S1 => match x with
    | .cell n => ∃ ds0, S1[n]? = some (.lst ds0) ∧ (m ρ S1).DoesE (eAt EO ρ) fun d S2 => ∃ ds, S2[n]? = some (.lst ds) ∧ ds.length < 16777216 ∧ N ρ (S2.set n (.lst (ds ++ [d])))
    | _ => False := by
  unfold mApp
  rw [does_ofRes]; congr 1; funext x S1
  cases x with
  | cell n =>
    simp only
    cases e : S1[n]? with
    | none => simp [Out.DoesE]
    | some c =>
      cases c with
      | lst ds0 =>
        simp only [does_ofRes]
        refine propext ⟨fun q => ⟨ds0, rfl, q.mono fun d S2 z => ?_⟩, ?_⟩
        · revert z
          cases e2 : S2[n]? with
          | none => exact fun z => z.elim
          | some c2 =>
            cases c2 with
            | lst ds =>
              intro z
              by_cases l : ds.length < 16777216
              · simp only [if_pos l] at z
                exact ⟨ds, rfl, l, z⟩
              · simp only [if_neg l] at z
                exact z.elim
            | _ => exact fun z => z.elim
        · rintro ⟨ds', e', q⟩
          refine q.mono fun d S2 z => ?_
          obtain ⟨ds, e2, l, z⟩ := z
          simp only [e2, if_pos l]
          exact z
      | _ => simp [Out.DoesE]
  | _ => rfl
@[simp] theorem does_setIx {m o i : ME} : (mSetIx m o i ρ S).DoesE EO N R B C = (m ρ S).DoesE (eAt EO ρ) fun d S1 => (o ρ S1).DoesE (eAt EO ρ) fun x S2 => (i ρ S2).DoesE (eAt EO ρ) fun y S3 => match x, y with
    | .cell n, .int j => ∃ ds k, S3[n]? = some (.lst ds) ∧ ixN ds.length j = some k ∧ N ρ (S3.set n (.lst (ds.set k d)))
    | _, _ => False := by
  unfold mSetIx
  rw [does_ofRes]; congr 1; funext d S1
  rw [does_ofRes]; congr 1; funext x S2
  rw [does_ofRes]; congr 1; funext y S3
  cases x with
  | cell n =>
    cases y with
    | int j =>
      simp only
      cases e : S3[n]? with
      | none => simp [Out.DoesE]
      | some c =>
        cases c with
        | lst ds =>
          simp only
          cases e2 : ixN ds.length j with
          | none => simp [Out.DoesE, e2]
          | some k => simp [e2]
        | _ => simp [Out.DoesE]
    | _ => rfl
  | _ => rfl
@[simp] theorem does_aug {i : Nat} {f : Int → Int → Int} {m : ME} : (mAug i f m ρ S).DoesE EO N R B C = match ρ[i]? with
    | some (some (.int a)) => (m ρ S).DoesE (eAt EO ρ) fun d S1 => match d with
      | .int b => N (ρ.set i (some (.int (f a b)))) S1
      | _ => False
    | _ => False := by
  unfold mAug
  cases ρ[i]? with
  | none => rfl
  | some o =>
    cases o with
    | none => rfl
    | some d =>
      cases d with
      | int a =>
        simp only
        rw [does_ofRes]; congr 1; funext d S1
        cases d <;> rfl
      | _ => rfl
@[simp] theorem does_repL {a : MA} {b : ME} {Q : List D → Sto → Prop} : (mRepL a b ρ S).DoesE E Q = (a ρ S).DoesE E fun xs S1 => (b ρ S1).DoesE E fun y S2 => match y with
    | .int k => (k < 1000000 ∧ xs.length * k.toNat ≤ 16777216 ∧ -1000000 < k) ∧ Q (List.replicate k.toNat xs).flatten S2
    | _ => False := by
  unfold mRepL
  rw [does_bind]; congr 1; funext xs S1
  rw [does_bind]; congr 1; funext y S2
  cases y with
  | int k =>
    simp only
    by_cases h : k < 1000000 ∧ xs.length * k.toNat ≤ 16777216 ∧ -1000000 < k
    · rw [if_pos h]; simp [h]
    · rw [if_neg h]; simp [h, Res.DoesE]
  | _ => rfl
@[simp] theorem does_catC {a : ME} {b : MA} {Q : List D → Sto → Prop} : (mCatC a b ρ S).DoesE E Q = (a ρ S).DoesE E fun x S1 => (b ρ S1).DoesE E fun ys S2 => match x with
    | .cell n => ∃ xs, S2[n]? = some (.lst xs) ∧ xs.length + ys.length ≤ 16777216 ∧ Q (xs ++ ys) S2
    | _ => False := by
  unfold mCatC
  rw [does_bind]; congr 1; funext x S1
  rw [does_bind]; congr 1; funext ys S2
  cases x with
  | cell n =>
    simp only
    cases e : S2[n]? with
    | none => simp [Res.DoesE]
    | some c =>
      cases c with
      | lst xs =>
        simp only
        by_cases h : xs.length + ys.length ≤ 16777216
        · rw [if_pos h]; simp [h]
        · rw [if_neg h]; simp [h, Res.DoesE]
      | _ => simp [Res.DoesE]
  | _ => rfl
@[simp] theorem does_catV {a : ME} {b : MA} {Q : List D → Sto → Prop} : (mCatV a b ρ S).DoesE E Q = (a ρ S).DoesE E fun x S1 => (b ρ S1).DoesE E fun ys S2 => match lstOf S2 x with
    | some xs => xs.length + ys.length ≤ 16777216 ∧ Q (xs ++ ys) S2
    | none => False := by
  unfold mCatV
  rw [does_bind]; congr 1; funext x S1
  rw [does_bind]; congr 1; funext ys S2
  cases e : lstOf S2 x with
  | none => simp [Res.DoesE]
  | some xs =>
    simp only
    by_cases h : xs.length + ys.length ≤ 16777216
    · rw [if_pos h]; simp [h]
    · rw [if_neg h]; simp [h, Res.DoesE]
end
end Dm
-- text DmAny
namespace Dm
open PySem L2 PySem.Spec PyProof.Rows
open PySem.W (Frag)
/-! ### over what stands in a tuple, a list, a cell, as it stands at each turn -/
def ItA (F : Fx) (μ : List Addr) (H : Hp) (J : It) (p : D × Nat) : Prop := p.2 ≤ 16777216 ∧
  ∀ (F' : Fx) (μ' : List Addr) (H' : Hp) (S' : Sto) (i : Nat), Ext F F' H → Up μ H μ' H' → RS F' μ' H' S' → ∀ ds, seqOf S' p.1 = some ds →
    (∀ x, ds[i]? = some x → J.go i H' ∧ ∀ v H'', J.yld i H' v H'' → H'' = H' ∧ RD F' μ' H' v x) ∧ (i = ds.length → J.stop i H')
/-- the word: the thing and its length at the beginning -/
abbrev MP := Rho → Sto → Res (D × Nat)
def iAny (m : ME) : MP := fun ρ S => (m ρ S).bind fun d S1 => match seqOf S1 d with
  | some ds => .ok (d, ds.length) S1
  | none => .bad
structure DIA (X : Cx) (W : WX) (tg iter : Expr) (m : MP) : Prop where
  ex : ∃ wi, PI X tg iter wi ∧ ∀ ξ μ σ H ρ S R, RG (fx X ξ) μ H σ ρ → RS (fx X ξ) μ H S → WR (fx X ξ) (fun μ H (J : It) (p : D × Nat) => ItA (fx X ξ) μ H J p) (m ρ S) R (fun cls dd H' => W cls dd σ H') μ H → wi σ H R
section
variable {X : Cx} {W : WX} {tg e a b c : Expr} {es : List Expr} {st : Stmt} {sts ts : List Stmt} {ma mb mc m : ME} {mr : MA} {m1 m2 : MS} {pos p p1 p2 p3 : Pos}
theorem itA_tup {F : Fx} {μ : List Addr} {H : Hp} {a : Addr} {xs : List V} {ds : List D} (f : FzT F μ H a xs) (r : RDs F μ H xs ds) (z : Sized F.K H) : ItA F μ H (Itt F.K a) (.tup ds, ds.length) := by
  obtain ⟨h1, h2⟩ := itt_ok f r z
  refine ⟨h1, fun F' μ' H' S' i e u s es h => ?_⟩
  cases h
  refine ⟨fun x hx => ?_, fun hi => (h2 F' μ' H' S' i e u s (by omega)).2 hi⟩
  have hl := (List.getElem?_eq_some_iff.mp hx).1
  obtain ⟨k1, k2⟩ := (h2 F' μ' H' S' i e u s (by omega)).1 x hx
  refine ⟨k1, fun v H'' y => ?_⟩
  obtain ⟨e1, _⟩ := id y
  obtain ⟨_, _, k3⟩ := k2 v H'' y
  subst e1
  exact ⟨rfl, k3⟩
theorem itA_lst {F : Fx} {μ : List Addr} {H : Hp} {v : V} {d : D} {ds : List D} {S : Sto} {a : Addr} (ev : v = .ref a) (s : RS F μ H S) (r : RD F μ H v d) (e : lstOf S d = some ds) (z : Sized F.K H) : ItA F μ H (Itl F.K a) (d, ds.length) := by
  obtain ⟨a', xs, e1, h1, h2⟩ := RD.lstS s r e
  rw [ev] at e1; cases e1
  refine ⟨by rw [← h2.length]; exact z _ _ (.inl h1), fun F' μ' H' S' i ex u s' es h => ?_⟩
  have r' : RD F' μ' H' v d := r.mv (.ext ex u)
  have eL : lstOf S' d = some es := by
    cases d with
    | tup _ => exact nomatch e
    | lst _ => exact h
    | cell n => exact h
    | _ => exact nomatch e
  obtain ⟨a2, ys, e2, h3, h4⟩ := RD.lstS s' r' eL
  rw [ev] at e2; cases e2
  rw [ex.k] at h3
  refine ⟨fun x hx => ?_, fun hi => ⟨ys, h3, by rw [h4.length, hi]; exact Nat.le_refl _⟩⟩
  obtain ⟨w, h5, h6⟩ := h4.get hx
  refine ⟨⟨ys, w, h3, h5⟩, fun v' H'' y => ?_⟩
  obtain ⟨e3, y⟩ := y
  have q := y ys h3
  rw [h5] at q; cases q
  exact ⟨e3, h6⟩
theorem dia_any (h : DE X W e m) : DIA X W tg e (iAny m) := by
  obtain ⟨te, pe, k⟩ := h
  refine ⟨_, piOr (piSized (pi_tup pe)) (piSized (pi_list pe)), fun ξ μ σ H ρ S R g s h => ?_⟩
  cases e1 : m ρ S with
  | bad => unfold iAny at h; rw [e1] at h; exact h.elim
  | exc c fs S1 =>
    unfold iAny at h; rw [e1] at h
    refine .inl (k ξ μ σ H ρ S _ g s ?_)
    rw [e1]; exact h
  | ok d S1 =>
    unfold iAny at h
    rw [e1] at h
    have h : WR (fx X ξ) (fun μ H (J : It) (p : D × Nat) => ItA (fx X ξ) μ H J p) (match seqOf S1 d with | some ds => .ok (d, ds.length) S1 | none => .bad) R (fun cls dd H' => W cls dd σ H') μ H := h
    by_cases c : ∃ ds, d = .tup ds
    · obtain ⟨ds, rfl⟩ := c
      refine .inl (k ξ μ σ H ρ S _ g s ?_)
      rw [e1]
      intro v μ1 H1 u1 s1 r1
      cases r1 with
      | @tup a xs _ f r => exact ⟨a, rfl, ⟨xs, f.sq⟩, fun z => h _ μ1 H1 u1 s1 (itA_tup f r z)⟩
    · cases q : seqOf S1 d with
      | none => rw [q] at h; exact h.elim
      | some ds =>
        rw [q] at h
        refine .inr (k ξ μ σ H ρ S _ g s ?_)
        rw [e1]
        have eL : lstOf S1 d = some ds := by
          cases d with
          | tup es => exact absurd ⟨es, rfl⟩ c
          | lst _ => exact q
          | cell n => exact q
          | _ => exact nomatch q
        intro v μ1 H1 u1 s1 r1
        obtain ⟨a, xs, rfl, h3, h4⟩ := RD.lstS s1 r1 eL
        exact ⟨a, rfl, ⟨xs, h3⟩, fun z => h _ μ1 H1 u1 s1 (itA_lst rfl s1 r1 eL z)⟩
def forA (d : D) (f : D → Rho → Option Rho) (mb : MS) : Nat → Nat → Rho → Sto → Out
  | 0, _, _, _ => .bad
  | k + 1, i, ρ, S => match seqOf S d with
    | some ds => match ds[i]? with
      | none => if i = ds.length then .nx ρ S else .bad
      | some x => match f x ρ with
        | none => .bad
        | some ρ1 => match mb ρ1 S with
          | .nx ρ2 S2 => forA d f mb k (i + 1) ρ2 S2
          | .ct ρ2 S2 => forA d f mb k (i + 1) ρ2 S2
          | .bk ρ2 S2 => .nx ρ2 S2
          | .rt d S2 => .rt d S2
          | .exc c fs ρ2 S2 => .exc c fs ρ2 S2
          | .bad => .bad
    | none => .bad
def mForA (m : ME) (f : D → Rho → Option Rho) (mb : MS) : MS := fun ρ S => ofRes (iAny m ρ S) ρ fun p S1 => forA p.1 f mb (p.2 + 1) 0 ρ S1
theorem ds_forA {f : D → Rho → Option Rho} {is : List Nat} {mb : MS} (hp : PassesOwn (model X.prog X.w) X.A X.env X.xe) (hc : X.calm = true) (hi : DE X W e m) (hg : DG X tg f is) (hb : DSs X W sts mb)
    (hs : ∀ x, foldedSetIterable e X.env x = pure x := by intro _; rfl) : DS X W (.For tg e sts [] pos) (mForA m f mb) := by
  obtain ⟨wi, pi, ki⟩ := dia_any (tg := tg) hi
  obtain ⟨tg', pg, kg⟩ := hg
  obtain ⟨tb, pb, kb⟩ := hb
  refine ⟨_, ps_for hp hc pi pg pb hs, fun ξ μ σ H ρ S D g s h => ki ξ μ σ H ρ S _ g s (WS'.bind g h fun p S1 J μ1 H1 u1 s1 r1 h1 => ?_)⟩
  obtain ⟨d, n0⟩ := p
  refine ⟨fun i k σ' H' => ∃ μ' ρ' S', Up μ1 H1 μ' H' ∧ RS (fx X ξ) μ' H' S' ∧ RG (fx X ξ) μ' H' σ' ρ' ∧ WS' (fx X ξ) (forA d f mb k i ρ' S') D W μ' H',
    ⟨_, μ1, ρ, S1, .refl, s1, g.up u1, h1⟩, ?_⟩
  rintro i k σ' H' ⟨μ', ρ', S', u', s', g', w⟩
  cases k with
  | zero => exact w.elim
  | succ k =>
    unfold forA at w
    cases q' : seqOf S' d with
    | none => rw [q'] at w; exact w.elim
    | some es =>
      rw [q'] at w
      simp only at w
      obtain ⟨t1, t2⟩ := r1.2 (fx X ξ) μ' H' S' i .refl u' s' es q'
      cases q2 : es[i]? with
      | none =>
        rw [q2] at w
        simp only at w
        by_cases hi : i = es.length
        · rw [if_pos hi] at w
          exact .inl ⟨t2 hi, w σ' μ' H' .refl s' g'⟩
        · rw [if_neg hi] at w; exact w.elim
      | some x =>
        rw [q2] at w
        simp only at w
        obtain ⟨go, yl⟩ := t1 x q2
        cases ef : f x ρ' with
        | none => rw [ef] at w; exact w.elim
        | some ρ1 =>
          rw [ef] at w
          simp only at w
          refine .inr ⟨go, fun σ2 H2 => ∃ μ' ρ' S', Up μ1 H1 μ' H2 ∧ RS (fx X ξ) μ' H2 S' ∧ RG (fx X ξ) μ' H2 σ2 ρ' ∧ WS' (fx X ξ) (forA d f mb k (i + 1) ρ' S') D W μ' H2,
            fun σ2 H2 z => ⟨k, Nat.lt_succ_self k, z⟩, fun v H2 y => ?_⟩
          obtain ⟨y1, y2⟩ := yl v H2 y
          subst y1
          refine kg ξ μ' σ' _ ρ' v x ρ1 _ g' y2 ef fun σ2 g2 _ => ?_
          refine kb ξ μ' σ2 _ ρ1 S' _ g2 s' ?_
          cases eb : mb ρ1 S' with
          | nx ρ2 S2 =>
            rw [eb] at w
            exact fun σ3 μ3 H3 u3 s3 g3 => ⟨μ3, ρ2, S2, u'.trans u3, s3, g3, w.shift u3⟩
          | ct ρ2 S2 =>
            rw [eb] at w
            exact fun σ3 μ3 H3 u3 s3 g3 => ⟨μ3, ρ2, S2, u'.trans u3, s3, g3, w.shift u3⟩
          | bk ρ2 S2 => rw [eb] at w; exact w
          | rt d S2 => rw [eb] at w; exact w
          | exc c fs ρ2 S2 => rw [eb] at w; exact w
          | bad => rw [eb] at w; exact w
/-! ### comprehensions -/
def lcA (d : D) (f : D → Rho → Option Rho) (mt me : ME) (ρ : Rho) : Nat → Nat → Sto → Option (List D × Sto)
  | 0, _, _ => none
  | k + 1, i, S => match seqOf S d with
    | none => none
    | some ds => match ds[i]? with
      | none => if i = ds.length then some ([], S) else none
      | some x => match f x ρ with
        | none => none
        | some ρ1 => match mt ρ1 S with
          | .ok (.bl true) S1 => match me ρ1 S1 with
            | .ok y S2 => match lcA d f mt me ρ k (i + 1) S2 with
              | some (ys, S3) => some (y :: ys, S3)
              | none => none
            | _ => none
          | .ok (.bl false) S1 => lcA d f mt me ρ k (i + 1) S1
          | _ => none
def mLcA (m : ME) (f : D → Rho → Option Rho) (mt me : ME) (vs : List Nat) : MA := fun ρ S => (iAny m ρ S).bind fun p S1 => match lcA p.1 f mt me (wipeD ρ vs) (p.2 + 1) 0 S1 with
  | some (ys, S2) => .ok ys S2
  | none => .bad
theorem lcA_pos {d : D} {f : D → Rho → Option Rho} {mt me : ME} {ρ : Rho} {k i : Nat} {S : Sto} {r : List D × Sto} (h : lcA d f mt me ρ k i S = some r) : 0 < k := by
  cases k with
  | zero => exact nomatch h
  | succ k => exact Nat.succ_pos k
/-- the reading of a comprehension -/
theorem lcA_read {wi : TI} {tg' : TG} {tt : TT} {te : TE} {f : D → Rho → Option Rho} {is vs : List Nat} {ξ μ : List Addr} {σ : L2.St} {H : Hp} {ρ : Rho} {S : Sto} {Q : VK} {Wx : Value → Option Addr → Hp → Prop} {m mt me : ME}
    (ki : ∀ R, WR (fx X ξ) (fun μ H (J : It) (p : D × Nat) => ItA (fx X ξ) μ H J p) (iAny m ρ S) R Wx μ H → wi σ H R)
    (kg : ∀ ξ μ σ H ρ v d ρ' (Q : L2.St → Hp → Prop), RG (fx X ξ) μ H σ ρ → RD (fx X ξ) μ H v d → f d ρ = some ρ' → (∀ σ', RG (fx X ξ) μ H σ' ρ' → (∀ js : List Nat, (∀ i ∈ is, i ∈ js) → wipe σ' js = wipe σ js) → Q σ' H) → tg' v σ H Q)
    (kt : ∀ ξ μ σ H ρ S Q, RG (fx X ξ) μ H σ ρ → RS (fx X ξ) μ H S → WT' (fx X ξ) (mt ρ S) Q (fun cls dd H' => W0 cls dd σ H') μ H → tt σ H Q)
    (ke : ∀ ξ μ σ H ρ S Q, RG (fx X ξ) μ H σ ρ → RS (fx X ξ) μ H S → WE' (fx X ξ) (me ρ S) Q (fun cls dd H' => W0 cls dd σ H') μ H → te σ H Q)
    (hv : ∀ i ∈ is, i ∈ vs) (g : RG (fx X ξ) μ H σ ρ) (s : RS (fx X ξ) μ H S) (h : WL' (fx X ξ) (mLcA m f mt me vs ρ S) Q Wx μ H) : tLc wi tg' tt te vs σ H Q := by
  refine ki _ (WL'.bind h fun p S1 J μ1 H1 u1 s1 r1 h1 => ?_)
  obtain ⟨d, n0⟩ := p
  intro D hD
  obtain ⟨hz, r1⟩ := r1
  have hz : n0 ≤ 16777216 := hz
  have n1 : D ∉ μ1 := s1.out hD
  have x1 : D ∉ ξ := s1.outX hD
  have ext : Ext (fx X ξ) ((fx X ξ).hold D) H1 := ⟨rfl, rfl, fun a ha => (List.mem_cons.mp ha).elim (fun z => .inr (by rw [z]; exact hD)) .inl⟩
  have main : WL' (fx X ξ) (match lcA d f mt me (wipeD ρ vs) (n0 + 1) 0 S1 with
    | some (ys, S2) => Res.ok ys S2
    | none => .bad) Q Wx μ1 H1 := h1
  refine ⟨fun i k H' => ∃ μ' S' acc dacc, Up μ1 H1 μ' H' ∧ RS ((fx X ξ).hold D) μ' H' S' ∧ H' D = some (.lst acc) ∧ RDs ((fx X ξ).hold D) μ' H' acc dacc ∧ acc.length ≤ i ∧ i + k = n0 + 1 ∧
      ∃ ys S2, lcA d f mt me (wipeD ρ vs) k i S' = some (ys, S2) ∧ ∀ μ2 H2 xs, Up μ1 H1 μ2 H2 → RS ((fx X ξ).hold D) μ2 H2 S2 → RDs ((fx X ξ).hold D) μ2 H2 xs (dacc ++ ys) → H2 D = some (.lst xs) → Q (.ref D) H2,
    ⟨_, μ1, S1, [], [], .fresh hD, s1.holds hD, upd_same, .nil, Nat.le_refl _, Nat.zero_add _, ?_⟩, ?_⟩
  · cases q : lcA d f mt me (wipeD ρ vs) (n0 + 1) 0 S1 with
    | none => rw [q] at main; exact main.elim
    | some r =>
      obtain ⟨ys, S2⟩ := r
      rw [q] at main
      exact ⟨ys, S2, rfl, fun μ2 H2 xs u2 s2 r2 e2 => main D xs μ2 H2 u2 hD s2 r2 e2⟩
  rintro i k H' ⟨μ', S', acc, dacc, u', s', hacc, racc, hla, hi, ys, S2, eL, fin⟩
  cases k with
  | zero => exact nomatch eL
  | succ k =>
    unfold lcA at eL
    cases q' : seqOf S' d with
    | none => rw [q'] at eL; exact nomatch eL
    | some es =>
      rw [q'] at eL
      simp only at eL
      obtain ⟨t1, t2⟩ := r1 ((fx X ξ).hold D) μ' H' S' i ext u' s' es q'
      cases q2 : es[i]? with
      | none =>
        rw [q2] at eL
        simp only at eL
        by_cases e : i = es.length
        · rw [if_pos e] at eL
          cases eL
          exact .inl ⟨t2 e, fin μ' H' acc u' s' (by rw [List.append_nil]; exact racc) hacc⟩
        · rw [if_neg e] at eL; exact nomatch eL
      | some x0 =>
        rw [q2] at eL
        simp only at eL
        obtain ⟨go, yl⟩ := t1 x0 q2
        cases ef : f x0 (wipeD ρ vs) with
        | none => rw [ef] at eL; exact nomatch eL
        | some ρ1 =>
          rw [ef] at eL
          simp only at eL
          refine .inr ⟨go, fun H2 => ∃ μ' S' acc dacc, Up μ1 H1 μ' H2 ∧ RS ((fx X ξ).hold D) μ' H2 S' ∧ H2 D = some (.lst acc) ∧ RDs ((fx X ξ).hold D) μ' H2 acc dacc ∧ acc.length ≤ i + 1 ∧ (i + 1) + k = n0 + 1 ∧
              ∃ ys S2, lcA d f mt me (wipeD ρ vs) k (i + 1) S' = some (ys, S2) ∧ ∀ μ2 H2 xs, Up μ1 H1 μ2 H2 → RS ((fx X ξ).hold D) μ2 H2 S2 → RDs ((fx X ξ).hold D) μ2 H2 xs (dacc ++ ys) → H2 D = some (.lst xs) → Q (.ref D) H2,
            fun H2 z => ⟨k, Nat.lt_succ_self k, z⟩, fun x H2 y => ?_⟩
          obtain ⟨eH, r2⟩ := yl x H2 y
          subst eH
          have g2 : RG (fx X (D :: ξ)) μ' H2 (wipe σ vs) (wipeD ρ vs) := (((g.up u1).mv (.ext ext u'))).wipe vs
          refine kg (D :: ξ) μ' (wipe σ vs) H2 (wipeD ρ vs) x _ ρ1 _ g2 r2 ef fun σ3 g3 w3 => ?_
          have nD : D ∉ μ' := (s'.xi D List.mem_cons_self).1
          have ww : wipe (wipe σ vs) vs = wipe σ vs := by
            refine List.ext_getElem? fun k => ?_
            rw [wipe_get, wipe_get, wipe_length]
            by_cases q : k ∈ vs ∧ k < σ.length
            · rw [if_pos q, if_pos q]
            · rw [if_neg q, if_neg q]
          refine ⟨by rw [w3 vs hv, ww], ?_⟩
          refine kt (D :: ξ) μ' σ3 H2 ρ1 S' _ g3 s' ?_
          cases et : mt ρ1 S' with
          | bad => rw [et] at eL; exact nomatch eL
          | exc c fs S3 => rw [et] at eL; exact nomatch eL
          | ok dd S3 =>
            rw [et] at eL
            cases dd with
            | bl b =>
              intro μ3 H3 u3 s3
              have eD3 : H3 D = some (.lst acc) := u3.keep _ _ hacc nD
              cases b with
              | false =>
                exact ⟨μ3, S3, acc, dacc, u'.trans u3, s3, eD3, racc.up u3, Nat.le_succ_of_le hla, by omega, ys, S2, eL, fin⟩
              | true =>
                simp only at eL
                refine ke (D :: ξ) μ3 σ3 H3 ρ1 S3 _ (g3.up u3) s3 ?_
                cases ee : me ρ1 S3 with
                | bad => rw [ee] at eL; exact nomatch eL
                | exc c fs S4 => rw [ee] at eL; exact nomatch eL
                | ok y S4 =>
                  rw [ee] at eL
                  intro v μ4 H4 u4 s4 r4
                  simp only at eL
                  cases er : lcA d f mt me (wipeD ρ vs) k (i + 1) S4 with
                  | none => rw [er] at eL; exact nomatch eL
                  | some q =>
                    obtain ⟨zs, S5⟩ := q
                    have kp := lcA_pos er
                    rw [er] at eL
                    cases eL
                    have nD3 : D ∉ μ3 := (s3.xi D List.mem_cons_self).1
                    have eD4 : H4 D = some (.lst acc) := u4.keep _ _ eD3 nD3
                    refine ⟨acc, eD4, by rw [sizeLine_eq]; omega, μ4, S4, acc ++ [v], dacc ++ [y], ?_, RS.wr (F := fx X ξ) (p := D) s4, upd_same, RDs.mv (Mv.wr (F := fx X ξ) (p := D)) _ (RDs.append (F := (fx X ξ).hold D) ((racc.up u3).up u4) (.cons r4 .nil)), by rw [List.length_append, List.length_singleton]; omega, by omega, zs, S2, er, fun μ5 H5 xs u5 s5 r5 e5 => fin μ5 H5 xs u5 s5 (by rw [List.append_assoc] at r5; exact r5) e5⟩
                    have U := u'.trans (u3.trans u4)
                    exact ⟨U.pre, U.new, fun a o ha na => by
                      rw [upd_ne (ne_of_none ha hD)]
                      exact U.keep a o ha na⟩
            | _ => exact nomatch eL
theorem dl_lcA {elt : Expr} {ifs : List Expr} {scope : Scope} {own : List (Str × Nat)} {f : D → Rho → Option Rho} {is : List Nat} {mt me : ME} (hc : X.calm = true) (hN : X.N.Nodup) (hi : DE X W e m) (ok : BlkOk X.N X.env.scope scope own)
    (hg : ∀ (s : Shared) (H : Hp) (C : Addr) (cl : List (Str × Addr)) (fp : List Addr), DG (X.blk s H scope (compEnvC scope cl C X.env) fp) tg f is)
    (ht : ∀ (s : Shared) (H : Hp) (C : Addr) (cl : List (Str × Addr)) (fp : List Addr), DTs (X.blk s H scope (compEnvC scope cl C X.env) fp) W0 ifs mt)
    (he : ∀ (s : Shared) (H : Hp) (C : Addr) (cl : List (Str × Addr)) (fp : List Addr), DE (X.blk s H scope (compEnvC scope cl C X.env) fp) W0 elt me)
    (hv : ∀ i ∈ is, i ∈ own.map (·.2) := by decide) (hs : ∀ x, foldedSetIterable e X.env x = pure x := by intro _; rfl) : DL X W (.ListComp elt [⟨tg, e, ifs, 0⟩] scope pos) (mLcA m f mt me (own.map (·.2))) := by
  obtain ⟨wi, pi, ki⟩ := dia_any (tg := tg) hi
  obtain ⟨tg', pg, kg⟩ := dg_all (Xf := blkOf X scope) (K := X.K) (mg := X.mg) (fun _ => rfl) (fun _ => rfl) fun i => hg i.1 i.2.1 i.2.2.1 i.2.2.2.1 i.2.2.2.2
  obtain ⟨tt, pt, kt⟩ := dts_all (Xf := blkOf X scope) (K := X.K) (mg := X.mg) (fun _ => rfl) (fun _ => rfl) fun i => ht i.1 i.2.1 i.2.2.1 i.2.2.2.1 i.2.2.2.2
  obtain ⟨te, pe, ke⟩ := de_all (Xf := blkOf X scope) (K := X.K) (mg := X.mg) (fun _ => rfl) (fun _ => rfl) fun i => he i.1 i.2.1 i.2.2.1 i.2.2.2.1 i.2.2.2.2
  refine ⟨_, pe_lc hc hN pi ok (fun s H C cl fp => pg (s, H, C, cl, fp)) (fun s H C cl fp => pt (s, H, C, cl, fp)) (fun s H C cl fp => pe (s, H, C, cl, fp)) hs, fun ξ μ σ H ρ S Q g s h => ?_⟩
  exact lcA_read (fun R => ki ξ μ σ H ρ S R g s) kg kt ke hv g s h
theorem ds_setLcA (i : Nat) {y : Str} {py spos : Pos} {elt : Expr} {ifs : List Expr} {scope : Scope} {own : List (Str × Nat)} {f : D → Rho → Option Rho} {is : List Nat} {mt me : ME} {mw : MA → ME} (hw : ∀ {te : TE} {mr : MA}, RdL X W te mr → RdE X W te (mw mr)) (hc : X.calm = true) (hN : X.N.Nodup) (hi : DE X W e m) (ok : BlkOk X.N X.env.scope scope own)
    (hg : ∀ (s : Shared) (H : Hp) (C : Addr) (cl : List (Str × Addr)) (fp : List Addr), DG (X.blk s H scope (compEnvC scope cl C X.env) fp) tg f is)
    (ht : ∀ (s : Shared) (H : Hp) (C : Addr) (cl : List (Str × Addr)) (fp : List Addr), DTs (X.blk s H scope (compEnvC scope cl C X.env) fp) W0 ifs mt)
    (he : ∀ (s : Shared) (H : Hp) (C : Addr) (cl : List (Str × Addr)) (fp : List Addr), DE (X.blk s H scope (compEnvC scope cl C X.env) fp) W0 elt me)
    (hv : ∀ i ∈ is, i ∈ own.map (·.2) := by decide) (hy : X.N[i]? = some y := by rfl) (hyl : X.env.scope.names.lookup y = some .local := by rfl)
    (hsw : swapsWith (.ListComp elt [⟨tg, e, ifs, 0⟩] scope pos) (some (.Name y py)) spos.line X.env = pure true := by rfl) (hs : ∀ x, foldedSetIterable e X.env x = pure x := by intro _; rfl) :
    DS X W (.Assign [.Name y py] (.ListComp elt [⟨tg, e, ifs, 0⟩] scope pos) spos) (mAsg i (mw (mLcA m f mt me (own.map (·.2))))) := by
  obtain ⟨wi, pi, ki⟩ := dia_any (tg := tg) hi
  obtain ⟨tg', pg, kg⟩ := dg_all (Xf := blkOf X scope) (K := X.K) (mg := X.mg) (fun _ => rfl) (fun _ => rfl) fun i => hg i.1 i.2.1 i.2.2.1 i.2.2.2.1 i.2.2.2.2
  obtain ⟨tt, pt, kt⟩ := dts_all (Xf := blkOf X scope) (K := X.K) (mg := X.mg) (fun _ => rfl) (fun _ => rfl) fun i => ht i.1 i.2.1 i.2.2.1 i.2.2.2.1 i.2.2.2.2
  obtain ⟨te, pe, ke⟩ := de_all (Xf := blkOf X scope) (K := X.K) (mg := X.mg) (fun _ => rfl) (fun _ => rfl) fun i => he i.1 i.2.1 i.2.2.1 i.2.2.2.1 i.2.2.2.2
  have rd : RdL X W (tLc wi tg' tt te (own.map (·.2))) (mLcA m f mt me (own.map (·.2))) := fun ξ μ σ H ρ S Q g s h => lcA_read (fun R => ki ξ μ σ H ρ S R g s) kg kt ke hv g s h
  refine ⟨_, ps_setLc (i := i) hc hN hy hyl hsw pi ok (fun s H C cl fp => pg (s, H, C, cl, fp)) (fun s H C cl fp => pt (s, H, C, cl, fp)) (fun s H C cl fp => pe (s, H, C, cl, fp)) hs, fun ξ μ σ H ρ S D g s h => ?_⟩
  exact hw rd ξ μ σ H ρ S _ g s (WS'.bind g h fun x S1 v μ1 H1 u1 s1 r1 h1 => h1 _ μ1 H1 .refl s1 ((g.up u1).set i r1))
end
/-! ### what they do -/
section
variable {S : Sto} {ρ : Rho} {N B C : Rho → Sto → Prop} {R : D → Sto → Prop} {f : D → Rho → Option Rho} {mt me : ME} {mb : MS} {E : EX} {EO : EXO}
theorem seqOf_fix {d : D} {ds : List D} (h : d = .tup ds ∨ d = .lst ds) (S : Sto) : seqOf S d = some ds := by
  rcases h with rfl | rfl <;> rfl
theorem forA_fix {d : D} {ds : List D} (h : d = .tup ds ∨ d = .lst ds) : ∀ (r pre : List D) (ρ : Rho) (S : Sto), ds = pre ++ r → forA d f mb (r.length + 1) pre.length ρ S = forL f mb r ρ S
  | [], pre, ρ, S, e => by
    unfold forA
    rw [seqOf_fix h]
    have e1 : ds[pre.length]? = none := by rw [e, List.append_nil]; exact List.getElem?_eq_none (Nat.le_refl _)
    simp only [e1]
    rw [if_pos (by rw [e, List.append_nil])] <;> rfl
  | x :: r, pre, ρ, S, e => by
    unfold forA
    rw [seqOf_fix h]
    have e1 : ds[pre.length]? = some x := by rw [e, List.getElem?_append_right (Nat.le_refl _), Nat.sub_self] <;> rfl
    simp only [e1]
    rw [forL]
    cases f x ρ with
    | none => rfl
    | some ρ1 =>
      simp only
      have q : ∀ ρ2 S2, forA d f mb (x :: r).length (pre.length + 1) ρ2 S2 = forL f mb r ρ2 S2 := fun ρ2 S2 => by
        have q := forA_fix h r (pre ++ [x]) ρ2 S2 (by rw [e, List.append_assoc] <;> rfl)
        rw [List.length_append, List.length_singleton] at q
        exact q
      cases mb ρ1 S <;> first | rfl | exact q _ _
def forAS (d : D) (f : D → Rho → Option Rho) (mb : MS) (ρ : Rho) (S : Sto) : Out := match seqOf S d with
  | some ds => forA d f mb (ds.length + 1) 0 ρ S
  | none => .bad
@[simp] theorem does_forA {m : ME} : (mForA m f mb ρ S).DoesE EO N R B C = (m ρ S).DoesE (eAt EO ρ) fun d S1 => (forAS d f mb ρ S1).DoesE EO N R B C := by
  unfold mForA
  rw [does_ofRes]
  unfold iAny
  rw [does_bind]
  congr 1
  funext d S1
  unfold forAS
  cases seqOf S1 d <;> rfl
@[simp] theorem forAS_tup {ds : List D} : forAS (.tup ds) f mb ρ S = forL f mb ds ρ S := forA_fix (.inl rfl) ds [] ρ S rfl
@[simp] theorem forAS_lst {ds : List D} : forAS (.lst ds) f mb ρ S = forL f mb ds ρ S := forA_fix (.inr rfl) ds [] ρ S rfl
/-- a comprehension over a cell that stays: an invariant of the stores; the items kept -/
def LcAQ (d : D) (f : D → Rho → Option Rho) (mt me : ME) (ρ : Rho) (n : Nat) (S : Sto) (Q : List D → Sto → Prop) : Prop := ∃ ys S', lcA d f mt me ρ (n + 1) 0 S = some (ys, S') ∧ Q ys S'
@[simp] theorem does_lcA {m : ME} {vs : List Nat} {Q : List D → Sto → Prop} : (mLcA m f mt me vs ρ S).DoesE E Q = (m ρ S).DoesE E fun d S1 => match seqOf S1 d with
    | some ds => LcAQ d f mt me (wipeD ρ vs) ds.length S1 Q
    | none => False := by
  unfold mLcA iAny
  rw [does_bind, does_bind]
  congr 1
  funext d S1
  cases seqOf S1 d with
  | none => rfl
  | some ds =>
    simp only [does_ok]
    unfold LcAQ
    cases e : lcA d f mt me (wipeD ρ vs) (ds.length + 1) 0 S1 with
    | none => simp [Res.DoesE]
    | some r =>
      obtain ⟨ys, S2⟩ := r
      refine propext ⟨fun q => ⟨ys, S2, rfl, q⟩, ?_⟩
      rintro ⟨ys', S2', e', q⟩
      cases e'
      exact q
theorem lcAQ_inv {d : D} {Q : List D → Sto → Prop} (I : Sto → Prop) {α : Type} {i : α → D} (t : α → Bool) (g : α → D) {as0 : List α} (hI : ∀ S, I S → seqOf S d = some (as0.map i))
    (h : ∀ a, a ∈ as0 → ∀ S1, I S1 → ∃ ρ1, f (i a) ρ = some ρ1 ∧ (mt ρ1 S1).Does (fun d S2 => d = .bl (t a) ∧ I S2) ∧ ∀ S2, I S2 → t a = true → (me ρ1 S2).Does (fun d S3 => d = g a ∧ I S3)) :
    ∀ {as pre : List α} {S : Sto}, as0 = pre ++ as → I S → (∀ S', I S' → Q ((as.filter t).map g) S') → ∃ ys S', lcA d f mt me ρ (as.length + 1) pre.length S = some (ys, S') ∧ Q ys S'
  | [], pre, S, e, hS, q => by
    refine ⟨[], S, ?_, q S hS⟩
    unfold lcA
    rw [hI S hS]
    have e1 : (as0.map i)[pre.length]? = none := by rw [e, List.append_nil]; exact List.getElem?_eq_none (by rw [List.length_map]; exact Nat.le_refl _)
    simp only [e1]
    rw [if_pos (by rw [e, List.append_nil, List.length_map])]
  | a :: as, pre, S, e, hS, q => by
    have ha : a ∈ as0 := by rw [e]; exact List.mem_append.mpr (.inr List.mem_cons_self)
    obtain ⟨ρ1, ef, k1, k2⟩ := h a ha S hS
    have e1 : (as0.map i)[pre.length]? = some (i a) := by rw [List.getElem?_map, e, List.getElem?_append_right (Nat.le_refl _), Nat.sub_self] <;> rfl
    have en : as0 = (pre ++ [a]) ++ as := by rw [e, List.append_assoc] <;> rfl
    have lp : (pre ++ [a]).length = pre.length + 1 := by rw [List.length_append, List.length_singleton]
    unfold lcA
    rw [hI S hS]
    simp only [e1, ef]
    obtain ⟨d1, S1, e2, rfl, hS1⟩ := k1.eq
    rw [e2]
    cases c : t a with
    | false =>
      simp only
      obtain ⟨ys, S', z1, z2⟩ := lcAQ_inv (as := as) (pre := pre ++ [a]) I t g hI h en hS1 (fun S' h' => by
        have := q S' h'
        rw [List.filter_cons, if_neg (by rw [c]; decide)] at this
        exact this)
      rw [lp] at z1
      exact ⟨ys, S', z1, z2⟩
    | true =>
      simp only
      obtain ⟨d2, S2, e3, rfl, hS2⟩ := (k2 S1 hS1 c).eq
      rw [e3]
      simp only
      obtain ⟨ys, S', z1, z2⟩ := lcAQ_inv (as := as) (pre := pre ++ [a]) (Q := fun ys S' => Q (g a :: ys) S') I t g hI h en hS2 (fun S' h' => by
        have := q S' h'
        rw [List.filter_cons, if_pos c] at this
        exact this)
      rw [lp] at z1
      have z1 : lcA d f mt me ρ (a :: as).length (pre.length + 1) S2 = some (ys, S') := z1
      rw [z1]
      exact ⟨_, _, rfl, z2⟩
theorem lcAQ_ext {d : D} {Q : List D → Sto → Prop} (I : Sto → Prop) {α : Type} {i : α → D} (t : α → Bool) (g : α → D) {as : List α} {n : Nat} (hn : n = as.length) (hI : ∀ S, I S → seqOf S d = some (as.map i)) (hS : I S)
    (h : ∀ a, a ∈ as → ∀ S1, I S1 → ∃ ρ1, f (i a) ρ = some ρ1 ∧ (mt ρ1 S1).Does (fun d S2 => d = .bl (t a) ∧ I S2) ∧ ∀ S2, I S2 → t a = true → (me ρ1 S2).Does (fun d S3 => d = g a ∧ I S3))
    (q : ∀ S', I S' → Q ((as.filter t).map g) S') : LcAQ d f mt me ρ n S Q := by
  subst hn
  exact lcAQ_inv (pre := []) I t g hI h rfl hS q
theorem lcA_fix {d : D} {ds : List D} (h : d = .tup ds ∨ d = .lst ds) : ∀ (r pre : List D) (S : Sto), ds = pre ++ r → lcA d f mt me ρ (r.length + 1) pre.length S = lcL f mt me ρ r S
  | [], pre, S, e => by
    unfold lcA
    rw [seqOf_fix h]
    have e1 : ds[pre.length]? = none := by rw [e, List.append_nil]; exact List.getElem?_eq_none (Nat.le_refl _)
    simp only [e1]
    rw [if_pos (by rw [e, List.append_nil])] <;> rfl
  | x :: r, pre, S, e => by
    unfold lcA
    rw [seqOf_fix h]
    have e1 : ds[pre.length]? = some x := by rw [e, List.getElem?_append_right (Nat.le_refl _), Nat.sub_self] <;> rfl
    simp only [e1]
    rw [lcL]
    have q : ∀ S2, lcA d f mt me ρ (x :: r).length (pre.length + 1) S2 = lcL f mt me ρ r S2 := fun S2 => by
      have q := lcA_fix h r (pre ++ [x]) S2 (by rw [e, List.append_assoc] <;> rfl)
      rw [List.length_append, List.length_singleton] at q
      exact q
    cases f x ρ with
    | none => rfl
    | some ρ1 =>
      simp only
      cases mt ρ1 S with
      | ok d1 S1 =>
        cases d1 with
        | bl b =>
          cases b with
          | true =>
            simp only
            cases me ρ1 S1 with
            | ok y S2 =>
              simp only
              rw [q] <;> (cases lcL f mt me ρ r S2 <;> rfl)
            | _ => rfl
          | false => exact q S1
        | _ => rfl
      | _ => rfl
theorem lcAQ_fix {d : D} {ds : List D} {Q : List D → Sto → Prop} {n : Nat} (h : d = .tup ds ∨ d = .lst ds) (hn : n = ds.length) : LcAQ d f mt me ρ n S Q = LcQ f mt me ρ ds S Q := by
  subst hn
  unfold LcAQ LcQ
  have := lcA_fix (f := f) (mt := mt) (me := me) (ρ := ρ) h ds [] S rfl
  rw [show (([] : List D).length) = 0 from rfl] at this
  rw [this]
@[simp] theorem lcAQ_tup {ds : List D} {Q : List D → Sto → Prop} : LcAQ (.tup ds) f mt me ρ ds.length S Q = LcQ f mt me ρ ds S Q := lcAQ_fix (.inl rfl) rfl
@[simp] theorem lcAQ_lst {ds : List D} {Q : List D → Sto → Prop} : LcAQ (.lst ds) f mt me ρ ds.length S Q = LcQ f mt me ρ ds S Q := lcAQ_fix (.inr rfl) rfl
end
@[simp] theorem lcAQ_fixT {ds : List D} {f : D → Rho → Option Rho} {mt me : ME} {ρ : Rho} {n : Nat} {S : Sto} {Q : List D → Sto → Prop} {α : Type} {g : α → D} {as : List α} : LcAQ (.tup (as.map g)) f mt me ρ as.length S Q = LcQ f mt me ρ (as.map g) S Q := lcAQ_fix (.inl rfl) (by rw [List.length_map])
@[simp] theorem lcAQ_fixL {ds : List D} {f : D → Rho → Option Rho} {mt me : ME} {ρ : Rho} {n : Nat} {S : Sto} {Q : List D → Sto → Prop} {α : Type} {g : α → D} {as : List α} : LcAQ (.lst (as.map g)) f mt me ρ as.length S Q = LcQ f mt me ρ (as.map g) S Q := lcAQ_fix (.inr rfl) (by rw [List.length_map])
theorem seqOf_cell {S : Sto} {n : Nat} {ds : List D} (h : S[n]? = some (.lst ds)) : seqOf S (.cell n) = some ds := by
  show (match S[n]? with | some (Cell.lst ds) => some ds | _ => none) = _
  rw [h]
end Dm
-- text Hw2
namespace Dm
open PySem L2
end Dm
-- text DmSimp
namespace Dm
open PySem L2
section
variable {S : Sto} {k : D → Prop} {i j : Int} {ds es : List D} {n : Nat} {a b : Bool} {x y : Str}
@[simp] theorem optQ_none : OptQ none k = False := rfl
@[simp] theorem optQ_ite {c : Prop} [Decidable c] {d : D} : OptQ (if c then some d else none) k = (c ∧ k d) := by
  by_cases h : c
  · rw [if_pos h]; simp [h]
  · rw [if_neg h]; simp [h]
@[simp] theorem optQ_map {α : Type} {o : Option α} {f : α → D} : OptQ (o.map f) k = (match o with
    | some z => k (f z)
    | none => False) := by cases o <;> rfl
@[simp] theorem gI_int {f : Int → Int → D} : gI f S (.int i) (.int j) = some (f i j) := rfl
@[simp] theorem gIC_int {C : Int → Int → Prop} [∀ i j, Decidable (C i j)] {f : Int → Int → D} : gIC C f S (.int i) (.int j) = if C i j then some (f i j) else none := rfl
@[simp] theorem gAdd_int : gAdd S (.int i) (.int j) = some (.int (i + j)) := rfl
@[simp] theorem gAdd_tup : gAdd S (.tup ds) (.tup es) = if ds.length + es.length ≤ 16777216 then some (.tup (ds ++ es)) else none := rfl
@[simp] theorem gNeg_int : gNeg S (.int i) = some (.int (-i)) := rfl
@[simp] theorem gLen_tup : gLen S [.tup ds] = some (.int ds.length) := rfl
@[simp] theorem gLen_lst : gLen S [.lst ds] = some (.int ds.length) := rfl
theorem lstOf_cell (h : S[n]? = some (.lst ds)) : lstOf S (.cell n) = some ds := by simp only [lstOf, h]
theorem gLen_cell (h : S[n]? = some (.lst ds)) : gLen S [.cell n] = some (.int ds.length) := by
  show (lstOf S (.cell n)).map _ = _
  rw [lstOf_cell h] <;> rfl
@[simp] theorem gInt1_int : gInt1 S [.int i] = some (.int i) := rfl
@[simp] theorem gInt1_bl : gInt1 S [.bl b] = some (.int (if b then 1 else 0)) := rfl
@[simp] theorem gII_int {f : Int → Int → Int} : gII f S [.int i, .int j] = some (.int (f i j)) := rfl
@[simp] theorem gTuple_tup : gTuple S [.tup ds] = some (.tup ds) := rfl
@[simp] theorem gTuple_lst : gTuple S [.lst ds] = some (.tup ds) := rfl
theorem gTuple_cell (h : S[n]? = some (.lst ds)) : gTuple S [.cell n] = some (.tup ds) := by
  show (lstOf S (.cell n)).map _ = _
  rw [lstOf_cell h] <;> rfl
@[simp] theorem gIx_tup : gIx S (.tup ds) (.int i) = atI ds i := rfl
@[simp] theorem gIx_lst : gIx S (.lst ds) (.int i) = atI ds i := rfl
theorem gIx_cell (h : S[n]? = some (.lst ds)) : gIx S (.cell n) (.int i) = atI ds i := by
  show (lstOf S (.cell n)).bind _ = _
  rw [lstOf_cell h] <;> rfl
@[simp] theorem gEq_int : gEq S (.int i) (.int j) = some (.bl (i == j)) := rfl
@[simp] theorem gNe_int : gNe S (.int i) (.int j) = some (.bl (!(i == j))) := rfl
@[simp] theorem gEq_str : gEq S (.str x) (.str y) = some (.bl (x == y)) := rfl
@[simp] theorem gNe_str : gNe S (.str x) (.str y) = some (.bl (!(x == y))) := rfl
theorem shaped_bool (b : Bool) : SeqAt.shaped (.bool b) = true := by cases b <;> decide
@[simp] theorem gEq_bl : gEq S (.bl a) (.bl b) = some (.bl (a == b)) := by
  show (if SeqAt.shaped (.bool a) = true ∧ SeqAt.shaped (.bool b) = true then some (PyData.eqv (.bool a) (.bool b)) else none).map D.bl = _
  rw [if_pos ⟨shaped_bool a, shaped_bool b⟩]
  simp [PyData.eqv]
@[simp] theorem gNe_bl : gNe S (.bl a) (.bl b) = some (.bl (!(a == b))) := by
  show (if SeqAt.shaped (.bool a) = true ∧ SeqAt.shaped (.bool b) = true then some (PyData.eqv (.bool a) (.bool b)) else none).map (fun b => D.bl (!b)) = _
  rw [if_pos ⟨shaped_bool a, shaped_bool b⟩]
  simp [PyData.eqv]
@[simp] theorem gIsN_non {neg : Bool} {d : D} : gIsN neg S d .non = some (.bl (if neg then !isNon d else isNon d)) := rfl
@[simp] theorem isNon_non : isNon .non = true := rfl
@[simp] theorem isNon_bl : isNon (.bl b) = false := rfl
@[simp] theorem isNon_int : isNon (.int i) = false := rfl
@[simp] theorem isNon_str : isNon (.str x) = false := rfl
@[simp] theorem isNon_tup : isNon (.tup ds) = false := rfl
@[simp] theorem isNon_lst : isNon (.lst ds) = false := rfl
@[simp] theorem isNon_cell : isNon (.cell n) = false := rfl
@[simp] theorem tyOf_non : tyOf S .non = some .non := rfl
@[simp] theorem tyOf_bl : tyOf S (.bl b) = some .bl := rfl
@[simp] theorem tyOf_int : tyOf S (.int i) = some .int := rfl
@[simp] theorem tyOf_str : tyOf S (.str x) = some .str := rfl
@[simp] theorem tyOf_tup : tyOf S (.tup ds) = some .tup := rfl
@[simp] theorem tyOf_exv {c : Str} {fs : List (Str × Int)} : tyOf S (.exn c fs) = some .exn := rfl
@[simp] theorem tyOf_lst : tyOf S (.lst ds) = some .lst := rfl
@[simp] theorem seqOf_tup : seqOf S (.tup ds) = some ds := rfl
@[simp] theorem seqOf_lst : seqOf S (.lst ds) = some ds := rfl
@[simp] theorem lstOf_lst : lstOf S (.lst ds) = some ds := rfl
@[simp] theorem flatD_int : flatD (.int i) = true := rfl
@[simp] theorem eqF_int : eqF (.int i) (.int j) = (i == j) := rfl
@[simp] theorem tgN_eq {ρ : Rho} {d : D} {i : Nat} : tgN i d ρ = some (ρ.set i (some d)) := rfl
@[simp] theorem tgT_eq {ρ : Rho} {m : Nat} {f : List D → Rho → Option Rho} : tgT m f (.tup ds) ρ = if ds.length = m then f ds ρ else none := rfl
@[simp] theorem tgCons_eq {ρ : Rho} {d : D} {f : D → Rho → Option Rho} {g : List D → Rho → Option Rho} : tgCons f g (d :: ds) ρ = (f d ρ).bind fun ρ1 => g ds ρ1 := rfl
@[simp] theorem tgNil_eq {ρ : Rho} : tgNil [] ρ = some ρ := rfl
@[simp] theorem atI_zero {α : Type} {x : α} {xs : List α} : atI (x :: xs) 0 = some x := by simp [atI, ixN]
@[simp] theorem atI_one {α : Type} {x y : α} {xs : List α} : atI (x :: y :: xs) 1 = some y := by
  have h : (1 : Int) < ((xs.length + 1 + 1 : Nat) : Int) := by omega
  simp only [atI, ixN, List.length_cons, if_pos (show (0 : Int) ≤ 1 by decide), if_pos h] <;> rfl
@[simp] theorem atI_two {α : Type} {x y z : α} {xs : List α} : atI (x :: y :: z :: xs) 2 = some z := by
  have h : (2 : Int) < ((xs.length + 1 + 1 + 1 : Nat) : Int) := by omega
  simp only [atI, ixN, List.length_cons, if_pos (show (0 : Int) ≤ 2 by decide), if_pos h] <;> rfl
theorem atI_of {α : Type} {xs : List α} {i : Int} (h0 : 0 ≤ i) (h : i < xs.length) : atI xs i = xs[i.toNat]? := by
  simp [atI, ixN, h0, h]
theorem cdivw {i j : Int} (h0 : 0 < j) (h : j < 18446744073709551616) : CDivW i j := by
  refine ⟨h0, ?_⟩
  have h1 : j.natAbs < 2 ^ 64 := by omega
  have h2 : j.natAbs.log2 < 64 := (Nat.log2_lt (by omega)).mpr h1
  omega
theorem log2_le {a : Nat} {n : Nat} (h : a < 2 ^ n) : a.log2 ≤ n := by
  by_cases h0 : a = 0
  · subst h0
    rw [Nat.log2_zero]; exact Nat.zero_le _
  · exact Nat.le_of_lt ((Nat.log2_lt h0).mpr h)
theorem cmulw {i j : Int} (n m : Nat) (h : i.natAbs < 2 ^ n) (h' : j.natAbs < 2 ^ m) (hs : n + m < 1000000) : CMulW i j := by
  have h1 := log2_le h
  have h2 := log2_le h'
  show i.natAbs.log2 + j.natAbs.log2 < 1000000
  omega
theorem cmulw64 {i j : Int} (h : -18446744073709551616 < i ∧ i < 18446744073709551616) (h' : -18446744073709551616 < j ∧ j < 18446744073709551616) : CMulW i j := cmulw 64 64 (by omega) (by omega) (by decide)
end
end Dm
-- text DmDict
namespace Dm
open PySem L2 PySem.Spec PyProof.Rows
open PySem.W (Frag)
/-! ### dicts whose keys are ints and texts -/
def keyD : D → Option Key
  | .int i => some (.inl i)
  | .str x => some (.inr x)
  | _ => none
def valD (kvs : List (Key × D)) (k : Key) : Option D := (kvs.find? fun kv => decide (kv.1 = k)).map (·.2)
def putD (kvs : List (Key × D)) (k : Key) (v : D) : List (Key × D) :=
  if (kvs.any fun kv => decide (kv.1 = k)) = true then kvs.map (fun kv => if kv.1 = k then (kv.1, v) else kv) else kvs ++ [(k, v)]
def mergeD (kvs more : List (Key × D)) : List (Key × D) := more.foldl (fun acc kv => putD acc kv.1 kv.2) kvs
def dicOf (S : Sto) : D → Option (List (Key × D))
  | .cell n => match S[n]? with
    | some (.dic kvs) => some kvs
    | _ => none
  | _ => none
section
variable {F : Fx} {μ : List Addr} {H : Hp} {S : Sto}
theorem keyD_of {v : V} {d : D} {k : Key} (r : RD F μ H v d) (e : keyD d = some k) : v = kV k := by
  cases r with
  | int i => cases e; rfl
  | str x => cases e; rfl
  | _ => exact nomatch e
theorem valV_of {k : Key} : ∀ {vk : List (Key × V)} {kvs : List (Key × D)} {d : D}, KvR F μ H vk kvs → valD kvs k = some d → ∃ v, valV vk k = some v ∧ RD F μ H v d
  | _, _, d, .nil, e => by cases e
  | p :: vk, q :: kvs, d, .cons h r, e => by
    obtain ⟨h1, h2⟩ := h
    by_cases c : q.1 = k
    · have e1 : valD (q :: kvs) k = some q.2 := by simp [valD, List.find?_cons, c]
      have e2 : valV (p :: vk) k = some p.2 := valV_pos (by rw [h1]; exact c)
      rw [e1] at e; cases e
      exact ⟨_, e2, h2⟩
    · have e1 : valD (q :: kvs) k = valD kvs k := by simp [valD, List.find?_cons, c]
      have e2 : valV (p :: vk) k = valV vk k := by
        have : ¬ p.1 = k := by rw [h1]; exact c
        simp [valV, List.find?_cons, this]
      rw [e1] at e
      rw [e2]
      exact valV_of r e
theorem valV_none {k : Key} : ∀ {vk : List (Key × V)} {kvs : List (Key × D)}, KvR F μ H vk kvs → (valV vk k).isSome = (valD kvs k).isSome
  | _, _, .nil => rfl
  | p :: vk, q :: kvs, .cons h r => by
    obtain ⟨h1, h2⟩ := h
    by_cases c : q.1 = k
    · have e1 : valD (q :: kvs) k = some q.2 := by simp [valD, List.find?_cons, c]
      have e2 : valV (p :: vk) k = some p.2 := valV_pos (by rw [h1]; exact c)
      rw [e1, e2] <;> rfl
    · have e1 : valD (q :: kvs) k = valD kvs k := by simp [valD, List.find?_cons, c]
      have e2 : valV (p :: vk) k = valV vk k := by
        have : ¬ p.1 = k := by rw [h1]; exact c
        simp [valV, List.find?_cons, this]
      rw [e1, e2]
      exact valV_none r
theorem any_of {k : Key} : ∀ {vk : List (Key × V)} {kvs : List (Key × D)}, KvR F μ H vk kvs → (vk.any fun kv => decide (kv.1 = k)) = (kvs.any fun kv => decide (kv.1 = k))
  | _, _, .nil => rfl
  | p :: vk, q :: kvs, .cons h r => by rw [List.any_cons, List.any_cons, h.1, any_of r]
theorem kvr_map {k : Key} {v : V} {d : D} (hd : RD F μ H v d) : ∀ {vk : List (Key × V)} {kvs : List (Key × D)}, KvR F μ H vk kvs → KvR F μ H (vk.map fun kv => if kv.1 = k then (kv.1, v) else kv) (kvs.map fun kv => if kv.1 = k then (kv.1, d) else kv)
  | _, _, .nil => .nil
  | p :: vk, q :: kvs, .cons h r => by
    refine .cons ?_ (kvr_map hd r)
    obtain ⟨h1, h2⟩ := h
    by_cases c : q.1 = k
    · have c' : p.1 = k := by rw [h1]; exact c
      simp only [if_pos c, if_pos c']
      exact ⟨h1, hd⟩
    · have c' : ¬ p.1 = k := by rw [h1]; exact c
      simp only [if_neg c, if_neg c']
      exact ⟨h1, h2⟩
theorem kvr_snoc {p : Key × V} {q : Key × D} (h : p.1 = q.1 ∧ RD F μ H p.2 q.2) : ∀ {vk : List (Key × V)} {kvs : List (Key × D)}, KvR F μ H vk kvs → KvR F μ H (vk ++ [p]) (kvs ++ [q])
  | _, _, .nil => .cons h .nil
  | _, _, .cons a r => .cons a (kvr_snoc h r)
theorem kvr_put {k : Key} {v : V} {d : D} (hd : RD F μ H v d) {vk : List (Key × V)} {kvs : List (Key × D)} (r : KvR F μ H vk kvs) : KvR F μ H (putK vk k v) (putD kvs k d) := by
  unfold putK putD
  rw [any_of r]
  split
  · exact kvr_map hd r
  · exact kvr_snoc ⟨rfl, hd⟩ r
theorem kvr_merge : ∀ {vm : List (Key × V)} {more : List (Key × D)} {vk : List (Key × V)} {kvs : List (Key × D)}, KvR F μ H vm more → KvR F μ H vk kvs → KvR F μ H (mergeK vk vm) (mergeD kvs more)
  | _, _, _, _, .nil, r => r
  | p :: vm, q :: more, vk, kvs, .cons h t, r => by
    obtain ⟨h1, h2⟩ := h
    unfold mergeK mergeD
    rw [List.foldl_cons, List.foldl_cons, h1]
    exact kvr_merge t (kvr_put h2 r)
theorem kvr_mv {F' : Fx} {μ' : List Addr} {H' : Hp} (m : Mv F μ H F' μ' H') {vk : List (Key × V)} {kvs : List (Key × D)} (r : KvR F μ H vk kvs) : KvR F' μ' H' vk kvs := Paired.mapP r fun _ _ z => ⟨z.1, z.2.mv m⟩
theorem dic_at {v : V} {d : D} {kvs : List (Key × D)} (s : RS F μ H S) (r : RD F μ H v d) (e : dicOf S d = some kvs) : ∃ n a vk, d = .cell n ∧ v = .ref a ∧ μ[n]? = some a ∧ S[n]? = some (.dic kvs) ∧ H a = some (.dK vk) ∧ KvR F μ H vk kvs := by
  cases r with
  | @cell a n ea =>
    have e : (match S[n]? with | some (Cell.dic kvs) => some kvs | _ => none) = some kvs := e
    cases q : S[n]? with
    | none => rw [q] at e; exact nomatch e
    | some c =>
      rw [q] at e
      cases c with
      | dic kvs' =>
        cases e
        obtain ⟨vk, h1, h2⟩ := s.at_ n a _ ea q
        exact ⟨n, a, vk, rfl, rfl, ea, q, h1, h2⟩
      | _ => exact nomatch e
  | _ => exact nomatch e
/-- a reserved thing as a cell -/
theorem RS.asCellG {p : Addr} {c : Cell} (r : RS (F.hold p) μ H S) (hx : p ∉ F.ξ) (hc : CellOk F (μ ++ [p]) H p c) : RS F (μ ++ [p]) H (S ++ [c]) := by
  have np := (r.xi p List.mem_cons_self).1
  refine ⟨by rw [List.length_append, List.length_append, r.len] <;> rfl, ?_, fun n a c' e1 e2 => ?_, fun a ha => ⟨fun z => ?_, (r.xi a (List.mem_cons_of_mem _ ha)).2⟩⟩
  · refine List.nodup_append.mpr ⟨r.nd, by simp, fun a ha b hb => ?_⟩
    rw [List.mem_singleton.mp hb]
    rintro rfl
    exact np ha
  · by_cases hn : n < μ.length
    · rw [List.getElem?_append_left hn] at e1
      rw [List.getElem?_append_left (by rw [← r.len]; exact hn)] at e2
      exact (r.at_ n a c' e1 e2).mv .asCell rfl
    · have hn' : n = μ.length := by
        have q := (List.getElem?_eq_some_iff.mp e1).1
        rw [List.length_append, List.length_singleton] at q
        omega
      subst hn'
      rw [List.getElem?_append_right (Nat.le_refl _), Nat.sub_self] at e1
      rw [List.getElem?_append_right (by rw [r.len]; exact Nat.le_refl _), r.len, Nat.sub_self] at e2
      cases e1; cases e2
      exact hc
  · rcases List.mem_append.mp z with z | z
    · exact (r.xi a (List.mem_cons_of_mem _ ha)).1 z
    · rw [List.mem_singleton.mp z] at ha
      exact hx ha
end
section
variable {X : Cx} {W : WX} {tg e a b c o i : Expr} {es : List Expr} {mo mi ma mb mc m : ME} {mr : MA} {pos p p1 p2 p3 : Pos}
/-- d[k] -/
def gDIx : Sto → D → D → Option D := fun S x y => (dicOf S x).bind fun kvs => (keyD y).bind fun k => valD kvs k
theorem d_dix (hu : X.A.units + 64 < cLine) (ho : DE X W o mo) (hi : DE X W i mi) (hs : NoSl i := by exact fun _ _ => rfl) : DE X W (.Subscript o i pos) (mOp gDIx mo mi) := by
  obtain ⟨to, po, ko⟩ := ho
  obtain ⟨ti, pi, ki⟩ := hi
  refine ⟨_, pe_dget (by omega) po pi hs, fun ξ μ σ H ρ S Q g s h => ko ξ μ σ H ρ S _ g s (WR.bind h fun x S1 v μ1 H1 u1 s1 r1 h1 => ?_)⟩
  refine ki ξ μ1 σ H1 ρ S1 _ (g.up u1) s1 (WR.bind h1 fun y S2 w μ2 H2 u2 s2 r2 h2 => ?_)
  unfold gDIx at h2
  cases q1 : dicOf S2 x with
  | none => rw [q1] at h2; exact h2.elim
  | some kvs =>
    rw [q1] at h2
    cases q2 : keyD y with
    | none => rw [q2] at h2; exact h2.elim
    | some k =>
      rw [q2] at h2
      simp only [Option.bind_some] at h2
      cases q3 : valD kvs k with
      | none => rw [q3] at h2; exact h2.elim
      | some d =>
        rw [q3] at h2
        obtain ⟨n, a, vk, rfl, rfl, ea, es, e3, e4⟩ := dic_at s2 (r1.up u2) q1
        obtain ⟨z, e5, e6⟩ := valV_of e4 q3
        have ek := keyD_of r2 q2
        subst ek
        exact ⟨a, z, rfl, by rw [← e5]; exact DGet.k e3, h2 z μ2 H2 .refl s2 e6⟩
/-- {} -/
def mDNew : ME := fun _ S => .ok (.cell S.length) (S ++ [.dic []])
/-- {k: v, ..} -/
abbrev MPs := Rho → Sto → Res (List (D × D))
def mPNil : MPs := fun _ S => .ok [] S
def mPCons (k v : ME) (r : MPs) : MPs := fun ρ S => (k ρ S).bind fun x S1 => (v ρ S1).bind fun y S2 => (r ρ S2).bind fun xs S3 => .ok ((x, y) :: xs) S3
def PrR (F : Fx) (μ : List Addr) (H : Hp) : List (V × V) → List (D × D) → Prop := Paired fun p q => RD F μ H p.1 q.1 ∧ RD F μ H p.2 q.2
structure DPs (X : Cx) (W : WX) (pos : Pos) (keys : List (Option Expr)) (values : List Expr) (m : MPs) : Prop where
  ex : ∃ trs, PPs X pos keys values trs ∧ ∀ ξ μ σ H ρ S Q, RG (fx X ξ) μ H σ ρ → RS (fx X ξ) μ H S → WR (fx X ξ) (PrR (fx X ξ)) (m ρ S) Q (fun cls dd H' => W cls dd σ H') μ H → tPairs trs σ H Q
theorem dps_nil : DPs X W pos [] [] mPNil := ⟨_, pps_nil, fun ξ μ σ H ρ S Q g s h => h [] μ H .refl s .nil⟩
theorem dps_cons {ks : List (Option Expr)} {vs : List Expr} {mr : MPs} (hk : DE X W a ma) (hv : DE X W b mb) (hr : DPs X W pos ks vs mr) : DPs X W pos (some a :: ks) (b :: vs) (mPCons ma mb mr) := by
  obtain ⟨ta, pa, ka⟩ := hk
  obtain ⟨tb, pb, kb⟩ := hv
  obtain ⟨tr, pr, kr⟩ := hr
  refine ⟨_, pps_cons pa pb pr, fun ξ μ σ H ρ S Q g s h => ka ξ μ σ H ρ S _ g s (WR.bind h fun x S1 v μ1 H1 u1 s1 r1 h1 => ?_)⟩
  refine kb ξ μ1 σ H1 ρ S1 _ (g.up u1) s1 (WR.bind h1 fun y S2 w μ2 H2 u2 s2 r2 h2 => ?_)
  refine kr ξ μ2 σ H2 ρ S2 _ (g.up (u1.trans u2)) s2 (WR.bind h2 fun ds S3 vs μ3 H3 u3 s3 r3 h3 => ?_)
  exact h3 _ μ3 H3 .refl s3 (.cons ⟨r1.up (u2.trans u3), r2.up u3⟩ r3)
def keysD : List (D × D) → Option (List (Key × D))
  | [] => some []
  | (k, v) :: r => (keyD k).bind fun k => (keysD r).map ((k, v) :: ·)
theorem keysD_of {F : Fx} {μ : List Addr} {H : Hp} : ∀ {ps : List (V × V)} {ds : List (D × D)} {kvs : List (Key × D)}, PrR F μ H ps ds → keysD ds = some kvs → ∃ vk : List (Key × V), ps = vk.map (fun kv => (kV kv.1, kv.2)) ∧ KvR F μ H vk kvs ∧ vk.length = kvs.length
  | _, _, kvs, .nil, e => by cases e; exact ⟨[], rfl, .nil, rfl⟩
  | p :: ps, (k, d) :: ds, kvs, .cons h r, e => by
    obtain ⟨h1, h2⟩ := h
    have e : (keyD k).bind (fun k => (keysD ds).map ((k, d) :: ·)) = some kvs := e
    cases q1 : keyD k with
    | none => rw [q1] at e; exact nomatch e
    | some k' =>
      cases q2 : keysD ds with
      | none => rw [q1, q2] at e; exact nomatch e
      | some more =>
        rw [q1, q2] at e; cases e
        obtain ⟨vk, e1, e2, e3⟩ := keysD_of r q2
        refine ⟨(k', p.2) :: vk, ?_, .cons ⟨rfl, h2⟩ e2, by rw [List.length_cons, List.length_cons, e3]⟩
        rw [List.map_cons, e1, ← keyD_of h1 q1]
def mDisp (m : MPs) : ME := fun ρ S => (m ρ S).bind fun ds S1 => match keysD ds with
  | some kvs => if kvs.length ≤ 15 then .ok (.cell S1.length) (S1 ++ [.dic (mergeD [] kvs)]) else .bad
  | none => .bad
theorem d_disp {keys : List (Option Expr)} {values : List Expr} {m : MPs} (h : DPs X W pos keys values m) (hall : keys.all (·.isSome) = true := by rfl) (hl : keys.length = values.length := by rfl) (h0 : keys ≠ [] := by exact List.cons_ne_nil _ _) (h15 : keys.length ≤ 15 := by decide) : DE X W (.Dict keys values pos) (mDisp m) := by
  obtain ⟨trs, ps, kp⟩ := h
  refine ⟨_, pe_disp ps hall hl h0 h15, fun ξ μ σ H ρ S Q g s h => fun p hp => ?_⟩
  have m0 : Mv (fx X ξ) μ H ((fx X ξ).hold p) μ (upd H p (.dK [])) := .holds hp
  have s1 : RS ((fx X ξ).hold p) μ (upd H p (.dK [])) S := s.holds hp
  have n0 : p ∉ μ := s.out hp
  refine kp (p :: ξ) μ σ (upd H p (.dK [])) ρ S _ (g.mv m0) s1 ?_
  unfold mDisp at h
  cases e : m ρ S with
  | bad => rw [e] at h; exact h.elim
  | exc cc fs S1 =>
    rw [e] at h
    have h : ∀ cls dd μ' H', Up μ H μ' H' → RS (fx X ξ) μ' H' S1 → XR (fx X ξ) μ' H' cls dd cc fs → W cls dd σ H' := h
    intro cls dd μ' H' u s' x
    have u' : Up μ H μ' H' := ⟨u.pre, fun a h1 h2 => by
      have := u.new a h1 h2
      by_cases c : a = p
      · rw [c]; exact hp
      · rw [upd_ne c] at this; exact this, fun a o' h1 h2 => u.keep a o' (by rw [upd_ne (ne_of_none h1 hp)]; exact h1) h2⟩
    exact h cls dd μ' H' u' (RS.free (F := fx X ξ) (p := p) s') ⟨x.1, x.2.imp id fun ⟨d, vfs, z1, z2, z3, z5, z4⟩ => ⟨d, vfs, z1, z2, z3, fun q => z5 (List.mem_cons_of_mem _ q), Paired.mapP z4 fun _ _ z => ⟨z.1, RD.free (F := fx X ξ) (p := p) _ z.2⟩⟩⟩
  | ok ds S1 =>
    rw [e] at h
    intro vps μ2 H2 u2 s2 r2
    have e2 : H2 p = some (.dK []) := u2.keep _ _ upd_same n0
    have np2 : p ∉ μ2 := (s2.xi p List.mem_cons_self).1
    have h : WE' (fx X ξ) (match keysD ds with | some kvs => if kvs.length ≤ 15 then .ok (.cell S1.length) (S1 ++ [.dic (mergeD [] kvs)]) else .bad | none => .bad) Q (fun cls dd H' => W cls dd σ H') μ H := h
    cases q : keysD ds with
    | none => rw [q] at h; exact h.elim
    | some kvs =>
      rw [q] at h
      simp only at h
      by_cases c : kvs.length ≤ 15
      · rw [if_pos c] at h
        obtain ⟨vk, e3, e4, e5⟩ := keysD_of r2 q
        refine ⟨e2, vk, e3, by omega, ?_⟩
        have s3 : RS ((fx X ξ).hold p) μ2 (upd H2 p (.dK (mergeK [] vk))) S1 := RS.wr (F := fx X ξ) (p := p) s2
        have e6 : KvR ((fx X ξ).hold p) μ2 (upd H2 p (.dK (mergeK [] vk))) (mergeK [] vk) (mergeD [] kvs) := kvr_mv (Mv.wr (F := fx X ξ) (p := p)) (kvr_merge e4 .nil)
        have s4 := RS.asCellG (F := fx X ξ) (c := .dic (mergeD [] kvs)) s3 (s.outX hp) ⟨_, upd_same, kvr_mv (Mv.asCell (F := fx X ξ) (p := p)) e6⟩
        refine h (.ref p) (μ2 ++ [p]) _ ?_ s4 (.cell (by rw [List.getElem?_append_right (by rw [s2.len]; exact Nat.le_refl _), s2.len, Nat.sub_self] <;> rfl))
        obtain ⟨ν, en⟩ := u2.pre
        refine ⟨⟨ν ++ [p], by rw [en, List.append_assoc]⟩, fun a ha hn => ?_, fun a o ha hn => ?_⟩
        · rcases List.mem_append.mp ha with z | z
          · have := u2.new a z hn
            by_cases c : a = p
            · rw [c]; exact hp
            · rw [upd_ne c] at this; exact this
          · rw [List.mem_singleton.mp z]; exact hp
        · rw [upd_ne (ne_of_none ha hp)]
          exact u2.keep a o (by rw [upd_ne (ne_of_none ha hp)]; exact ha) hn
      · rw [if_neg c] at h; exact h.elim
/-- d[k] = v -/
def mSetDx (m o i : ME) : MS := fun ρ S => ofRes (m ρ S) ρ fun d S1 => ofRes (o ρ S1) ρ fun x S2 => ofRes (i ρ S2) ρ fun y S3 => match x with
  | .cell n => match S3[n]?, keyD y with
    | some (.dic kvs), some k => if kvs.length < 16777216 then .nx ρ (S3.set n (.dic (putD kvs k d))) else .bad
    | _, _ => .bad
  | _ => .bad
/-- k in d, k not in d -/
def gDIn (neg : Bool) : Sto → D → D → Option D := fun S y x => (dicOf S x).bind fun kvs => (keyD y).map fun k => .bl (if neg then !(valD kvs k).isSome else (valD kvs k).isSome)
end
/-! ### dict comprehensions -/
/-! ### what they do -/
section
variable {S : Sto} {ρ : Rho} {Q : D → Sto → Prop} {N B C : Rho → Sto → Prop} {R : D → Sto → Prop} {E : EX} {EO : EXO}
@[simp] theorem keyD_int {i : Int} : keyD (.int i) = some (.inl i) := rfl
@[simp] theorem keyD_str {x : Str} : keyD (.str x) = some (.inr x) := rfl
@[simp] theorem does_dnew : (mDNew ρ S).DoesE E Q = Q (.cell S.length) (S ++ [.dic []]) := rfl
@[simp] theorem does_pnil {Q : List (D × D) → Sto → Prop} : (mPNil ρ S).DoesE E Q = Q [] S := rfl
@[simp] theorem does_pcons {k v : ME} {r : MPs} {Q : List (D × D) → Sto → Prop} : (mPCons k v r ρ S).DoesE E Q = (k ρ S).DoesE E fun x S1 => (v ρ S1).DoesE E fun y S2 => (r ρ S2).DoesE E fun xs S3 => Q ((x, y) :: xs) S3 := by
  unfold mPCons
  rw [does_bind]; congr 1; funext x S1
  rw [does_bind]; congr 1; funext y S2
  rw [does_bind] <;> rfl
@[simp] theorem does_disp {m : MPs} : (mDisp m ρ S).DoesE E Q = (m ρ S).DoesE E fun ds S1 => match keysD ds with
    | some kvs => kvs.length ≤ 15 ∧ Q (.cell S1.length) (S1 ++ [.dic (mergeD [] kvs)])
    | none => False := by
  unfold mDisp
  rw [does_bind]; congr 1; funext ds S1
  cases keysD ds with
  | none => rfl
  | some kvs =>
    simp only
    by_cases h : kvs.length ≤ 15
    · rw [if_pos h]; simp [h]
    · rw [if_neg h]; simp [h, Res.DoesE]
@[simp] theorem does_setDx {m o i : ME} : (mSetDx m o i ρ S).DoesE EO N R B C = (m ρ S).DoesE (eAt EO ρ) fun d S1 => (o ρ S1).DoesE (eAt EO ρ) fun x S2 => (i ρ S2).DoesE (eAt EO ρ) fun y S3 => match x with
    | .cell n => match S3[n]?, keyD y with
      | some (.dic kvs), some k => kvs.length < 16777216 ∧ N ρ (S3.set n (.dic (putD kvs k d)))
      | _, _ => False
    | _ => False := by
  unfold mSetDx
  rw [does_ofRes]; congr 1; funext d S1
  rw [does_ofRes]; congr 1; funext x S2
  rw [does_ofRes]; congr 1; funext y S3
  cases x with
  | cell n =>
    simp only
    cases S3[n]? with
    | none => rfl
    | some c =>
      cases c with
      | dic kvs =>
        cases keyD y with
        | none => rfl
        | some k =>
          simp only
          by_cases h : kvs.length < 16777216
          · rw [if_pos h]; simp [h]
          · rw [if_neg h]; simp [h, Out.DoesE]
      | _ => rfl
  | _ => rfl
theorem dicOf_cell {n : Nat} {kvs : List (Key × D)} (h : S[n]? = some (.dic kvs)) : dicOf S (.cell n) = some kvs := by
  show (match S[n]? with | some (Cell.dic kvs) => some kvs | _ => none) = _
  rw [h]
theorem gDIx_cell {n : Nat} {kvs : List (Key × D)} {y : D} (h : S[n]? = some (.dic kvs)) : gDIx S (.cell n) y = (keyD y).bind fun k => valD kvs k := by
  unfold gDIx
  rw [dicOf_cell h] <;> rfl
end
end Dm
-- text DmKw
namespace Dm
open PySem L2 PySem.Spec PyProof.Rows
open PySem.W (Frag)
/-! ### constant data -/
mutual
inductive KD (K : Frag) : V → D → Prop
  | non : KD K .non .non
  | bl (b : Bool) : KD K (.bl b) (.bl b)
  | int (i : Int) : KD K (.int i) (.int i)
  | str (x : Str) : KD K (.str x) (.str x)
  | tup {a : Addr} {xs : List V} {ds : List D} : KT K a xs → KDs K xs ds → KD K (.ref a) (.tup ds)
inductive KDs (K : Frag) : List V → List D → Prop
  | nil : KDs K [] []
  | cons {v : V} {vs : List V} {d : D} {ds : List D} : KD K v d → KDs K vs ds → KDs K (v :: vs) (d :: ds)
end
mutual
theorem KD.rd {F : Fx} {μ : List Addr} {H : Hp} : ∀ {v : V} (d : D), KD F.K v d → RD F μ H v d
  | _, .non, h => by cases h; exact .non
  | _, .bl b, h => by cases h; exact .bl b
  | _, .int i, h => by cases h; exact .int i
  | _, .str x, h => by cases h; exact .str x
  | _, .tup ds, h => by
    cases h with
    | tup t r => exact .tup (.inr t) (KDs.rd ds r)
  | _, .lst _, h => by cases h
  | _, .cell _, h => by cases h
  | _, .glo _, h => by cases h
  | _, .exn _ _, h => by cases h
theorem KDs.rd {F : Fx} {μ : List Addr} {H : Hp} : ∀ {vs : List V} (ds : List D), KDs F.K vs ds → RDs F μ H vs ds
  | _, [], h => by cases h; exact .nil
  | _, d :: ds, h => by
    cases h with
    | cons a b => exact .cons (KD.rd d a) (KDs.rd ds b)
end
/-- the name stands for this -/
def GlK (K : Frag) (mg : Str → Option Value) (x : Str) (d : D) : Prop := ∃ u v, mg x = some u ∧ RelV v u ∧ KD K v d
theorem GlK.glD {X : Cx} {K : Frag} {mg : Str → Option Value} {x : Str} {d : D} (h : GlK K mg x d) (hK : X.K = K := by rfl) (hg : X.mg = mg := by rfl) : GlD X x d := by
  obtain ⟨u, v, h1, h2, h3⟩ := h
  exact ⟨u, v, by rw [hg]; exact h1, h2, fun ξ μ H => KD.rd (F := fx X ξ) d (by show KD X.K v d; rw [hK]; exact h3)⟩
theorem kt_mk {K : Frag} {a : Addr} {od : Option Addr} {its : Array Value} {n : Nat} {sl : Array (Option Value)} {xs : List V} (h : K.lookup a = some ⟨.type "tuple", od, .seq its n, sl⟩) (hz : its.size ≤ 1000) (r : Vals xs its.toList) : KT K a xs :=
  ⟨_, its, n, h, rfl, rfl, by rw [sizeLine_eq]; omega, r⟩
/-! ### defs with defaults -/
def mCallD (f : List D → Sto → Res D) (n q : Nat) (perm : List Nat) (dd : List D) (a k : MA) : ME := fun ρ S => (a ρ S).bind fun xs S1 => (k ρ S1).bind fun zs S2 => if xs.length = n ∧ zs.length = q then f (perm.filterMap ((xs ++ zs ++ dd)[·]?)) S2 else .bad
section
variable {S : Sto} {ρ : Rho} {Q : D → Sto → Prop} {E : EX} {EO : EXO}
@[simp] theorem does_callD {f : List D → Sto → Res D} {n q : Nat} {p : List Nat} {dd : List D} {a k : MA} : (mCallD f n q p dd a k ρ S).DoesE E Q = (a ρ S).DoesE E fun xs S1 => (k ρ S1).DoesE E fun zs S2 => (xs.length = n ∧ zs.length = q) ∧ (f (p.filterMap ((xs ++ zs ++ dd)[·]?)) S2).DoesE E Q := by
  unfold mCallD
  rw [does_bind]
  congr 1
  funext xs S1
  rw [does_bind]
  congr 1
  funext zs S2
  by_cases h : xs.length = n ∧ zs.length = q
  · rw [if_pos h]; simp [h]
  · rw [if_neg h]; simp [h, Res.DoesE]
end
end Dm
-- text DmSetD
namespace L2
open PySem PySem.Spec PyProof.Rows
end L2
namespace Dm
open PySem L2 PySem.Spec PyProof.Rows
end Dm
-- text Hw3
namespace Dm
open PySem L2
end Dm
-- text DmMisc
namespace Dm
open PySem L2
open PySem.W (Frag)
section
variable {X : Cx} {W : WX} {tg e a b c : Expr} {es : List Expr} {ma mb mc m : ME} {mr : MA} {pos p p1 p2 p3 : Pos}
/-! ### x, y = a, b -/
def mPar (i j : Nat) (a : MA) : MS := fun ρ S => ofRes (a ρ S) ρ fun ds S1 => match ds with
  | [d, d'] => .nx ((ρ.set i (some d)).set j (some d')) S1
  | _ => .bad
theorem ds_par (i j : Nat) {x y : Str} {px py pt pt2 : Pos} {kt k2 : Nat} (hc : X.calm = true) (hN : X.N.Nodup) (ha : DA X W [a, b] mr) (hij : i ≠ j := by decide) (hi : X.N[i]? = some x := by rfl) (hj : X.N[j]? = some y := by rfl)
    (hx : X.env.scope.names.lookup x = some .local := by rfl) (hy : X.env.scope.names.lookup y = some .local := by rfl)
    (hw : swappedStores [.Tuple [.Name x px, .Name y py] kt pt] (.Tuple [a, b] k2 pt2) X.env = pure (some [x, y]) := by rfl)
    (hs : swapsWithSole [.Tuple [.Name x px, .Name y py] kt pt] (.Tuple [a, b] k2 pt2) pos.line X.env = pure false := by rfl) :
    DS X W (.Assign [.Tuple [.Name x px, .Name y py] kt pt] (.Tuple [a, b] k2 pt2) pos) (mPar i j mr) := by
  obtain ⟨ta, pa, ka⟩ := ha
  refine ⟨_, ps_par hc hN hi hj hij hx hy pa hw hs, fun ξ μ σ H ρ S D g s h => ka ξ μ σ H ρ S _ g s (WS'.bind g h fun ds S1 vs μ1 H1 u1 s1 r1 h1 => ?_)⟩
  cases r1 with
  | nil => exact h1.elim
  | @cons v vs d ds r rr =>
    cases rr with
    | nil => exact h1.elim
    | @cons v2 vs2 d2 ds2 r2 rr2 =>
      cases rr2 with
      | cons _ _ => exact h1.elim
      | nil => exact ⟨v, v2, rfl, h1 _ μ1 H1 .refl s1 (((g.up u1).set i r).set j r2)⟩
/-! ### x, y = a tuple, a list that stands still -/
def tgU (n : Nat) (f : List D → Rho → Option Rho) : D → Rho → Option Rho := fun d ρ => match d with
  | .tup ds => if ds.length = n then f ds ρ else none
  | .lst ds => if ds.length = n then f ds ρ else none
  | _ => none
theorem pgOr {X : Cx} {tg : Expr} {g g' : TG} (h : PG X tg g) (h' : PG X tg g') : PG X tg (fun v σ H Q => g v σ H Q ∨ g' v σ H Q) := ⟨fun pins s σ H v u Q I r hw => hw.elim (h.run pins s σ H v u Q I r) (h'.run pins s σ H v u Q I r)⟩
theorem dg_any {k n : Nat} {f : List D → Rho → Option Rho} {is : List Nat} {tp : Pos} (hc : X.calm = true) (h : DGs X es f is) (hn : (assignEach es X.env).length = n := by rfl) (hst : (assignEach es X.env).findIdx? (·.1) = none := by rfl) : DG X (.Tuple es k tp) (tgU n f) is := by
  obtain ⟨t, p, k⟩ := h
  refine ⟨_, pgOr (pg_tup hc p hn hst) (pg_lst hc p hn hst), fun ξ μ σ H ρ v d ρ' Q g r e kk => ?_⟩
  cases r with
  | @tup a xs ds fz r =>
    unfold tgU at e
    by_cases c : ds.length = n
    · simp only [if_pos c] at e
      exact .inl ⟨a, xs, rfl, fz.sq, by rw [r.length]; exact c, k ξ μ σ H ρ xs ds ρ' Q g r e kk⟩
    · simp only [if_neg c] at e
      exact nomatch e
  | @lst a xs ds fz r =>
    unfold tgU at e
    by_cases c : ds.length = n
    · simp only [if_pos c] at e
      exact .inr ⟨a, xs, rfl, fz.sq, by rw [r.length]; exact c, k ξ μ σ H ρ xs ds ρ' Q g r e kk⟩
    · simp only [if_neg c] at e
      exact nomatch e
  | _ => exact nomatch e
/-! ### sum, max, min of a list of ints -/
/-! ### a kept list some times -/
def mRepC (a b : ME) : MA := fun ρ S => (a ρ S).bind fun x S1 => (b ρ S1).bind fun y S2 => match x, y with
  | .cell n, .int k => match S2[n]? with
    | some (.lst xs) => if k < 1000000 ∧ xs.length * k.toNat ≤ 16777216 ∧ -1000000 < k then .ok (List.replicate k.toNat xs).flatten S2 else .bad
    | _ => .bad
  | _, _ => .bad
/-! ### list(range(a, b)) -/
noncomputable def mLstRg (a : MA) : MA := fun ρ S => (a ρ S).bind fun ds S1 => match ds with
  | [.int i, .int j] => @ite _ (-1000000000000000000 ≤ i ∧ i ≤ 1000000000000000000 ∧ -1000000000000000000 ≤ j ∧ j ≤ 1000000000000000000 ∧ j - i ≤ 16777216) (Classical.propDecidable _) (.ok (rngD i (j - i).toNat) S1) .bad
  | _ => .bad
end
/-! ### what they do -/
section
variable {S : Sto} {ρ : Rho} {N B C : Rho → Sto → Prop} {R : D → Sto → Prop} {E : EX} {EO : EXO}
@[simp] theorem does_par {i j : Nat} {a : MA} : (mPar i j a ρ S).DoesE EO N R B C = (a ρ S).DoesE (eAt EO ρ) fun ds S1 => match ds with
    | [d, d'] => N ((ρ.set i (some d)).set j (some d')) S1
    | _ => False := by
  unfold mPar
  rw [does_ofRes]; congr 1; funext ds S1
  match ds with
  | [] => rfl
  | [_] => rfl
  | [_, _] => rfl
  | _ :: _ :: _ :: _ => rfl
@[simp] theorem tgU_tup {m : Nat} {f : List D → Rho → Option Rho} {ds : List D} : tgU m f (.tup ds) ρ = if ds.length = m then f ds ρ else none := rfl
@[simp] theorem tgU_lst {m : Nat} {f : List D → Rho → Option Rho} {ds : List D} : tgU m f (.lst ds) ρ = if ds.length = m then f ds ρ else none := rfl
@[simp] theorem does_repC {a b : ME} {Q : List D → Sto → Prop} : (mRepC a b ρ S).DoesE E Q = (a ρ S).DoesE E fun x S1 => (b ρ S1).DoesE E fun y S2 => match x, y with
    | .cell n, .int k => ∃ xs, S2[n]? = some (.lst xs) ∧ (k < 1000000 ∧ xs.length * k.toNat ≤ 16777216 ∧ -1000000 < k) ∧ Q (List.replicate k.toNat xs).flatten S2
    | _, _ => False := by
  unfold mRepC
  rw [does_bind]; congr 1; funext x S1
  rw [does_bind]; congr 1; funext y S2
  cases x with
  | cell n =>
    cases y with
    | int k =>
      simp only
      cases e : S2[n]? with
      | none => simp [Res.DoesE]
      | some c =>
        cases c with
        | lst xs =>
          simp only
          by_cases h : k < 1000000 ∧ xs.length * k.toNat ≤ 16777216 ∧ -1000000 < k
          · rw [if_pos h]; simp [h]
          · rw [if_neg h]; simp [h, Res.DoesE]
        | _ => simp [Res.DoesE]
    | _ => rfl
  | _ => cases y <;> rfl
@[simp] theorem does_lstRg {a : MA} {Q : List D → Sto → Prop} : (mLstRg a ρ S).DoesE E Q = (a ρ S).DoesE E fun ds S1 => match ds with
    | [.int i, .int j] => (-1000000000000000000 ≤ i ∧ i ≤ 1000000000000000000 ∧ -1000000000000000000 ≤ j ∧ j ≤ 1000000000000000000 ∧ j - i ≤ 16777216) ∧ Q (rngD i (j - i).toNat) S1
    | _ => False := by
  unfold mLstRg
  rw [does_bind]; congr 1; funext ds S1
  match ds with
  | [] => rfl
  | [d] => cases d <;> rfl
  | [d, d'] =>
    cases d with
    | int i =>
      cases d' with
      | int j =>
        simp only
        by_cases h : -1000000000000000000 ≤ i ∧ i ≤ 1000000000000000000 ∧ -1000000000000000000 ≤ j ∧ j ≤ 1000000000000000000 ∧ j - i ≤ 16777216
        · rw [if_pos h]; simp [h]
        · rw [if_neg h]; simp [h, Res.DoesE]
      | _ => rfl
    | _ => cases d' <;> rfl
  | d :: d' :: _ :: _ => cases d <;> (try rfl) <;> cases d' <;> rfl
end
end Dm
-- text Hw4
namespace Dm
open PySem L2
end Dm
-- text DmBack
namespace Dm
open PySem L2
section
variable {X : Cx} {W : WX} {e : Expr} {m : ME} {te te' : TE} {k : Nat} {p1 p2 p3 pos : Pos}
theorem peOr (h : PE X e te) (h' : PE X e te') : PE X e (fun σ H Q => te σ H Q ∨ te' σ H Q) := ⟨fun pins s σ H Q I hw => hw.elim (h.run pins s σ H Q I) (h'.run pins s σ H Q I)⟩
/-- x[::-1], a tuple or a list -/
def mBackA (m : ME) : ME := fun ρ S => (m ρ S).bind fun x S1 => match x with
  | .tup ds => .ok (.tup ds.reverse) S1
  | x => match lstOf S1 x with
    | some ds => .ok (.lst ds.reverse) S1
    | none => .bad
theorem d_backA (h : DE X W e m) : DE X W (.Subscript e (.Slice none none (some (.UnaryOp .USub (.Constant (.int 1) k p1) p2)) p3) pos) (mBackA m) := by
  obtain ⟨te, pe, ke⟩ := h
  refine ⟨_, peOr (pe_backT pe) (pe_revL pe), fun ξ μ σ H ρ S Q g s h => ?_⟩
  unfold mBackA at h
  cases e1 : m ρ S with
  | bad => rw [e1] at h; exact h.elim
  | exc c fs S1 =>
    rw [e1] at h
    refine .inl (ke ξ μ σ H ρ S _ g s ?_)
    rw [e1]; exact h
  | ok d S1 =>
    rw [e1] at h
    by_cases c : ∃ ds, d = .tup ds
    · obtain ⟨ds, rfl⟩ := c
      refine .inl (ke ξ μ σ H ρ S _ g s ?_)
      rw [e1]
      intro v μ1 H1 u1 s1 r1
      cases r1 with
      | @tup a xs _ f r =>
        exact ⟨a, xs, rfl, f.sq, fun p hp => h _ μ1 _ (u1.trans (.fresh hp)) (s1.fresh hp) (.tup (.inl ⟨.inl upd_same, s1.out hp, s1.outX hp⟩) (r.reverse.up (.fresh hp)))⟩
    · have h : WE' (fx X ξ) (match lstOf S1 d with | some ds => .ok (.lst ds.reverse) S1 | none => .bad) Q (fun cls dd H' => W cls dd σ H') μ H := by
        cases d with
        | tup ds => exact absurd ⟨ds, rfl⟩ c
        | _ => exact h
      refine .inr (ke ξ μ σ H ρ S _ g s ?_)
      rw [e1]
      intro v μ1 H1 u1 s1 r1
      cases q : lstOf S1 d with
      | none => rw [q] at h; exact h.elim
      | some ds =>
        rw [q] at h
        obtain ⟨a, xs, rfl, h3, r3⟩ := RD.lstS s1 r1 q
        exact ⟨a, xs, rfl, h3, fun p hp => h _ μ1 _ (u1.trans (.fresh hp)) (s1.fresh hp) (.lst (.inl ⟨.inl upd_same, s1.out hp, s1.outX hp⟩) (r3.reverse.up (.fresh hp)))⟩
end
section
variable {S : Sto} {ρ : Rho} {Q : D → Sto → Prop} {E : EX} {EO : EXO}
@[simp] theorem does_backA {m : ME} : (mBackA m ρ S).DoesE E Q = (m ρ S).DoesE E fun x S1 => match x with
    | .tup ds => Q (.tup ds.reverse) S1
    | x => match lstOf S1 x with
      | some ds => Q (.lst ds.reverse) S1
      | none => False := by
  unfold mBackA
  rw [does_bind]; congr 1; funext x S1
  cases x with
  | lst ds => rfl
  | cell n => 
    simp only
    cases lstOf S1 (.cell n) <;> rfl
  | _ => rfl
end
end Dm
-- text Hw5
namespace Dm
open PySem L2
end Dm
-- text DmSet
namespace Dm
open PySem L2 PySem.Spec PyProof.Rows
/-! ### set(xs), xs a list of ints, so that it can be sorted -/
section
variable {P : Program} {w : World} {A : Around} {E : Value → Shared → Prop} {s : Shared}
/-- an empty set as it is made -/
def bare (w : World) : Obj := { cls := .type "set", dict := none, data := .set #[] 0 (.fresh 0 0 (!w.params.followText "set-order")) }
end
end Dm
-- text DmSet2
namespace Dm
open PySem L2 PySem.Spec PyProof.Rows
open PySem.W (Frag)
/-! ### the members of a list, ascending, each once -/
def insU (x : Int) : List Int → List Int
  | [] => [x]
  | y :: r => if x < y then x :: y :: r else if x = y then y :: r else y :: insU x r
def uniq : List Int → List Int
  | [] => []
  | x :: r => insU x (uniq r)
/-! ### sorted(set(xs)) for any number of members -/
section
variable {X : Cx} {W : WX} {e : Expr} {m : ME} {p p1 p2 pos : Pos}
def gSortSet : Sto → D → Option (List D) := fun S d => (lstOf S d).bind fun es => (intsOf es).bind fun ns => if (uniq ns).length ≤ 4000 then some ((uniq ns).map .int) else none
def mSortSet (m : ME) : MA := fun ρ S => (m ρ S).bind fun d S1 => match gSortSet S1 d with
  | some ds => .ok ds S1
  | none => .bad
end
section
variable {S : Sto} {ρ : Rho} {E : EX}
@[simp] theorem does_sortSet {m : ME} {Q : List D → Sto → Prop} : (mSortSet m ρ S).DoesE E Q = (m ρ S).DoesE E fun d S1 => match gSortSet S1 d with
    | some ds => Q ds S1
    | none => False := by
  unfold mSortSet
  rw [does_bind]; congr 1; funext d S1
  cases gSortSet S1 d <;> rfl
end
end Dm
-- text Hw6
namespace Dm
open PySem L2
end Dm
-- text DmIn2
namespace Dm
open PySem L2 PySem.Spec PyProof.Rows
open PySem.W (Frag)
/-! ### x in xs, both nested plain data -/
end Dm
-- text DmTab
namespace Dm
open PySem L2 PySem.Spec PyProof.Rows
open PySem.W (Frag)
/-! ### a dict of the module with text keys, its values plain -/
inductive KEs (K : Frag) (P : Params) : List DictEntry → List (Str × D) → Prop
  | nil : KEs K P [] []
  | cons {e : DictEntry} {r : List DictEntry} {x : Str} {t : Tok} {v : V} {d : D} {kvs : List (Str × D)} : e.key = .str x t → e.hash = PyData.keyHash P x → RelV v e.val → KD K v d → KEs K P r kvs → KEs K P (e :: r) ((x, d) :: kvs)
def tbLook : List (Str × D) → Str → Option D
  | [], _ => none
  | (x, d) :: r, z => if x = z then some d else tbLook r z
theorem KEs.lit {K : Frag} {P : Params} : ∀ {es : List DictEntry} {kvs : List (Str × D)}, KEs K P es kvs → PySem.W.KeysLit P es
  | _, _, .nil => trivial
  | _, _, .cons h1 h2 _ _ r => ⟨⟨_, _, h1, h2⟩, r.lit⟩
theorem KEs.noRef {K : Frag} {P : Params} : ∀ {es : List DictEntry} {kvs : List (Str × D)}, KEs K P es kvs → es.any (·.refKey) = false
  | _, _, .nil => rfl
  | _, _, .cons h1 _ _ _ r => by
    rw [List.any_cons, r.noRef, Bool.or_false]
    unfold DictEntry.refKey
    rw [h1]
theorem KEs.find {K : Frag} {P : Params} (z : Str) : ∀ {es : List DictEntry} {kvs : List (Str × D)}, KEs K P es kvs →
    match tbLook kvs z with
    | some d => ∃ e v, es.find? (·.key.isStr z) = some e ∧ RelV v e.val ∧ KD K v d
    | none => es.find? (·.key.isStr z) = none
  | _, _, .nil => rfl
  | _, _, .cons (e := e) (x := x) (t := t) (v := v) (d := d) (kvs := kvs) h1 h2 h3 h4 r => by
    have ih := KEs.find z r
    unfold tbLook
    by_cases c : x = z
    · rw [if_pos c]
      refine ⟨e, v, ?_, h3, h4⟩
      rw [List.find?_cons_of_pos]
      rw [h1, PySem.W.isStr_of]
      show (x == z) = true
      rw [c]; exact beq_self_eq_true _
    · rw [if_neg c]
      have n : ¬ (e.key.isStr z) = true := by
        rw [h1, PySem.W.isStr_of]
        intro q
        exact c (of_decide_eq_true (by simpa [Value.isStrOf] using q))
      rw [List.find?_cons_of_neg (p := fun q : DictEntry => q.key.isStr z) n]
      exact ih
/-- the name stands for this dict -/
def GlT (K : Frag) (w : World) (mg : Str → Option Value) (x : Str) (kvs : List (Str × D)) : Prop :=
  ∃ d es n, mg x = some (.ref d) ∧ K.lookup d = some ⟨.type "dict", none, .dict es n, #[]⟩ ∧ (d == sysModules) = false ∧ KEs K w.params es.toList kvs
def mTbIn (neg : Bool) (kvs : List (Str × D)) (a : ME) : ME := fun ρ S => (a ρ S).bind fun x S1 => match x with
  | .str z => .ok (.bl (if neg then !(tbLook kvs z).isSome else (tbLook kvs z).isSome)) S1
  | _ => .bad
def mTbIx (kvs : List (Str × D)) (a : ME) : ME := fun ρ S => (a ρ S).bind fun x S1 => match x with
  | .str z => match tbLook kvs z with
    | some d => .ok d S1
    | none => .bad
  | _ => .bad
theorem nsIn_tab {K : Frag} {P : Params} {d : Addr} {es : Array DictEntry} {n : Nat} {kvs : List (Str × D)} (l : K.lookup d = some ⟨.type "dict", none, .dict es n, #[]⟩) (k : KEs K P es.toList kvs) (z : Str) :
    match tbLook kvs z with
    | some dd => ∃ u v, PySem.W.nsIn K d z = some (some u) ∧ RelV v u ∧ KD K v dd
    | none => PySem.W.nsIn K d z = some none := by
  have h := KEs.find z k
  unfold PySem.W.nsIn
  rw [l]
  cases q : tbLook kvs z with
  | some dd =>
    rw [q] at h
    obtain ⟨e, v, h1, h2, h3⟩ := h
    refine ⟨e.val, v, ?_, h2, h3⟩
    simp only [h1]
  | none =>
    rw [q] at h
    have h' : es.toList.find? (·.key.isStr z) = none := h
    simp only [h', k.noRef, Bool.false_eq_true, if_false]
section
variable {X : Cx} {W : WX} {a : Expr} {ma : ME} {pos p : Pos}
theorem tb_name {x : Str} {kvs : List (Str × D)} (hg : Gl X x) (h : GlT X.K X.w X.mg x kvs) (hd : (x == ("__debug__" : Str)) = false := by decide) :
    ∃ (d : Addr) (es : Array DictEntry) (n : Nat), KDict X.K X.w d es n ∧ KEs X.K X.w.params es.toList kvs ∧ PE X (.Name x p) (fun _ H Q => Q (.ref d) H) := by
  obtain ⟨d, es, n, h1, h2, h3, h4⟩ := h
  exact ⟨d, es, n, ⟨h2, h4.lit, h3⟩, h4, pe_glob hg h1 rfl hd⟩
theorem dt_tbnot {x : Str} {kvs : List (Str × D)} (hg : Gl X x) (h : GlT X.K X.w X.mg x kvs) (ha : DE X W a ma) (hd : (x == ("__debug__" : Str)) = false := by decide) (hm : behindInMarks .NotIn (.Name x p) = false := by first | exact nomark _ | rfl) : DT X W (.Compare a [.NotIn] [.Name x p] pos) (mTbIn true kvs ma) := by
  obtain ⟨ta, pa, ka⟩ := ha
  obtain ⟨d, es, n, hD, hK, pn⟩ := tb_name (p := p) hg h hd
  refine ⟨_, pt_cmpR (op_notIn_kd hD) pa pn hm, fun ξ μ σ H ρ S Q g s h => ka ξ μ σ H ρ S _ g s (WR.bind (WT'.val h) fun y S1 v μ1 H1 u1 s1 r1 h1 => ?_)⟩
  cases r1 with
  | str z =>
    have q := nsIn_tab hD.at_ hK z
    cases e : tbLook kvs z with
    | some dd =>
      simp only [e] at q h1
      obtain ⟨u, v', q1, q2, q3⟩ := q
      exact ⟨z, some u, rfl, rfl, q1, h1 _ μ1 H1 .refl s1 (.bl _)⟩
    | none =>
      simp only [e] at q h1
      exact ⟨z, none, rfl, rfl, q, h1 _ μ1 H1 .refl s1 (.bl _)⟩
  | _ => exact h1.elim
theorem d_tbix {x : Str} {kvs : List (Str × D)} (hg : Gl X x) (h : GlT X.K X.w X.mg x kvs) (ha : DE X W a ma) (hd : (x == ("__debug__" : Str)) = false := by decide) (hs : PlainIx a := by exact fun _ _ => rfl) : DE X W (.Subscript (.Name x p) a pos) (mTbIx kvs ma) := by
  obtain ⟨ta, pa, ka⟩ := ha
  obtain ⟨d, es, n, hD, hK, pn⟩ := tb_name (p := p) hg h hd
  refine ⟨_, pe_ix ix_kdict pn pa hs, fun ξ μ σ H ρ S Q g s h => ka ξ μ σ H ρ S _ g s (WR.bind h fun y S1 v μ1 H1 u1 s1 r1 h1 => ?_)⟩
  cases r1 with
  | str z =>
    have q := nsIn_tab hD.at_ hK z
    cases e : tbLook kvs z with
    | some dd =>
      simp only [e] at q h1
      obtain ⟨u, v', q1, q2, q3⟩ := q
      exact ⟨d, z, v', rfl, rfl, ⟨es, n, u, hD.at_, hD.lit, q1, q2⟩, h1 _ μ1 H1 .refl s1 (KD.rd (F := fx X ξ) dd q3)⟩
    | none =>
      simp only [e] at h1
      exact h1.elim
  | _ => exact h1.elim
end
end Dm
-- text DmG
namespace Dm
open PySem L2 PySem.Spec PyProof.Rows
open PySem.W (Frag)
/-! ### room under which no repr is under way -/
structure RoomG (k : Nat) (A : Around) : Prop extends Room k A where
  gd : A.guards = some []
theorem RoomG.mono {j k : Nat} {A : Around} (r : RoomG k A) (h : j ≤ k) : RoomG j A := ⟨r.toRoom.mono h, r.gd⟩
theorem RoomG.deeper {k : Nat} {A : Around} (r : RoomG (k + 1) A) (env : Env) : RoomG k (A.deeper env) := ⟨r.toRoom.deeper env, r.gd⟩
theorem roomG_top {k : Nat} (h : Room k callerA) : RoomG k callerA := ⟨h, rfl⟩
structure FnG (P : Program) (w : World) (K : Frag) (mg : Str → Option Value) (base : Heap) (CX : CXT) (k : Nat) (f : Addr) (fd : FuncData) (ps : List Str) (sp : Sp) : Prop where
  len : ∀ vs H Q E, sp vs H Q E → vs.length = ps.length
  run : ∀ (A : Around) (outer : List Env) (s : Shared) (H : Hp) (args : Args) (us : List Value) (vs : List V) (Q : VK) (E : XK), RoomG k A → Env0 P w K mg base A outer s H → BindsTo s fd args (ps.zip us) → Vals vs us → sp vs H Q E →
    codeAny (model P w) A (.call (.ref f) args) (CR CX outer P w H s Q E) s
section
variable {P : Program} {w : World} {K : Frag} {mg : Str → Option Value} {base : Heap} {CX : CXT} {k : Nat} {f : Addr} {fd : FuncData} {ps N : List Str} {sp : Sp}
theorem FnG.mono {j : Nat} (F : FnG P w K mg base CX j f fd ps sp) (h : j ≤ k) : FnG P w K mg base CX k f fd ps sp := ⟨F.len, fun A outer s H args us vs Q E hr => F.run A outer s H args us vs Q E (hr.mono h)⟩
theorem FnG.imp {sp' : Sp} (F : FnG P w K mg base CX k f fd ps sp) (h : ∀ vs H Q E, sp' vs H Q E → sp vs H Q E) : FnG P w K mg base CX k f fd ps sp' :=
  ⟨fun vs H Q E q => F.len vs H Q E (h _ _ _ _ q), fun A outer s H args us vs Q E hr he hb hv hs => F.run A outer s H args us vs Q E hr he hb hv (h _ _ _ _ hs)⟩
/-- the end of a body, told by how it ended -/
theorem ce_of {X : Cx} {outer : List Env} {s s' : Shared} {H H' : Hp} {σ : L2.St} {Q : VK} {v : V} {u : Value} (J : Inv X [] σ H' s') (hP : X.prog = P) (hw : X.w = w) (hs : X.s_0 = s) (hH : X.H_0 = H) (ho : X.fs = frs outer) (hx : X.ex = []) (rv : RelV v u) (q : Q v H') : CE outer P w H s Q u s' := by
  subst hP hw hs hH
  have un := J.base
  rw [ho, hx] at un
  exact ⟨v, H', J.os, J.bare, un, J.hok, rv, q⟩
/-- a def by its body -/
theorem fng_body {name qual : Str} {params : Arguments} {body : List Stmt} {scope : Scope} {dV kV doc pm cdv ct oc : Value} {an od : Option Addr} {osl : Array (Option Value)} (lk : K.lookup f = some ⟨oc, od, .func (PySem.W.fnOf name qual params body scope dV kV doc pm an cdv ct), osl⟩)
    (hcd : PySem.W.codeIn K cdv qual = true) (S : FnScope N ps scope) (len : ∀ vs H Q E, sp vs H Q E → vs.length = ps.length)
    (hbody : ∀ (A : Around) (outer : List Env) (s : Shared) (H : Hp) (vs : List V) (Q : VK) (E : XK), RoomG k (A.deeper (envOfC qual scope s.heap.objs.size f cdv)) → sp vs H Q E →
      ∃ t, PSs (cxOf CX P w K mg base N qual scope f cdv A outer s H E) body t ∧ t { nx := fun _ H' => Q .non H', rt := Q } (L2.start N vs) H) :
    FnG P w K mg base CX (k + 1) f (PySem.W.fnOf name qual params body scope dV kV doc pm an cdv ct) ps sp where
  len := len
  run A outer s H args us vs Q E hr e0 hb r hsp := by
    have up : ∀ b o, base.get? b = some o → s.heap.get? b = some o := fun b o e => (e0.bs b o e).1
    have known : ∀ y ∈ ps.zip us, scope.names.lookup y.1 = some .local ∨ (scope.names.lookup y.1 = some .cell ∧ ((cellsFrom (s.heap.objs.size + 1) scope.names []).lookup y.1).isSome = true) := by
      rintro ⟨n, v⟩ hy
      exact (S.par n (List.of_mem_zip hy).1).imp id fun q => ⟨q, PySem.W.cellsFrom_some _ _ _ (.inl q)⟩
    obtain ⟨t, ht, hq⟩ := hbody A outer s H vs Q E (hr.deeper _) hsp
    refine codeAny_call_function hr.toRoom.depth (e0.mod.kin.keeps up _ _ lk) rfl S.co S.gen rfl (PySem.W.codeRec_of (e0.mod.kin.keeps up) hcd) (hb _ _ _ _ (wpAny_newFunctionEnv_cells S.kind known ?_))
    rintro env rfl s1 x
    refine ⟨(e0.mod.nolimit.keeps up).keeps x.toInCall.keep, codeAny_func (wpAny_mono (ht.run [] s1 (L2.start N vs) H _ (inv_start S hr.toRoom.hd e0 (len _ _ _ _ hsp) r x) hq) ?_ fun _ _ hs => hs)⟩
    intro fl s' hs
    match fl, hs with
    | .ret u, ⟨v, σ', H', J, rv, q⟩ => exact ce_of (outer := outer) J rfl rfl rfl rfl rfl rfl rv q
    | .next, ⟨σ', H', J, q⟩ => exact ce_of (outer := outer) (v := V.non) (u := Value.none) J rfl rfl rfl rfl rfl rfl rfl q
    | .brk, ⟨_, _, _, q⟩ => exact False.elim q
    | .cont, ⟨_, _, _, q⟩ => exact False.elim q
theorem fung_ok {x qual : Str} {st : Stmt} (F : Fun K x qual st f fd) (S : FnScope N ps (defScope st)) (len : ∀ vs H Q E, sp vs H Q E → vs.length = ps.length)
    (hbody : ∀ (cdv : Value) (A : Around) (outer : List Env) (s : Shared) (H : Hp) (vs : List V) (Q : VK) (E : XK), RoomG k (A.deeper (envOfC qual (defScope st) s.heap.objs.size f cdv)) → sp vs H Q E →
      ∃ t, PSs (cxOf CX P w K mg base N qual (defScope st) f cdv A outer s H E) (defBody st) t ∧ t { nx := fun _ H' => Q .non H', rt := Q } (L2.start N vs) H) : FnG P w K mg base CX (k + 1) f fd ps sp := by
  obtain ⟨oc, od, kV, doc, pm, an, cdv, ct, osl, rfl, lk, hcd⟩ := F.ex
  exact fng_body lk hcd S len (hbody cdv)
end
structure FnDG (P : Program) (w : World) (K : Frag) (mg : Str → Option Value) (base : Heap) (k : Nat) (x : Str) (st : Stmt) (ps : List Str) (m : List D → Sto → Res D) : Prop where
  ex : ∃ f fd, mg x = some (.ref f) ∧ Fun K x x st f fd ∧ Binds K fd ps [] ∧ FnG P w K mg base (L2.CX P w) k f fd ps (spD w K mg m)
section
variable {X : Cx} {CX : CXT} {k : Nat} {f : Addr} {fd : FuncData} {ps : List Str} {sp : Sp} {dvs : List V} {ds : List Value} {E : L2.St → XK} {x : Str} {p pos : Pos} {e : Expr} {es : List Expr} {t : TA}
theorem run_fnSG {pins : List (Addr × Obj)} {σ : L2.St} {H : Hp} {s : Shared} {Q : VK} {us : List Value} {vs : List V} (F : FnG X.prog X.w X.K X.mg X.base CX k f fd ps sp) (hr : RoomG k X.A) (hb : Binds X.K fd ps ds) (hd : Vals dvs ds) (hx : PassesAt CX X σ (E σ))
    (I : Inv X pins σ H s) (r : Vals vs us) (h : sp (vs ++ dvs) H Q (E σ)) : wpAny (model X.prog X.w) X.A (call (.ref f) us) (EP X pins σ Q) X.xe s := by
  have r2 := r.append hd
  refine wpAny_call (codeAny_mono (F.run X.A X.stack s H ⟨us, []⟩ (us ++ ds) (vs ++ dvs) Q (E σ) hr I.env0 (hb s us I.kIn (r2.length.symm.trans (F.len _ _ _ _ h))) r2 h) fun r s' hq => ?_)
  match r, hq with
  | .error e, q => exact hx pins H s e s' I q
  | .ok (.ret u), q => exact I.after q
  | .ok .next, q => exact False.elim q
  | .ok .brk, q => exact False.elim q
  | .ok .cont, q => exact False.elim q
theorem pe_callSG (F : FnG X.prog X.w X.K X.mg X.base CX k f fd ps sp) (hr : RoomG k X.A) (hg : Gl X x) (hm : X.mg x = some (.ref f)) (hk : PySem.W.keepIn X.K (.ref f) = true) (hb : Binds X.K fd ps ds) (hd : Vals dvs ds) (hx : ∀ σ, PassesAt CX X σ (E σ))
    (ha : PA X (e :: es) t) (hdb : (x == ("__debug__" : Str)) = false := by decide) (he : starEach (e :: es) X.env = (false, eval e X.env) :: starEach es X.env := by rfl) (hpl : (backTo pos (starEach es X.env)).any (·.1) = false := by rfl) :
    PE X (.Call (.Name x p) (e :: es) [] pos) (tCallSD sp dvs E t) where
  run pins s σ H Q I h := wpAny_Call_Name_kw (ld_glob I hg hm (PySem.W.callWith_K (h₀ := X.base) I.ok.mod.kin hk (thn (ha.run pos pins s σ H _ I h) fun us s1 ⟨vs, H1, I1, r, q⟩ => ⟨I1.kIn, run_fnSG F hr hb hd (hx σ) I1 r q⟩) he hpl) hdb)
end
section
variable {P : Program} {w : World} {K : Frag} {mg : Str → Option Value} {base : Heap}
theorem FnDG.mono {j k : Nat} {x : Str} {st : Stmt} {ps : List Str} {m : List D → Sto → Res D} (F : FnDG P w K mg base j x st ps m) (h : j ≤ k) : FnDG P w K mg base k x st ps m :=
  let ⟨f, fd, a, b, c, d⟩ := F; ⟨f, fd, a, b, c, d.mono h⟩
theorem fnd_mkG {x : Str} {st : Stmt} {f : Addr} {fd : FuncData} {N ps : List Str} {k np nN : Nat} {mb : MS} (hm : mg x = some (.ref f)) (F : Fun K x x st f fd) (B : Binds K fd ps []) (S : FnScope N ps (defScope st)) (hnp : ps.length = np) (hnN : N.length = nN)
    (hb : ∀ (cdv : Value) (A : Around) (outer : List Env) (s : Shared) (H : Hp) (E : XK), RoomG k (A.deeper (envOfC x (defScope st) s.heap.objs.size f cdv)) →
      DSs (cxOf (L2.CX P w) P w K mg base N x (defScope st) f cdv A outer s H E) (fun cls d _ H => E cls d H) (defBody st) mb) : FnDG P w K mg base (k + 1) x st ps (mDef np nN mb) := by
  subst hnp hnN
  refine ⟨f, fd, hm, F, B, fung_ok F S (fun vs H Q E h => ?_) (fun cdv A outer s H vs Q E hr h => ?_)⟩
  · obtain ⟨ξ, μ, ds, S0, s0, r0, w0⟩ := h
    unfold mDef at w0
    by_cases c : ds.length = ps.length
    · rw [r0.length]; exact c
    · rw [if_neg c] at w0; exact w0.elim
  · obtain ⟨ξ, μ, ds, S0, s0, r0, w0⟩ := h
    obtain ⟨ts, pt, kt⟩ := hb cdv A outer s H E hr
    refine ⟨ts, pt, ?_⟩
    unfold mDef at w0
    by_cases c : ds.length = ps.length
    · rw [if_pos c] at w0
      refine kt ξ μ _ H _ S0 _ (rg_start r0) s0 ?_
      show WS' ⟨K, mg, ξ, w⟩ _ _ _ μ H
      rw [c]
      cases e : mb (ds.map some ++ List.replicate (N.length - ps.length) none) S0 with
      | nx ρ S' => rw [e] at w0; exact fun σ μ' H' u s g => w0 _ μ' H' u s .non
      | rt d S' => rw [e] at w0; exact w0
      | exc c fs ρ S' => rw [e] at w0; exact fun cls dd σ μ' H' u s g x => w0 cls dd μ' H' u s x
      | bk ρ S' => rw [e] at w0; exact w0.elim
      | ct ρ S' => rw [e] at w0; exact w0.elim
      | bad => rw [e] at w0; exact w0.elim
    · rw [if_neg c] at w0; exact w0.elim
theorem law_okG {x sp : Str} {st : Stmt} {f : Addr} {fd : FuncData} {k : Nat} {m : List D → Sto → Res D} (hm : mg x = some (.ref f)) (F : Fun K x x st f fd) (G : FnDG P w K mg base k x st [sp] m) (h : LawTrue m) :
    FnG P w K mg base (L2.CX P w) k f fd [sp] (spLaw K) := by
  obtain ⟨f', fd', hm', F', B', G'⟩ := G
  rw [hm] at hm'
  cases hm'
  have e : fd = fd' := by
    obtain ⟨oc, od, kV, doc, pm, an, cdv, ct, osl, e1, lk, hcd⟩ := F.ex
    obtain ⟨oc', od', kV', doc', pm', an', cdv', ct', osl', e1', lk', hcd'⟩ := F'.ex
    rw [lk] at lk'
    have q := Option.some.inj lk'
    injection q with q1 q2 q3 q4
    injection q3
  subst e
  refine G'.imp fun vs H Q E hh => ?_
  obtain ⟨a, ns, rfl, hS, hl, q⟩ := hh
  obtain ⟨S', e⟩ := h ns hl
  refine ⟨[], [], [.lst (ns.map .int)], [], ⟨rfl, .nil, (fun n a c e _ => nomatch e), (fun a h => nomatch h)⟩, .cons (.lst ?_ (rds_ints ns)) .nil, ?_⟩
  · exact hS.imp (fun z => ⟨z, List.not_mem_nil, List.not_mem_nil⟩) id
  · rw [e]
    intro v μ' H' u s r
    cases r
    exact q H'
end
section
variable {X : Cx} {W : WX} {tg e a b c : Expr} {es : List Expr} {kws : List Keyword} {kw : Keyword} {st : Stmt} {sts ts : List Stmt} {ma mb mc m : ME} {mr mk : MA} {m1 m2 : MS} {pos p p1 p2 p3 kpos : Pos} {nm : Option Str}
theorem d_callG {j k : Nat} {x : Str} {ps : List Str} {f : List D → Sto → Res D} (F : FnDG X.prog X.w X.K X.mg X.base j x st ps f) (hr : RoomG k X.A) (tk : Takes X W) (ha : DA X W (e :: es) mr) (hj : j ≤ k := by decide) (hg : Gl X x := by rfl)
    (hdb : (x == ("__debug__" : Str)) = false := by decide) (he : starEach (e :: es) X.env = (false, eval e X.env) :: starEach es X.env := by rfl) (hpl : (backTo pos (starEach es X.env)).any (·.1) = false := by rfl) :
    DE X W (.Call (.Name x p) (e :: es) [] pos) (mCall f mr) := by
  obtain ⟨fa, fd, hm, Fu, B, G⟩ := F
  obtain ⟨ta, pa, ka⟩ := ha
  refine ⟨_, pe_callSG G (hr.mono hj) hg hm Fu.kp B .nil (fun σ => passAt tk σ) pa hdb he hpl, fun ξ μ σ H ρ S Q g s h => ka ξ μ σ H ρ S _ g s (WR.bind h fun xs S1 vs μ1 H1 u1 s1 r1 h1 => ?_)⟩
  rw [List.append_nil]
  exact ⟨ξ, μ1, xs, S1, s1, r1, h1⟩
end
end Dm
-- text DmGEnd
namespace Dm
open PySem L2 PySem.Spec PyProof.Rows
open PySem.W (Frag)
/-- of all addresses the script's alone may be tracked, frozen, and then the written part does not know it -/
def Lone (K : Frag) (a : Addr) (H : Hp) : Prop := ∀ b, H b = none ∨ (b = a ∧ K.lookup a = none ∧ ∃ o xs, H b = some (.frz o (.lst xs)))
section
variable {P : Program} {w : World} {K : Frag} {mg mb : Str → Option Value} {k : Nat} {fa a : Addr} {fd : FuncData} {x : Str} {s : Shared} {vs : List Value} {ns : List Int} {H : Hp}
theorem Lone.free (L : Lone K a H) (KX : K.In s.heap) {b : Addr} {o : Obj} (h : K.lookup b = some o) : H b = none := by
  rcases L b with q | ⟨rfl, q, _⟩
  · exact q
  · rw [q] at h; cases h
theorem Lone.dic (L : Lone K a H) (ha : s.heap.get? a = some { cls := .type "list", data := .seq vs.toArray }) {b : Addr} {o : Obj} {es : Array DictEntry} {n : Nat} (h : s.heap.get? b = some o) (hd : o.data = .dict es n) : H b = none := by
  rcases L b with q | ⟨rfl, _, _⟩
  · exact q
  · rw [ha] at h
    cases h
    cases (show Data.seq vs.toArray _ = Data.dict es n from hd)
theorem Lone.nsp (L : Lone K a H) (ha : s.heap.get? a = some { cls := .type "list", data := .seq vs.toArray }) {b : Addr} {m : Str → Option Value} (h : s.heap.Ns b m) : (hidT s.heap H).Ns b m := by
  obtain ⟨o, es, ep, h1, h2, h3⟩ := h
  exact ⟨o, es, ep, hidT_get h1 (L.dic ha h1 h2), h2, h3⟩
/-- the call of the law, from an abstract heap -/
theorem lone_call (L : Lone K a H) (KX : K.In s.heap) (hns : s.heap.Ns mainGlobals mg) (hb : s.heap.Ns builtinsNs mb) (hbb : ∀ x : Str, x ≠ "__name__" → mb x = bootBuiltins x) (hlim : s.heap.NoLimit) (hg : s.gens = #[])
    (ha : s.heap.get? a = some { cls := .type "list", data := .seq vs.toArray }) (hr : RoomG k callerA) (F : ∀ base : Heap, K.In base → base.Ns mainGlobals mg → FnG P w K mg base (L2.CX P w) k fa fd [x] (spLaw K))
    (hbind : ∀ (s : Shared) (u : Value), BindsTo s fd ⟨[u], []⟩ [(x, u)]) (hS : SqL K H a (ns.map V.int)) (hl : ns.length ≤ 63) (hok : HOk P w H s.heap) :
    codeAny (model P w) callerA (.call (.ref fa) ⟨[.ref a], []⟩) (fun r s' => r = .ok (.ret (.bool true)) ∧ OldK s.heap s'.heap ∧ s'.os = s.os ∧ AllBare s'.gens) s := by
  have hK : K.In (hidT s.heap H) := fun b o e => hidT_get (KX b o e) (L.free KX e)
  obtain ⟨mc, l1, l2⟩ := hlim
  have e0 : Env0 P w K mg (hidT s.heap H) callerA [] s H := {
    frames := rfl
    mod := ⟨hK, L.nsp ha hns, ⟨mb, L.nsp ha hb, hbb⟩, ⟨mc, L.nsp ha l1, l2⟩⟩
    bs := fun b o e => of_hidT e
    bsz := Nat.le_of_eq (hidT_size _ _)
    funs := trivial
    frf := fun b hb => absurd (show b ∈ ([] : List Addr) from hb) List.not_mem_nil
    hok := hok
    bare := .of_eq hg }
  have sp : spLaw K [.ref a] H (fun v _ => v = .bl true) fun _ _ _ => False := ⟨a, ns, rfl, hS, hl, fun _ => rfl⟩
  refine codeAny_mono ((F _ hK (L.nsp ha hns)).run callerA [] s H ⟨[.ref a], []⟩ [.ref a] [.ref a] _ _ hr e0 (hbind s (.ref a)) (.cons rfl .nil) sp) ?_
  intro r s' h
  match r, h with
  | .error e, h => exact (cx_no h).elim
  | .ok .next, h => exact False.elim h
  | .ok .brk, h => exact False.elim h
  | .ok .cont, h => exact False.elim h
  | .ok (.ret u), ⟨v, H', os, bare, un, hok', rv, q⟩ =>
    obtain rfl : v = .bl true := q
    obtain rfl : u = Value.bool true := rv
    refine ⟨rfl, OldK.of_keep fun b o e => ?_, os, bare⟩
    rcases L b with q | ⟨_, _, ob, xs, q⟩
    · exact un.keep b o e q (fun z => absurd (show b ∈ ([] : List Addr) from z) List.not_mem_nil) List.not_mem_nil
    · have e1 := (hok b _ q).1
      have e2 := (hok' b _ (un.frzs b ob _ q)).1
      rw [e] at e1
      cases e1
      exact e2
/-- the call of the law -/
theorem law_callG (KX : K.In s.heap) (hns : s.heap.Ns mainGlobals mg) (hb : s.heap.Ns builtinsNs mb) (hbb : ∀ x : Str, x ≠ "__name__" → mb x = bootBuiltins x) (hlim : s.heap.NoLimit) (hg : s.gens = #[])
    (ha : s.heap.get? a = some { cls := .type "list", data := .seq vs.toArray }) (hi : IntsAre vs ns) (hl : ns.length ≤ 63) (hr : RoomG k callerA) (F : ∀ base : Heap, K.In base → base.Ns mainGlobals mg → FnG P w K mg base (L2.CX P w) k fa fd [x] (spLaw K))
    (hbind : ∀ (s : Shared) (u : Value), BindsTo s fd ⟨[u], []⟩ [(x, u)]) :
    codeAny (model P w) callerA (.call (.ref fa) ⟨[.ref a], []⟩) (fun r s' => r = .ok (.ret (.bool true)) ∧ OldK s.heap s'.heap ∧ s'.os = s.os ∧ AllBare s'.gens) s := by
  have rv := vals_ints hi
  have hz : ns.length ≤ sizeLine := Nat.le_trans hl (by decide)
  by_cases hk : K.lookup a = none
  · let H : Hp := fun b => if b = a then some (.frz { cls := .type "list", data := .seq vs.toArray } (.lst (ns.map V.int))) else none
    have Ha : H a = some (.frz { cls := .type "list", data := .seq vs.toArray } (.lst (ns.map V.int))) := if_pos rfl
    refine lone_call (H := H) (ns := ns) (vs := vs) (fun b => ?_) KX hns hb hbb hlim hg ha hr F hbind (.inl (.inr ⟨_, Ha⟩)) hl fun b u z => ?_
    · by_cases hb : b = a
      · subst hb
        exact .inr ⟨rfl, hk, _, _, Ha⟩
      · exact .inl (if_neg hb)
    · by_cases hb : b = a
      · subst hb
        rw [Ha] at z
        cases z
        exact ⟨ha, by rw [List.length_map]; exact hz, vs, _, rv, ha⟩
      · rw [show H b = none from if_neg hb] at z
        cases z
  · obtain ⟨o, ho⟩ := Option.ne_none_iff_exists'.mp hk
    have e := KX a o ho
    rw [ha] at e
    cases e
    refine lone_call (H := fun _ => none) (ns := ns) (vs := vs) (fun b => .inl rfl) KX hns hb hbb hlim hg ha hr F hbind ?_ hl fun b u z => nomatch z
    exact .inr ⟨_, vs.toArray, _, ho, rfl, rfl, rfl, by rw [List.size_toArray, hi.length]; exact hz, by simpa using rv⟩
end
theorem walkG_of {l : PySem.W.OpenLaw} {k : Nat} {q : Program} {loose : List Str} {XP : (Str → Option Value) → Heap → Prop} {YP : World → Heap → Prop} {d : DefRec} {K : Params → Frag} {x : Str}
    (hn : l.most = some 63) (hdf : d.params.defaults = []) (hr : Room k callerA) (hY : ∀ (w : World) (h : Heap), YP w h → (K w.params).In h)
    (F : ∀ (w : World) (mg : Str → Option Value) (fa : Addr) (h : Heap), (K w.params).In h → h.Ns mainGlobals mg → mg d.name = some (.ref fa) →
      ∃ fd : FuncData, (∀ (s : Shared) (u : Value), BindsTo s fd ⟨[u], []⟩ [(x, u)]) ∧
        ∀ base : Heap, (K w.params).In base → base.Ns mainGlobals mg → FnG l.prog w (K w.params) mg base (L2.CX l.prog w) k fa fd [x] (spLaw (K w.params))) :
    PySem.W.WalkO q loose XP YP l.row.toRowW d [] (fun f vs => PySem.call f vs) := by
  refine Att.attach_call hn hdf fun w s₀ s₁ mg mb fa o pm cd doc a vs ns G Y ho hd hcd hmg hobj hints hlen hg => ?_
  obtain ⟨fd, hb, hF⟩ := F w mg fa _ (hY w _ Y) G.T.g hmg
  exact law_callG (hY w _ Y) G.T.g G.T.b G.T.builtins G.T.nolimit hg hobj hints hlen (roomG_top hr) hF hb
end Dm
-- text DmRepr
namespace Dm
open PySem L2 PySem.Spec PyProof.Rows
open PySem.W (Frag)
/-! ### repr of plain data -/
def reprOk (d : PyData) : Prop := d.showable = true ∧ d.hasDict = false ∧ d.shown.length ≤ sizeLine ∧ d.depth ≤ 64
def rRepr (K : Frag) : List V → Hp → VK → Prop := fun xs H Q => ∃ x d, xs = [x] ∧ Dp K H x d ∧ reprOk d ∧ Q (.str d.shown) H
/-! cells within, their items plain -/
mutual
def toPyC (S : Sto) : D → Option PyData
  | .non => some .none
  | .bl b => some (.bool b)
  | .int i => some (.int i)
  | .str x => some (.str x)
  | .tup ds => (toPysC S ds).map .tuple
  | .lst ds => (toPysC S ds).map .list
  | .cell n => match S[n]? with
    | some (.lst ds) => (toPys ds).map .list
    | _ => none
  | .glo _ => none
  | .exn _ _ => none
def toPysC (S : Sto) : List D → Option (List PyData)
  | [] => some []
  | d :: ds => (toPyC S d).bind fun p => (toPysC S ds).map fun ps => p :: ps
end
section
variable {F : Fx} {μ : List Addr} {H : Hp} {S : Sto}
mutual
theorem dpC_of (s : RS F μ H S) : ∀ {v : V} (d : D) {p : PyData}, RD F μ H v d → toPyC S d = some p → Dp F.K H v p
  | _, .non, p, r, e => by cases r; cases e; exact .non
  | _, .bl b, p, r, e => by cases r; cases e; exact .bl b
  | _, .int i, p, r, e => by cases r; cases e; exact .int i
  | _, .str x, p, r, e => by cases r; cases e; exact .str x
  | _, .tup ds, p, r, e => by
    cases r with
    | tup f r =>
      unfold toPyC at e
      cases q : toPysC S ds with
      | none => rw [q] at e; exact nomatch e
      | some ps =>
        rw [q] at e; cases e
        exact .tup f.sq (dpsC_of s ds r q)
  | _, .lst ds, p, r, e => by
    cases r with
    | lst f r =>
      unfold toPyC at e
      cases q : toPysC S ds with
      | none => rw [q] at e; exact nomatch e
      | some ps =>
        rw [q] at e; cases e
        exact .lst f.sq (dpsC_of s ds r q)
  | _, .cell n, p, r, e => dpS_of s r (by unfold toPyC at e; unfold toPyS; exact e)
  | _, .glo _, p, r, e => nomatch e
  | _, .exn _ _, p, r, e => nomatch e
theorem dpsC_of (s : RS F μ H S) : ∀ {vs : List V} (ds : List D) {ps : List PyData}, RDs F μ H vs ds → toPysC S ds = some ps → DpAll F.K H vs ps
  | _, [], ps, r, e => by cases r; cases e; exact .nil
  | _, d :: ds, ps, r, e => by
    cases r with
    | cons a b =>
      unfold toPysC at e
      cases q : toPyC S d with
      | none => rw [q] at e; exact nomatch e
      | some p =>
        rw [q] at e
        cases q' : toPysC S ds with
        | none => rw [q'] at e; exact nomatch e
        | some ps' =>
          rw [q'] at e; cases e
          exact .cons (dpC_of s d a q) (dpsC_of s ds b q')
end
end
open Classical in
noncomputable def gRepr : Sto → List D → Option D := fun S ds => match ds with
  | [x] => match toPyC S x with
    | some d => if reprOk d then some (.str d.shown) else none
    | none => none
  | _ => none
section
variable {X : Cx}
theorem cr_repr {k : Nat} (hr : RoomG k X.A) : CallR X (.builtin "repr") (rRepr X.K) := by
  intro pins s σ H xs us Q I r h
  obtain ⟨x, d, rfl, hd, ⟨h1, h2, h3, h4⟩, q⟩ := h
  obtain ⟨u, rfl, rx⟩ := vals1 r
  obtain ⟨as, rd⟩ := Dp.reads I d x u hd rx
  have hu : X.A.units + (d.depth + 1) < cLine := by
    have := hr.toRoom.un
    omega
  have done : ∀ (h' : Heap) (t : Tok) (tk : Nat), (∀ b o, s.heap.get? b = some o → h'.get? b = some o) → EP X pins σ Q (.str d.shown t) { s with heap := h', toks := tk } := fun h' t tk hk => ⟨.str d.shown, H, I.kept hk, ⟨t, rfl⟩, q⟩
  cases rd with
  | none =>
    simp only [PyData.shown] at done
    exact PySem.P.repr_of_none (done s.heap _ _ fun _ _ e => e)
  | bool b =>
    simp only [PyData.shown] at done
    exact PySem.P.repr_of_bool (done s.heap _ _ fun _ _ e => e)
  | int i t =>
    simp only [PyData.shown] at done
    exact PySem.P.repr_of_int (by simpa [PyData.showable] using h1) (done s.heap _ _ fun _ _ e => e)
  | str y t =>
    simp only [PyData.shown] at done h3
    exact PySem.P.repr_of_str (done s.heap _ _ fun _ _ e => e) h3
  | list a1 a2 a3 a4 => exact repr_of_reads' (.list a1 a2 a3 a4) h1 (fun z => by rw [h2] at z; cases z) hr.gd hu (fun _ _ e => e) (fun h' t tk hk => done h' t tk hk) h3
  | tuple a1 a2 a3 a4 => exact repr_of_reads' (.tuple a1 a2 a3 a4) h1 (fun z => by rw [h2] at z; cases z) hr.gd hu (fun _ _ e => e) (fun h' t tk hk => done h' t tk hk) h3
  | dict a1 a2 a3 a4 a5 => simp only [PyData.hasDict] at h2; cases h2
theorem c_repr : CallD X (rRepr X.K) gRepr := by
  intro ξ μ H S ds vs z Q s r e k
  unfold gRepr at e
  cases r with
  | nil => exact nomatch e
  | @cons v vs d ds r rr =>
    cases rr with
    | cons _ _ => exact nomatch e
    | nil =>
      simp only at e
      cases q : toPyC S d with
      | none => simp only [q] at e; exact nomatch e
      | some p =>
        simp only [q] at e
        split at e
        · rename_i hp
          cases e
          exact ⟨v, p, rfl, dpC_of s d r q, hp, k _ μ H .refl s (.str _)⟩
        · exact nomatch e
end
end Dm
-- text DmPar3
namespace Dm
open PySem L2 PySem.Spec PyProof.Rows
open PySem.W (Frag)
/-! ### x, y, z = a, b, c -/
def mPar3 (i j l : Nat) (a : MA) : MS := fun ρ S => ofRes (a ρ S) ρ fun ds S1 => match ds with
  | [d, d', d''] => .nx (((ρ.set i (some d)).set j (some d')).set l (some d'')) S1
  | _ => .bad
section
variable {S : Sto} {ρ : Rho} {N B C : Rho → Sto → Prop} {R : D → Sto → Prop} {E : EX} {EO : EXO}
@[simp] theorem does_par3 {i j l : Nat} {a : MA} : (mPar3 i j l a ρ S).DoesE EO N R B C = (a ρ S).DoesE (eAt EO ρ) fun ds S1 => match ds with
    | [d, d', d''] => N (((ρ.set i (some d)).set j (some d')).set l (some d'')) S1
    | _ => False := by
  unfold mPar3
  rw [does_ofRes]; congr 1; funext ds S1
  match ds with
  | [] => rfl
  | [_] => rfl
  | [_, _] => rfl
  | [_, _, _] => rfl
  | _ :: _ :: _ :: _ :: _ => rfl
@[simp] theorem does_tbin {neg : Bool} {kvs : List (Str × D)} {a : ME} {Q : D → Sto → Prop} : (mTbIn neg kvs a ρ S).DoesE E Q = (a ρ S).DoesE E fun x S1 => match x with
    | .str z => Q (.bl (if neg then !(tbLook kvs z).isSome else (tbLook kvs z).isSome)) S1
    | _ => False := by
  unfold mTbIn
  rw [does_bind]; congr 1; funext x S1
  cases x <;> rfl
@[simp] theorem does_tbix {kvs : List (Str × D)} {a : ME} {Q : D → Sto → Prop} : (mTbIx kvs a ρ S).DoesE E Q = (a ρ S).DoesE E fun x S1 => match x with
    | .str z => ∃ d, tbLook kvs z = some d ∧ Q d S1
    | _ => False := by
  unfold mTbIx
  rw [does_bind]; congr 1; funext x S1
  cases x with
  | str z =>
    simp only
    cases e : tbLook kvs z with
    | some d => simp
    | none => exact propext ⟨fun h => h.elim, fun ⟨_, h, _⟩ => nomatch h⟩
  | _ => rfl
end
end Dm
-- text Hw7
namespace Dm
open PySem L2
noncomputable section
def m_is_zones : List D → Sto → Res D := mDef 1 2 (mSeq (mIfS (mOr (mNot (mIsi .tup (mVar 0))) (mNot (mChain gLe gLe (mK (.int 1)) (mCallB gLen (mCons (mVar 0) mNil)) (mK (.int 2))))) (mRet (mK (.bl false))) mNop) (mRet (mCallB gAll (mCons (mFz (mLcA (mVar 0) (tgN 1) mYes (mCall m_is_zone (mCons (mVar 1) mNil)) [1])) mNil))))
def m_need_zones : List D → Sto → Res D := mDef 1 1 (mIfS (mNot (mCall m_is_zones (mCons (mVar 0) mNil))) (mRaise "InvalidZones") mNop)
def m_is_part : List D → Sto → Res D := mDef 4 4 (mSeq (mIfS (mOp gEq (mVar 2) (mK (.str "fold"))) (mRet (mAnd (mIsi .str (mVar 3)) (mOp (gIn false) (mVar 3) (mK (.tup [(.str "early"), (.str "late"), (.str "refuse")]))))) mNop) (mSeq (mIfS (mOp gEq (mVar 2) (mK (.str "gap"))) (mRet (mAnd (mIsi .str (mVar 3)) (mOp (gIn false) (mVar 3) (mK (.tup [(.str "ahead"), (.str "behind"), (.str "refuse")]))))) mNop) (mSeq (mIfS (mNot (mCall m_is_integer (mCons (mVar 3) mNil))) (mRet (mK (.bl false))) mNop) (mSeq (mIfS (mOp gEq (mVar 2) (mK (.str "place"))) (mRet (mChain gLe gLt (mK (.int 0)) (mVar 3) (mCallB gLen (mCons (mVar 0) mNil)))) mNop) (mSeq (mIfS (mOp gEq (mVar 2) (mK (.str "minutes"))) (mRet (mChain gLe gLe (mUn gNeg (mK (.int 100000))) (mVar 3) (mK (.int 100000)))) mNop) (mSeq (mIfS (mNot (mChain gLe gLt (mK (.int 0)) (mVar 3) (mCallB gLen (mCons (mVar 1) mNil)))) (mRet (mK (.bl false))) mNop) (mSeq (mIfS (mOp gEq (mVar 2) (mK (.str "point"))) (mRet (mOp gNe (mOp gIx (mVar 1) (mVar 3)) (mK (.str "span")))) mNop) (mRet (mOp gEq (mOp gIx (mVar 1) (mVar 3)) (mVar 2))))))))))
def m_is_step : List D → Sto → Res D := mDef 3 6 (mSeq (mIfS (mOr (mNot (mIsi .tup (mVar 2))) (mOp gEq (mCallB gLen (mCons (mVar 2) mNil)) (mK (.int 0)))) (mRet (mK (.bl false))) mNop) (mSeq (mIfS (mOr (mNot (mIsi .str (mOp gIx (mVar 2) (mK (.int 0))))) (mTbIn true [("read", (.tup [(.str "moment"), (.str "place")])), ("find", (.tup [(.str "reading"), (.str "place"), (.str "fold"), (.str "gap")])), ("offset", (.tup [(.str "moment"), (.str "place")])), ("edition", (.tup [(.str "moment"), (.str "place")])), ("plus", (.tup [(.str "moment"), (.str "span")])), ("less", (.tup [(.str "reading"), (.str "span")])), ("add", (.tup [(.str "point"), (.str "minutes")]))] (mOp gIx (mVar 2) (mK (.int 0))))) (mRet (mK (.bl false))) mNop) (mSeq (mAsg 3 (mTbIx [("read", (.tup [(.str "moment"), (.str "place")])), ("find", (.tup [(.str "reading"), (.str "place"), (.str "fold"), (.str "gap")])), ("offset", (.tup [(.str "moment"), (.str "place")])), ("edition", (.tup [(.str "moment"), (.str "place")])), ("plus", (.tup [(.str "moment"), (.str "span")])), ("less", (.tup [(.str "reading"), (.str "span")])), ("add", (.tup [(.str "point"), (.str "minutes")]))] (mOp gIx (mVar 2) (mK (.int 0))))) (mSeq (mIfS (mOp gNe (mCallB gLen (mCons (mVar 2) mNil)) (mOp gAdd (mCallB gLen (mCons (mVar 3) mNil)) (mK (.int 1)))) (mRet (mK (.bl false))) mNop) (mRet (mCallB gAll (mCons (mFz (mLc (iEnumS (mVar 3)) (tgU 2 (tgCons (tgN 4) (tgCons (tgN 5) tgNil))) mYes (mCall m_is_part (mCons (mVar 0) (mCons (mVar 1) (mCons (mVar 5) (mCons (mOp gIx (mVar 2) (mOp gAdd (mVar 4) (mK (.int 1)))) mNil))))) [4, 5])) mNil)))))))
def m_kind_made : List D → Sto → Res D := mDef 2 2 (mSeq (mIfS (mOp gEq (mOp gIx (mVar 1) (mK (.int 0))) (mK (.str "add"))) (mRet (mOp gIx (mVar 0) (mOp gIx (mVar 1) (mK (.int 1))))) mNop) (mRet (mTbIx [("read", (.str "reading")), ("find", (.str "moment")), ("offset", (.str "span")), ("edition", (.str "moment")), ("plus", (.str "reading")), ("less", (.str "moment"))] (mOp gIx (mVar 1) (mK (.int 0))))))
def m_kinds_of : List D → Sto → Res D := mDef 1 3 (mSeq (mAsg 1 (mNew (mLst (mCons (mK (.str "moment")) mNil)))) (mSeq (mForA (mVar 0) (tgN 2) (mApp (mVar 1) (mCall m_kind_made (mCons (mVar 1) (mCons (mVar 2) mNil))))) (mRet (mVar 1))))
def m_is_program : List D → Sto → Res D := mDef 2 4 (mSeq (mDrop (mCall m_need_zones (mCons (mVar 0) mNil))) (mSeq (mIfS (mOr (mNot (mIsi .tup (mVar 1))) (mOp gGt (mCallB gLen (mCons (mVar 1) mNil)) (mK (.int 8)))) (mRet (mK (.bl false))) mNop) (mSeq (mAsg 2 (mNew (mLst (mCons (mK (.str "moment")) mNil)))) (mSeq (mForA (mVar 1) (tgN 3) (mSeq (mIfS (mNot (mCall m_is_step (mCons (mVar 0) (mCons (mVar 2) (mCons (mVar 3) mNil))))) (mRet (mK (.bl false))) mNop) (mApp (mVar 2) (mCall m_kind_made (mCons (mVar 2) (mCons (mVar 3) mNil)))))) (mRet (mOp gLt (mCallB gLen (mCons (mFz (mLcA (mVar 1) (tgN 3) (mOp gEq (mOp gIx (mVar 3) (mK (.int 0))) (mK (.str "edition"))) (mVar 3) [3])) mNil)) (mK (.int 2))))))))
def m_need_program : List D → Sto → Res D := mDef 2 2 (mIfS (mNot (mCall m_is_program (mCons (mVar 0) (mCons (mVar 1) mNil)))) (mRaise "InvalidProgram") mNop)
end
end Dm
-- text DmMin
namespace Dm
open PySem L2 PySem.Spec PyProof.Rows
open PySem.W (Frag)
/-! ### min of a list of ints -/
section
variable {X : Cx} {W : WX}
/-! ### key in a dict -/
def rDIn (neg : Bool) : R2 := fun y x H Q => ∃ a o, x = .ref a ∧ DGet H a y o ∧ Q (.bl (if neg then !o.isSome else o.isSome)) H
theorem op_dnot (hu : X.A.units + 64 < cLine) : OpR X (compareOp .NotIn) (rDIn true) := by
  intro pins s σ H y x u v Q I ry rx h
  obtain ⟨a, o, rfl, g, q⟩ := h
  obtain rfl : v = Value.ref a := rx
  exact d_notIn (by omega) I g ry fun s' I' => ⟨.bl (!o.isSome), H, I', rfl, q⟩
theorem o_din {neg : Bool} : OpD X (rDIn neg) (gDIn neg) := by
  intro ξ μ H S y x u v z Q s ry rx e k
  unfold gDIn at e
  cases q1 : dicOf S x with
  | none => rw [q1] at e; exact nomatch e
  | some kvs =>
    rw [q1] at e
    cases q2 : keyD y with
    | none => rw [q2] at e; exact nomatch e
    | some ky =>
      rw [q2] at e
      cases e
      obtain ⟨n, a, vk, rfl, rfl, ea, es, e3, e4⟩ := dic_at s rx q1
      have ek := keyD_of ry q2
      subst ek
      refine ⟨a, _, rfl, DGet.k e3, ?_⟩
      rw [valV_none e4]
      exact k _ μ H .refl s (.bl _)
/-! ### xs.clear() -/
def mClear (o : ME) : MS := fun ρ S => ofRes (o ρ S) ρ fun x S1 => match x with
  | .cell n => match S1[n]? with
    | some (.lst _) => .nx ρ (S1.set n (.lst []))
    | _ => .bad
  | _ => .bad
end
section
variable {S : Sto} {ρ : Rho} {N B C : Rho → Sto → Prop} {R : D → Sto → Prop} {E : EX} {EO : EXO}
@[simp] theorem does_clear {o : ME} : (mClear o ρ S).DoesE EO N R B C = (o ρ S).DoesE (eAt EO ρ) fun x S1 => match x with
    | .cell n => (∃ xs, S1[n]? = some (.lst xs)) ∧ N ρ (S1.set n (.lst []))
    | _ => False := by
  unfold mClear
  rw [does_ofRes]; congr 1; funext x S1
  cases x with
  | cell n =>
    simp only
    cases q : S1[n]? with
    | none => exact propext ⟨fun h => h.elim, fun ⟨⟨_, h⟩, _⟩ => nomatch h⟩
    | some c =>
      cases c with
      | lst ds => exact propext ⟨fun h => ⟨⟨_, rfl⟩, h⟩, fun h => h.2⟩
      | _ => exact propext ⟨fun h => h.elim, fun ⟨⟨_, h⟩, _⟩ => nomatch h⟩
  | _ => rfl
end
end Dm
-- text DmTry
/-! try .. except X (as n): the caught exception stands in the heap as a value -/
namespace Dm
open PySem L2 PySem.Spec PyProof.Rows
open PySem.W (Frag)
section
variable {X : Cx} {pins : List (Addr × Obj)} {σ : L2.St} {H : Hp} {s : Shared}
theorem _root_.L2.Inv.track {a : Addr} {o : HO} (I : Inv X pins σ H s) (h0 : X.s_0.heap.get? a = none) (hn : H a = none) (hL : a ≠ X.env.locals) (hC : ∀ x c, X.env.cells.lookup x = some c → c ≠ a) (hp : ∀ p ∈ X.pn ++ pins, p.1 ≠ a)
    (new : ObjOk X.prog X.w (upd H a o) s.heap a o) : Inv X pins σ (upd H a o) s := by
  have n0 : ∀ {b : Addr} {u : Obj}, X.s_0.heap.get? b = some u → b ≠ a := fun {b u} e z => by
    rw [z, h0] at e; cases e
  have nH : ∀ {b : Addr} {u : HO}, H b = some u → b ≠ a := fun {b u} e z => by
    rw [z, hn] at e; cases e
  refine ⟨I.ok, I.os, I.bare, ⟨I.base.keep, I.base.slot, fun b u e n hx => ?_, I.base.there, fun b xs e => ?_, fun b u xs e => ?_, fun b ps e => ?_⟩, I.loc, I.cell, ?_, fun x c e => ?_, fun p hq => ?_, fun b u e => ?_, I.len⟩
  · rw [upd_ne (n0 e)]
    exact I.base.free b u e n hx
  · have q := I.base.tups b xs e
    rw [upd_ne (nH q)]
    exact q
  · have q := I.base.frzs b u xs e
    rw [upd_ne (nH q)]
    exact q
  · obtain ⟨m, q⟩ := I.base.tbls b ps e
    exact ⟨m, by rw [upd_ne (nH q)]; exact q⟩
  · rw [upd_ne (Ne.symm hL)]
    exact I.free
  · rw [upd_ne (hC x c e)]
    exact I.freeC x c e
  · obtain ⟨e, n, ne, nf, d⟩ := I.pin p hq
    exact ⟨e, by rw [upd_ne (hp p hq)]; exact n, ne, nf, d⟩
  · by_cases hb : b = a
    · subst hb
      rw [upd_same] at e
      cases e
      exact new
    · rw [upd_ne hb] at e
      exact (I.hok b u e).stay (fun c v _ q => q) (fun c q => by rw [upd_ne (nH q)]; exact q) fun c xs q => by rw [upd_ne (nH q)]; exact q
theorem _root_.L2.Inv.suiteV (I : Inv X pins σ H s) (a : Addr) : Inv (X.suite a (X.pn ++ pins)) [] σ H s :=
  ⟨I.ok.suite _ _, I.os, I.bare, I.base, I.loc, I.cell, I.free, I.freeC, fun p hp => by rw [List.append_nil] at hp; exact I.pin p hp, I.hok, I.len⟩
theorem _root_.L2.Inv.unsuiteV {a : Addr} {pn' : List (Addr × Obj)} (I : Inv (X.suite a (X.pn ++ pins)) pn' σ H s) (ok : X.Ok) : Inv X pins σ H s :=
  ⟨ok, I.os, I.bare, I.base, I.loc, I.cell, I.free, I.freeC, fun p hp => I.pin p (List.mem_append_left _ hp), I.hok, I.len⟩
end
theorem exV_ok {P : Program} {w : World} {H : Hp} {h : Heap} {a : Addr} {cls : Value} {d : Option Addr} {oe : Obj} {vs : Array Value} (e : h.get? a = some oe) (z : Zc cls d oe) (hd : oe.data = .fields vs) : ObjOk P w H h a (ExV cls d a) :=
  ⟨⟨oe, vs, e, z, hd⟩, ⟨oe, e⟩, fun _ _ ⟨o, v, q, r⟩ k => ⟨o, v, k o q, r⟩⟩
/-- the slot of a clause's name: what is wished for behind the suite, the slots at its start -/
def endsI (oi : Option Nat) (D : Ends) : Ends := match oi with
  | none => D
  | some i => { nx := fun σ' H' => D.nx (σ'.set i none) H', rt := D.rt, bk := fun σ' H' => D.bk (σ'.set i none) H', ct := fun σ' H' => D.ct (σ'.set i none) H' }
def slotI (oi : Option Nat) (σ : L2.St) (a : Addr) : L2.St := match oi with
  | none => σ
  | some i => σ.set i (some (.ref a))
def wTry (K : Frag) (Wout : WX) (D : Ends) : List (Value × Option Nat × TS) → WX
  | [] => Wout
  | (c, oi, ts) :: r => fun cls d σ H => ∃ b, PySem.W.exmOne K cls c = some b ∧ (b = true → ∀ a, H a = none → ts (endsI oi D) (slotI oi σ a) (upd H a (ExV cls d a))) ∧ (b = false → wTry K Wout D r cls d σ H)
inductive HdsV (X : Cx) : List ExceptHandler → List (Value × Option Nat × TS) → Prop
  | nil : HdsV X [] []
  | one {x : Str} {c : Value} {ts : TS} {b₀ : Stmt} {suite : List Stmt} {np pos' : Pos} {hds : List ExceptHandler} {l : List (Value × Option Nat × TS)} (hc : Names X x c)
      (hsu : ∀ (a : Addr) (pn : List (Addr × Obj)), PSs (X.suite a pn) (b₀ :: suite) ts) (r : HdsV X hds l) : HdsV X (.ExceptHandler (some (.Name x np)) none (b₀ :: suite) pos' :: hds) ((c, none, ts) :: l)
  | as {x n : Str} {c : Value} {i : Nat} {ts : TS} {b₀ : Stmt} {suite : List Stmt} {np pos' : Pos} {hds : List ExceptHandler} {l : List (Value × Option Nat × TS)} (hc : Names X x c) (hi : X.N[i]? = some n) (hln : X.env.kindOf n = some .local)
      (hsu : ∀ (a : Addr) (pn : List (Addr × Obj)), PSs (X.suite a pn) (b₀ :: suite) ts) (r : HdsV X hds l) : HdsV X (.ExceptHandler (some (.Name x np)) (some n) (b₀ :: suite) pos' :: hds) ((c, some i, ts) :: l)
section
variable {X : Cx} {body : List Stmt} {h₀ : ExceptHandler} {hds : List ExceptHandler} {l : List (Value × Option Nat × TS)} {pos : Pos} {tb : WX → TS} {Wout : WX}
theorem ps_tryV (hx : X.ex = []) (hs : X.stack = X.env :: X.outer) (hf : X.env.frame = some X.env.locals) (hN : X.N.Nodup) (tk : Takes X Wout)
    (hb : ∀ (W : WX) (pn : List (Addr × Obj)) (xe : Value → Shared → Prop), Takes (X.tr pn xe) W → PassesOwn (model X.prog X.w) X.A X.env xe → PSs (X.tr pn xe) body (tb W))
    (hh : HdsV X (h₀ :: hds) l) : PS X (.Try body (h₀ :: hds) [] [] pos) (fun D σ H => tb (wTry X.K Wout D l) D σ H) := by
  refine ⟨fun pins s σ H D I h => ?_⟩
  have ok := I.ok
  have hfr : X.A.frames = some (X.env :: X.outer) := by rw [ok.frames, hs]
  refine wpAny_Try_except ?_
  refine wpAny_mono ((hb (wTry X.K Wout D l) (X.pn ++ pins) (fun e s₁ => wpAny (model X.prog X.w) X.A (noteFrame e X.env) (fun _ s₂ => wpAny (model X.prog X.w) X.A (setFlight e none) (fun _ s₃ =>
    wpAny (model X.prog X.w) X.A (handleBy e X.env (h₀ :: hds)) (SP X pins D) X.xe s₃) X.xe s₂) X.xe s₁) (fun u s' xx => ?_) PassesOwn.looking).run [] s σ H D (I.toTry _) h) (fun f s1 hsp => ?_) (fun e s1 he => he)
  · -- the catch
    obtain ⟨a, B, sI, pins', σ', H', cls, d, rfl, J', nb, up, sky, na, os, ag, w⟩ := xx
    have J : Inv X pins σ' H' sI := J'.ofTry ok
    have sky' : Sky B (X.env :: X.outer) a (Zc cls d) X.env.locals s'.heap := by rw [← hs]; exact sky
    show wpAny (model X.prog X.w) X.A (noteFrame (.ref a) X.env) _ _ _
    refine Sky.land Zc.steady hfr hf sky' fun h3 fl3 up3 => ?_
    have J3 : Inv X pins σ' H' { s' with heap := h3 } := J.landed nb fl3.1 (up.trans up3) os ag
    obtain ⟨oe3, vs3, he3, hz3, hd3⟩ := fl3.there
    have notFr : ∀ {h : Heap} {o : Obj} {vs : Array Value}, h.FunFrames B (X.env :: X.outer) → h.get? a = some o → o.data = .fields vs → a ∉ frs (X.env :: X.outer) := fun {h o vs} ff e dd hm => by
      obtain ⟨_, o', e', hnf⟩ := ff.mem hm
      rw [e] at e'; cases e'
      exact hnf _ dd
    have nfr := notFr fl3.2.2.1 he3 hd3
    have nL : a ≠ X.env.locals := fun z => nfr (List.mem_filterMap.mpr ⟨X.env, List.mem_cons_self, by rw [hf, z]⟩)
    have nF : a ∉ X.fs := fun hm => by
      obtain ⟨e, he, q⟩ := List.mem_filterMap.mp hm
      exact nfr (List.mem_filterMap.mpr ⟨e, List.mem_cons_of_mem _ he, q⟩)
    have nI : sI.heap.get? a = none := by
      cases e : sI.heap.get? a with
      | none => rfl
      | some o =>
        have z := nb a o e (by rw [hs]; exact nfr)
        rw [fl3.2.1] at z
        cases z
    have n0 : X.s_0.heap.get? a = none := by
      cases e : X.s_0.heap.get? a with
      | none => rfl
      | some o =>
        obtain ⟨o', z⟩ := J.base.there a o e (by rw [hx]; exact fun z => nomatch z)
        rw [nI] at z; cases z
    have nC : ∀ x c, X.env.cells.lookup x = some c → c ≠ a := fun x c e z => by
      obtain ⟨v, o, ho, hd⟩ := J.cell x c e
      rw [z, nI] at ho; cases ho
    have nP : ∀ p ∈ X.pn ++ pins, p.1 ≠ a := fun p hp z => by
      obtain ⟨e, _⟩ := J.pin p hp
      rw [z, nI] at e; cases e
    have S3 := J3.suiteV a
    have go : ∀ {hds' : List ExceptHandler} {l' : List (Value × Option Nat × TS)}, HdsV X hds' l' → wTry X.K Wout D l' cls d σ' H' →
        wpAny (model X.prog X.w) X.A (handleBy (.ref a) X.env hds') (SP X pins D) X.xe { s' with heap := h3 } := by
      intro hds' l' hk
      induction hk with
      | nil =>
        intro w
        refine wpAny_handleBy_nil ?_
        obtain ⟨k1, k2, k3, oe, vs, T, oT, ts', he, hz, hd, h1, hr⟩ := id fl3
        unfold PySem.passOn
        refine wpAny_bind (wpAny_field he hd h1 ?_)
        rw [if_neg (show ¬ ((Value.ref T == Value.none) = true) from by simp)]
        have fin : wpAny (model X.prog X.w) X.A (setFlight (.ref a) X.env.frame) (fun _ s4 => wpAny (model X.prog X.w) X.A (throw (.ref a) : Sem Flow) (SP X pins D) X.xe s4) X.xe { s' with heap := h3 } := by
          rw [hf]
          refine HandSPX.setFlight_upZ fl3 fun h4 hh4 up4 => wpAny_throw (tk _ _ ?_)
          exact ⟨a, B, sI, pins, σ', H', cls, d, rfl, J, nb, (up.trans up3).trans up4, .inr (.inr (by rw [hs]; exact hh4)), na, os, ag, w⟩
        first
          | exact wpAny_bind (wpAny_pure (wpAny_bind fin))
          | exact wpAny_bind fin
      | @one x c ts b₀ suite np pos' hds2 l2 hc hsu r ih =>
        intro w
        obtain ⟨b, hb1, hyes, hno⟩ := w
        refine wpAny_handleBy_cons (codeAny_handlers_test ?_) (by intro q; cases q)
        have LT : PySem.W.Looks (model X.prog X.w) h3 (typeOf (.ref a)) cls := fun A Q E s k q => wpAny_typeOf_ref (k _ _ he3) (by rw [hz3.1]; exact q)
        have LM := PySem.W.exm_one (M := model X.prog X.w) (J3.kIn) LT hb1
        have test : ∀ {Q : Value → Shared → Prop} {E : Value → Shared → Prop}, Q c { s' with heap := h3 } → wpAny (model X.prog X.w) (X.A.mark (some (.ref a))) (eval (.Name x np) X.env) Q E { s' with heap := h3 } := fun {Q E} q => by
          obtain ⟨hg, hdbg, hm | ⟨hm, hv, hnn⟩⟩ := hc
          · exact ld_glob (X := X.suite a (X.pn ++ pins)) S3 hg hm q hdbg
          · exact ld_blt (X := X.suite a (X.pn ++ pins)) S3 hg hm hv q hnn hdbg
        refine test (LM.here ?_)
        cases b with
        | true =>
          refine codeAny_handlers_suite ?_
          refine HandSPX.lands_againZ fl3 fun h4 fl4 up4 => ?_
          have J4 : Inv X pins σ' H' { s' with heap := h4 } := J.landed nb fl4.1 ((up.trans up3).trans up4) os ag
          obtain ⟨oe4, vs4, he4, hz4, hd4⟩ := fl4.there
          have J5 := Inv.track J4 n0 na nL nC nP (o := ExV cls d a) (exV_ok he4 hz4 hd4)
          have S4 := J5.suiteV a
          refine wpAny_mono ((hsu a (X.pn ++ pins)).run [] _ _ _ _ S4 (hyes rfl a na)) (fun f s6 hsp => ?_) (fun _ _ z => False.elim z)
          cases f with
          | next =>
            obtain ⟨σ6, H6, S6, q6⟩ := hsp
            exact ⟨_, _, S6.unsuiteV ok, q6⟩
          | brk =>
            obtain ⟨σ6, H6, S6, q6⟩ := hsp
            exact ⟨_, _, S6.unsuiteV ok, q6⟩
          | cont =>
            obtain ⟨σ6, H6, S6, q6⟩ := hsp
            exact ⟨_, _, S6.unsuiteV ok, q6⟩
          | ret u =>
            obtain ⟨v6, σ6, H6, S6, r6, q6⟩ := hsp
            exact ⟨_, _, _, S6.unsuiteV ok, r6, q6⟩
        | false =>
          show wpAny _ X.A (handleBy (.ref a) X.env hds2) _ _ _
          exact ih (hno rfl)
      | @as x n c i ts b₀ suite np pos' hds2 l2 hc hi hln hsu r ih =>
        intro w
        obtain ⟨b, hb1, hyes, hno⟩ := w
        have hloc : Loc X.env.scope n := .inl hln
        refine wpAny_handleBy_cons (codeAny_handlers_test ?_) (by intro q; cases q)
        have LT : PySem.W.Looks (model X.prog X.w) h3 (typeOf (.ref a)) cls := fun A Q E s k q => wpAny_typeOf_ref (k _ _ he3) (by rw [hz3.1]; exact q)
        have LM := PySem.W.exm_one (M := model X.prog X.w) (J3.kIn) LT hb1
        have test : ∀ {Q : Value → Shared → Prop} {E : Value → Shared → Prop}, Q c { s' with heap := h3 } → wpAny (model X.prog X.w) (X.A.mark (some (.ref a))) (eval (.Name x np) X.env) Q E { s' with heap := h3 } := fun {Q E} q => by
          obtain ⟨hg, hdbg, hm | ⟨hm, hv, hnn⟩⟩ := hc
          · exact ld_glob (X := X.suite a (X.pn ++ pins)) S3 hg hm q hdbg
          · exact ld_blt (X := X.suite a (X.pn ++ pins)) S3 hg hm hv q hnn hdbg
        refine test (LM.here ?_)
        cases b with
        | true =>
          refine codeAny_handlers_suite_as ?_
          refine HandSPX.lands_againZ fl3 fun h4 fl4 up4 => ?_
          have J4 : Inv X pins σ' H' { s' with heap := h4 } := J.landed nb fl4.1 ((up.trans up3).trans up4) os ag
          obtain ⟨oe4, vs4, he4, hz4, hd4⟩ := fl4.there
          have J5 := Inv.track J4 n0 na nL nC nP (o := ExV cls d a) (exV_ok he4 hz4 hd4)
          have S4 := J5.suiteV a
          refine store_ok (X := X.suite a (X.pn ++ pins)) (v := .ref a) S4 hN hi hloc rfl (fun s5 S5 => ?_) (.inr hln)
          refine wpAny_mono ((hsu a (X.pn ++ pins)).run [] s5 _ _ _ S5 (hyes rfl a na)) (fun f s6 hsp => ?_) (fun _ _ z => False.elim z)
          have end_ : ∀ {σ6 : L2.St} {H6 : Hp} {Q : Shared → Prop}, Inv (X.suite a (X.pn ++ pins)) [] σ6 H6 s6 → (∀ s7, Inv X pins (σ6.set i none) H6 s7 → Q s7) →
              wpAny (model X.prog X.w) X.A (do bindName X.env n .none; unbindBehindTheSuite X.env n pos') (fun _ s7 => Q s7) X.xe s6 := fun {σ6 H6 Q} S6 hq => gone_ok (S6.unsuiteV ok) hN hi hln hq
          cases f with
          | next =>
            obtain ⟨σ6, H6, S6, q6⟩ := hsp
            exact end_ S6 fun s7 J7 => ⟨_, _, J7, q6⟩
          | brk =>
            obtain ⟨σ6, H6, S6, q6⟩ := hsp
            exact end_ S6 fun s7 J7 => ⟨_, _, J7, q6⟩
          | cont =>
            obtain ⟨σ6, H6, S6, q6⟩ := hsp
            exact end_ S6 fun s7 J7 => ⟨_, _, J7, q6⟩
          | ret u =>
            obtain ⟨v6, σ6, H6, S6, r6, q6⟩ := hsp
            exact end_ S6 fun s7 J7 => ⟨_, _, _, J7, r6, q6⟩
        | false =>
          show wpAny _ X.A (handleBy (.ref a) X.env hds2) _ _ _
          exact ih (hno rfl)
    exact go hh w
  · cases f with
    | next =>
      obtain ⟨σ', H', J', q⟩ := hsp
      exact wpAny_execs_nil ⟨σ', H', J'.ofTry ok, q⟩
    | brk =>
      obtain ⟨σ', H', J', q⟩ := hsp
      exact ⟨σ', H', J'.ofTry ok, q⟩
    | cont =>
      obtain ⟨σ', H', J', q⟩ := hsp
      exact ⟨σ', H', J'.ofTry ok, q⟩
    | ret u =>
      obtain ⟨v, σ', H', J', r, q⟩ := hsp
      exact ⟨v, σ', H', J'.ofTry ok, r, q⟩
end
/-! ### the words -/
/-- of the program's error classes all stand directly under HourError -/
def xSub (c h : Str) : Bool := c == h || h == "HourError" || h == "ValueError" || h == "Exception"
def intFsOf : List (Str × D) → Option (List (Str × Int))
  | [] => some []
  | (f, .int i) :: r => (intFsOf r).map fun l => (f, i) :: l
  | _ :: _ => none
def setI (oi : Option Nat) (ρ : Rho) (d : D) : Rho := match oi with
  | none => ρ
  | some i => ρ.set i (some d)
def clearI (oi : Option Nat) (ρ : Rho) : Rho := match oi with
  | none => ρ
  | some i => ρ.set i none
def dropI (oi : Option Nat) : Out → Out
  | .nx ρ S => .nx (clearI oi ρ) S
  | .rt d S => .rt d S
  | .bk ρ S => .bk (clearI oi ρ) S
  | .ct ρ S => .ct (clearI oi ρ) S
  | .exc _ _ _ _ => .bad
  | .bad => .bad
def catchD (c : Str) (fs : List (Str × D)) (ns : List (Str × Int)) : List (Str × Option Nat × MS) → Rho → Sto → Out
  | [], ρ, S => .exc c fs ρ S
  | (h, oi, ms) :: r, ρ, S => if xSub c h = true then dropI oi (ms (setI oi ρ (.exn c ns)) S) else catchD c fs ns r ρ S
def mTry (cs : List Str) (hs : List (Str × Option Nat × MS)) (mb : MS) : MS := fun ρ S => match mb ρ S with
  | .exc c fs ρ1 S1 => match intFsOf fs with
    | some ns => if c ∈ cs then catchD c fs ns hs ρ1 S1 else .bad
    | none => .bad
  | o => o
/-- what the written part says of the classes that may be raised here -/
def SubOk (K : Frag) (mg : Str → Option Value) (cs : List Str) (x : Str) (v : Value) : Prop := ∀ c, c ∈ cs → ∃ Cc, mg c = some Cc ∧ PySem.W.exmOne K Cc v = some (xSub c x)
/-- the class x of a clause -/
structure TrOk (K : Frag) (mg : Str → Option Value) (cs : List Str) (x : Str) : Prop where
  ex : ∃ v : Value, mg x = some v ∧ SubOk K mg cs x v
/-- the classes are own error classes, of no plain type -/
structure PlOk (K : Frag) (mg : Str → Option Value) (cs : List Str) : Prop where
  ex : ∀ c, c ∈ cs → ∃ cls, mg c = some cls ∧ PlX K cls
inductive HdsD (X : Cx) (cs : List Str) : List ExceptHandler → List (Str × Option Nat × MS) → Prop
  | nil : HdsD X cs [] []
  | one {x : Str} {v : Value} {ms : MS} {b₀ : Stmt} {suite : List Stmt} {np pos' : Pos} {hds : List ExceptHandler} {l : List (Str × Option Nat × MS)} (hc : Names X x v) (sub : SubOk X.K X.mg cs x v)
      (hsu : ∀ (a : Addr) (pn : List (Addr × Obj)), Takes (X.suite a pn) W0 → DSs (X.suite a pn) W0 (b₀ :: suite) ms) (r : HdsD X cs hds l) : HdsD X cs (.ExceptHandler (some (.Name x np)) none (b₀ :: suite) pos' :: hds) ((x, none, ms) :: l)
  | as {x n : Str} {v : Value} (i : Nat) {ms : MS} {b₀ : Stmt} {suite : List Stmt} {np pos' : Pos} {hds : List ExceptHandler} {l : List (Str × Option Nat × MS)} (hc : Names X x v) (sub : SubOk X.K X.mg cs x v) (pl : PlOk X.K X.mg cs) (hi : X.N[i]? = some n) (hln : X.env.kindOf n = some .local)
      (hsu : ∀ (a : Addr) (pn : List (Addr × Obj)), Takes (X.suite a pn) W0 → DSs (X.suite a pn) W0 (b₀ :: suite) ms) (r : HdsD X cs hds l) : HdsD X cs (.ExceptHandler (some (.Name x np)) (some n) (b₀ :: suite) pos' :: hds) ((x, some i, ms) :: l)
theorem hds_as {X : Cx} {cs : List Str} (i : Nat) {x n : Str} {ms : MS} {b₀ : Stmt} {suite : List Stmt} {np pos' : Pos} {hds : List ExceptHandler} {l : List (Str × Option Nat × MS)} (T : TrOk X.K X.mg cs x) (P : PlOk X.K X.mg cs)
    (hsu : ∀ (a : Addr) (pn : List (Addr × Obj)), Takes (X.suite a pn) W0 → DSs (X.suite a pn) W0 (b₀ :: suite) ms) (r : HdsD X cs hds l) (hi : X.N[i]? = some n := by rfl) (hln : X.env.kindOf n = some .local := by rfl) (hg : Gl X x := by rfl) (hd : (x == ("__debug__" : Str)) = false := by decide) :
    HdsD X cs (.ExceptHandler (some (.Name x np)) (some n) (b₀ :: suite) pos' :: hds) ((x, some i, ms) :: l) :=
  let ⟨_, h1, h2⟩ := T; .as i ⟨hg, hd, .inl h1⟩ h2 P hi hln hsu r
section
variable {F : Fx} {μ : List Addr} {H : Hp}
theorem intFsOf_some : ∀ {fs : List (Str × D)} {ns : List (Str × Int)}, intFsOf fs = some ns → fs = ns.map fun p => (p.1, D.int p.2)
  | [], ns, e => by cases e; rfl
  | (f, d) :: r, ns, e => by
    cases d with
    | int i =>
      unfold intFsOf at e
      cases q : intFsOf r with
      | none => rw [q] at e; cases e
      | some l =>
        rw [q] at e
        cases e
        rw [List.map_cons, ← intFsOf_some q]
    | _ => cases e
theorem fsr_ints : ∀ {ns : List (Str × Int)} {vfs : List (Str × V)}, FsR F μ H vfs (ns.map fun p => (p.1, D.int p.2)) → vfs = intFs ns
  | [], _, h => by cases h; rfl
  | (f, i) :: r, [], h => by cases h
  | (f, i) :: r, (g, v) :: vfs, h => by
    cases h with
    | cons a b =>
      obtain ⟨h1, h2⟩ := a
      have h3 : g = f := h1
      have h4 : RD F μ H v (.int i) := h2
      clear h1 h2
      subst h3
      cases h4
      rw [fsr_ints b]
      rfl
theorem ws_drop {oi : Option Nat} {r : Out} {D : Ends} {W : WX} (h : WS' F (dropI oi r) D W μ H) : WS' F r (endsI oi D) W0 μ H := by
  cases r with
  | nx ρ S =>
    intro σ μ' H' u s g
    cases oi with
    | none => exact h σ μ' H' u s g
    | some i => exact h (σ.set i none) μ' H' u s (g.forget (σ' := σ) i)
  | rt d S =>
    intro v μ' H' u s g
    cases oi with
    | none => exact h v μ' H' u s g
    | some i => exact h v μ' H' u s g
  | bk ρ S =>
    intro σ μ' H' u s g
    cases oi with
    | none => exact h σ μ' H' u s g
    | some i => exact h (σ.set i none) μ' H' u s (g.forget (σ' := σ) i)
  | ct ρ S =>
    intro σ μ' H' u s g
    cases oi with
    | none => exact h σ μ' H' u s g
    | some i => exact h (σ.set i none) μ' H' u s (g.forget (σ' := σ) i)
  | exc c fs ρ S => exact h.elim
  | bad => exact h
theorem takes_w0 {X : Cx} : Takes X W0 := fun _ _ ⟨_, _, _, _, _, _, _, _, _, _, _, _, _, _, _, _, w⟩ => w.elim
/-- one reading for all contexts of a family -/
theorem dss_all {ι : Type} {Xf : ι → Cx} {body : List Stmt} {m : MS} {K : Frag} {mg : Str → Option Value} {w : World} {W : WX} (hK : ∀ i, (Xf i).K = K) (hg : ∀ i, ((Xf i).mg, (Xf i).w) = (mg, w)) (h : ∀ i, DSs (Xf i) W body m) :
    ∃ ts : TS, (∀ i, PSs (Xf i) body ts) ∧ ∀ ξ μ σ H ρ S D, RG ⟨K, mg, ξ, w⟩ μ H σ ρ → RS ⟨K, mg, ξ, w⟩ μ H S → WS' ⟨K, mg, ξ, w⟩ (m ρ S) D W μ H → ts D σ H := by
  refine ⟨fun D σ H => ∀ i, ∃ ts, PSs (Xf i) body ts ∧ ts D σ H, fun i => ⟨fun pins s σ H D I hw => ?_⟩, fun ξ μ σ H ρ S D g s hw i => ?_⟩
  · obtain ⟨ts, p, q⟩ := hw i
    exact p.run pins s σ H D I q
  · obtain ⟨ts, p, k⟩ := h i
    refine ⟨ts, p, k ξ μ σ H ρ S D ?_ ?_ ?_⟩
    all_goals (rw [fx_fam hK hg]; assumption)
theorem catch_read {X : Cx} {cs : List Str} {hds : List ExceptHandler} {l : List (Str × Option Nat × MS)} {W : WX} (hh : HdsD X cs hds l) :
    ∃ L : List (Value × Option Nat × TS), HdsV X hds L ∧ ∀ ξ μ σ H ρ S c ns cls dd En, c ∈ cs → RS (fx X ξ) μ H S → RG (fx X ξ) μ H σ ρ → XR (fx X ξ) μ H cls dd c (ns.map fun p => (p.1, D.int p.2)) →
      WS' (fx X ξ) (catchD c (ns.map fun p => (p.1, D.int p.2)) ns l ρ S) En W μ H → wTry X.K W En L cls dd σ H := by
  induction hh with
  | nil =>
    refine ⟨[], .nil, fun ξ μ σ H ρ S c ns cls dd D hc s g x h => ?_⟩
    exact h cls dd σ μ H .refl s g x
  | @one x v ms b₀ suite np pos' hds l hc sub hsu r ih =>
    obtain ⟨L, hL, kL⟩ := ih
    obtain ⟨ts, pts, kts⟩ := dss_all (Xf := fun i : Addr × List (Addr × Obj) => X.suite i.1 i.2) (K := X.K) (mg := X.mg) (W := W0) (fun _ => rfl) (fun _ => rfl) fun i => hsu i.1 i.2 takes_w0
    refine ⟨(v, none, ts) :: L, .one hc (fun a pn => pts (a, pn)) hL, fun ξ μ σ H ρ S c ns cls dd D hm s g x h => ?_⟩
    obtain ⟨Cc, e1, e2⟩ := sub c hm
    obtain rfl : Cc = cls := Option.some.inj (e1.symm.trans x.1)
    refine ⟨_, e2, fun e a na => ?_, fun e => ?_⟩
    · unfold catchD at h
      rw [if_pos e] at h
      have u : Up μ H μ (upd H a (ExV Cc dd a)) := .fresh na
      refine kts ξ μ _ _ _ S _ (g.up u) (s.fresh na) (ws_drop (WS'.shift u h))
    · unfold catchD at h
      rw [if_neg (by rw [e]; exact Bool.false_ne_true)] at h
      exact kL ξ μ σ H ρ S c ns Cc dd D hm s g x h
  | @as x n v i ms b₀ suite np pos' hds l hc sub pl hi hln hsu r ih =>
    obtain ⟨L, hL, kL⟩ := ih
    obtain ⟨ts, pts, kts⟩ := dss_all (Xf := fun i : Addr × List (Addr × Obj) => X.suite i.1 i.2) (K := X.K) (mg := X.mg) (W := W0) (fun _ => rfl) (fun _ => rfl) fun i => hsu i.1 i.2 takes_w0
    refine ⟨(v, some i, ts) :: L, .as hc hi hln (fun a pn => pts (a, pn)) hL, fun ξ μ σ H ρ S c ns cls dd D hm s g x h => ?_⟩
    obtain ⟨Cc, e1, e2⟩ := sub c hm
    obtain rfl : Cc = cls := Option.some.inj (e1.symm.trans x.1)
    refine ⟨_, e2, fun e a na => ?_, fun e => ?_⟩
    · unfold catchD at h
      rw [if_pos e] at h
      have u : Up μ H μ (upd H a (ExV Cc dd a)) := .fresh na
      have rv : RD (fx X ξ) μ (upd H a (ExV Cc dd a)) (.ref a) (.exn c ns) := by
        obtain ⟨cl2, e3, e4⟩ := pl.ex c hm
        obtain rfl : cl2 = Cc := Option.some.inj (e3.symm.trans e1)
        refine .exn ⟨cl2, dd, ⟨e1, e4⟩, ⟨upd_same, s.out na, s.outX na⟩, ?_⟩
        rcases x.2 with ⟨z1, z2⟩ | ⟨d, vfs, z1, z2, z3, z4, z5⟩
        · refine .inl ⟨?_, z2⟩
          cases ns with
          | nil => rfl
          | cons p ns => cases z1
        · refine .inr ⟨d, _, z1, ?_, .inr rfl, z3, z4⟩
          rw [upd_ne (ne_of_none z2 na), z2, fsr_ints z5]
      refine kts ξ μ _ _ _ S _ ((g.up u).set i rv) (s.fresh na) (ws_drop (WS'.shift u h))
    · unfold catchD at h
      rw [if_neg (by rw [e]; exact Bool.false_ne_true)] at h
      exact kL ξ μ σ H ρ S c ns Cc dd D hm s g x h
end
section
variable {X : Cx} {W : WX} {e : Expr} {body : List Stmt} {h₀ : ExceptHandler} {hds : List ExceptHandler} {l : List (Str × Option Nat × MS)} {pos : Pos} {mb : MS} {m : ME}
theorem ds_try {cs : List Str} (hN : X.N.Nodup) (tk : Takes X W) (hb : ∀ (W : WX) (pn : List (Addr × Obj)) (xe : Value → Shared → Prop), Takes (X.tr pn xe) W → DSs (X.tr pn xe) W body mb)
    (hh : HdsD X cs (h₀ :: hds) l) (hs : X.stack = X.env :: X.outer := by rfl) (hf : X.env.frame = some X.env.locals := by rfl) (hx : X.ex = [] := by rfl) : DS X W (.Try body (h₀ :: hds) [] [] pos) (mTry cs l mb) := by
  obtain ⟨L, hL, kL⟩ := catch_read (W := W) hh
  have hbody : ∀ W' : WX, ∃ ts : TS, (∀ i : { p : List (Addr × Obj) × (Value → Shared → Prop) // Takes (X.tr p.1 p.2) W' }, PSs (X.tr i.1.1 i.1.2) body ts) ∧ ∀ ξ μ σ H ρ S D, RG (fx X ξ) μ H σ ρ → RS (fx X ξ) μ H S → WS' (fx X ξ) (mb ρ S) D W' μ H → ts D σ H :=
    fun W' => dss_all (Xf := fun i : { p : List (Addr × Obj) × (Value → Shared → Prop) // Takes (X.tr p.1 p.2) W' } => X.tr i.1.1 i.1.2) (K := X.K) (mg := X.mg) (W := W') (fun _ => rfl) (fun _ => rfl) fun i => hb W' i.1.1 i.1.2 i.2
  refine ⟨_, ps_tryV (tb := fun W' => Classical.choose (hbody W')) (Wout := W) hx hs hf hN tk (fun W' pn xe tk' _ => (Classical.choose_spec (hbody W')).1 ⟨(pn, xe), tk'⟩) hL, fun ξ μ σ H ρ S D g s h => ?_⟩
  refine (Classical.choose_spec (hbody _)).2 ξ μ σ H ρ S D g s ?_
  unfold mTry at h
  cases q : mb ρ S with
  | nx ρ1 S1 => rw [q] at h; exact h
  | rt d S1 => rw [q] at h; exact h
  | bk ρ1 S1 => rw [q] at h; exact h
  | ct ρ1 S1 => rw [q] at h; exact h
  | bad => rw [q] at h; exact h.elim
  | exc c fs ρ1 S1 =>
    rw [q] at h
    simp only at h
    cases e : intFsOf fs with
    | none => rw [e] at h; exact h.elim
    | some ns =>
      rw [e] at h
      simp only at h
      by_cases hc : c ∈ cs
      · rw [if_pos hc] at h
        rw [intFsOf_some e] at h ⊢
        intro cls dd σ1 μ1 H1 u1 s1 g1 x1
        exact kL ξ μ1 σ1 H1 ρ1 S1 c ns cls dd D hc s1 g1 x1 (WS'.shift u1 h)
      · rw [if_neg hc] at h
        exact h.elim
end
end Dm
-- text DmRaise
/-! raise X(e, ..) of a class with its own __init__; e.f; isinstance(e, X) -/
namespace Dm
open PySem L2 PySem.Spec PyProof.Rows
open PySem.W (Frag)
/-! ### H.__init__(self, ..), H a class of the program over ValueError -/
structure HiOk (K : Frag) (mg : Str → Option Value) (h : Str) : Prop where
  ex : ∃ (D : Addr) (mc : Value), mg h = some (.ref D) ∧ PySem.W.readsIn K D mc = true ∧ PySem.W.specialIn K (.ref D) "__getattribute__" = some (some (.builtin "type.__getattribute__")) ∧ PySem.W.findCls K (.ref D) mc "__init__" = some (.val (.builtin "ValueError.__init__"))
section
variable {X : Cx} {e : Expr} {es : List Expr} {ta : TA} {f h : Str} {p p' p1 p2 pos : Pos}
theorem pe_hinit {pl : Sem Bool} (hg : Gl X h) (T : HiOk X.K X.mg h) (ha : PA X (e :: es) ta) (hdb : (h == ("__debug__" : Str)) = false := by decide)
    (hc : eval (.Call (.Attribute (.Name h p1) "__init__" p2) (e :: es) [] pos) X.env = (do
      let ov ← eval (.Name h p1) X.env
      standAt p2.atName
      let (f, first) ← holding [ov] (getMethod ov "__init__" pl)
      callWith pos f first (backTo pos (starEach (e :: es) X.env)) (backToKw pos (keywordEach [] X.env))) := by rfl)
    (he : starEach (e :: es) X.env = (false, eval e X.env) :: starEach es X.env := by rfl) (hpl : (backTo pos (starEach es X.env)).any (·.1) = false := by rfl) :
    PE X (.Call (.Attribute (.Name h p1) "__init__" p2) (e :: es) [] pos) (tVeI X.K ta) := by
  obtain ⟨D, mc, hm, hr, hga, hv⟩ := T
  refine ⟨fun pins s σ H Q I h => ?_⟩
  refine PySem.W.methodCall_KW (ld_glob I hg hm ?_ hdb) hc
  refine PySem.W.method_cls I.kIn hga (PySem.W.cls_value I.kIn hr hv (by decide +kernel) ?_)
  show wpAny _ _ (callWith pos (Value.builtin "ValueError.__init__") [] (backTo pos (starEach (e :: es) X.env)) []) _ _ _
  refine PyProof.Rows.callWith_method1 (thn (ha.run pos pins _ σ H _ (I.tok _) h) fun us s1 ⟨vs, H1, I1, r1, a, C, ws, ev, hl, T, ea, q⟩ => ?_) he hpl
  subst ev
  cases r1 with
  | @cons _ u0 _ ur ra rw' =>
    obtain rfl : u0 = Value.ref a := ra
    have hlen : ur.length ≤ sizeLine := by
      rw [← Paired.length rw', sizeLine_eq]
      omega
    exact oinit_ok T I1 ea hlen fun s' J => ⟨.non, H1, J, rfl, q⟩
end
/-! ### the class's own __init__ -/
def spInit (K : Frag) (C : Addr) (ns : List Str) : Sp := fun vs H Q E => ∃ a ys, vs = .ref a :: ys ∧ ys.length = ns.length ∧ H a = some (exo a C none) ∧
  ∀ H' d, H d = none → d ≠ a → H' a = some (exo a C (some d)) → H' d = some (exd d (ns.zip ys).reverse) → (∀ b, b ≠ a → b ≠ d → H' b = H b) → Q .non H'
def tInit1 (K : Frag) (f msg : Str) : TS := tSeq (tDrop (tVeI K (tCons (tVar 0) (tCons (tC (.str msg)) tNil)))) (tOst K f (tVar 0) (tVar 1))
structure XiOk (P : Program) (w : World) (K : Frag) (mg : Str → Option Value) (base : Heap) (k : Nat) (x : Str) (ns : List Str) : Prop where
  ex : ∃ (C fI : Addr) (fd : FuncData) (ps : List Str), mg x = some (.ref C) ∧ OexC K C ∧ PySem.W.findIn K (.ref C) "__init__" = some (some (.ref fI)) ∧ PySem.W.typeIn K (.ref fI) = some (.type "function") ∧ Binds K fd ps [] ∧
    FnOk P w K mg base (L2.CX P w) k fI fd ps (spInit K C ns)
section
variable {P : Program} {w : World} {K : Frag} {mg : Str → Option Value} {base : Heap} {C fI : Addr} {fd : FuncData} {x f g msg qual : Str} {st : Stmt}
theorem xi_mk1 (hm : mg x = some (.ref C)) (T : OexC K C) (iC : PySem.W.findIn K (.ref C) "__init__" = some (some (.ref fI))) (tI : PySem.W.typeIn K (.ref fI) = some (.type "function")) (F : Fun K "__init__" qual st fI fd) (B : Binds K fd ["self", f] [])
    (S : FnScope ["self", f] ["self", f] (defScope st)) (hno : PySem.W.findIn K (.ref C) f = some none)
    (hb : ∀ (cdv : Value) (A : Around) (outer : List Env) (s : Shared) (H : Hp) (E : XK), PSs (cxOf (L2.CX P w) P w K mg base ["self", f] qual (defScope st) fI cdv A outer s H E) (defBody st) (tInit1 K f msg)) : XiOk P w K mg base 1 x [f] := by
  refine ⟨C, fI, fd, _, hm, T, iC, tI, B, F.okX S (fun vs H Q E h => ?_) (fun cdv A outer s H vs Q E hr h => ?_)⟩
  · obtain ⟨a, ys, rfl, hl, _⟩ := h
    simp at hl
    simp [hl]
  · obtain ⟨a, ys, rfl, hl, ha, hq⟩ := h
    match ys, hl with
    | [y], _ =>
      refine ⟨_, hb cdv A outer s H E, ?_⟩
      refine ⟨.ref a, rfl, ?_⟩
      refine ⟨a, C, [.str msg], rfl, (by simp), T, ha, ?_⟩
      refine ⟨y, rfl, .ref a, rfl, a, C, rfl, T, hno, .inl ⟨ha, fun dx n ne => ?_⟩⟩
      refine hq _ dx n ne upd_same ?_ fun b h1 h2 => ?_
      · rw [upd_ne ne, upd_same]; rfl
      · rw [upd_ne h1, upd_ne h2]
end
def mRaiseX (c : Str) (ns : List Str) (ma : MA) : MS := fun ρ S => ofRes (ma ρ S) ρ fun ds S1 => if ds.length = ns.length then .exc c (ns.zip ds).reverse ρ S1 else .bad
theorem paired_zip {α β γ : Type} {R : α → β → Prop} : ∀ {ns : List γ} {xs : List α} {ys : List β}, Paired R xs ys → Paired (fun p q => p.1 = q.1 ∧ R p.2 q.2) (ns.zip xs) (ns.zip ys)
  | [], _, _, _ => by simp; exact .nil
  | _ :: _, [], _, h => by cases h; simp; exact .nil
  | n :: ns, x :: xs, _, h => by
    cases h with
    | cons a b =>
      simp only [List.zip_cons_cons]
      exact .cons ⟨rfl, a⟩ (paired_zip b)
theorem paired_append {α β : Type} {R : α → β → Prop} : ∀ {xs xs' : List α} {ys ys' : List β}, Paired R xs ys → Paired R xs' ys' → Paired R (xs ++ xs') (ys ++ ys')
  | [], _, _, _, h, k => by cases h; exact k
  | _ :: _, _, _, _, h, k => by
    cases h with
    | cons a b => exact .cons a (paired_append b k)
theorem paired_reverse {α β : Type} {R : α → β → Prop} : ∀ {xs : List α} {ys : List β}, Paired R xs ys → Paired R xs.reverse ys.reverse
  | [], _, h => by cases h; exact .nil
  | _ :: _, _, h => by
    cases h with
    | cons a b =>
      rw [List.reverse_cons, List.reverse_cons]
      exact paired_append (paired_reverse b) (.cons a .nil)
theorem rds_pairX {F : Fx} {μ : List Addr} {H : Hp} : ∀ {vs : List V} {ds : List D}, RDs F μ H vs ds → Paired (fun v d => RD F μ H v d) vs ds
  | _, [], h => by cases h; exact .nil
  | _, d :: ds, h => by
    cases h with
    | cons a b => exact .cons a (rds_pairX b)
section
variable {X : Cx} {W : WX} {e : Expr} {es : List Expr} {mr : MA} {m : ME} {p p1 p2 pos pos2 : Pos}
theorem ds_raiseX {j k : Nat} {x : Str} {ns : List Str} (C : XiOk X.prog X.w X.K X.mg X.base j x ns) (hc : X.calm = true) (hr : Room k X.A) (tk : Takes X W) (ha : DA X W (e :: es) mr) (hj : j + 1 ≤ k := by decide) (hn : ns.length ≤ 1000 := by decide) (hg : Gl X x := by rfl) (hdb : (x == ("__debug__" : Str)) = false := by decide)
    (he : starEach (e :: es) X.env = (false, eval e X.env) :: starEach es X.env := by rfl) (hpl : (backTo pos (starEach es X.env)).any (·.1) = false := by rfl) :
    DS X W (.Raise (some (.Call (.Name x p) (e :: es) [] pos)) none pos2) (mRaiseX x ns mr) := by
  obtain ⟨C, fI, fd, ps, hm, T, iC, tI, B, F⟩ := C
  obtain ⟨ta, pa, ka⟩ := ha
  refine ⟨_, ps_raise hc tk (pmk_oex (dvs := []) T iC tI F (hr.mono hj) B .nil (fun _ _ _ _ _ _ _ h => (let ⟨_, _, _, _, _, _, _, _, _, _, _, _, z⟩ := h; z.elim)) hg hm pa hdb he hpl), fun ξ μ σ H ρ S D g s h => ka ξ μ σ H ρ S _ g s (WS'.bind g h fun ds S1 vs μ1 H1 u1 s1 r1 h1 => ?_)⟩
  by_cases c : ds.length = ns.length
  · rw [if_pos c] at h1
    have hl := r1.length
    rw [List.append_nil]
    refine ⟨by rw [hl, c]; exact hn, fun a na => ⟨a, vs, rfl, by rw [hl, c], upd_same, fun H' d hd da e1 e2 e3 => ⟨rfl, d, _, e1, e2, ?_, ?_⟩⟩⟩
    · rw [upd_ne da] at hd; exact hd
    · rw [upd_ne da] at hd
      have eq : upd (L2.del H' a) d (.xd (ns.zip vs).reverse) = upd H1 d (.xd (ns.zip vs).reverse) := by
        funext b
        by_cases hb : b = d
        · rw [hb, upd_same, upd_same]
        · rw [upd_ne hb, upd_ne hb]
          by_cases ha : b = a
          · rw [ha, del_same, na]
          · rw [del_ne ha, e3 b ha hb, upd_ne ha]
      rw [eq]
      exact h1 _ _ σ μ1 _ (.fresh hd) (s1.fresh hd) ((g.up u1).up (.fresh hd)) ⟨hm, .inr ⟨d, _, rfl, upd_same, s1.out hd, s1.outX hd, paired_reverse (paired_zip (rds_pairX (r1.up (Up.fresh hd))))⟩⟩
  · rw [if_neg c] at h1; exact h1.elim
/-! ### e.f -/
def gXf (c f : Str) (_ : Sto) : D → Option D
  | .exn c' fs => if c' = c then (fs.lookup f).map D.int else none
  | _ => none
def tXfV (C : Addr) (f : Str) (te : TE) : TE := fun σ H Q => te σ H fun x H1 => ∃ (a dd : Addr) (fs : List (Str × V)) (v : V), x = .ref a ∧ H1 a = some (ExV (.ref C) (some dd) a) ∧ H1 dd = some (.xd fs) ∧ fs.lookup f = some v ∧ Q v H1
theorem pe_xfV {C : Addr} {te : TE} {n : Str} (T : XfC X.K C) (hno : PySem.W.findIn X.K (.ref C) n = some none) (he : PE X e te) (hb : attributeBase e n X.env (eval e X.env) = eval e X.env := by rfl) :
    PE X (.Attribute e n pos) (tXfV C n te) := by
  refine ⟨fun pins s σ H Q I h => ?_⟩
  refine attr_of hb (thn (he.run pins s σ H _ I h) fun u s1 hh => ?_)
  obtain ⟨x, H1, I1, rx, a, dd, fs, v, ex, ea, ed, l, q⟩ := hh
  subst ex
  obtain rfl : u = Value.ref a := rx
  have xa : ObjOk X.prog X.w H1 s1.heap a (.ext fun h => ∃ (oe : Obj) (vs : Array Value), h.get? a = some oe ∧ Zc (.ref C) (some dd) oe ∧ oe.data = .fields vs) := I1.hok a _ ea
  obtain ⟨oe, vs, ha, hz, hd⟩ := xa.1
  have hx : ObjOk X.prog X.w H1 s1.heap dd (.xd fs) := I1.hok dd _ ed
  obtain ⟨mA, hns, hr⟩ := hx
  obtain ⟨od, ho, hl⟩ := lookIn_ns hns
  obtain ⟨u, hu, ru⟩ := RelO.some_of (v := v) (o := mA n) (by rw [← l]; exact hr n)
  have J : PySem.W.InstAt s1.heap a oe C (some od) := ⟨ha, hz.1, by unfold PySem.W.notCls; rw [hd] <;> rfl, by rw [hz.2]; exact ho⟩
  exact HandSPX.exc_get I1.kIn J T.ga T.gg T.exC (PySem.W.findObj_own T.hdC hno rfl (by rw [hl, hu])) (handed_of ru) ⟨v, H1, I1.tok _, ru, q⟩
structure XfOk (K : Frag) (mg : Str → Option Value) (c f : Str) : Prop where
  ex : ∃ C : Addr, mg c = some (.ref C) ∧ XfC K C ∧ PySem.W.findIn K (.ref C) f = some none
theorem lookup_ints {f : Str} {i : Int} : ∀ {fs : List (Str × Int)}, fs.lookup f = some i → (intFs fs).lookup f = some (.int i)
  | [], h => by simp at h
  | (g, j) :: fs, h => by
    show List.lookup f ((g, V.int j) :: intFs fs) = _
    rw [List.lookup_cons] at h ⊢
    by_cases e : (f == g) = true
    · rw [e] at h ⊢
      simp at h ⊢
      exact h
    · have e' : (f == g) = false := by simpa using e
      rw [e'] at h ⊢
      exact lookup_ints h
theorem d_xf {c n : Str} (T : XfOk X.K X.mg c n) (ha : DE X W e m) (hb : attributeBase e n X.env (eval e X.env) = eval e X.env := by rfl) : DE X W (.Attribute e n pos) (mUn (gXf c n) m) := by
  obtain ⟨C, h1, h2, h3⟩ := T
  obtain ⟨ta, pa, ka⟩ := ha
  refine ⟨_, pe_xfV h2 h3 pa hb, fun ξ μ σ H ρ S Q g s h => ka ξ μ σ H ρ S _ g s (WR.bind h fun x S1 v μ1 H1 u1 s1 r1 w1 => ?_)⟩
  cases r1 with
  | @exn a c' ns z =>
    simp only [gXf] at w1
    by_cases e : c' = c
    · subst e
      rw [if_pos rfl] at w1
      cases q : ns.lookup n with
      | none => rw [q] at w1; exact w1.elim
      | some i =>
        rw [q] at w1
        obtain ⟨cls, dd, ⟨e1, _⟩, ⟨e2, e3, e4⟩, e5⟩ := z
        have ec : cls = .ref C := Option.some.inj (e1.symm.trans h1)
        subst ec
        rcases e5 with ⟨z1, _⟩ | ⟨d, fs, z1, z2, hf, z3, z4⟩
        · subst z1
          simp at q
        · subst z1
          obtain rfl : fs = intFs ns := hf.resolve_left fun e => by subst e; simp at q
          exact ⟨a, d, _, _, rfl, e2, z2, lookup_ints q, w1 _ μ1 H1 .refl s1 (.int i)⟩
    · rw [if_neg e] at w1; exact w1.elim
  | _ => exact w1.elim
end
/-! ### isinstance(e, X) -/
def gIsX (cs : List Str) (x : Str) (_ : Sto) : D → Option D
  | .exn c _ => if c ∈ cs then some (.bl (xSub c x)) else none
  | _ => none
/-- the class x, the classes cs under which the exception may be -/
structure IsOk (K : Frag) (mg : Str → Option Value) (cs : List Str) (x : Str) : Prop where
  ex : ∃ cv : Value, (mg x = some cv ∧ ∃ C : Addr, cv = .ref C) ∧ ∀ c, c ∈ cs → ∃ D : Addr, mg c = some (.ref D) ∧ ExcC K D ∧ PySem.W.kitOne K (.ref D) cv = some (xSub c x)
section
variable {X : Cx} {W : WX} {e : Expr} {m : ME} {p p1 pos : Pos}
theorem d_isx {cs : List Str} {x : Str} (h : DE X W e m) (T : IsOk X.K X.mg cs x) (hm : X.mg "isinstance" = none) (hg : Gl X "isinstance" := by rfl) (hgx : Gl X x := by rfl) (hd : (x == ("__debug__" : Str)) = false := by decide)
    (he : starEach [e, .Name x p1] X.env = (false, eval e X.env) :: starEach [.Name x p1] X.env := by rfl) (hpl : (backTo pos (starEach [.Name x p1] X.env)).any (·.1) = false := by rfl)
    (hs2 : starEach [.Name x p1] X.env = (false, eval (.Name x p1) X.env) :: starEach [] X.env := by rfl) :
    DE X W (.Call (.Name "isinstance" p) [e, .Name x p1] [] pos) (mUn (gIsX cs x) m) := by
  obtain ⟨te, pe, k⟩ := h
  obtain ⟨cv, ⟨h1, C, rfl⟩, h2⟩ := T
  refine ⟨_, pe_callB call_isV hg hm (by decide +kernel) (pa_cons pe (pa_cons (pe_glob (v := .ref C) hgx h1 rfl hd) pa_nil hs2) he) (he := he) (hpl := hpl), fun ξ μ σ H ρ S Q g s h => k ξ μ σ H ρ S _ g s (WR.bind h fun x' S1 v μ1 H1 u1 s1 r1 w1 => ?_)⟩
  cases r1 with
  | @exn a c ns z =>
    simp only [gIsX] at w1
    by_cases hc : c ∈ cs
    · rw [if_pos hc] at w1
      obtain ⟨D, e1, e2, e3⟩ := h2 c hc
      obtain ⟨cls, dd, ⟨z1, _⟩, ⟨z2, z3, z4⟩, z5⟩ := z
      have ec : cls = .ref D := Option.some.inj (z1.symm.trans e1)
      subst ec
      refine ⟨a, D, dd, .ref C, .ref C, _, rfl, z2, e2, ?_, fun u hu => hu, e3, w1 _ μ1 H1 .refl s1 (.bl _)⟩
      rcases z5 with ⟨_, rfl⟩ | ⟨d, fs, q1, q2, _⟩
      · exact .inl rfl
      · exact .inr ⟨d, _, q1, q2⟩
    · rw [if_neg hc] at w1; exact w1.elim
  | _ => exact w1.elim
end
/-! ### X(e, ..) as a value -/
def newFs (ns : List Str) (ds : List D) : List (Str × Int) := (intFsOf (ns.zip ds).reverse).getD []
def mNewX (c : Str) (ns : List Str) (ma : MA) : ME := fun ρ S => (ma ρ S).bind fun ds S1 => if ds.length = ns.length then .ok (.exn c (newFs ns ds)) S1 else .bad
def mNew0 (c : Str) : ME := fun _ S => .ok (.exn c []) S
section
variable {S : Sto} {ρ : Rho} {E : EX} {Q : D → Sto → Prop}
@[simp] theorem does_new0 {c : Str} : (mNew0 c ρ S).DoesE E Q = Q (.exn c []) S := rfl
@[simp] theorem does_newX {c : Str} {ns : List Str} {ma : MA} : (mNewX c ns ma ρ S).DoesE E Q = (ma ρ S).DoesE E fun ds S1 => ds.length = ns.length ∧ Q (.exn c (newFs ns ds)) S1 := by
  unfold mNewX
  rw [does_bind]; congr 1; funext ds S1
  by_cases h : ds.length = ns.length
  · rw [if_pos h]; simp [h]
  · rw [if_neg h]; simp [h, Res.DoesE]
end
end Dm
-- text Hw8
namespace Dm
open PySem L2
end Dm
-- text Hw9
namespace Dm
open PySem L2
end Dm
-- text DmLc2
namespace Dm
open PySem L2
open PySem.W (Frag)
/-! ### comprehensions of two generators -/
def lcL2 (f : D → Rho → Option Rho) (mt : ME) (mi1 : ME) (f1 : D → Rho → Option Rho) (mt1 me : ME) (vs1 : List Nat) (ρ : Rho) : List D → Sto → Option (List D × Sto)
  | [], S => some ([], S)
  | d :: r, S => match f d ρ with
    | none => none
    | some ρ1 => match mt ρ1 S with
      | .ok (.bl true) S1 => match iAny mi1 ρ1 S1 with
        | .ok p1 S2 => match lcA p1.1 f1 mt1 me (wipeD ρ1 vs1) (p1.2 + 1) 0 S2 with
          | some (ys, S3) => match lcL2 f mt mi1 f1 mt1 me vs1 ρ r S3 with
            | some (zs, S4) => some (ys ++ zs, S4)
            | none => none
          | none => none
        | _ => none
      | .ok (.bl false) S1 => lcL2 f mt mi1 f1 mt1 me vs1 ρ r S1
      | _ => none
def mLc2 (mi : MA) (f : D → Rho → Option Rho) (mt : ME) (mi1 : ME) (f1 : D → Rho → Option Rho) (mt1 me : ME) (vs vs1 : List Nat) : MA := fun ρ S => (mi ρ S).bind fun ds S1 => match lcL2 f mt mi1 f1 mt1 me vs1 (wipeD ρ vs) ds S1 with
  | some (ys, S2) => if ys.length ≤ 16777216 then .ok ys S2 else .bad
  | none => .bad
def lcA2 (d : D) (f : D → Rho → Option Rho) (mt : ME) (mi1 : ME) (f1 : D → Rho → Option Rho) (mt1 me : ME) (vs1 : List Nat) (ρ : Rho) : Nat → Nat → Sto → Option (List D × Sto)
  | 0, _, _ => none
  | k + 1, i, S => match seqOf S d with
    | none => none
    | some ds => match ds[i]? with
      | none => if i = ds.length then some ([], S) else none
      | some x => match f x ρ with
        | none => none
        | some ρ1 => match mt ρ1 S with
          | .ok (.bl true) S1 => match iAny mi1 ρ1 S1 with
            | .ok p1 S2 => match lcA p1.1 f1 mt1 me (wipeD ρ1 vs1) (p1.2 + 1) 0 S2 with
              | some (ys, S3) => match lcA2 d f mt mi1 f1 mt1 me vs1 ρ k (i + 1) S3 with
                | some (zs, S4) => some (ys ++ zs, S4)
                | none => none
              | none => none
            | _ => none
          | .ok (.bl false) S1 => lcA2 d f mt mi1 f1 mt1 me vs1 ρ k (i + 1) S1
          | _ => none
def mLcA2 (m : ME) (f : D → Rho → Option Rho) (mt : ME) (mi1 : ME) (f1 : D → Rho → Option Rho) (mt1 me : ME) (vs vs1 : List Nat) : MA := fun ρ S => (iAny m ρ S).bind fun p S1 => match lcA2 p.1 f mt mi1 f1 mt1 me vs1 (wipeD ρ vs) (p.2 + 1) 0 S1 with
  | some (ys, S2) => if ys.length ≤ 16777216 then .ok ys S2 else .bad
  | none => .bad
theorem Mv.comp {F : Fx} {μ μ1 μ2 : List Addr} {H H1 H2 : Hp} (a : Mv F μ H F μ1 H1) (b : Mv F μ1 H1 F μ2 H2) : Mv F μ H F μ2 H2 := ⟨fun h => b.t (a.t h), fun h => b.l (a.l h), fun h => b.c (a.c h), rfl, fun h => b.x (a.x h)⟩
/-! ### what they do -/
section
variable {S : Sto} {ρ : Rho} {f f1 : D → Rho → Option Rho} {mt mt1 me : ME} {mi : MA} {mi1 : ME} {E : EX}
def LcQ2 (f : D → Rho → Option Rho) (mt : ME) (mi1 : ME) (f1 : D → Rho → Option Rho) (mt1 me : ME) (vs1 : List Nat) (ρ : Rho) (ds : List D) (S : Sto) (Q : List D → Sto → Prop) : Prop := ∃ ys S2, lcL2 f mt mi1 f1 mt1 me vs1 ρ ds S = some (ys, S2) ∧ Q ys S2
@[simp] theorem does_lc2 {vs vs1 : List Nat} {Q : List D → Sto → Prop} : (mLc2 mi f mt mi1 f1 mt1 me vs vs1 ρ S).DoesE E Q = (mi ρ S).DoesE E fun ds S1 => LcQ2 f mt mi1 f1 mt1 me vs1 (wipeD ρ vs) ds S1 fun ys S2 => ys.length ≤ 16777216 ∧ Q ys S2 := by
  unfold mLc2
  rw [does_bind]
  congr 1
  funext ds S1
  unfold LcQ2
  cases e : lcL2 f mt mi1 f1 mt1 me vs1 (wipeD ρ vs) ds S1 with
  | none => refine propext ⟨fun h => h.elim, fun ⟨_, _, h, _⟩ => nomatch h⟩
  | some r =>
    obtain ⟨ys, S2⟩ := r
    refine propext ⟨fun q => ?_, ?_⟩
    · simp only at q
      by_cases c : ys.length ≤ 16777216
      · rw [if_pos c] at q
        exact ⟨ys, S2, rfl, c, q⟩
      · rw [if_neg c] at q
        exact q.elim
    · rintro ⟨ys', S2', e', c, q⟩
      cases e'
      simp only
      rw [if_pos c]
      exact q
def LcAQ2 (d : D) (f : D → Rho → Option Rho) (mt : ME) (mi1 : ME) (f1 : D → Rho → Option Rho) (mt1 me : ME) (vs1 : List Nat) (ρ : Rho) (n : Nat) (S : Sto) (Q : List D → Sto → Prop) : Prop := ∃ ys S2, lcA2 d f mt mi1 f1 mt1 me vs1 ρ (n + 1) 0 S = some (ys, S2) ∧ Q ys S2
@[simp] theorem does_lcA2 {m : ME} {vs vs1 : List Nat} {Q : List D → Sto → Prop} : (mLcA2 m f mt mi1 f1 mt1 me vs vs1 ρ S).DoesE E Q = (m ρ S).DoesE E fun d S1 => match seqOf S1 d with
    | some ds => LcAQ2 d f mt mi1 f1 mt1 me vs1 (wipeD ρ vs) ds.length S1 fun ys S2 => ys.length ≤ 16777216 ∧ Q ys S2
    | none => False := by
  unfold mLcA2 iAny
  rw [does_bind, does_bind]
  congr 1
  funext d S1
  cases seqOf S1 d with
  | none => rfl
  | some ds =>
    simp only [does_ok]
    unfold LcAQ2
    cases e : lcA2 d f mt mi1 f1 mt1 me vs1 (wipeD ρ vs) (ds.length + 1) 0 S1 with
    | none => refine propext ⟨fun h => h.elim, fun ⟨_, _, h, _⟩ => nomatch h⟩
    | some r =>
      obtain ⟨ys, S2⟩ := r
      refine propext ⟨fun q => ?_, ?_⟩
      · simp only at q
        by_cases c : ys.length ≤ 16777216
        · rw [if_pos c] at q
          exact ⟨ys, S2, rfl, c, q⟩
        · rw [if_neg c] at q
          exact q.elim
      · rintro ⟨ys', S2', e', c, q⟩
        cases e'
        simp only
        rw [if_pos c]
        exact q
end
end Dm
-- text Hw10
namespace Dm
open PySem L2
end Dm
-- text DmPop
namespace Dm
open PySem L2
open PySem.W (Frag)
/-! ### xs.pop(), xs.reverse() as statements -/
section
variable {X : Cx} {W : WX}
def mPopS (o : ME) : MS := fun ρ S => ofRes (o ρ S) ρ fun x S1 => match x with
  | .cell n => match S1[n]? with
    | some (.lst ds) => if ds = [] then .bad else .nx ρ (S1.set n (.lst ds.dropLast))
    | _ => .bad
  | _ => .bad
def mRevS (o : ME) : MS := fun ρ S => ofRes (o ρ S) ρ fun x S1 => match x with
  | .cell n => match S1[n]? with
    | some (.lst ds) => .nx ρ (S1.set n (.lst ds.reverse))
    | _ => .bad
  | _ => .bad
end
section
variable {S : Sto} {ρ : Rho} {N B C : Rho → Sto → Prop} {R : D → Sto → Prop} {EO : EXO}
@[simp] theorem does_popS {o : ME} : (mPopS o ρ S).DoesE EO N R B C = (o ρ S).DoesE (eAt EO ρ) fun x S1 => match x with
    | .cell n => ∃ xs, S1[n]? = some (.lst xs) ∧ xs ≠ [] ∧ N ρ (S1.set n (.lst xs.dropLast))
    | _ => False := by
  unfold mPopS
  rw [does_ofRes]; congr 1; funext x S1
  cases x with
  | cell n =>
    simp only
    cases q : S1[n]? with
    | none => exact propext ⟨fun h => h.elim, fun ⟨_, h, _⟩ => nomatch h⟩
    | some c =>
      cases c with
      | lst ds =>
        by_cases hd : ds = []
        · simp only [if_pos hd]
          refine propext ⟨fun h => h.elim, fun ⟨xs, h, h2, _⟩ => ?_⟩
          cases h
          exact absurd hd h2
        · simp only [if_neg hd]
          refine propext ⟨fun h => ⟨ds, rfl, hd, h⟩, fun ⟨xs, h, _, h3⟩ => ?_⟩
          cases h
          exact h3
      | _ => exact propext ⟨fun h => h.elim, fun ⟨_, h, _⟩ => nomatch h⟩
  | _ => rfl
@[simp] theorem does_revS {o : ME} : (mRevS o ρ S).DoesE EO N R B C = (o ρ S).DoesE (eAt EO ρ) fun x S1 => match x with
    | .cell n => ∃ xs, S1[n]? = some (.lst xs) ∧ N ρ (S1.set n (.lst xs.reverse))
    | _ => False := by
  unfold mRevS
  rw [does_ofRes]; congr 1; funext x S1
  cases x with
  | cell n =>
    simp only
    cases q : S1[n]? with
    | none => exact propext ⟨fun h => h.elim, fun ⟨_, h, _⟩ => nomatch h⟩
    | some c =>
      cases c with
      | lst ds =>
        refine propext ⟨fun h => ⟨ds, rfl, h⟩, fun ⟨xs, h, h3⟩ => ?_⟩
        cases h
        exact h3
      | _ => exact propext ⟨fun h => h.elim, fun ⟨_, h, _⟩ => nomatch h⟩
  | _ => rfl
end
end Dm
-- text Hw11
namespace Dm
open PySem L2
end Dm
-- text DmCatW
namespace Dm
open PySem L2 PySem.Spec PyProof.Rows
open PySem.W (Frag)
section
variable {X : Cx} {W : WX} {tg a b : Expr} {ma mb : ME} {pos : Pos} {E : EX}
/-- two lists that stand, one behind the other -/
def mCatW (a b : ME) : MA := fun ρ S => (a ρ S).bind fun x S1 => (b ρ S1).bind fun y S2 => match lstOf S2 x, lstOf S2 y with
  | some xs, some ys => if xs.length + ys.length ≤ 16777216 then .ok (xs ++ ys) S2 else .bad
  | _, _ => .bad
theorem dl_catW (ha : DE X W a ma) (hb : DE X W b mb) : DL X W (.BinOp a .Add b pos) (mCatW ma mb) := by
  obtain ⟨ta, pa, ka⟩ := ha
  obtain ⟨tb, pb, kb⟩ := hb
  refine ⟨_, pe_op op_catB pa pb, fun ξ μ σ H ρ S Q g s h => ka ξ μ σ H ρ S _ g s (WL'.bind h fun x S1 v μ1 H1 u1 s1 r1 h1 => ?_)⟩
  refine kb ξ μ1 σ H1 ρ S1 _ (g.up u1) s1 (WL'.bind h1 fun y S2 w μ2 H2 u2 s2 r2 h2 => ?_)
  have r1 := r1.up u2
  cases c : lstOf S2 x with
  | none => simp only [c] at h2; exact h2.elim
  | some ds =>
    cases c' : lstOf S2 y with
    | none => simp only [c, c'] at h2; exact h2.elim
    | some es =>
      simp only [c, c'] at h2
      obtain ⟨l, xs, rfl, h4, r3⟩ := RD.lstS s2 r1 c
      obtain ⟨l', ys, rfl, h4', r3'⟩ := RD.lstS s2 r2 c'
      by_cases l : ds.length + es.length ≤ 16777216
      · rw [if_pos l] at h2
        refine ⟨_, _, xs, ys, rfl, rfl, h4, h4', by rw [r3.length, r3'.length, sizeLine_eq]; exact l, fun r hr => ?_⟩
        exact h2 r _ μ2 _ (.fresh hr) hr (s2.holds hr) ((RDs.append r3 r3').mv (.holds hr)) upd_same
      · rw [if_neg l] at h2
        exact h2.elim
variable {ρ : Rho} {S : Sto}
@[simp] theorem does_catW {a b : ME} {Q : List D → Sto → Prop} : (mCatW a b ρ S).DoesE E Q = (a ρ S).DoesE E fun x S1 => (b ρ S1).DoesE E fun y S2 => match lstOf S2 x, lstOf S2 y with
    | some xs, some ys => xs.length + ys.length ≤ 16777216 ∧ Q (xs ++ ys) S2
    | _, _ => False := by
  unfold mCatW
  rw [does_bind]; congr 1; funext x S1
  rw [does_bind]; congr 1; funext y S2
  cases e : lstOf S2 x with
  | none => simp [Res.DoesE]
  | some xs =>
    cases e' : lstOf S2 y with
    | none => simp [Res.DoesE]
    | some ys =>
      simp only
      by_cases h : xs.length + ys.length ≤ 16777216
      · rw [if_pos h]; simp [h]
      · rw [if_neg h]; simp [h, Res.DoesE]
end
end Dm
-- text Hw12
namespace Dm
open PySem L2
end Dm
-- text DmTupMul
namespace Dm
open PySem L2 PySem.Spec PyProof.Rows
open PySem.W (Frag)
/-! ### a tuple some times -/
def gMulT : Sto → D → D → Option D := fun _ x y => match x, y with
  | .tup ds, .int k => if ds.length ≠ 0 ∧ 2 ≤ k ∧ k ≤ 1000 ∧ ds.length ≤ 1000 then some (.tup (List.replicate k.toNat ds).flatten) else none
  | _, _ => none
@[simp] theorem gMulT_tup {S : Sto} {ds : List D} {k : Int} : gMulT S (.tup ds) (.int k) = if ds.length ≠ 0 ∧ 2 ≤ k ∧ k ≤ 1000 ∧ ds.length ≤ 1000 then some (.tup (List.replicate k.toNat ds).flatten) else none := rfl
end Dm
-- text Hw13
namespace Dm
open PySem L2
end Dm
-- text DmGet
namespace Dm
open PySem L2 PySem.Spec PyProof.Rows
open PySem.W (Frag)
section
variable {X : Cx} {W : WX} {a o e f : Expr} {mo me mf ma : ME} {apos cpos pos p2 : Pos}
/-! ### d.get(k, x) -/
def mGet2 (mo mk mx : ME) : ME := fun ρ S => (mo ρ S).bind fun d S1 => match dicOf S1 d with
  | none => .bad
  | some _ => (mk ρ S1).bind fun y S2 => (mx ρ S2).bind fun z S3 => match dicOf S3 d, keyD y with
    | some kvs, some k => .ok ((valD kvs k).getD z) S3
    | _, _ => .bad
theorem d_get (hu : X.A.units + 64 < cLine) (ho : DE X W o mo) (he : DE X W e me) (hf : DE X W f mf) (h1 : attributeBase o "get" X.env (eval o X.env) = eval o X.env := by rfl)
    (h2 : ((backTo cpos (starEach [e, f] X.env)).all (fun x => !x.1) && (backToKw cpos (keywordEach [] X.env)).all (fun x => x.1.isSome) && decide (([e, f] : List Expr).length + ([] : List Keyword).length + (if ([] : List Keyword).isEmpty then 0 else 1) < 30)) = true := by rfl)
    (h3 : (apos.endLine == cpos.line) = true := by rfl) (h4 : backTo cpos (starEach [e, f] X.env) = [(false, eval e X.env), (false, eval f X.env)] := by rfl) :
    DE X W (.Call (.Attribute o "get" apos) [e, f] [] cpos) (mGet2 mo me mf) := by
  obtain ⟨to, po, ko⟩ := ho
  obtain ⟨te, pe, ke⟩ := he
  obtain ⟨tf, pf, kf⟩ := hf
  refine ⟨_, pe_dget2 (by omega) po pe pf ⟨h1, h2, h3, h4⟩, fun ξ μ σ H ρ S Q g s h => ko ξ μ σ H ρ S _ g s (WR.bind h fun x S1 v μ1 H1 u1 s1 r1 w1 => ?_)⟩
  cases q0 : dicOf S1 x with
  | none => rw [q0] at w1; exact w1.elim
  | some kvs0 =>
    rw [q0] at w1
    obtain ⟨n0, a0, vk0, rfl, rfl, ea0, es0, e30, e40⟩ := dic_at s1 r1 q0
    refine ⟨a0, rfl, .inl ⟨_, .inl e30⟩, ?_⟩
    refine ke ξ μ1 σ H1 ρ S1 _ (g.up u1) s1 (WR.bind w1 fun y S2 w μ2 H2 u2 s2 r2 w2 => ?_)
    refine kf ξ μ2 σ H2 ρ S2 _ (g.up (u1.trans u2)) s2 (WR.bind w2 fun z S3 w' μ3 H3 u3 s3 r3 w3 => ?_)
    cases q1 : dicOf S3 (.cell n0) with
    | none => rw [q1] at w3; exact w3.elim
    | some kvs =>
      cases q2 : keyD y with
      | none => rw [q1, q2] at w3; exact w3.elim
      | some k =>
        rw [q1, q2] at w3
        simp only at w3
        obtain ⟨n, a, vk, en, ev, ea, es, e3, e4⟩ := dic_at s3 (r1.up (u2.trans u3)) q1
        have ev : a0 = a := by injection ev
        subst ev
        have ek := keyD_of (r2.up u3) q2
        subst ek
        refine ⟨_, DGet.k e3, ?_⟩
        cases q3 : valD kvs k with
        | none =>
          rw [q3] at w3
          have hn := valV_none (k := k) e4
          rw [q3] at hn
          have hn' : valV vk k = none := by
            cases c : valV vk k with
            | none => rfl
            | some _ => rw [c] at hn; cases hn
          rw [hn']
          exact w3 _ μ3 H3 .refl s3 r3
        | some d =>
          rw [q3] at w3
          obtain ⟨zz, e5, e6⟩ := valV_of e4 q3
          rw [e5]
          exact w3 _ μ3 H3 .refl s3 e6
/-! ### texts: s + t, s[i:j] -/
def gCatS : Sto → D → D → Option D := fun _ x y => match x, y with
  | .str a, .str b => if a.length + b.length ≤ 16777216 then some (.str (a ++ b)) else none
  | _, _ => none
theorem o_catS : OpD X rCatS gCatS := by
  intro ξ μ H S x y v u z Q s rx ry e k
  cases rx with
  | str a =>
    cases ry with
    | str b =>
      unfold gCatS at e
      simp only at e
      by_cases c : a.length + b.length ≤ 16777216
      · rw [if_pos c] at e
        cases e
        exact ⟨a, b, rfl, rfl, by rw [sizeLine_eq]; exact c, k _ μ H .refl s (.str _)⟩
      · rw [if_neg c] at e; exact nomatch e
    | _ => exact nomatch e
  | _ => cases ry <;> exact nomatch e
variable {lo hi : Option Expr} {ml mh : MO}
def mSlS (a : ME) (lo hi : MO) : ME := fun ρ S => (a ρ S).bind fun x S1 => (lo ρ S1).bind fun l S2 => (hi ρ S2).bind fun h S3 => match x with
  | .str z => if z.length ≤ 16777216 then .ok (.str (cutS z l h)) S3 else .bad
  | _ => .bad
theorem d_slS (ha : DE X W a ma) (hl : DO X W lo ml) (hh : DO X W hi mh) : DE X W (.Subscript a (.Slice lo hi none p2) pos) (mSlS ma ml mh) := by
  obtain ⟨ta, pa, ka⟩ := ha
  obtain ⟨tl, pl, kl⟩ := hl
  obtain ⟨th, ph, kh⟩ := hh
  refine ⟨_, pe_slice sl_str pa pl ph, fun ξ μ σ H ρ S Q g s h => ka ξ μ σ H ρ S _ g s (WR.bind h fun x S1 v μ1 H1 u1 s1 r1 h1 => ?_)⟩
  refine kl ξ μ1 σ H1 ρ S1 _ (g.up u1) s1 (WR.bind h1 fun l S2 l' μ2 H2 u2 s2 r2 h2 => ?_)
  subst r2
  refine kh ξ μ2 σ H2 ρ S2 _ (g.up (u1.trans u2)) s2 (WR.bind h2 fun u S3 u' μ3 H3 u3 s3 r3 h3 => ?_)
  subst r3
  cases r1 with
  | str z =>
    simp only at h3
    by_cases c : z.length ≤ 16777216
    · rw [if_pos c] at h3
      exact ⟨z, rfl, by rw [sizeLine_eq]; exact c, h3 _ μ3 H3 .refl s3 (.str _)⟩
    · rw [if_neg c] at h3; exact h3.elim
  | _ => exact h3.elim
end
section
variable {S : Sto} {ρ : Rho} {E : EX} {Q : D → Sto → Prop}
@[simp] theorem does_get2 {mo mk mx : ME} : (mGet2 mo mk mx ρ S).DoesE E Q = (mo ρ S).DoesE E fun d S1 => match dicOf S1 d with
    | none => False
    | some _ => (mk ρ S1).DoesE E fun y S2 => (mx ρ S2).DoesE E fun z S3 => match dicOf S3 d, keyD y with
      | some kvs, some k => Q ((valD kvs k).getD z) S3
      | _, _ => False := by
  unfold mGet2
  rw [does_bind]; congr 1; funext d S1
  cases dicOf S1 d with
  | none => rfl
  | some kvs0 =>
    simp only
    rw [does_bind]; congr 1; funext y S2
    rw [does_bind]; congr 1; funext z S3
    cases dicOf S3 d with
    | none => rfl
    | some kvs =>
      cases keyD y with
      | none => rfl
      | some k => rfl
@[simp] theorem gCatS_str {a b : Str} : gCatS S (.str a) (.str b) = if a.length + b.length ≤ 16777216 then some (.str (a ++ b)) else none := rfl
@[simp] theorem does_slS {a : ME} {lo hi : MO} : (mSlS a lo hi ρ S).DoesE E Q = (a ρ S).DoesE E fun x S1 => (lo ρ S1).DoesE E fun l S2 => (hi ρ S2).DoesE E fun h S3 => match x with
    | .str z => z.length ≤ 16777216 ∧ Q (.str (cutS z l h)) S3
    | _ => False := by
  unfold mSlS
  rw [does_bind]; congr 1; funext x S1
  rw [does_bind]; congr 1; funext l S2
  rw [does_bind]; congr 1; funext h S3
  cases x with
  | str z =>
    simp only
    by_cases c : z.length ≤ 16777216
    · rw [if_pos c]; simp [c]
    · rw [if_neg c]; simp [c, Res.DoesE]
  | _ => rfl
end
end Dm
-- text Hw14
namespace Dm
open PySem L2
end Dm
-- text DmTupMul1
namespace Dm
open PySem L2 PySem.Spec PyProof.Rows
open PySem.W (Frag)
/-! ### a tuple some times, once too -/
def gMulU : Sto → D → D → Option D := fun S x y => match x, y with
  | .tup ds, .int k => if k = 1 then some (.tup ds) else gMulT S (.tup ds) (.int k)
  | _, _ => none
@[simp] theorem gMulU_tup {S : Sto} {ds : List D} {k : Int} : gMulU S (.tup ds) (.int k) = if k = 1 then some (.tup ds) else if ds.length ≠ 0 ∧ 2 ≤ k ∧ k ≤ 1000 ∧ ds.length ≤ 1000 then some (.tup (List.replicate k.toNat ds).flatten) else none := rfl
end Dm
-- text Hw15
namespace Dm
open PySem L2
end Dm
-- text Hw16
namespace Dm
open PySem L2
noncomputable section
def m_law_pick_v2 : List D → Sto → Res D := mDef 2 5 (mSeq (mIfS (mOp gGt (mOp gIx (mVar 0) (mK (.int 0))) (mK (.int 0))) (mSeq (mAsg 2 (mOp gMod (mCallB gInt1 (mCons (mOp gIx (mVar 0) (mK (.int 0))) mNil)) (mVar 1))) (mSeq (mSetIx (mOp gFdiv (mOp gIx (mVar 0) (mK (.int 0))) (mVar 1)) (mVar 0) (mK (.int 0))) (mRet (mVar 2)))) mNop) (mSeq (mSetIx (mOp gAdd (mOp gIx (mVar 0) (mK (.int 2))) (mK (.int 1))) (mVar 0) (mK (.int 2))) (mSeq (mAsg 3 (mOp gIx (mVar 0) (mK (.int 2)))) (mSeq (mAsg 4 (mOp gAdd (mOp gMul (mOp gAdd (mOp gIx (mVar 0) (mK (.int 1))) (mK (.int 11))) (mOp gAdd (mOp gAdd (mOp gMul (mOp gMul (mK (.int 19)) (mVar 3)) (mVar 3)) (mOp gMul (mK (.int 6364136)) (mVar 3))) (mK (.int 5)))) (mOp gMul (mK (.int 40503)) (mVar 3)))) (mSeq (mAsg 4 (mOp gFdiv (mOp gMod (mCallB gInt1 (mCons (mOp gAdd (mOp gMul (mVar 4) (mVar 4)) (mOp gMul (mK (.int 1442695)) (mVar 4))) mNil)) (mK (.int 2305843009213693951))) (mK (.int 2053)))) (mRet (mOp gMod (mOp gFdiv (mOp gMod (mCallB gInt1 (mCons (mOp gAdd (mOp gAdd (mOp gMul (mVar 4) (mVar 4)) (mOp gMul (mK (.int 7919)) (mVar 4))) (mVar 3)) mNil)) (mK (.int 1000000000039))) (mK (.int 32))) (mVar 1))))))))
def m_law_cells : List D → Sto → Res D := mDef 2 2 (mRet (mFz (mCatL (mLst (mCons (mK (.int 1600000000000000000000000000000000731)) mNil)) (mSlL (mVar 0) mNoPart (mPart (mVar 1))))))
def m_law_draw_spot : List D → Sto → Res D := mDef 3 5 (mSeq (mAsg 3 (mFz (mLc (iRange1 (mCons (mCallB gLen (mCons (mVar 1) mNil)) mNil)) (tgN 4) (mOp (gIn false) (mOp gIx (mVar 1) (mVar 4)) (mVar 2)) (mVar 4) [4]))) (mRet (mOp gIx (mFz (mLst (mCons (mOp gIx (mVar 3) (mK (.int (-1)))) (mCons (mOp gIx (mVar 3) (mCall m_law_pick_v2 (mCons (mVar 0) (mCons (mCallB gLen (mCons (mVar 3) mNil)) mNil)))) mNil)))) (mCall m_law_pick_v2 (mCons (mVar 0) (mCons (mK (.int 2)) mNil))))))
def m_law_sort_behind : List D → Sto → Res D := mDef 2 3 (mSeq (mAsg 2 (mDisp (mPCons (mK (.str "read")) (mK (.str "reading")) (mPCons (mK (.str "find")) (mK (.str "moment")) (mPCons (mK (.str "offset")) (mK (.str "span")) (mPCons (mK (.str "edition")) (mK (.str "moment")) (mPCons (mK (.str "plus")) (mK (.str "reading")) mPNil))))))) (mSeq (mIfS (mOp gEq (mOp gIx (mVar 1) (mK (.int 0))) (mK (.str "add"))) (mRet (mOp gIx (mVar 0) (mOp gIx (mVar 1) (mK (.int 1))))) mNop) (mRet (mGet2 (mVar 2) (mOp gIx (mVar 1) (mK (.int 0))) (mK (.str "moment"))))))
def m_law_kinds_in : List D → Sto → Res D := mDef 1 3 (mSeq (mAsg 1 (mNew (mLst (mCons (mK (.str "moment")) mNil)))) (mSeq (mForA (mVar 0) (tgN 2) (mApp (mVar 1) (mCall m_law_sort_behind (mCons (mVar 1) (mCons (mVar 2) mNil))))) (mRet (mVar 1))))
def m_law_rule : List D → Sto → Res D := mDef 1 2 (mSeq (mAsg 1 (mOp gIx (mFz (mLst (mCons (mK (.str "early")) (mCons (mK (.str "late")) (mCons (mK (.str "early")) (mCons (mK (.str "late")) (mCons (mK (.str "refuse")) mNil))))))) (mCall m_law_pick_v2 (mCons (mVar 0) (mCons (mK (.int 5)) mNil))))) (mRet (mTup (mCons (mVar 1) (mCons (mOp gIx (mFz (mLst (mCons (mK (.str "ahead")) (mCons (mK (.str "behind")) (mCons (mK (.str "ahead")) (mCons (mK (.str "behind")) (mCons (mK (.str "refuse")) mNil))))))) (mCall m_law_pick_v2 (mCons (mVar 0) (mCons (mK (.int 5)) mNil)))) mNil)))))
def m_law_words_open : List D → Sto → Res D := mDef 4 6 (mSeq (mAsg 4 (mFz (mLst (mCons (mK (.str "add")) mNil)))) (mSeq (mIfS (mOp gGt (mVar 2) (mK (.int 0))) (mSeq (mAsg 4 (mFz (mCatV (mVar 4) (mLst (mCons (mK (.str "read")) (mCons (mK (.str "read")) (mCons (mK (.str "offset")) mNil))))))) (mSeq (mIfS (mOp (gIn false) (mK (.str "reading")) (mVar 0)) (mAsg 4 (mFz (mCatV (mVar 4) (mLst (mCons (mK (.str "find")) (mCons (mK (.str "find")) (mCons (mK (.str "find")) mNil))))))) mNop) (mIfS (mAnd (mVar 3) (mOp gEq (mFz (mLcA (mVar 1) (tgN 5) (mOp gEq (mOp gIx (mVar 5) (mK (.int 0))) (mK (.str "edition"))) (mVar 5) [5])) (mFz (mLst mNil)))) (mAsg 4 (mFz (mCatV (mVar 4) (mLst (mCons (mK (.str "edition")) mNil))))) mNop))) mNop) (mSeq (mIfS (mOp (gIn false) (mK (.str "span")) (mVar 0)) (mSeq (mAsg 4 (mFz (mCatV (mVar 4) (mLst (mCons (mK (.str "plus")) mNil))))) (mIfS (mOp (gIn false) (mK (.str "reading")) (mVar 0)) (mAsg 4 (mFz (mCatV (mVar 4) (mLst (mCons (mK (.str "less")) (mCons (mK (.str "less")) mNil)))))) mNop)) mNop) (mRet (mVar 4)))))
def m_law_draw_step : List D → Sto → Res D := mDef 5 8 (mSeq (mAsg 5 (mOp gIx (mVar 3) (mCall m_law_pick_v2 (mCons (mVar 0) (mCons (mCallB gLen (mCons (mVar 3) mNil)) mNil))))) (mSeq (mAsg 6 (mDisp (mPCons (mK (.str "find")) (mFz (mLst (mCons (mK (.str "reading")) mNil))) (mPCons (mK (.str "less")) (mFz (mLst (mCons (mK (.str "reading")) mNil))) (mPCons (mK (.str "add")) (mFz (mLst (mCons (mK (.str "moment")) (mCons (mK (.str "reading")) mNil)))) mPNil))))) (mSeq (mAsg 7 (mCall m_law_draw_spot (mCons (mVar 0) (mCons (mVar 2) (mCons (mGet2 (mVar 6) (mVar 5) (mFz (mLst (mCons (mK (.str "moment")) mNil)))) mNil))))) (mSeq (mIfS (mOp gEq (mVar 5) (mK (.str "add"))) (mRet (mTup (mCons (mVar 5) (mCons (mVar 7) (mCons (mOp gIx (mVar 4) (mCall m_law_pick_v2 (mCons (mVar 0) (mCons (mCallB gLen (mCons (mVar 4) mNil)) mNil)))) mNil))))) mNop) (mSeq (mIfS (mOp (gIn false) (mVar 5) (mFz (mLst (mCons (mK (.str "plus")) (mCons (mK (.str "less")) mNil))))) (mRet (mTup (mCons (mVar 5) (mCons (mVar 7) (mCons (mCall m_law_draw_spot (mCons (mVar 0) (mCons (mVar 2) (mCons (mFz (mLst (mCons (mK (.str "span")) mNil))) mNil)))) mNil))))) mNop) (mSeq (mIfS (mOp gEq (mVar 5) (mK (.str "find"))) (mRet (mOp gAdd (mTup (mCons (mVar 5) (mCons (mVar 7) (mCons (mCall m_law_pick_v2 (mCons (mVar 0) (mCons (mVar 1) mNil))) mNil)))) (mCall m_law_rule (mCons (mVar 0) mNil)))) mNop) (mRet (mTup (mCons (mVar 5) (mCons (mVar 7) (mCons (mCall m_law_pick_v2 (mCons (mVar 0) (mCons (mVar 1) mNil))) mNil)))))))))))
def m_law_draw_tale : List D → Sto → Res D := mDef 7 11 (mSeq (mAsg 7 (mNew (mCallBL gList (mCons (mVar 6) mNil)))) (mSeq (mAsg 8 (mCall m_law_kinds_in (mCons (mVar 6) mNil))) (mSeq (mFor (iRange1 (mCons (mOp gSub (mVar 2) (mCallB gLen (mCons (mVar 6) mNil))) mNil)) (tgN 9) (mSeq (mAsg 10 (mCall m_law_draw_step (mCons (mVar 0) (mCons (mVar 1) (mCons (mVar 8) (mCons (mCall m_law_words_open (mCons (mVar 8) (mCons (mVar 7) (mCons (mVar 3) (mCons (mVar 4) mNil))))) (mCons (mVar 5) mNil))))))) (mSeq (mAsg 3 (mOp gSub (mVar 3) (mCallB gInt1 (mCons (mOp (gIn false) (mOp gIx (mVar 10) (mK (.int 0))) (mFz (mLst (mCons (mK (.str "read")) (mCons (mK (.str "find")) (mCons (mK (.str "offset")) (mCons (mK (.str "edition")) mNil))))))) mNil)))) (mSeq (mApp (mVar 8) (mCall m_law_sort_behind (mCons (mVar 8) (mCons (mVar 10) mNil)))) (mApp (mVar 7) (mVar 10)))))) (mRet (mCallB gTuple (mCons (mVar 7) mNil))))))
def m_law_hours_in : List D → Sto → Res D := mDef 1 3 (mSeq (mAsg 1 (mCall m_law_kinds_in (mCons (mVar 0) mNil))) (mRet (mFz (mLc (iRange1 (mCons (mCallB gLen (mCons (mVar 1) mNil)) mNil)) (tgN 2) (mOp gNe (mOp gIx (mVar 1) (mVar 2)) (mK (.str "span"))) (mVar 2) [2]))))
def m_law_draw_shifts : List D → Sto → Res D := mDef 1 7 (mSeq (mAsg 1 (mCall m_law_pick_v2 (mCons (mVar 0) (mCons (mK (.int 8)) mNil)))) (mSeq (mAsg 2 (mFz (mLst (mCons (mTup (mCons (mK (.int 0)) (mCons (mK (.int 60)) mNil))) (mCons (mTup (mCons (mK (.int (-900))) (mCons (mK (.int 900)) mNil))) (mCons (mTup (mCons (mK (.int (-900))) (mCons (mK (.int (-899))) mNil))) (mCons (mTup (mCons (mK (.int 0)) mNil)) mNil))))))) (mSeq (mAsg 2 (mFz (mCatV (mVar 2) (mLst (mCons (mTup (mCons (mK (.int (-660))) (mCons (mK (.int (-600))) (mCons (mK (.int 840)) mNil)))) (mCons (mTup (mCons (mK (.int (-1))) (mCons (mK (.int 0)) (mCons (mK (.int 1)) mNil)))) (mCons (mTup (mCons (mK (.int 899)) (mCons (mK (.int 900)) mNil))) (mCons (mTup (mCons (mK (.int 0)) (mCons (mK (.int 1)) (mCons (mK (.int 900)) mNil)))) mNil)))))))) (mSeq (mIfS (mOp gLt (mVar 1) (mK (.int 2))) (mRet (mOp gIx (mVar 2) (mCall m_law_pick_v2 (mCons (mVar 0) (mCons (mK (.int 8)) mNil))))) mNop) (mSeq (mAsg 3 (mOp gIx (mFz (mLst (mCons (mK (.int 1)) (mCons (mK (.int 2)) (mCons (mK (.int 60)) (mCons (mK (.int 30)) (mCons (mK (.int 7)) (mCons (mK (.int 1440)) (mCons (mK (.int 1800)) mNil))))))))) (mCall m_law_pick_v2 (mCons (mVar 0) (mCons (mK (.int 7)) mNil))))) (mSeq (mAsg 4 (mOp gSub (mCall m_law_pick_v2 (mCons (mVar 0) (mCons (mK (.int 1801)) mNil))) (mK (.int 900)))) (mSeq (mAsg 5 (mCallB gMin2 (mCons (mK (.int 900)) (mCons (mOp gAdd (mOp gAdd (mVar 4) (mK (.int 1))) (mCall m_law_pick_v2 (mCons (mVar 0) (mCons (mVar 3) mNil)))) mNil)))) (mSeq (mAsg 6 (mOp gAdd (mOp gAdd (mVar 4) (mK (.int 1))) (mCall m_law_pick_v2 (mCons (mVar 0) (mCons (mCallB gMax2 (mCons (mK (.int 1)) (mCons (mOp gSub (mOp gSub (mVar 5) (mVar 4)) (mK (.int 1))) mNil))) mNil))))) (mSeq (mIfS (mAnd (mOp gEq (mVar 1) (mK (.int 7))) (mChain gLt gLt (mVar 4) (mVar 6) (mVar 5))) (mRet (mTup (mCons (mVar 4) (mCons (mVar 6) (mCons (mVar 5) mNil))))) mNop) (mRet (mIf (mAnd (mOp gLt (mVar 4) (mVar 5)) (mOp gGt (mVar 1) (mK (.int 2)))) (mTup (mCons (mVar 4) (mCons (mVar 5) mNil))) (mTup (mCons (mVar 4) mNil)))))))))))))
def m_law_draw_apart : List D → Sto → Res D := mDef 2 4 (mSeq (mAsg 2 (mOp gAdd (mOp gSub (mOp gIx (mVar 1) (mK (.int (-1)))) (mOp gIx (mVar 1) (mK (.int 0)))) (mK (.int 1)))) (mSeq (mAsg 3 (mFz (mLst (mCons (mVar 2) (mCons (mVar 2) (mCons (mOp gAdd (mVar 2) (mCall m_law_pick_v2 (mCons (mVar 0) (mCons (mK (.int 4)) mNil)))) (mCons (mOp gAdd (mVar 2) (mCall m_law_pick_v2 (mCons (mVar 0) (mCons (mK (.int 300)) mNil)))) (mCons (mOp gMul (mK (.int 2)) (mVar 2)) (mCons (mK (.int 1440)) (mCons (mK (.int 1000000)) mNil)))))))))) (mSeq (mAsg 3 (mFz (mCatV (mVar 3) (mLst (mCons (mOp gAdd (mK (.int 1)) (mCall m_law_pick_v2 (mCons (mVar 0) (mCons (mK (.int 1000000)) mNil)))) (mCons (mOp gAdd (mK (.int 100000)) (mCall m_law_pick_v2 (mCons (mVar 0) (mCons (mK (.int 60)) mNil)))) mNil)))))) (mRet (mCallB gMax2 (mCons (mVar 2) (mCons (mOp gIx (mVar 3) (mCall m_law_pick_v2 (mCons (mVar 0) (mCons (mK (.int 9)) mNil)))) mNil)))))))
def m_law_draw_fields : List D → Sto → Res D := mDef 3 7 (mSeq (mAsg 3 (mNew (mLst mNil))) (mSeq (mFor (iRange1 (mCons (mVar 1) mNil)) (tgN 4) (mSeq (mAsg 5 (mSlT (mCall m_law_draw_shifts (mCons (mVar 0) mNil)) mNoPart (mPart (mVar 2)))) (mSeq (mIfS (mAnd (mOp gGt (mVar 4) (mK (.int 0))) (mOp gEq (mCall m_law_pick_v2 (mCons (mVar 0) (mCons (mK (.int 3)) mNil))) (mK (.int 0)))) (mAsg 5 (mOp gIx (mOp gIx (mVar 3) (mK (.int 0))) (mK (.int 0)))) mNop) (mSeq (mAsg 6 (mTup (mCons (mVar 5) (mCons (mCall m_law_draw_apart (mCons (mVar 0) (mCons (mVar 5) mNil))) mNil)))) (mApp (mVar 3) (mIf (mAnd (mOp gGt (mVar 4) (mK (.int 0))) (mOp gEq (mCall m_law_pick_v2 (mCons (mVar 0) (mCons (mK (.int 8)) mNil))) (mK (.int 0)))) (mOp gIx (mVar 3) (mK (.int 0))) (mVar 6))))))) (mRet (mCallB gTuple (mCons (mVar 3) mNil)))))
def m_law_minutes_v2 : List D → Sto → Res D := mDef 2 8 (mSeq (mAsg 2 (mOp gIx (mVar 1) (mCall m_law_pick_v2 (mCons (mVar 0) (mCons (mCallB gLen (mCons (mVar 1) mNil)) mNil))))) (mSeq (mAsg 3 (mOp gSub (mOp gIx (mOp gIx (mVar 2) (mK (.int 0))) (mK (.int (-1)))) (mOp gIx (mOp gIx (mVar 2) (mK (.int 0))) (mK (.int 0))))) (mSeq (mAsg 4 (mFz (mLst (mCons (mVar 3) (mCons (mOp gSub (mVar 3) (mK (.int 1))) (mCons (mOp gAdd (mVar 3) (mK (.int 1))) (mCons (mOp gIx (mVar 2) (mK (.int 1))) (mCons (mOp gSub (mOp gIx (mVar 2) (mK (.int 1))) (mK (.int 1))) (mCons (mOp gAdd (mOp gIx (mVar 2) (mK (.int 1))) (mK (.int 1))) (mCons (mOp gSub (mOp gIx (mVar 2) (mK (.int 1))) (mVar 3)) (mCons (mOp gMul (mK (.int 2)) (mOp gIx (mVar 2) (mK (.int 1)))) mNil))))))))))) (mSeq (mAsg 4 (mFz (mCatV (mVar 4) (mLst (mCons (mK (.int 1)) (mCons (mK (.int 0)) (mCons (mK (.int 1440)) (mCons (mK (.int 60)) (mCons (mK (.int 100000)) (mCons (mCall m_law_pick_v2 (mCons (mVar 0) (mCons (mK (.int 100001)) mNil))) (mCons (mCall m_law_pick_v2 (mCons (mVar 0) (mCons (mK (.int 2000)) mNil))) (mCons (mOp gSub (mOp gSub (mOp gIx (mVar 2) (mK (.int 1))) (mVar 3)) (mK (.int 1))) mNil)))))))))))) (mSeq (mAsg 5 (mFz (mLc (iRange1 (mCons (mK (.int 8)) mNil)) (tgN 6) mYes (mOp gMul (mOp gIx (mVar 4) (mCall m_law_pick_v2 (mCons (mVar 0) (mCons (mK (.int 16)) mNil)))) (mOp gIx (mFz (mLst (mCons (mK (.int 1)) (mCons (mK (.int (-1))) mNil)))) (mCall m_law_pick_v2 (mCons (mVar 0) (mCons (mK (.int 2)) mNil))))) [6]))) (mRet (mFz (mLcA (mVar 5) (tgN 7) mYes (mCallB gMax2 (mCons (mK (.int (-100000))) (mCons (mCallB gMin2 (mCons (mK (.int 100000)) (mCons (mVar 7) mNil))) mNil))) [7]))))))))
def m_law_draw_want : List D → Sto → Res D := mDef 2 5 (mSeq (mAsg 2 (mOp gIx (mFz (mLst (mCons (mK (.str "found")) (mCons (mK (.str "same")) (mCons (mK (.str "order")) (mCons (mK (.str "near")) mNil)))))) (mCall m_law_pick_v2 (mCons (mVar 0) (mCons (mK (.int 4)) mNil))))) (mSeq (mIfS (mOp gEq (mVar 2) (mK (.str "found"))) (mRet (mTup (mCons (mVar 2) mNil))) mNop) (mSeq (mAsg 3 (mTup (mCons (mVar 2) (mCons (mOp gIx (mVar 1) (mCall m_law_pick_v2 (mCons (mVar 0) (mCons (mCallB gLen (mCons (mVar 1) mNil)) mNil)))) (mCons (mOp gIx (mVar 1) (mCall m_law_pick_v2 (mCons (mVar 0) (mCons (mCallB gLen (mCons (mVar 1) mNil)) mNil)))) mNil))))) (mSeq (mIfS (mOp gNe (mVar 2) (mK (.str "near"))) (mRet (mVar 3)) mNop) (mSeq (mAsg 4 (mFz (mLst (mCons (mK (.int 0)) (mCons (mK (.int 1)) (mCons (mK (.int 1000000)) (mCons (mK (.int 60)) (mCons (mCall m_law_pick_v2 (mCons (mVar 0) (mCons (mK (.int 2000)) mNil))) (mCons (mCall m_law_pick_v2 (mCons (mVar 0) (mCons (mK (.int 1000001)) mNil))) (mCons (mK (.int 1801)) mNil)))))))))) (mRet (mOp gAdd (mVar 3) (mTup (mCons (mOp gIx (mVar 4) (mCall m_law_pick_v2 (mCons (mVar 0) (mCons (mK (.int 7)) mNil)))) mNil)))))))))
end
end Dm
-- text DmStr
namespace Dm
open PySem L2 PySem.Spec PyProof.Rows
/-! ### str of a number -/
def gStrI : Sto → List D → Option D := fun _ ds => match ds with
  | [.int i] => if i.natAbs.log2 < 1920 then some (.str (toString i)) else none
  | _ => none
section
variable {X : Cx}
theorem c_strI : CallD X (fun xs H Q => ∃ i, xs = [.int i] ∧ i.natAbs.log2 < 1920 ∧ Q (.str (toString i)) H) gStrI := by
  intro ξ μ H S ds vs z Q s r e k
  unfold gStrI at e
  cases r with
  | nil => exact nomatch e
  | @cons v vs d ds r rr =>
    cases rr with
    | cons _ _ => cases d <;> exact nomatch e
    | nil =>
      cases r with
      | int i =>
        simp only at e
        split at e
        · rename_i h
          cases e
          exact ⟨i, rfl, h, k _ μ H .refl s (.str _)⟩
        · exact nomatch e
      | _ => exact nomatch e
end
end Dm
-- text Hw17
namespace Dm
open PySem L2
end Dm
-- text Hw18
namespace Dm
open PySem L2
end Dm
-- text DmUpper
namespace Dm
open PySem L2 PySem.Spec PyProof.Rows
/-! ### text.upper() -/
end Dm
-- text Hw19
namespace Dm
open PySem L2
end Dm
-- text DmPopE
namespace Dm
open PySem L2 PySem.Spec PyProof.Rows
open PySem.W (Frag)
/-! ### xs.pop() as a value -/
section
variable {X : Cx} {W : WX}
def mPopE (o : ME) : ME := fun ρ S => (o ρ S).bind fun x S1 => match x with
  | .cell n => match S1[n]? with
    | some (.lst ds) => match ds[ds.length - 1]? with
      | some d => .ok d (S1.set n (.lst ds.dropLast))
      | none => .bad
    | _ => .bad
  | _ => .bad
end
section
variable {S : Sto} {ρ : Rho} {Q : D → Sto → Prop} {E : EX}
@[simp] theorem does_popE {o : ME} : (mPopE o ρ S).DoesE E Q = (o ρ S).DoesE E fun x S1 => match x with
    | .cell n => ∃ xs, S1[n]? = some (.lst xs) ∧ ∃ d, xs[xs.length - 1]? = some d ∧ Q d (S1.set n (.lst xs.dropLast))
    | _ => False := by
  unfold mPopE
  rw [does_bind]; congr 1; funext x S1
  cases x with
  | cell n =>
    simp only
    cases q : S1[n]? with
    | none => exact propext ⟨fun h => h.elim, fun ⟨_, h, _⟩ => nomatch h⟩
    | some c =>
      cases c with
      | lst ds =>
        cases hd : ds[ds.length - 1]? with
        | none =>
          simp only
          refine propext ⟨fun h => ?_, fun ⟨xs, h, d, h2, _⟩ => ?_⟩
          · rw [hd] at h; exact h.elim
          · cases h
            rw [hd] at h2
            cases h2
        | some d =>
          simp only
          refine propext ⟨fun h => ?_, fun ⟨xs, h, d', h2, h3⟩ => ?_⟩
          · rw [hd] at h
            exact ⟨ds, rfl, d, hd, h⟩
          · cases h
            rw [hd] at h2
            cases h2
            rw [hd]
            exact h3
      | _ => exact propext ⟨fun h => h.elim, fun ⟨_, h, _⟩ => nomatch h⟩
  | _ => rfl
end
/-! ### d.get(k) -/
end Dm
-- text DmIdx
namespace Dm
open PySem L2 PySem.Spec PyProof.Rows
open PySem.W (Frag)
theorem resMonoI {α : Type} {r : Res α} {E : EX} {Q Q' : α → Sto → Prop} (h : r.DoesE E Q) (hQ : ∀ a S, Q a S → Q' a S) : r.DoesE E Q' := by
  cases r with
  | ok a S => exact hQ _ _ h
  | exc c fs S => exact h
  | bad => exact h
/-! ### xs.index(y), flat items -/
section
variable {X : Cx} {W : WX} {o e : Expr} {mo me : ME} {apos cpos : Pos}
def mIdx (mo me : ME) : ME := fun ρ S => (mo ρ S).bind fun x S1 => match lstOf S1 x with
  | none => .bad
  | some _ => (me ρ S1).bind fun y S2 => match lstOf S2 x with
    | some ds => if flatD y = true ∧ ds.all flatD = true then match ds.findIdx? (eqF · y) with
      | some j => .ok (.int (j : Nat)) S2
      | none => .bad
      else .bad
    | none => .bad
end
section
variable {S : Sto} {ρ : Rho} {Q : D → Sto → Prop} {E : EX}
@[simp] theorem does_idx {o m : ME} : (mIdx o m ρ S).DoesE E Q = (o ρ S).DoesE E fun x S1 => (∃ l, lstOf S1 x = some l) ∧ (m ρ S1).DoesE E fun y S2 => ∃ ds, lstOf S2 x = some ds ∧ (flatD y = true ∧ ds.all flatD = true) ∧ ∃ j, ds.findIdx? (eqF · y) = some j ∧ Q (.int (j : Nat)) S2 := by
  unfold mIdx
  rw [does_bind]; congr 1; funext x S1
  cases q : lstOf S1 x with
  | none => exact propext ⟨fun h => h.elim, fun ⟨⟨_, h⟩, _⟩ => nomatch h⟩
  | some l =>
    simp only
    rw [does_bind]
    refine propext ⟨fun h => ⟨⟨l, rfl⟩, ?_⟩, fun ⟨_, h⟩ => ?_⟩
    · refine resMonoI h fun y S2 h2 => ?_
      cases q1 : lstOf S2 x with
      | none => rw [q1] at h2; exact h2.elim
      | some ds =>
        rw [q1] at h2
        simp only at h2
        by_cases c : flatD y = true ∧ ds.all flatD = true
        · rw [if_pos c] at h2
          cases q2 : ds.findIdx? (eqF · y) with
          | none => rw [q2] at h2; exact h2.elim
          | some j => rw [q2] at h2; exact ⟨ds, rfl, c, j, q2, h2⟩
        · rw [if_neg c] at h2; exact h2.elim
    · refine resMonoI h fun y S2 h2 => ?_
      obtain ⟨ds, q1, c, j, q2, h3⟩ := h2
      rw [q1]
      simp only
      rw [if_pos c, q2]
      exact h3
end
end Dm
-- text DmExt
namespace Dm
open PySem L2
open PySem.W (Frag)
/-! ### xs.extend(a new list) -/
section
variable {X : Cx} {W : WX}
def mExt (o : ME) (nb : MA) : MS := fun ρ S => ofRes (o ρ S) ρ fun x S1 => match x with
  | .cell n => match S1[n]? with
    | some (.lst _) => ofRes (nb ρ S1) ρ fun es S2 => match S2[n]? with
      | some (.lst ds) => if ds.length + es.length ≤ 16777216 then .nx ρ (S2.set n (.lst (ds ++ es))) else .bad
      | _ => .bad
    | _ => .bad
  | _ => .bad
theorem WSL.bind {F : Fx} {E : Ends} {W : WX} {Q1 : VK} {μ : List Addr} {H : Hp} {σ : L2.St} {ρ : Rho} {r : Res (List D)} {f : List D → Sto → Out} (g : RG F μ H σ ρ) (h : WS' F (ofRes r ρ f) E W μ H)
    (k : ∀ ds S1 p xs μ1 H1, Up μ H μ1 H1 → H p = none → RS (F.hold p) μ1 H1 S1 → RDs (F.hold p) μ1 H1 xs ds → H1 p = some (.lst xs) → WS' F (f ds S1) E W μ1 H1 → Q1 (.ref p) H1) : WL' F r Q1 (fun cls dd H' => W cls dd σ H') μ H := by
  cases r with
  | ok x S1 => exact fun p xs μ1 H1 u1 hp s1 r1 e1 => k x S1 p xs μ1 H1 u1 hp s1 r1 e1 (WS'.shift u1 h)
  | exc c fs S => exact fun cls dd μ' H' u' s' x' => h cls dd σ μ' H' u' s' (g.up u') x'
  | bad => exact h
end
section
variable {S : Sto} {ρ : Rho} {N B C : Rho → Sto → Prop} {R : D → Sto → Prop} {EO : EXO}
@[simp] theorem does_ext {o : ME} {nb : MA} : (mExt o nb ρ S).DoesE EO N R B C = (o ρ S).DoesE (eAt EO ρ) fun x S1 => match x with
    | .cell n => (∃ ds0, S1[n]? = some (.lst ds0)) ∧ (nb ρ S1).DoesE (eAt EO ρ) fun es S2 => ∃ ds, S2[n]? = some (.lst ds) ∧ ds.length + es.length ≤ 16777216 ∧ N ρ (S2.set n (.lst (ds ++ es)))
    | _ => False := by
  unfold mExt
  rw [does_ofRes]; congr 1; funext x S1
  cases x with
  | cell n =>
    simp only
    cases e : S1[n]? with
    | none => exact propext ⟨fun h => h.elim, fun ⟨⟨_, h⟩, _⟩ => nomatch h⟩
    | some c =>
      cases c with
      | lst ds0 =>
        simp only
        rw [does_ofRes]
        refine propext ⟨fun h => ⟨⟨ds0, rfl⟩, resMonoI h fun es S2 h2 => ?_⟩, fun ⟨_, h⟩ => resMonoI h fun es S2 h2 => ?_⟩
        · cases q : S2[n]? with
          | none => rw [q] at h2; exact h2.elim
          | some c2 =>
            rw [q] at h2
            cases c2 with
            | lst ds =>
              simp only at h2
              by_cases l : ds.length + es.length ≤ 16777216
              · rw [if_pos l] at h2; exact ⟨ds, rfl, l, h2⟩
              · rw [if_neg l] at h2; exact h2.elim
            | _ => exact h2.elim
        · obtain ⟨ds, q, l, h3⟩ := h2
          rw [q]
          simp only
          rw [if_pos l]
          exact h3
      | _ => exact propext ⟨fun h => h.elim, fun ⟨⟨_, h⟩, _⟩ => nomatch h⟩
  | _ => rfl
end
end Dm
-- text Hw20
namespace Dm
open PySem L2
noncomputable section
def m_law_make_pot_v2 : List D → Sto → Res D := mDef 1 2 (mSeq (mAsg 1 (mIf (mOp gGe (mVar 0) (mK (.int 1000000000000000000))) (mOp gSub (mVar 0) (mK (.int 1000000000000000000))) (mK (.int 0)))) (mRet (mNew (mLst (mCons (mVar 1) (mCons (mOp gMod (mCallB gInt1 (mCons (mVar 0) mNil)) (mK (.int 2305843009213693951))) (mCons (mK (.int 0)) mNil)))))))
end
end Dm
-- text Hw21
namespace Dm
open PySem L2
end Dm
-- text Hw22
namespace Dm
open PySem L2
end Dm
-- text Hw23
namespace Dm
open PySem L2
end Dm
-- text DmEqC
namespace Dm
open PySem L2 PySem.Spec PyProof.Rows
open PySem.W (Frag)
/-! ### == of data that holds cells -/
end Dm
-- text Hw24
namespace Dm
open PySem L2
end Dm
-- text Hw25
namespace Dm
open PySem L2
end Dm
-- text Hw26
namespace Dm
open PySem L2
end Dm
-- text DmSetG
namespace Dm
open PySem L2
open PySem.W (Frag)
/-! ### sets of ints that grow: set(), xs.add(x), sorted(xs) -/
section
variable {X : Cx} {W : WX} {pos p p1 : Pos}
/-- set() -/
def mSNew : ME := fun _ S => .ok (.cell S.length) (S ++ [.set []])
def insS (k : Int) (ns : List Int) : List Int := if k ∈ ns then ns else ns ++ [k]
/-- xs.add(x) -/
def mSAdd (o m : ME) : MS := fun ρ S => ofRes (o ρ S) ρ fun x S1 => match x with
  | .cell n => match S1[n]? with
    | some (.set _) => ofRes (m ρ S1) ρ fun d S2 => match d, S2[n]? with
      | .int k, some (.set ns) => if ns.length ≤ 4000 then .nx ρ (S2.set n (.set (insS k ns))) else .bad
      | _, _ => .bad
    | _ => .bad
  | _ => .bad
/-- sorted(xs), a set -/
def mSortG (m : ME) : MA := fun ρ S => (m ρ S).bind fun d S1 => match d with
  | .cell n => match S1[n]? with
    | some (.set ns) => if ns.length ≤ 4000 then .ok ((uniq ns).map .int) S1 else .bad
    | _ => .bad
  | _ => .bad
end
section
variable {S : Sto} {ρ : Rho} {Q : D → Sto → Prop} {N B C : Rho → Sto → Prop} {R : D → Sto → Prop} {E : EX} {EO : EXO}
@[simp] theorem does_snew : (mSNew ρ S).DoesE E Q = Q (.cell S.length) (S ++ [.set []]) := rfl
@[simp] theorem does_sadd {o m : ME} : (mSAdd o m ρ S).DoesE EO N R B C = (o ρ S).DoesE (eAt EO ρ) fun x S1 => match x with
    | .cell n => (∃ ns0, S1[n]? = some (.set ns0)) ∧ (m ρ S1).DoesE (eAt EO ρ) fun d S2 => ∃ k ns, d = .int k ∧ S2[n]? = some (.set ns) ∧ ns.length ≤ 4000 ∧ N ρ (S2.set n (.set (insS k ns)))
    | _ => False := by
  unfold mSAdd
  rw [does_ofRes]; congr 1; funext x S1
  cases x with
  | cell n =>
    simp only
    cases h : S1[n]? with
    | none => simp [Out.DoesE]
    | some c =>
      cases c with
      | set ns0 =>
        simp only
        rw [does_ofRes]
        simp only [Option.some.injEq, Cell.set.injEq, exists_eq', true_and]
        congr 1; funext d S2
        cases d with
        | int k =>
          cases h2 : S2[n]? with
          | none => simp [Out.DoesE]
          | some c2 =>
            cases c2 with
            | set ns =>
              simp only
              by_cases l : ns.length ≤ 4000
              · rw [if_pos l]; simp [Out.DoesE, l]
              · rw [if_neg l]; simp [Out.DoesE, l]
            | _ => simp [Out.DoesE]
        | _ => simp [Out.DoesE]
      | _ => simp [Out.DoesE]
  | _ => simp [Out.DoesE]
@[simp] theorem does_sortG {m : ME} {Q : List D → Sto → Prop} : (mSortG m ρ S).DoesE E Q = (m ρ S).DoesE E fun d S1 => match d with
    | .cell n => ∃ ns, S1[n]? = some (.set ns) ∧ ns.length ≤ 4000 ∧ Q ((uniq ns).map .int) S1
    | _ => False := by
  unfold mSortG
  rw [does_bind]; congr 1; funext d S1
  cases d with
  | cell n =>
    simp only
    cases h : S1[n]? with
    | none => simp [Res.DoesE]
    | some c =>
      cases c with
      | set ns =>
        simp only
        by_cases l : ns.length ≤ 4000
        · rw [if_pos l]; simp [Res.DoesE, l]
        · rw [if_neg l]; simp [Res.DoesE, l]
      | _ => simp [Res.DoesE]
  | _ => simp [Res.DoesE]
end
end Dm
-- text Hw27
namespace Dm
open PySem L2
end Dm
-- text DmGen1
set_option maxHeartbeats 1000000
/-! ### a for loop in the body of a generator def -/
namespace Dm
open PySem PySem.Spec PyProof.Rows GenW L2
end Dm
-- text DmGen2
set_option maxHeartbeats 1000000
/-! ### generator defs over plain data; list(g(..)) -/
namespace Dm
open PySem L2 PySem.Spec PyProof.Rows GenW
open PySem.W (Frag)
inductive GOut where
  | nx (ys : List D) (ρ : Rho) (S : Sto) | rt (ys : List D) (d : D) (S : Sto) | bk (ys : List D) (ρ : Rho) (S : Sto) | ct (ys : List D) (ρ : Rho) (S : Sto)
  | exc (c : Str) (fs : List (Str × D)) (ρ : Rho) (S : Sto) | bad
def gOf (ys : List D) : Out → GOut
  | .nx ρ S => .nx ys ρ S
  | .rt d S => .rt ys d S
  | .bk ρ S => .bk ys ρ S
  | .ct ρ S => .ct ys ρ S
  | .exc c fs ρ S => .exc c fs ρ S
  | .bad => .bad
def WG' (F : Fx) (r : GOut) (E : GEnds) (W : WX) (μ : List Addr) (H : Hp) : Prop := match r with
  | .nx ys ρ S => ∀ vs σ μ' H', Up μ H μ' H' → RS F μ' H' S → RG F μ' H' σ ρ → RDs F μ' H' vs ys → E.nx vs σ H'
  | .rt ys d S => ∀ vs v μ' H', Up μ H μ' H' → RS F μ' H' S → RD F μ' H' v d → RDs F μ' H' vs ys → E.rt vs v H'
  | .bk ys ρ S => ∀ vs σ μ' H', Up μ H μ' H' → RS F μ' H' S → RG F μ' H' σ ρ → RDs F μ' H' vs ys → E.bk vs σ H'
  | .ct ys ρ S => ∀ vs σ μ' H', Up μ H μ' H' → RS F μ' H' S → RG F μ' H' σ ρ → RDs F μ' H' vs ys → E.ct vs σ H'
  | .exc c fs ρ S => ∀ cls dd σ μ' H', Up μ H μ' H' → RS F μ' H' S → RG F μ' H' σ ρ → XR F μ' H' cls dd c fs → W cls dd σ H'
  | .bad => False
section
variable {F : Fx} {μ μ1 : List Addr} {H H1 : Hp} {E : GEnds} {W : WX}
theorem WG'.shift {r : GOut} (u : Up μ H μ1 H1) (h : WG' F r E W μ H) : WG' F r E W μ1 H1 := by
  cases r with
  | nx ys ρ S => exact fun vs σ μ' H' u' => h vs σ μ' H' (u.trans u')
  | rt ys d S => exact fun vs v μ' H' u' => h vs v μ' H' (u.trans u')
  | bk ys ρ S => exact fun vs σ μ' H' u' => h vs σ μ' H' (u.trans u')
  | ct ys ρ S => exact fun vs σ μ' H' u' => h vs σ μ' H' (u.trans u')
  | exc c fs ρ S => exact fun cls dd σ μ' H' u' => h cls dd σ μ' H' (u.trans u')
  | bad => exact h
theorem WG'.plain {o : Out} {vs : List V} {ys : List D} (r : RDs F μ H vs ys) (h : WG' F (gOf ys o) E W μ H) : WS' F o (E.at vs) W μ H := by
  cases o with
  | nx ρ S => exact fun σ μ' H' u s g => h vs σ μ' H' u s g (r.up u)
  | rt d S => exact fun v μ' H' u s g => h vs v μ' H' u s g (r.up u)
  | bk ρ S => exact fun σ μ' H' u s g => h vs σ μ' H' u s g (r.up u)
  | ct ρ S => exact fun σ μ' H' u s g => h vs σ μ' H' u s g (r.up u)
  | exc c fs ρ S => exact h
  | bad => exact h
end
/-! ### the promise -/
section
variable {P : Program} {w : World} {K : Frag} {mg : Str → Option Value} {base : Heap}
theorem GFn.mono {j k : Nat} {f : Addr} {fd : FuncData} {ps : List Str} {sp : SpG} (F : GFn P w K mg base j f fd ps sp) (h : j ≤ k) : GFn P w K mg base k f fd ps sp := by
  refine ⟨F.len, fun A outer s H args us vs Q E hr he hb hv hs => codeAny_mono (F.run A outer s H args us vs Q E (hr.mono h) he hb hv hs) fun r s' q => ?_⟩
  cases r with
  | error e => exact q
  | ok fl =>
    cases fl with
    | ret u =>
      obtain ⟨a, g, c, h1, h2, h3, h4, h5, h6, h7, h8, h9, wake⟩ := q
      exact ⟨a, g, c, h1, h2, h3, h4, h5, h6, h7, h8, h9, fun A S s2 hr => wake A S s2 (hr.mono h)⟩
    | _ => exact q
end
/-! ### list(g(..)) -/
section
variable {X : Cx} {W : WX} {e : Expr} {es : List Expr} {st : Stmt} {k : Nat} {tg : TGen} {E : L2.St → XK} {mr : MA} {pos p p1 pos' : Pos}
def oneOf {α : Type} (cs : List Str) (r : Res α) : Res α := match r with
  | .exc c fs S => if c ∈ cs then .exc c fs S else .bad
  | r => r
/-- the words: the arguments, then all that is handed out -/
def mListG (cs : List Str) (f : List D → Sto → Res (List D)) (a : MA) : MA := fun ρ S => (a ρ S).bind fun ds S1 => oneOf cs (f ds S1)
end
end Dm
-- text DmGen3
set_option maxHeartbeats 1000000
namespace Dm
open PySem L2 PySem.Spec PyProof.Rows GenW
open PySem.W (Frag)
/-! ### the words -/
section
variable {S : Sto} {ρ : Rho} {E : EX} {EO : EXO}
/-- what is wanted of a generator's statement -/
def GOut.DoesE (o : GOut) (EO : EXO) (N : List D → Rho → Sto → Prop) : Prop := match o with
  | .nx ys ρ S => N ys ρ S
  | .exc c fs ρ S => EO c fs ρ S
  | _ => False
@[simp] theorem listG_does {cs : List Str} {f : List D → Sto → Res (List D)} {a : MA} {Q : List D → Sto → Prop} : (mListG cs f a ρ S).DoesE E Q = (a ρ S).DoesE E fun ds S1 => (oneOf cs (f ds S1)).DoesE E Q := by
  unfold mListG
  rw [does_bind]
end
end Dm
-- text DmGen4
set_option maxHeartbeats 1000000
/-! ### list(g(k = v, ..)) -/
namespace Dm
open PySem L2 PySem.Spec PyProof.Rows GenW
open PySem.W (Frag)
section
variable {X : Cx} {W : WX} {e : Expr} {es : List Expr} {kws : List Keyword} {st : Stmt} {k : Nat} {mr mk : MA} {pos p p1 pos' : Pos}
def mListGK (cs : List Str) (f : List D → Sto → Res (List D)) (q : Nat) (perm : List Nat) (a : MA) : MA := fun ρ S => (a ρ S).bind fun zs S1 => if zs.length = q then oneOf cs (f (perm.filterMap (zs[·]?)) S1) else .bad
@[simp] theorem listGK_does {S : Sto} {ρ : Rho} {E : EX} {cs : List Str} {f : List D → Sto → Res (List D)} {a : MA} {q : Nat} {perm : List Nat} {Q : List D → Sto → Prop} : (mListGK cs f q perm a ρ S).DoesE E Q = (a ρ S).DoesE E fun zs S1 => zs.length = q ∧ (oneOf cs (f (perm.filterMap (zs[·]?)) S1)).DoesE E Q := by
  unfold mListGK
  rw [does_bind]
  congr 1
  funext zs S1
  by_cases c : zs.length = q
  · rw [if_pos c]; simp [c]
  · rw [if_neg c]; simp [c, Res.DoesE]
end
end Dm
-- text Hw28
namespace Dm
open PySem L2
end Dm
-- text DmCnt
namespace Dm
open PySem L2 PySem.Spec PyProof.Rows
open PySem.W (Frag)
/-! ### xs.count(y), flat items -/
section
variable {X : Cx} {W : WX} {o e : Expr} {mo me : ME} {apos cpos : Pos}
def mCnt (mo me : ME) : ME := fun ρ S => (mo ρ S).bind fun x S1 => match lstOf S1 x with
  | none => .bad
  | some _ => (me ρ S1).bind fun y S2 => match lstOf S2 x with
    | some ds => if flatD y = true ∧ ds.all flatD = true then .ok (.int ((ds.countP (eqF · y) : Nat) : Int)) S2 else .bad
    | none => .bad
end
section
variable {S : Sto} {ρ : Rho} {Q : D → Sto → Prop} {E : EX}
@[simp] theorem does_cnt {o m : ME} : (mCnt o m ρ S).DoesE E Q = (o ρ S).DoesE E fun x S1 => (∃ l, lstOf S1 x = some l) ∧ (m ρ S1).DoesE E fun y S2 => ∃ ds, lstOf S2 x = some ds ∧ (flatD y = true ∧ ds.all flatD = true) ∧ Q (.int ((ds.countP (eqF · y) : Nat) : Int)) S2 := by
  unfold mCnt
  rw [does_bind]; congr 1; funext x S1
  cases q : lstOf S1 x with
  | none => exact propext ⟨fun h => h.elim, fun ⟨⟨_, h⟩, _⟩ => nomatch h⟩
  | some l =>
    simp only
    rw [does_bind]
    refine propext ⟨fun h => ⟨⟨l, rfl⟩, ?_⟩, fun ⟨_, h⟩ => ?_⟩
    · refine resMonoI h fun y S2 h2 => ?_
      cases q1 : lstOf S2 x with
      | none => rw [q1] at h2; exact h2.elim
      | some ds =>
        rw [q1] at h2
        simp only at h2
        by_cases c : flatD y = true ∧ ds.all flatD = true
        · rw [if_pos c] at h2
          exact ⟨ds, rfl, c, h2⟩
        · rw [if_neg c] at h2; exact h2.elim
    · refine resMonoI h fun y S2 h2 => ?_
      obtain ⟨ds, q1, c, h3⟩ := h2
      rw [q1]
      simp only
      rw [if_pos c]
      exact h3
end
end Dm
-- text Hw29
namespace Dm
open PySem L2
end Dm
-- text Hw30
namespace Dm
open PySem L2
end Dm
-- text DmSortD
namespace Dm
open PySem L2 PySem.Spec PyProof.Rows
open PySem.W (Frag AllAlike Sortable dataLe dataLt alike alikeAll keyToks keyToksAll EachIs)
/-! ### sorted of nested data (alike, tuples or lists) -/
/-! ### the sorted list, plain -/
end Dm
-- text Hw31
namespace Dm
open PySem L2
end Dm
-- text DmNewK
/-! ### type.__call__ on an own error class, keywords too -/
namespace PySem
end PySem
namespace Dm
open PySem L2 PySem.Spec PyProof.Rows
open PySem.W (Frag)
/-! ### X(k = v, ..) of an own class with its own __init__ -/
def mNewXK (c : Str) (ns : List Str) (q : Nat) (perm : List Nat) (ma : MA) : ME := fun ρ S => (ma ρ S).bind fun zs S1 => if zs.length = q then (if (perm.filterMap (zs[·]?)).length = ns.length then .ok (.exn c (newFs ns (perm.filterMap (zs[·]?)))) S1 else .bad) else .bad
section
variable {S : Sto} {ρ : Rho} {E : EX} {Q : D → Sto → Prop}
@[simp] theorem does_newXK {c : Str} {ns : List Str} {q : Nat} {perm : List Nat} {ma : MA} : (mNewXK c ns q perm ma ρ S).DoesE E Q = (ma ρ S).DoesE E fun zs S1 => zs.length = q ∧ (perm.filterMap (zs[·]?)).length = ns.length ∧ Q (.exn c (newFs ns (perm.filterMap (zs[·]?)))) S1 := by
  unfold mNewXK
  rw [does_bind]; congr 1; funext zs S1
  by_cases h : zs.length = q
  · rw [if_pos h]
    by_cases h2 : (perm.filterMap (zs[·]?)).length = ns.length
    · rw [if_pos h2]; simp [h, h2]
    · rw [if_neg h2]; simp [h, h2, Res.DoesE]
  · rw [if_neg h]; simp [h, Res.DoesE]
end
/-! ### X(m), m any value -/
def mNewV (c : Str) (me : ME) : ME := fun ρ S => (me ρ S).bind fun _ S1 => .ok (.exn c []) S1
section
variable {S : Sto} {ρ : Rho} {E : EX} {Q : D → Sto → Prop}
@[simp] theorem does_newV {c : Str} {m : ME} : (mNewV c m ρ S).DoesE E Q = (m ρ S).DoesE E fun _ S1 => Q (.exn c []) S1 := by
  unfold mNewV
  rw [does_bind]; rfl
end
/-! ### isinstance(e, T), T a built-in error class -/
end Dm
-- text Hw32
namespace Dm
open PySem L2
end Dm
-- text DmTxt
namespace Dm
open PySem L2 PySem.Spec PyProof.Rows
open PySem.W (Frag)
/-! ### texts: join, split, isdigit, removeprefix, str, int -/
def strsOf : List D → Option (List Str)
  | [] => some []
  | .str x :: ds => (strsOf ds).map (x :: ·)
  | _ :: _ => none
theorem strsOf_eq : ∀ {ds : List D} {ns : List Str}, strsOf ds = some ns → ds = ns.map .str
  | [], ns, e => by cases e; rfl
  | d :: ds, ns, e => by
    cases d with
    | str i =>
      have e : (strsOf ds).map (i :: ·) = some ns := e
      cases q : strsOf ds with
      | none => rw [q] at e; exact nomatch e
      | some m =>
        rw [q] at e; cases e
        rw [strsOf_eq q] <;> rfl
    | _ => exact nomatch e
@[simp] theorem strsOf_map {ns : List Str} : strsOf (ns.map .str) = some ns := by
  induction ns with
  | nil => rfl
  | cons n ns ih => rw [List.map_cons]; show (strsOf _).map _ = _; rw [ih] <;> rfl
theorem rdsStrs {F : Fx} {μ : List Addr} {H : Hp} {ns : List Str} : ∀ {vs : List V}, RDs F μ H vs (ns.map .str) → vs = ns.map V.str := by
  induction ns with
  | nil => intro vs r; cases r; rfl
  | cons p ps ih =>
    intro vs r
    cases r with
    | cons a b =>
      cases a
      rw [ih b] <;> rfl
theorem strsRds {F : Fx} {μ : List Addr} {H : Hp} {ns : List Str} : RDs F μ H (ns.map V.str) (ns.map .str) := by
  induction ns with
  | nil => exact .nil
  | cons p ps ih => exact .cons (.str _) ih
def joinFit (a : Str) (ys : List Str) : Prop := (ys.map (·.length)).sum + ys.length * a.length ≤ 16777216
instance {a : Str} {ys : List Str} : Decidable (joinFit a ys) := inferInstanceAs (Decidable (_ ≤ _))
/-- o.join(e), o a text, e texts -/
def mJoin (mo me : ME) : ME := fun ρ S => (mo ρ S).bind fun x S1 => match x with
  | .str a => (me ρ S1).bind fun y S2 => match (seqOf S2 y).bind strsOf with
    | some ys => if joinFit a ys then .ok (.str (Txt.join a ys)) S2 else .bad
    | none => .bad
  | _ => .bad
/-- o.split(e) -/
def mSplit (mo me : ME) : MA := fun ρ S => (mo ρ S).bind fun x S1 => match x with
  | .str a => (me ρ S1).bind fun y S2 => match y with
    | .str b => if (b.length == 0) = false ∧ a.length + 2 ≤ sizeLine then .ok ((Txt.split a b).map .str) S2 else .bad
    | _ => .bad
  | _ => .bad
def gIsDig (_ : Sto) : D → Option D
  | .str x => some (.bl (Txt.isdigit x))
  | _ => none
/-- o.removeprefix(e) -/
def mRmPre (mo me : ME) : ME := fun ρ S => (mo ρ S).bind fun x S1 => match x with
  | .str a => (me ρ S1).bind fun y S2 => match y with
    | .str b => if a.length ≤ sizeLine then .ok (.str (Txt.removeprefix a b)) S2 else .bad
    | _ => .bad
  | _ => .bad
section
variable {X : Cx} {W : WX} {o e : Expr} {mo me : ME} {apos pos : Pos}
theorem d_join (ho : DE X W o mo) (he : DE X W e me) (hs : starEach [e] X.env = [(false, eval e X.env)] := by rfl) (hbase : attributeBase o "join" X.env (eval o X.env) = eval o X.env := by rfl) (hline : (apos.endLine == pos.line) = true := by rfl) :
    DE X W (.Call (.Attribute o "join" apos) [e] [] pos) (mJoin mo me) := by
  obtain ⟨to, po, ko⟩ := ho
  obtain ⟨te, pe, ke⟩ := he
  refine ⟨_, pe_join po pe hs hbase hline, fun ξ μ σ H ρ S Q g s h => ko ξ μ σ H ρ S _ g s (WR.bind h fun x S1 v μ1 H1 u1 s1 r1 w1 => ?_)⟩
  cases r1 with
  | str a =>
    simp only at w1
    refine ⟨⟨a, rfl⟩, ke ξ μ1 σ H1 ρ S1 _ (g.up u1) s1 (WR.bind w1 fun y S2 w μ2 H2 u2 s2 r2 w2 => ?_)⟩
    cases q0 : (seqOf S2 y).bind strsOf with
    | none => rw [q0] at w2; exact w2.elim
    | some ys =>
      rw [q0] at w2
      simp only at w2
      by_cases c : joinFit a ys
      · rw [if_pos c] at w2
        cases q1 : seqOf S2 y with
        | none => rw [q1] at q0; exact nomatch q0
        | some ds =>
          rw [q1] at q0
          have q0 : strsOf ds = some ys := q0
          have ed := strsOf_eq q0
          subst ed
          have fin := w2 _ μ2 H2 .refl s2 (.str _)
          cases y with
          | tup ds' =>
            cases q1
            cases r2 with
            | tup f rr =>
              have := rdsStrs rr
              subst this
              exact ⟨a, _, ys, rfl, rfl, .inr f.sq, c, fin⟩
          | _ =>
            obtain ⟨p, xs, rfl, h1, rr⟩ := RD.lstS s2 r2 (by simpa [seqOf] using q1)
            have := rdsStrs rr
            subst this
            exact ⟨a, p, ys, rfl, rfl, .inl h1, c, fin⟩
      · rw [if_neg c] at w2; exact w2.elim
  | _ => exact w1.elim
theorem dl_split (ho : DE X W o mo) (he : DE X W e me) (hs : starEach [e] X.env = [(false, eval e X.env)] := by rfl) (hbase : attributeBase o "split" X.env (eval o X.env) = eval o X.env := by rfl) (hline : (apos.endLine == pos.line) = true := by rfl) :
    DL X W (.Call (.Attribute o "split" apos) [e] [] pos) (mSplit mo me) := by
  obtain ⟨to, po, ko⟩ := ho
  obtain ⟨te, pe, ke⟩ := he
  refine ⟨_, pe_split po pe hs hbase hline, fun ξ μ σ H ρ S Q g s h => ko ξ μ σ H ρ S _ g s (WL'.bind (f := fun (x : D) S1 => match x with
    | .str a => (me ρ S1).bind fun y S2 => match y with
      | .str b => if (b.length == 0) = false ∧ a.length + 2 ≤ sizeLine then .ok ((Txt.split a b).map .str) S2 else .bad
      | _ => .bad
    | _ => .bad) h fun x S1 v μ1 H1 u1 s1 r1 w1 => ?_)⟩
  cases r1 with
  | str a =>
    simp only at w1
    refine ⟨⟨a, rfl⟩, ke ξ μ1 σ H1 ρ S1 _ (g.up u1) s1 (WL'.bind (f := fun (y : D) S2 => match y with
      | .str b => if (b.length == 0) = false ∧ a.length + 2 ≤ sizeLine then .ok ((Txt.split a b).map .str) S2 else .bad
      | _ => .bad) w1 fun y S2 w μ2 H2 u2 s2 r2 w2 => ?_)⟩
    cases r2 with
    | str b =>
      simp only at w2
      by_cases c : (b.length == 0) = false ∧ a.length + 2 ≤ sizeLine
      · rw [if_pos c] at w2
        refine ⟨a, b, rfl, rfl, c.1, c.2, fun p np => ?_⟩
        exact w2 p _ μ2 _ (.fresh np) np (s2.holds np) strsRds upd_same
      · rw [if_neg c] at w2; exact w2.elim
    | _ => exact w2.elim
  | _ => exact w1.elim
theorem d_isdig (h : DE X W o mo) (hbase : attributeBase o "isdigit" X.env (eval o X.env) = eval o X.env := by rfl) (hline : (apos.endLine == pos.line) = true := by rfl) : DE X W (.Call (.Attribute o "isdigit" apos) [] [] pos) (mUn gIsDig mo) := by
  obtain ⟨te, pe, k⟩ := h
  refine ⟨_, pe_m0 PySem.F.slot_str_isdigit PySem.F.type_str_isdigit mt_isdigit pe hbase hline, fun ξ μ σ H ρ S Q g s h => k ξ μ σ H ρ S _ g s (WR.bind h fun x S1 v μ1 H1 u1 s1 r1 w1 => ?_)⟩
  cases r1 with
  | str a =>
    simp only [gIsDig] at w1
    exact ⟨⟨a, rfl⟩, a, rfl, rfl, trivial, w1 _ μ1 H1 .refl s1 (.bl _)⟩
  | _ => exact w1.elim
theorem d_rmpre (ho : DE X W o mo) (he : DE X W e me) (hs : starEach [e] X.env = [(false, eval e X.env)] := by rfl) (hbase : attributeBase o "removeprefix" X.env (eval o X.env) = eval o X.env := by rfl) (hline : (apos.endLine == pos.line) = true := by rfl) :
    DE X W (.Call (.Attribute o "removeprefix" apos) [e] [] pos) (mRmPre mo me) := by
  obtain ⟨to, po, ko⟩ := ho
  obtain ⟨te, pe, ke⟩ := he
  refine ⟨_, pe_m1 PySem.F.slot_str_removeprefix PySem.F.type_str_removeprefix mt_removeprefix po pe hs hbase hline, fun ξ μ σ H ρ S Q g s h => ko ξ μ σ H ρ S _ g s (WR.bind h fun x S1 v μ1 H1 u1 s1 r1 w1 => ?_)⟩
  cases r1 with
  | str a =>
    simp only at w1
    refine ⟨⟨a, rfl⟩, ke ξ μ1 σ H1 ρ S1 _ (g.up u1) s1 (WR.bind w1 fun y S2 w μ2 H2 u2 s2 r2 w2 => ?_)⟩
    cases r2 with
    | str b =>
      simp only at w2
      by_cases c : a.length ≤ sizeLine
      · rw [if_pos c] at w2
        exact ⟨a, b, rfl, rfl, c, w2 _ μ2 H2 .refl s2 (.str _)⟩
      · rw [if_neg c] at w2; exact w2.elim
    | _ => exact w2.elim
  | _ => exact w1.elim
/-- str(x), x a number or a text -/
def gStrS : Sto → List D → Option D := fun _ ds => match ds with
  | [.int i] => if i.natAbs.log2 < 1920 then some (.str (toString i)) else none
  | [.str a] => some (.str a)
  | _ => none
theorem c_strS : CallD X (fun xs H Q => (∃ i, xs = [.int i] ∧ i.natAbs.log2 < 1920 ∧ Q (.str (toString i)) H) ∨ ∃ a, xs = [.str a] ∧ Q (.str a) H) gStrS := by
  intro ξ μ H S ds vs z Q s r e k
  unfold gStrS at e
  cases r with
  | nil => exact nomatch e
  | @cons v vs d ds r rr =>
    cases rr with
    | cons _ _ => cases d <;> exact nomatch e
    | nil =>
      cases r with
      | int i =>
        simp only at e
        split at e
        · rename_i h
          cases e
          exact .inl ⟨i, rfl, h, k _ μ H .refl s (.str _)⟩
        · exact nomatch e
      | str a =>
        simp only at e
        cases e
        exact .inr ⟨a, rfl, k _ μ H .refl s (.str _)⟩
      | _ => exact nomatch e
theorem cr_strS : CallR X (.type "str") (fun xs H Q => (∃ i, xs = [.int i] ∧ i.natAbs.log2 < 1920 ∧ Q (.str (toString i)) H) ∨ ∃ a, xs = [.str a] ∧ Q (.str a) H) :=
  fun pins s σ H xs us Q I r h => h.elim (call_str_int pins s σ H xs us Q I r) (SkE.call_str_str pins s σ H xs us Q I r)
/-- int(x), x a text of few digits -/
def gIntS : Sto → List D → Option D := fun _ ds => match ds with
  | [.str a] => if a.length ≤ 640 then (PySem.intText? a).map .int else none
  | _ => none
theorem c_intS : CallD X (fun xs H Q => ∃ a n, xs = [.str a] ∧ PySem.intText? a = some n ∧ a.length ≤ 640 ∧ Q (.int n) H) gIntS := by
  intro ξ μ H S ds vs z Q s r e k
  unfold gIntS at e
  cases r with
  | nil => exact nomatch e
  | @cons v vs d ds r rr =>
    cases rr with
    | cons _ _ => cases d <;> exact nomatch e
    | nil =>
      cases r with
      | str a =>
        simp only at e
        split at e
        · rename_i h
          cases q : PySem.intText? a with
          | none => rw [q] at e; exact nomatch e
          | some n =>
            rw [q] at e; cases e
            exact ⟨a, n, rfl, q, h, k _ μ H .refl s (.int _)⟩
        · exact nomatch e
      | _ => exact nomatch e
end
section
variable {S : Sto} {ρ : Rho} {E : EX} {mo me : ME}
@[simp] theorem does_join {Q : D → Sto → Prop} : (mJoin mo me ρ S).DoesE E Q = (mo ρ S).DoesE E fun x S1 => match x with
  | .str a => (me ρ S1).DoesE E fun y S2 => match (seqOf S2 y).bind strsOf with
    | some ys => joinFit a ys ∧ Q (.str (Txt.join a ys)) S2
    | none => False
  | _ => False := by
  unfold mJoin
  rw [does_bind]; congr 1; funext x S1
  cases x with
  | str a =>
    simp only
    rw [does_bind]; congr 1; funext y S2
    cases (seqOf S2 y).bind strsOf with
    | none => rfl
    | some ys =>
      simp only
      by_cases c : joinFit a ys
      · rw [if_pos c]; simp [c]
      · rw [if_neg c]; simp [c, Res.DoesE]
  | _ => rfl
@[simp] theorem does_split {Q : List D → Sto → Prop} : (mSplit mo me ρ S).DoesE E Q = (mo ρ S).DoesE E fun x S1 => match x with
  | .str a => (me ρ S1).DoesE E fun y S2 => match y with
    | .str b => ((b.length == 0) = false ∧ a.length + 2 ≤ sizeLine) ∧ Q ((Txt.split a b).map .str) S2
    | _ => False
  | _ => False := by
  unfold mSplit
  rw [does_bind]; congr 1; funext x S1
  cases x with
  | str a =>
    simp only
    rw [does_bind]; congr 1; funext y S2
    cases y with
    | str b =>
      simp only
      by_cases c : (b.length == 0) = false ∧ a.length + 2 ≤ sizeLine
      · rw [if_pos c]; simp [c]
      · rw [if_neg c]
        have : ((b.length == 0) = false ∧ a.length + 2 ≤ sizeLine) = False := eq_false c
        simp only [this, false_and]; rfl
    | _ => rfl
  | _ => rfl
@[simp] theorem does_rmpre {Q : D → Sto → Prop} : (mRmPre mo me ρ S).DoesE E Q = (mo ρ S).DoesE E fun x S1 => match x with
  | .str a => (me ρ S1).DoesE E fun y S2 => match y with
    | .str b => a.length ≤ sizeLine ∧ Q (.str (Txt.removeprefix a b)) S2
    | _ => False
  | _ => False := by
  unfold mRmPre
  rw [does_bind]; congr 1; funext x S1
  cases x with
  | str a =>
    simp only
    rw [does_bind]; congr 1; funext y S2
    cases y with
    | str b =>
      simp only
      by_cases c : a.length ≤ sizeLine
      · rw [if_pos c]; simp [c]
      · rw [if_neg c]
        have : (a.length ≤ sizeLine) = False := eq_false c
        simp only [this, false_and]; rfl
    | _ => rfl
  | _ => rfl
@[simp] theorem gStrS_int {i : Int} (h : i.natAbs.log2 < 1920) : gStrS S [.int i] = some (.str (toString i)) := by
  show (if _ then _ else _) = _
  rw [if_pos h]
@[simp] theorem gStrS_str {a : Str} : gStrS S [.str a] = some (.str a) := rfl
end
end Dm
-- text Hw33
namespace Dm
open PySem L2
noncomputable section
def m_law_long_tale : List D → Sto → Res D := mDef 3 5 (mSeq (mAsg 3 (mOp gIx (mFz (mLst (mCons (mCall m_law_pick_v2 (mCons (mVar 0) (mCons (mK (.int 9)) mNil))) (mCons (mK (.int 8)) (mCons (mCall m_law_pick_v2 (mCons (mVar 0) (mCons (mK (.int 4)) mNil))) (mCons (mK (.int 8)) mNil)))))) (mCall m_law_pick_v2 (mCons (mVar 0) (mCons (mK (.int 4)) mNil))))) (mSeq (mAsg 4 (mFz (mCatV (mCall m_law_minutes_v2 (mCons (mVar 0) (mCons (mVar 1) mNil))) (mLst (mCons (mK (.int 100000)) (mCons (mK (.int (-100000))) mNil)))))) (mRet (mCall m_law_draw_tale (mCons (mVar 0) (mCons (mCallB gLen (mCons (mVar 1) mNil)) (mCons (mVar 3) (mCons (mVar 2) (mCons (mK (.bl true)) (mCons (mVar 4) (mCons (mTup mNil) mNil)))))))))))
end
end Dm
-- text Hw34
namespace Dm
open PySem L2
noncomputable section
def m_number_of : List D → Sto → Res D := mDef 2 3 (mSeq (mAsg 2 (mRmPre (mVar 0) (mK (.str "-")))) (mSeq (mIfS (mOr (mNot (mUn gIsDig (mVar 2))) (mOr (mOp gGt (mCallB gLen (mCons (mVar 2) mNil)) (mVar 1)) (mOp gEq (mVar 0) (mK (.str "-0"))))) (mRet (mK .non)) mNop) (mSeq (mIfS (mAnd (mOp gEq (mOp gIx (mVar 2) (mK (.int 0))) (mK (.str "0"))) (mOp gNe (mVar 2) (mK (.str "0")))) (mRet (mK .non)) mNop) (mRet (mCallB gIntS (mCons (mVar 0) mNil))))))
def m_slot_value : List D → Sto → Res D := mDef 2 2 (mSeq (mIfS (mOr (mOp gEq (mVar 0) (mK (.str "fold"))) (mOp gEq (mVar 0) (mK (.str "gap")))) (mRet (mVar 1)) mNop) (mRet (mCall m_number_of (mCons (mVar 1) (mCons (mK (.int 7)) mNil)))))
def m_slot_takes : List D → Sto → Res D := mDef 4 5 (mSeq (mAsg 4 (mCall m_slot_value (mCons (mVar 2) (mCons (mVar 3) mNil)))) (mSeq (mIfS (mOp (gIsN false) (mVar 4) (mK .non)) (mRet (mK (.bl false))) mNop) (mSeq (mIfS (mOp gEq (mVar 2) (mK (.str "most"))) (mRet (mChain gLe gLe (mK (.int 0)) (mVar 4) (mK (.int 1000000)))) mNop) (mRet (mCall m_is_part (mCons (mVar 0) (mCons (mVar 1) (mCons (mVar 2) (mCons (mVar 4) mNil)))))))))
def m_word_at : List D → Sto → Res D := mDef 2 2 (mSeq (mIfS (mOp gGe (mVar 1) (mCallB gLen (mCons (mVar 0) mNil))) (mRaiseX "InvalidWords" ["place"] (mCons (mCallB gLen (mCons (mVar 0) mNil)) mNil)) mNop) (mRet (mOp gIx (mVar 0) (mVar 1))))
def m_read_slots : List D → Sto → Res D := mDef 5 8 (mSeq (mAsg 5 (mNew (mLst (mCons (mOp gIx (mVar 3) (mVar 4)) mNil)))) (mSeq (mForA (mVar 2) (tgN 6) (mSeq (mAug 4 (fun i j => i + j) (mK (.int 1))) (mSeq (mAsg 7 (mCall m_word_at (mCons (mVar 3) (mCons (mVar 4) mNil)))) (mSeq (mIfS (mNot (mCall m_slot_takes (mCons (mVar 0) (mCons (mVar 1) (mCons (mVar 6) (mCons (mVar 7) mNil)))))) (mRaiseX "InvalidWords" ["place"] (mCons (mVar 4) mNil)) mNop) (mApp (mVar 5) (mCall m_slot_value (mCons (mVar 6) (mCons (mVar 7) mNil)))))))) (mRet (mCallB gTuple (mCons (mVar 5) mNil)))))
def m_read_wish : List D → Sto → Res D := mDef 3 5 (mSeq (mDrop (mCall m_need_zones (mCons (mVar 0) mNil))) (mSeq (mDrop (mCall m_need_program (mCons (mVar 0) (mCons (mVar 1) mNil)))) (mSeq (mAsg 3 (mFz (mSplit (mVar 2) (mK (.str " "))))) (mSeq (mIfS (mTbIn true [("found", (.tup [])), ("same", (.tup [(.str "point"), (.str "point")])), ("order", (.tup [(.str "point"), (.str "point")])), ("near", (.tup [(.str "point"), (.str "point"), (.str "most")]))] (mOp gIx (mVar 3) (mK (.int 0)))) (mRaiseX "InvalidWords" ["place"] (mCons (mK (.int 0)) mNil)) mNop) (mSeq (mAsg 4 (mCall m_read_slots (mCons (mVar 0) (mCons (mCall m_kinds_of (mCons (mVar 1) mNil)) (mCons (mTbIx [("found", (.tup [])), ("same", (.tup [(.str "point"), (.str "point")])), ("order", (.tup [(.str "point"), (.str "point")])), ("near", (.tup [(.str "point"), (.str "point"), (.str "most")]))] (mOp gIx (mVar 3) (mK (.int 0)))) (mCons (mVar 3) (mCons (mK (.int 0)) mNil))))))) (mSeq (mIfS (mOp gLt (mCallB gLen (mCons (mVar 4) mNil)) (mCallB gLen (mCons (mVar 3) mNil))) (mRaiseX "InvalidWords" ["place"] (mCons (mCallB gLen (mCons (mVar 4) mNil)) mNil)) mNop) (mRet (mVar 4))))))))
end
end Dm
-- text DmTxt2
namespace Dm
open PySem L2 PySem.Spec PyProof.Rows
open PySem.W (Frag)
/-! ### texts: each sign of one, a sign in one, one times a number -/
def chr1 (c : Nat) : Str := ⟨#[c]⟩
def chrsD (x : Str) : List D := x.cps.toList.map fun c => D.str (chr1 c)
theorem its_ok {F : Fx} {μ : List Addr} {H : Hp} {x : Str} (hl : x.length ≤ 16777216) : ItOk F μ H (Its x) (chrsD x) := by
  have el : (chrsD x).length = x.length := by simp [chrsD, Str.length]
  refine ⟨by rw [el]; exact hl, fun F' μ' H' S' i e u s hi => ⟨fun d hd => ?_, fun hi => ?_⟩⟩
  · have hlt : i < x.cps.size := by
      have q := (List.getElem?_eq_some_iff.mp hd).1
      rw [el] at q; exact q
    refine ⟨hlt, fun y H'' z => ?_⟩
    obtain ⟨e1, c, hc, rfl⟩ := z
    subst e1
    have e2 : d = .str (chr1 c) := by
      unfold chrsD at hd
      rw [List.getElem?_map, Array.getElem?_toList, hc] at hd
      exact (Option.some.inj hd).symm
    subst e2
    exact ⟨.refl, s, .str _⟩
  · rw [el] at hi
    exact Nat.le_of_eq hi.symm
/-- over the signs of a text -/
def iChr (m : ME) : MA := fun ρ S => (m ρ S).bind fun d S1 => match d with
  | .str x => if x.length ≤ 16777216 then .ok (chrsD x) S1 else .bad
  | _ => .bad
section
variable {X : Cx} {W : WX} {e tg : Expr} {m : ME}
theorem di_chr (h : DE X W e m) : DI X W tg e (iChr m) := by
  obtain ⟨te, pe, k⟩ := h
  refine ⟨_, pi_str pe, fun ξ μ σ H ρ S R g s h => k ξ μ σ H ρ S _ g s (WR.bind h fun d S1 v μ1 H1 u1 s1 r1 h1 => ?_)⟩
  cases r1 with
  | str x =>
    simp only at h1
    by_cases c : x.length ≤ 16777216
    · rw [if_pos c] at h1
      exact ⟨x, rfl, h1 _ μ1 H1 .refl s1 (its_ok c)⟩
    · rw [if_neg c] at h1; exact h1.elim
  | _ => exact h1.elim
def gInC (neg : Bool) : Sto → D → D → Option D := fun _ x y => match x, y with
  | .str a, .str z => match a.cps.toList with
    | [c] => some (.bl (if neg then !decide (c ∈ z.cps.toList) else decide (c ∈ z.cps.toList)))
    | _ => none
  | _, _ => none
theorem one_of {a : Str} {c : Nat} (h : a.cps.toList = [c]) : a = ⟨#[c]⟩ := Str.ext' (Array.toList_inj.mp h)
theorem o_notInC : OpD X rNotInS (gInC true) := by
  intro ξ μ H S x y v u z Q s rx ry e k
  cases rx with
  | str a =>
    cases ry with
    | str b =>
      unfold gInC at e
      simp only at e
      split at e
      · next c hc =>
        cases e
        exact ⟨c, b, by rw [one_of hc], rfl, k _ μ H .refl s (.bl _)⟩
      · exact nomatch e
    | _ => exact nomatch e
  | _ => cases ry <;> exact nomatch e
def repS (x : Str) (n : Nat) : Str := ⟨(List.replicate n x.cps).foldl (· ++ ·) #[]⟩
def rMulS : R2 := fun x y H Q => ∃ i n, x = .str i ∧ y = .int n ∧ 2 ≤ n ∧ n ≤ 100000 ∧ 1 ≤ i.length ∧ i.length ≤ 100 ∧ Q (.str (repS i n.toNat)) H
theorem repS_len (x : Str) (n : Nat) : (repS x n).length = n * x.length := by
  show ((List.replicate n x.cps).foldl (· ++ ·) #[]).size = _
  rw [len_reps]; simp [Str.length]
theorem op_mulS : OpR X (binaryOp .Mult) rMulS := by
  intro pins s σ H x y v u Q I rx ry h
  obtain ⟨i, n, rfl, rfl, h2, h3, h4, h5, q⟩ := h
  obtain ⟨t, rfl⟩ := rx
  obtain ⟨t', rfl⟩ := ry
  have ok := mulOk_of (x := i) (n := n) 100 100000 h5 (by omega) (by omega) (by decide) (by decide)
  refine P.mul_str ok.1 ok.2.1 ok.2.2 ?_
  have n1 : ¬ n < 1 := by omega
  have n2 : ¬ (n == 1 || i.length == 0) = true := by
    rw [Bool.or_eq_true, beq_iff_eq, beq_iff_eq]
    omega
  rw [if_neg n1, if_neg n2]
  refine ⟨?_, ⟨.str (repS i n.toNat), H, I.tok _, ⟨_, rfl⟩, q⟩⟩
  have := repS_len i n.toNat
  have hm : n.toNat * i.length ≤ 100000 * 100 := Nat.mul_le_mul (by omega) h5
  show (repS i n.toNat).length ≤ sizeLine
  rw [this]
  have : sizeLine = 16777216 := rfl
  omega
def gMulS : Sto → D → D → Option D := fun _ x y => match x, y with
  | .str i, .int n => if 2 ≤ n ∧ n ≤ 100000 ∧ 1 ≤ i.length ∧ i.length ≤ 100 then some (.str (repS i n.toNat)) else none
  | _, _ => none
theorem o_mulS : OpD X rMulS gMulS := by
  intro ξ μ H S x y v u z Q s rx ry e k
  cases rx with
  | str a =>
    cases ry with
    | int n =>
      unfold gMulS at e
      simp only at e
      by_cases c : 2 ≤ n ∧ n ≤ 100000 ∧ 1 ≤ a.length ∧ a.length ≤ 100
      · rw [if_pos c] at e
        cases e
        exact ⟨a, n, rfl, rfl, c.1, c.2.1, c.2.2.1, c.2.2.2, k _ μ H .refl s (.str _)⟩
      · rw [if_neg c] at e; exact nomatch e
    | _ => exact nomatch e
  | _ => cases ry <;> exact nomatch e
end
section
variable {S : Sto} {ρ : Rho} {E : EX} {Q : List D → Sto → Prop}
@[simp] theorem does_chr {m : ME} : (iChr m ρ S).DoesE E Q = (m ρ S).DoesE E fun d S1 => match d with
    | .str x => x.length ≤ 16777216 ∧ Q (chrsD x) S1
    | _ => False := by
  unfold iChr
  rw [does_bind]; congr 1; funext d S1
  cases d with
  | str x =>
    simp only
    by_cases c : x.length ≤ 16777216
    · rw [if_pos c]; simp [c]
    · rw [if_neg c]; simp [c, Res.DoesE]
  | _ => rfl
end
end Dm
-- text Hw35
namespace Dm
open PySem L2
noncomputable section
def m_law_writes : List D → Sto → Res D := mDef 3 5 (mSeq (mAsg 3 (mIf (mOp gEq (mSlS (mVar 0) mNoPart (mPart (mK (.int 1)))) (mK (.str "-"))) (mSlS (mVar 0) (mPart (mK (.int 1))) mNoPart) (mVar 0))) (mSeq (mIfS (mOr (mOp gEq (mVar 3) (mK (.str ""))) (mOr (mOp gGt (mCallB gLen (mCons (mVar 3) mNil)) (mK (.int 13))) (mOp gNe (mFz (mLc (iChr (mVar 3)) (tgN 4) (mOp (gInC true) (mVar 4) (mK (.str "0123456789"))) (mVar 4) [4])) (mFz (mLst mNil))))) (mRet (mK (.bl false))) mNop) (mSeq (mIfS (mAnd (mOp gEq (mOp gIx (mVar 3) (mK (.int 0))) (mK (.str "0"))) (mOp gNe (mVar 0) (mK (.str "0")))) (mRet (mK (.bl false))) mNop) (mRet (mChain gLe gLe (mVar 1) (mCallB gIntS (mCons (mVar 0) mNil)) (mVar 2))))))
def m_law_value_of : List D → Sto → Res D := mDef 1 1 (mRet (mIf (mCall m_law_writes (mCons (mVar 0) (mCons (mK (.int (-100000))) (mCons (mK (.int 1000000)) mNil)))) (mCallB gIntS (mCons (mVar 0) mNil)) (mVar 0)))
def m_law_odd_word : List D → Sto → Res D := mDef 1 2 (mSeq (mAsg 1 (mFz (mLst (mCons (mK (.str "")) (mCons (mK (.str "-")) (mCons (mK (.str "0")) (mCons (mK (.str "1")) (mCons (mK (.str "2")) (mCons (mK (.str "7")) (mCons (mK (.str "8")) (mCons (mK (.str "-0")) (mCons (mK (.str "00")) (mCons (mK (.str "07")) (mCons (mK (.str "-1")) mNil)))))))))))))) (mSeq (mAsg 1 (mFz (mCatV (mVar 1) (mLst (mCons (mK (.str "+1")) (mCons (mK (.str "100000")) (mCons (mK (.str "100001")) (mCons (mK (.str "-100000")) (mCons (mK (.str "-100001")) (mCons (mK (.str "x")) mNil)))))))))) (mSeq (mAsg 1 (mFz (mCatV (mVar 1) (mLst (mCons (mK (.str "read")) (mCons (mK (.str "find")) (mCons (mK (.str "offset")) (mCons (mK (.str "edition")) (mCons (mK (.str "plus")) (mCons (mK (.str "less")) mNil)))))))))) (mSeq (mAsg 1 (mFz (mCatV (mVar 1) (mLst (mCons (mK (.str "add")) (mCons (mK (.str "then")) (mCons (mK (.str "early")) (mCons (mK (.str "late")) (mCons (mK (.str "refuse")) (mCons (mK (.str "ahead")) mNil)))))))))) (mSeq (mAsg 1 (mFz (mCatV (mVar 1) (mLst (mCons (mK (.str "behind")) (mCons (mK (.str "found")) (mCons (mK (.str "same")) (mCons (mK (.str "order")) (mCons (mK (.str "near")) (mCons (mK (.str "1000000")) mNil)))))))))) (mSeq (mAsg 1 (mFz (mCatV (mVar 1) (mLst (mCons (mK (.str "1000001")) (mCons (mK (.str "Read")) (mCons (mK (.str "0_1")) (mCons (mK (.str "1.0")) (mCons (mK (.str "of")) (mCons (mK (.str "try")) mNil)))))))))) (mSeq (mAsg 1 (mFz (mCatV (mVar 1) (mLst (mCons (mK (.str "\n")) (mCons (mK (.str "0\n")) (mCons (mK (.str "--1")) (mCons (mK (.str "9999999999999")) (mCons (mK (.str "then then")) (mCons (mK (.str "thenthen")) (mCons (mOp gMulS (mK (.str "a")) (mK (.int 300))) (mCons (mOp gMulS (mK (.str "1")) (mK (.int 1500))) (mCons (mK (.str " ")) mNil))))))))))))) (mRet (mOp gIx (mVar 1) (mCall m_law_pick_v2 (mCons (mVar 0) (mCons (mCallB gLen (mCons (mVar 1) mNil)) mNil))))))))))))
def m_law_bent_word : List D → Sto → Res D := mDef 2 5 (mSeq (mAsg 2 (mOp gIx (mFz (mLst (mCons (mK (.str "0")) (mCons (mK (.str "1")) (mCons (mK (.str "-")) (mCons (mK (.str "_")) (mCons (mK (.str "+")) (mCons (mK (.str ".")) (mCons (mK (.str "a")) (mCons (mK (.str "d")) (mCons (mK (.str "\n")) (mCons (mK (.str " ")) (mCons (mK (.str "9")) (mCons (mK (.str "E")) (mCons (mK (.str "\"")) (mCons (mK (.str "~")) mNil)))))))))))))))) (mCall m_law_pick_v2 (mCons (mVar 0) (mCons (mK (.int 14)) mNil))))) (mSeq (mPar 3 4 (mCons (mCall m_law_pick_v2 (mCons (mVar 0) (mCons (mK (.int 4)) mNil))) (mCons (mCall m_law_pick_v2 (mCons (mVar 0) (mCons (mOp gAdd (mCallB gLen (mCons (mVar 1) mNil)) (mK (.int 1))) mNil))) mNil))) (mSeq (mIfS (mOp gLt (mVar 3) (mK (.int 2))) (mRet (mOp gCatS (mOp gCatS (mSlS (mVar 1) mNoPart (mPart (mVar 4))) (mVar 2)) (mSlS (mVar 1) (mPart (mOp gAdd (mVar 4) (mVar 3))) mNoPart))) mNop) (mSeq (mIfS (mOp gEq (mVar 3) (mK (.int 2))) (mRet (mOp gCatS (mSlS (mVar 1) mNoPart (mPart (mVar 4))) (mSlS (mVar 1) (mPart (mOp gAdd (mVar 4) (mK (.int 1)))) mNoPart))) mNop) (mRet (mOp gCatS (mOp gCatS (mSlS (mVar 1) mNoPart (mPart (mVar 4))) (mSlS (mVar 1) (mPart (mVar 4)) (mPart (mOp gAdd (mVar 4) (mK (.int 1)))))) (mSlS (mVar 1) (mPart (mVar 4)) mNoPart)))))))
def m_law_changed : List D → Sto → Res D := mDef 2 5 (mSeq (mAsg 2 (mFz (mLst (mCons (mCall m_law_odd_word (mCons (mVar 0) mNil)) mNil)))) (mSeq (mPar 3 4 (mCons (mCall m_law_pick_v2 (mCons (mVar 0) (mCons (mK (.int 10)) mNil))) (mCons (mCall m_law_pick_v2 (mCons (mVar 0) (mCons (mOp gAdd (mCallB gLen (mCons (mVar 1) mNil)) (mK (.int 1))) mNil))) mNil))) (mSeq (mIfS (mOp gLt (mVar 3) (mK (.int 3))) (mRet (mFz (mCatL (mCatW (mFz (mSlL (mVar 1) mNoPart (mPart (mVar 4)))) (mVar 2)) (mSlL (mVar 1) (mPart (mOp gAdd (mVar 4) (mCallB gInt1 (mCons (mOp gGt (mVar 3) (mK (.int 0))) mNil)))) mNoPart)))) mNop) (mSeq (mIfS (mOp gEq (mVar 3) (mK (.int 3))) (mRet (mFz (mCatL (mSlL (mVar 1) mNoPart (mPart (mVar 4))) (mSlL (mVar 1) (mPart (mOp gAdd (mVar 4) (mK (.int 1)))) mNoPart)))) mNop) (mSeq (mIfS (mOp gEq (mVar 3) (mK (.int 4))) (mRet (mFz (mCatL (mCatL (mSlL (mVar 1) mNoPart (mPart (mVar 4))) (mSlL (mVar 1) (mPart (mVar 4)) (mPart (mOp gAdd (mVar 4) (mK (.int 1)))))) (mSlL (mVar 1) (mPart (mVar 4)) mNoPart)))) mNop) (mSeq (mIfS (mOp gEq (mVar 3) (mK (.int 5))) (mRet (mFz (mSlL (mVar 1) mNoPart (mPart (mVar 4))))) mNop) (mSeq (mIfS (mOr (mOp gEq (mVar 3) (mK (.int 6))) (mOp gEq (mVar 4) (mCallB gLen (mCons (mVar 1) mNil)))) (mRet (mFz (mCatW (mVar 1) (mVar 2)))) mNop) (mSeq (mIfS (mOp gEq (mVar 3) (mK (.int 7))) (mRet (mFz (mCatL (mCatW (mFz (mSlL (mVar 1) mNoPart (mPart (mVar 4)))) (mBackA (mFz (mSlL (mVar 1) (mPart (mVar 4)) (mPart (mOp gAdd (mVar 4) (mK (.int 2)))))))) (mSlL (mVar 1) (mPart (mOp gAdd (mVar 4) (mK (.int 2)))) mNoPart)))) mNop) (mRet (mFz (mCatL (mCatL (mSlL (mVar 1) mNoPart (mPart (mVar 4))) (mLst (mCons (mCall m_law_bent_word (mCons (mVar 0) (mCons (mOp gIx (mVar 1) (mVar 4)) mNil))) mNil))) (mSlL (mVar 1) (mPart (mOp gAdd (mVar 4) (mK (.int 1)))) mNoPart))))))))))))
end
end Dm
-- text Hw36
namespace Dm
open PySem L2
noncomputable section
def m_law_wish_read : List D → Sto → Res D := mDef 2 7 (mSeq (mAsg 2 (mFz (mLc (iRange1 (mCons (mCallB gLen (mCons (mVar 0) mNil)) mNil)) (tgN 5) (mOp gNe (mOp gIx (mVar 0) (mVar 5)) (mK (.str "span"))) (mCallB gStrI (mCons (mVar 5) mNil)) [5]))) (mSeq (mAsg 3 (mDisp (mPCons (mK (.str "found")) (mK (.int 1)) (mPCons (mK (.str "same")) (mK (.int 3)) (mPCons (mK (.str "order")) (mK (.int 3)) (mPCons (mK (.str "near")) (mK (.int 4)) mPNil)))))) (mSeq (mIfS (mOp (gDIn true) (mOp gIx (mVar 1) (mK (.int 0))) (mVar 3)) (mRet (mK (.int 0))) mNop) (mSeq (mFor (iRange2 (mCons (mK (.int 1)) (mCons (mOp gDIx (mVar 3) (mOp gIx (mVar 1) (mK (.int 0)))) mNil))) (tgN 4) (mSeq (mIfS (mOp gEq (mVar 4) (mCallB gLen (mCons (mVar 1) mNil))) (mRet (mVar 4)) mNop) (mIfS (mOr (mAnd (mOp gLt (mVar 4) (mK (.int 3))) (mOp (gIn true) (mOp gIx (mVar 1) (mVar 4)) (mVar 2))) (mAnd (mOp gEq (mVar 4) (mK (.int 3))) (mNot (mCall m_law_writes (mCons (mOp gIx (mVar 1) (mVar 4)) (mCons (mK (.int 0)) (mCons (mK (.int 1000000)) mNil))))))) (mRet (mVar 4)) mNop))) (mSeq (mIfS (mOp gGt (mCallB gLen (mCons (mVar 1) mNil)) (mOp gDIx (mVar 3) (mOp gIx (mVar 1) (mK (.int 0))))) (mRet (mOp gDIx (mVar 3) (mOp gIx (mVar 1) (mK (.int 0))))) mNop) (mRet (mCallB gTuple (mCons (mFz (mLcA (mVar 1) (tgN 6) mYes (mCall m_law_value_of (mCons (mVar 6) mNil)) [6])) mNil))))))))
def m_law_asked_v5 : List D → Sto → Res D := mDef 3 8 (mSeq (mAsg 3 (mJoin (mK (.str " ")) (mVar 2))) (mSeq (mAsg 4 (mCall m_law_wish_read (mCons (mCall m_law_kinds_in (mCons (mVar 1) mNil)) (mCons (mFz (mSplit (mVar 3) (mK (.str " ")))) mNil)))) (mSeq (mAsg 5 (mK .non)) (mSeq (mAsg 6 (mK .non)) (mSeq (mTry ["InvalidProgram", "InvalidWords", "InvalidZones"] [("InvalidWords", some 7, (mAsg 5 (mTup (mCons (mUn (gXf "InvalidWords" "place") (mVar 7)) (mCons (mUn (gIsX ["InvalidProgram", "InvalidWords", "InvalidZones"] "HourError") (mVar 7)) (mCons (mUn (gIsX ["InvalidProgram", "InvalidWords", "InvalidZones"] "InvalidWish") (mVar 7)) (mCons (mUn (gIsX ["InvalidProgram", "InvalidWords", "InvalidZones"] "InvalidCommand") (mVar 7)) mNil)))))))] (mAsg 6 (mCall m_read_wish (mCons (mVar 0) (mCons (mVar 1) (mCons (mVar 3) mNil)))))) (mSeq (mIfS (mIsi .tup (mVar 4)) (mRet (mAnd (mOp (gIsN false) (mVar 5) (mK .non)) (mOp gEq (mCallB gRepr (mCons (mVar 6) mNil)) (mCallB gRepr (mCons (mVar 4) mNil))))) mNop) (mRet (mAnd (mOp (gIsN false) (mVar 6) (mK .non)) (mOp gEq (mCallB gRepr (mCons (mVar 5) mNil)) (mCallB gRepr (mCons (mTup (mCons (mVar 4) (mCons (mK (.bl true)) (mCons (mK (.bl false)) (mCons (mK (.bl false)) mNil))))) mNil)))))))))))
def m_law_right_v24 : List D → Sto → Res D := mDef 1 8 (mSeq (mAsg 1 (mCall m_law_draw_fields (mCons (mVar 0) (mCons (mOp gAdd (mK (.int 1)) (mCall m_law_pick_v2 (mCons (mVar 0) (mCons (mK (.int 2)) mNil)))) (mCons (mK (.int 3)) mNil))))) (mSeq (mAsg 2 (mCall m_law_long_tale (mCons (mVar 0) (mCons (mVar 1) (mCons (mK (.int 8)) mNil))))) (mSeq (mFor (iRange1 (mCons (mK (.int 8)) mNil)) (tgN 3) (mSeq (mAsg 4 (mFz (mLcA (mCall m_law_draw_want (mCons (mVar 0) (mCons (mCall m_law_hours_in (mCons (mVar 2) mNil)) mNil))) (tgN 7) mYes (mCallB gStrS (mCons (mVar 7) mNil)) [7]))) (mFor (iRange1 (mCons (mK (.int 3)) mNil)) (tgN 5) (mSeq (mIfS (mNot (mCall m_law_asked_v5 (mCons (mVar 1) (mCons (mVar 2) (mCons (mVar 4) mNil))))) (mRet (mK (.bl false))) mNop) (mAsg 4 (mCall m_law_changed (mCons (mVar 0) (mCons (mVar 4) mNil)))))))) (mSeq (mFor (iRange1 (mCons (mOp gAdd (mCallB gLen (mCons (mVar 2) mNil)) (mK (.int 2))) mNil)) (tgN 6) (mSeq (mIfS (mNot (mCall m_law_asked_v5 (mCons (mVar 1) (mCons (mVar 2) (mCons (mFz (mLst (mCons (mK (.str "same")) (mCons (mCallB gStrS (mCons (mVar 6) mNil)) (mCons (mK (.str "0")) mNil))))) mNil))))) (mRet (mK (.bl false))) mNop) (mIfS (mNot (mCall m_law_asked_v5 (mCons (mVar 1) (mCons (mVar 2) (mCons (mFz (mLst (mCons (mK (.str "near")) (mCons (mK (.str "0")) (mCons (mCallB gStrS (mCons (mVar 6) mNil)) (mCons (mK (.str "5")) mNil)))))) mNil))))) (mRet (mK (.bl false))) mNop))) (mRet (mAnd (mCall m_law_asked_v5 (mCons (mVar 1) (mCons (mVar 2) (mCons (mFz (mLst (mCons (mCall m_law_odd_word (mCons (mVar 0) mNil)) mNil))) mNil)))) (mCall m_law_asked_v5 (mCons (mVar 1) (mCons (mVar 2) (mCons (mFz (mLst (mCons (mK (.str "")) mNil))) mNil))))))))))
def m_law_k65_words_of_no_wish : List D → Sto → Res D := mDef 1 2 (mSeq (mForA (mCall m_law_cells (mCons (mVar 0) (mCons (mK (.int 5)) mNil))) (tgN 1) (mIfS (mNot (mCall m_law_right_v24 (mCons (mCall m_law_make_pot_v2 (mCons (mVar 1) mNil)) mNil))) (mRet (mK (.bl false))) mNop)) (mRet (mK (.bl true))))
end
end Dm
-- text V_k65
namespace V
open PySem L2 PySem.Spec PyProof.Rows Dm
open PySem.W (Frag)
theorem rvR {a : Addr} : L2.RelV (.ref a) (.ref a) := rfl
theorem rvS {x : Str} {t : Tok} : L2.RelV (.str x) (.str x t) := ⟨t, rfl⟩
def top (i : Nat) : Stmt := PySem.Challenge.pw_hoursmeant_k65_words_of_no_wish.main.body.getD i (.Pass ⟨0, 0, 0, 0⟩)
theorem kit_plain {K : PySem.W.Frag} {D : Addr} {x : String} (hx : PySem.W.kitMeta x = true) (h : PySem.W.mroIn K D (.type x) = some false) : PySem.W.kitOne K (.ref D) (.type x) = some false := by
  unfold PySem.W.kitOne PySem.W.kitCls
  have e : ((Value.ref D) == (Value.type x)) = false := rfl
  rw [e, if_neg Bool.false_ne_true]
  simp only
  rw [if_pos hx]
  exact h
theorem kit_own {K : PySem.W.Frag} {D C : Addr} {b : Bool} (hd : PySem.W.hasDictIn K C = true) (ht : PySem.W.typeIn K (.ref C) = some (.type "type")) (hr : PySem.W.subIn K (.ref C) (.ref C) = some true) (h : PySem.W.subIn K (.ref D) (.ref C) = some b) : PySem.W.kitOne K (.ref D) (.ref C) = some b := by
  unfold PySem.W.kitOne PySem.W.kitCls
  by_cases e : ((Value.ref D) == (Value.ref C)) = true
  · rw [if_pos e]
    have e2 : Value.ref D = Value.ref C := eq_of_beq e
    rw [e2, hr] at h
    exact h
  · rw [if_neg e]
    simp only
    obtain ⟨cd, hc, _⟩ := PySem.W.any_some hd
    rw [if_pos (by rw [hc, ht]; rfl)]
    exact h
structure Txt (K : Frag) (mg : Str → Option Value) (w : World) : Prop where
  n_all : mg "all" = none
  n_bool : mg "bool" = none
  n_enumerate : mg "enumerate" = none
  n_int : mg "int" = none
  n_isinstance : mg "isinstance" = none
  n_len : mg "len" = none
  n_list : mg "list" = none
  n_max : mg "max" = none
  n_min : mg "min" = none
  n_range : mg "range" = none
  n_repr : mg "repr" = none
  n_str : mg "str" = none
  n_tuple : mg "tuple" = none
  v_FOLDS : GlK K mg "FOLDS" (.tup [(.str "early"), (.str "late"), (.str "refuse")])
  v_GAPS : GlK K mg "GAPS" (.tup [(.str "ahead"), (.str "behind"), (.str "refuse")])
  v_MADE : GlT K w mg "MADE" [("read", (.str "reading")), ("find", (.str "moment")), ("offset", (.str "span")), ("edition", (.str "moment")), ("plus", (.str "reading")), ("less", (.str "moment"))]
  v_MOST_APART : ∃ t, mg "MOST_APART" = some (.int (1000000) t)
  v_MOST_DIGITS : ∃ t, mg "MOST_DIGITS" = some (.int (7) t)
  v_MOST_MINUTES : ∃ t, mg "MOST_MINUTES" = some (.int (100000) t)
  v_MOST_OFFSET : ∃ t, mg "MOST_OFFSET" = some (.int (900) t)
  v_MOST_SPACING : ∃ t, mg "MOST_SPACING" = some (.int (1000000) t)
  v_MOST_STEPS : ∃ t, mg "MOST_STEPS" = some (.int (8) t)
  v_PARTS : GlT K w mg "PARTS" [("read", (.tup [(.str "moment"), (.str "place")])), ("find", (.tup [(.str "reading"), (.str "place"), (.str "fold"), (.str "gap")])), ("offset", (.tup [(.str "moment"), (.str "place")])), ("edition", (.tup [(.str "moment"), (.str "place")])), ("plus", (.tup [(.str "moment"), (.str "span")])), ("less", (.tup [(.str "reading"), (.str "span")])), ("add", (.tup [(.str "point"), (.str "minutes")]))]
  v_WISH_SLOTS : GlT K w mg "WISH_SLOTS" [("found", (.tup [])), ("same", (.tup [(.str "point"), (.str "point")])), ("order", (.tup [(.str "point"), (.str "point")])), ("near", (.tup [(.str "point"), (.str "point"), (.str "most")]))]
  x_InvalidProgram : XcOk K mg "InvalidProgram"
  x_InvalidZones : XcOk K mg "InvalidZones"
  f_InvalidWords_place : XfOk K mg "InvalidWords" "place"
  i_HourError : IsOk K mg ["InvalidProgram", "InvalidWords", "InvalidZones"] "HourError"
  i_InvalidCommand : IsOk K mg ["InvalidProgram", "InvalidWords", "InvalidZones"] "InvalidCommand"
  i_InvalidWish : IsOk K mg ["InvalidProgram", "InvalidWords", "InvalidZones"] "InvalidWish"
  p__ImIsIs38 : PlOk K mg ["InvalidProgram", "InvalidWords", "InvalidZones"]
  t_InvalidWords_ImIsIs38 : TrOk K mg ["InvalidProgram", "InvalidWords", "InvalidZones"] "InvalidWords"
section
variable {P : Program} {w : World} {K : Frag} {mg : Str → Option Value} {base : Heap}
theorem Txt.c_FOLDS (T : Txt K mg w) {X : Cx} (hK : X.K = K := by rfl) (h : X.mg = mg := by rfl) : GlD X "FOLDS" (.tup [(.str "early"), (.str "late"), (.str "refuse")]) := T.v_FOLDS.glD hK h
theorem Txt.c_GAPS (T : Txt K mg w) {X : Cx} (hK : X.K = K := by rfl) (h : X.mg = mg := by rfl) : GlD X "GAPS" (.tup [(.str "ahead"), (.str "behind"), (.str "refuse")]) := T.v_GAPS.glD hK h
theorem Txt.c_MADE (T : Txt K mg w) {X : Cx} (hK : X.K = K := by rfl) (h : X.mg = mg := by rfl) (hw : X.w = w := by rfl) : GlT X.K X.w X.mg "MADE" [("read", (.str "reading")), ("find", (.str "moment")), ("offset", (.str "span")), ("edition", (.str "moment")), ("plus", (.str "reading")), ("less", (.str "moment"))] := by
  rw [hK, h, hw]
  exact T.v_MADE
theorem Txt.c_MOST_APART (T : Txt K mg w) {X : Cx} (h : X.mg = mg := by rfl) : GlD X "MOST_APART" (.int 1000000) := by
  obtain ⟨t, e⟩ := T.v_MOST_APART
  exact ⟨_, .int _, by rw [h]; exact e, ⟨t, rfl⟩, fun _ _ _ => .int _⟩
theorem Txt.c_MOST_DIGITS (T : Txt K mg w) {X : Cx} (h : X.mg = mg := by rfl) : GlD X "MOST_DIGITS" (.int 7) := by
  obtain ⟨t, e⟩ := T.v_MOST_DIGITS
  exact ⟨_, .int _, by rw [h]; exact e, ⟨t, rfl⟩, fun _ _ _ => .int _⟩
theorem Txt.c_MOST_MINUTES (T : Txt K mg w) {X : Cx} (h : X.mg = mg := by rfl) : GlD X "MOST_MINUTES" (.int 100000) := by
  obtain ⟨t, e⟩ := T.v_MOST_MINUTES
  exact ⟨_, .int _, by rw [h]; exact e, ⟨t, rfl⟩, fun _ _ _ => .int _⟩
theorem Txt.c_MOST_OFFSET (T : Txt K mg w) {X : Cx} (h : X.mg = mg := by rfl) : GlD X "MOST_OFFSET" (.int 900) := by
  obtain ⟨t, e⟩ := T.v_MOST_OFFSET
  exact ⟨_, .int _, by rw [h]; exact e, ⟨t, rfl⟩, fun _ _ _ => .int _⟩
theorem Txt.c_MOST_SPACING (T : Txt K mg w) {X : Cx} (h : X.mg = mg := by rfl) : GlD X "MOST_SPACING" (.int 1000000) := by
  obtain ⟨t, e⟩ := T.v_MOST_SPACING
  exact ⟨_, .int _, by rw [h]; exact e, ⟨t, rfl⟩, fun _ _ _ => .int _⟩
theorem Txt.c_MOST_STEPS (T : Txt K mg w) {X : Cx} (h : X.mg = mg := by rfl) : GlD X "MOST_STEPS" (.int 8) := by
  obtain ⟨t, e⟩ := T.v_MOST_STEPS
  exact ⟨_, .int _, by rw [h]; exact e, ⟨t, rfl⟩, fun _ _ _ => .int _⟩
theorem Txt.c_PARTS (T : Txt K mg w) {X : Cx} (hK : X.K = K := by rfl) (h : X.mg = mg := by rfl) (hw : X.w = w := by rfl) : GlT X.K X.w X.mg "PARTS" [("read", (.tup [(.str "moment"), (.str "place")])), ("find", (.tup [(.str "reading"), (.str "place"), (.str "fold"), (.str "gap")])), ("offset", (.tup [(.str "moment"), (.str "place")])), ("edition", (.tup [(.str "moment"), (.str "place")])), ("plus", (.tup [(.str "moment"), (.str "span")])), ("less", (.tup [(.str "reading"), (.str "span")])), ("add", (.tup [(.str "point"), (.str "minutes")]))] := by
  rw [hK, h, hw]
  exact T.v_PARTS
theorem Txt.c_WISH_SLOTS (T : Txt K mg w) {X : Cx} (hK : X.K = K := by rfl) (h : X.mg = mg := by rfl) (hw : X.w = w := by rfl) : GlT X.K X.w X.mg "WISH_SLOTS" [("found", (.tup [])), ("same", (.tup [(.str "point"), (.str "point")])), ("order", (.tup [(.str "point"), (.str "point")])), ("near", (.tup [(.str "point"), (.str "point"), (.str "most")]))] := by
  rw [hK, h, hw]
  exact T.v_WISH_SLOTS
abbrev s_is_integer : Stmt := top 12
theorem sc_is_integer : FnScope ["value"] ["value"] (defScope s_is_integer) := ⟨rfl, rfl, rfl, by decide +kernel, rfl, by decide +kernel, by decide +kernel⟩
theorem fn_is_integer (T : Txt K mg w) {f : Addr} {fd : FuncData} (hm : mg "is_integer" = some (.ref f)) (F : Fun K "is_integer" "is_integer" s_is_integer f fd) : FnDG P w K mg base 1 "is_integer" s_is_integer ["value"] m_is_integer := by
  refine fnd_mkG (np := 1) (nN := 1) (k := 0) hm F (F.binds fun _ _ _ _ _ _ us hl => match us, hl with | [_], _ => rfl) sc_is_integer rfl rfl fun cdv A outer s H E hr => ?_
  have tk : Takes (cxOf (L2.CX P w) P w K mg base ["value"] "is_integer" (defScope s_is_integer) f cdv A outer s H E) (fun cls d _ H => E cls d H) := takes_of rfl rfl rfl rfl
  exact (dss_one (ds_ret (d_and (d_isi .int (d_var 0) T.n_isinstance T.n_int) (d_one (d_not (d_isi .bl (d_var 0) T.n_isinstance T.n_bool))))))
abbrev s_is_zone : Stmt := top 13
theorem sc_is_zone : FnScope ["value", "offsets", "spacing", "offset", "k"] ["value"] (defScope s_is_zone) := ⟨rfl, rfl, rfl, by decide +kernel, rfl, by decide +kernel, by decide +kernel⟩
theorem fn_is_zone (T : Txt K mg w) {f : Addr} {fd : FuncData} (hm : mg "is_zone" = some (.ref f)) (F : Fun K "is_zone" "is_zone" s_is_zone f fd) (G_is_integer : FnDG P w K mg base 1 "is_integer" s_is_integer ["value"] m_is_integer) : FnDG P w K mg base 2 "is_zone" s_is_zone ["value"] m_is_zone := by
  refine fnd_mkG (np := 1) (nN := 5) (k := 1) hm F (F.binds fun _ _ _ _ _ _ us hl => match us, hl with | [_], _ => rfl) sc_is_zone rfl rfl fun cdv A outer s H E hr => ?_
  have tk : Takes (cxOf (L2.CX P w) P w K mg base ["value", "offsets", "spacing", "offset", "k"] "is_zone" (defScope s_is_zone) f cdv A outer s H E) (fun cls d _ H => E cls d H) := takes_of rfl rfl rfl rfl
  exact (dss_cons (ds_if (DT.w (dw_or (dt_not (dt_val (d_isi .tup (d_var 0) T.n_isinstance T.n_tuple))) (dw_or1 (dt_cmp (op_neA hr.units) o_ne (d_callB call_len c_len T.n_len (da_cons (d_var 0) da_nil)) d_int)))) (dss_one (ds_ret d_bl)) dss_nil) (dss_cons (ds_asg (d_var 0) (dg_tup rfl (dgs_cons (dg_name 1 sc_is_zone.nd) (dgs_cons (dg_name 2 sc_is_zone.nd) dgs_nil)))) (dss_cons (ds_if (DT.w (dw_or (dt_not (dt_val (d_isi .tup (d_var 1) T.n_isinstance T.n_tuple))) (dw_or1 (dt_not (dt_chain op_le op_le o_le o_le d_int (d_callB call_len c_len T.n_len (da_cons (d_var 1) da_nil)) d_int))))) (dss_one (ds_ret d_bl)) dss_nil) (dss_cons (ds_for (passes_of rfl) rfl (di_seq (d_var 1)) (dg_name 3 sc_is_zone.nd) (dss_one (ds_if (DT.w (dw_or (dt_not (dt_val (d_callG G_is_integer hr tk (da_cons (d_var 3) da_nil)))) (dw_or1 (dt_not (dt_chain op_le op_le o_le o_le (d_un un_neg o_neg (d_glob rfl (T.c_MOST_OFFSET))) (d_var 3) (d_glob rfl (T.c_MOST_OFFSET))))))) (dss_one (ds_ret d_bl)) dss_nil))) (dss_cons (ds_for (passes_of rfl) rfl (di_range2 (da_cons d_int (da_cons (d_callB call_len c_len T.n_len (da_cons (d_var 1) da_nil)) da_nil)) T.n_range) (dg_name 4 sc_is_zone.nd) (dss_one (ds_if (dt_cmp op_le o_le (d_ix ix_seq o_ix (d_var 1) (d_var 4)) (d_ix ix_seq o_ix (d_var 1) (d_op op_sub o_sub (d_var 4) d_int))) (dss_one (ds_ret d_bl)) dss_nil))) (dss_one (ds_ret (d_and (d_callG G_is_integer hr tk (da_cons (d_var 2) da_nil)) (d_one (d_chain op_lt op_le o_lt o_le (d_op op_sub o_sub (d_ix ix_seq o_ix (d_var 1) (d_fold (d := .int (-1)) (d_un un_neg o_neg d_int) (fun _ _ => rfl))) (d_ix ix_seq o_ix (d_var 1) d_int)) (d_var 2) (d_glob rfl (T.c_MOST_SPACING))))))))))))
abbrev s_is_zones : Stmt := top 14
theorem sc_is_zones : FnScope ["value", "zone"] ["value"] (defScope s_is_zones) := ⟨rfl, rfl, rfl, by decide +kernel, rfl, by decide +kernel, by decide +kernel⟩
theorem fn_is_zones (T : Txt K mg w) {f : Addr} {fd : FuncData} (hm : mg "is_zones" = some (.ref f)) (F : Fun K "is_zones" "is_zones" s_is_zones f fd) (G_is_zone : FnDG P w K mg base 2 "is_zone" s_is_zone ["value"] m_is_zone) : FnDG P w K mg base 3 "is_zones" s_is_zones ["value"] m_is_zones := by
  refine fnd_mkG (np := 1) (nN := 2) (k := 2) hm F (F.binds fun _ _ _ _ _ _ us hl => match us, hl with | [_], _ => rfl) sc_is_zones rfl rfl fun cdv A outer s H E hr => ?_
  have tk : Takes (cxOf (L2.CX P w) P w K mg base ["value", "zone"] "is_zones" (defScope s_is_zones) f cdv A outer s H E) (fun cls d _ H => E cls d H) := takes_of rfl rfl rfl rfl
  exact (dss_cons (ds_if (DT.w (dw_or (dt_not (dt_val (d_isi .tup (d_var 0) T.n_isinstance T.n_tuple))) (dw_or1 (dt_not (dt_chain op_le op_le o_le o_le d_int (d_callB call_len c_len T.n_len (da_cons (d_var 0) da_nil)) d_int))))) (dss_one (ds_ret d_bl)) dss_nil) (dss_one (ds_ret (d_callB (cr_all rfl) c_all T.n_all (da_cons (d_fz (dl_lcA (own := [("zone", 1)]) rfl sc_is_zones.nd (d_var 0) (blkOk_by (own := [("zone", 1)]) (N := ["value", "zone"]) (sc := defScope s_is_zones) (by decide +kernel)) (fun _ _ _ _ _ => (dg_name 1 sc_is_zones.nd)) (fun _ _ _ _ _ => dts_nil) (fun _ _ _ _ _ => (d_callG G_is_zone hr takes0 (da_cons (d_var 1) da_nil))))) da_nil)))))
abbrev s_need_zones : Stmt := top 15
theorem sc_need_zones : FnScope ["zones"] ["zones"] (defScope s_need_zones) := ⟨rfl, rfl, rfl, by decide +kernel, rfl, by decide +kernel, by decide +kernel⟩
theorem fn_need_zones (T : Txt K mg w) {f : Addr} {fd : FuncData} (hm : mg "need_zones" = some (.ref f)) (F : Fun K "need_zones" "need_zones" s_need_zones f fd) (G_is_zones : FnDG P w K mg base 3 "is_zones" s_is_zones ["value"] m_is_zones) : FnDG P w K mg base 4 "need_zones" s_need_zones ["zones"] m_need_zones := by
  refine fnd_mkG (np := 1) (nN := 1) (k := 3) hm F (F.binds fun _ _ _ _ _ _ us hl => match us, hl with | [_], _ => rfl) sc_need_zones rfl rfl fun cdv A outer s H E hr => ?_
  have tk : Takes (cxOf (L2.CX P w) P w K mg base ["zones"] "need_zones" (defScope s_need_zones) f cdv A outer s H E) (fun cls d _ H => E cls d H) := takes_of rfl rfl rfl rfl
  exact (dss_one (ds_if (dt_not (dt_val (d_callG G_is_zones hr tk (da_cons (d_var 0) da_nil)))) (dss_one (ds_raise T.x_InvalidZones rfl tk)) dss_nil))
abbrev s_is_part : Stmt := top 21
theorem sc_is_part : FnScope ["zones", "before", "part", "value"] ["zones", "before", "part", "value"] (defScope s_is_part) := ⟨rfl, rfl, rfl, by decide +kernel, rfl, by decide +kernel, by decide +kernel⟩
theorem fn_is_part (T : Txt K mg w) {f : Addr} {fd : FuncData} (hm : mg "is_part" = some (.ref f)) (F : Fun K "is_part" "is_part" s_is_part f fd) (G_is_integer : FnDG P w K mg base 1 "is_integer" s_is_integer ["value"] m_is_integer) : FnDG P w K mg base 2 "is_part" s_is_part ["zones", "before", "part", "value"] m_is_part := by
  refine fnd_mkG (np := 4) (nN := 4) (k := 1) hm F (F.binds fun _ _ _ _ _ _ us hl => match us, hl with | [_, _, _, _], _ => rfl) sc_is_part rfl rfl fun cdv A outer s H E hr => ?_
  have tk : Takes (cxOf (L2.CX P w) P w K mg base ["zones", "before", "part", "value"] "is_part" (defScope s_is_part) f cdv A outer s H E) (fun cls d _ H => E cls d H) := takes_of rfl rfl rfl rfl
  exact (dss_cons (ds_if (dt_cmp (op_eqA hr.units) o_eq (d_var 2) d_str) (dss_one (ds_ret (d_and (d_isi .str (d_var 3) T.n_isinstance T.n_str) (d_one (d_cmp op_in_seq o_in (d_var 3) (d_glob rfl (T.c_FOLDS)) (by rfl)))))) dss_nil) (dss_cons (ds_if (dt_cmp (op_eqA hr.units) o_eq (d_var 2) d_str) (dss_one (ds_ret (d_and (d_isi .str (d_var 3) T.n_isinstance T.n_str) (d_one (d_cmp op_in_seq o_in (d_var 3) (d_glob rfl (T.c_GAPS)) (by rfl)))))) dss_nil) (dss_cons (ds_if (dt_not (dt_val (d_callG G_is_integer hr tk (da_cons (d_var 3) da_nil)))) (dss_one (ds_ret d_bl)) dss_nil) (dss_cons (ds_if (dt_cmp (op_eqA hr.units) o_eq (d_var 2) d_str) (dss_one (ds_ret (d_chain op_le op_lt o_le o_lt d_int (d_var 3) (d_callB call_len c_len T.n_len (da_cons (d_var 0) da_nil))))) dss_nil) (dss_cons (ds_if (dt_cmp (op_eqA hr.units) o_eq (d_var 2) d_str) (dss_one (ds_ret (d_chain op_le op_le o_le o_le (d_un un_neg o_neg (d_glob rfl (T.c_MOST_MINUTES))) (d_var 3) (d_glob rfl (T.c_MOST_MINUTES))))) dss_nil) (dss_cons (ds_if (dt_not (dt_chain op_le op_lt o_le o_lt d_int (d_var 3) (d_callB call_len c_len T.n_len (da_cons (d_var 1) da_nil)))) (dss_one (ds_ret d_bl)) dss_nil) (dss_cons (ds_if (dt_cmp (op_eqA hr.units) o_eq (d_var 2) d_str) (dss_one (ds_ret (d_cmp (op_neA hr.units) o_ne (d_ix ix_seq o_ix (d_var 1) (d_var 3)) d_str))) dss_nil) (dss_one (ds_ret (d_cmp (op_eqA hr.units) o_eq (d_ix ix_seq o_ix (d_var 1) (d_var 3)) (d_var 2)))))))))))
abbrev s_is_step : Stmt := top 22
theorem sc_is_step : FnScope ["zones", "before", "value", "parts", "k", "part"] ["zones", "before", "value"] (defScope s_is_step) := ⟨rfl, rfl, rfl, by decide +kernel, rfl, by decide +kernel, by decide +kernel⟩
theorem fn_is_step (T : Txt K mg w) {f : Addr} {fd : FuncData} (hm : mg "is_step" = some (.ref f)) (F : Fun K "is_step" "is_step" s_is_step f fd) (G_is_part : FnDG P w K mg base 2 "is_part" s_is_part ["zones", "before", "part", "value"] m_is_part) : FnDG P w K mg base 3 "is_step" s_is_step ["zones", "before", "value"] m_is_step := by
  refine fnd_mkG (np := 3) (nN := 6) (k := 2) hm F (F.binds fun _ _ _ _ _ _ us hl => match us, hl with | [_, _, _], _ => rfl) sc_is_step rfl rfl fun cdv A outer s H E hr => ?_
  have tk : Takes (cxOf (L2.CX P w) P w K mg base ["zones", "before", "value", "parts", "k", "part"] "is_step" (defScope s_is_step) f cdv A outer s H E) (fun cls d _ H => E cls d H) := takes_of rfl rfl rfl rfl
  exact (dss_cons (ds_if (DT.w (dw_or (dt_not (dt_val (d_isi .tup (d_var 2) T.n_isinstance T.n_tuple))) (dw_or1 (dt_cmp (op_eqA hr.units) o_eq (d_callB call_len c_len T.n_len (da_cons (d_var 2) da_nil)) d_int)))) (dss_one (ds_ret d_bl)) dss_nil) (dss_cons (ds_if (DT.w (dw_or (dt_not (dt_val (d_isi .str (d_ix ix_seq o_ix (d_var 2) d_int) T.n_isinstance T.n_str))) (dw_or1 (dt_tbnot rfl (T.c_PARTS) (d_ix ix_seq o_ix (d_var 2) d_int))))) (dss_one (ds_ret d_bl)) dss_nil) (dss_cons (ds_set 3 sc_is_step.nd (d_tbix (by rfl) (T.c_PARTS) (d_ix ix_seq o_ix (d_var 2) d_int))) (dss_cons (ds_if (dt_cmp (op_neA hr.units) o_ne (d_callB call_len c_len T.n_len (da_cons (d_var 2) da_nil)) (d_op op_addD o_add (d_callB call_len c_len T.n_len (da_cons (d_var 3) da_nil)) d_int)) (dss_one (ds_ret d_bl)) dss_nil) (dss_one (ds_ret (d_callB (cr_all rfl) c_all T.n_all (da_cons (d_fz (dl_lc (own := [("k", 4), ("part", 5)]) rfl sc_is_step.nd (di_enum (d_var 3) T.n_enumerate) (blkOk_by (own := [("k", 4), ("part", 5)]) (N := ["zones", "before", "value", "parts", "k", "part"]) (sc := defScope s_is_step) (by decide +kernel)) (fun _ _ _ _ _ => (dg_any rfl (dgs_cons (dg_name 4 sc_is_step.nd) (dgs_cons (dg_name 5 sc_is_step.nd) dgs_nil)))) (fun _ _ _ _ _ => dts_nil) (fun _ _ _ _ _ => (d_callG G_is_part hr takes0 (da_cons (d_var 0) (da_cons (d_var 1) (da_cons (d_var 5) (da_cons (d_ix ix_seq o_ix (d_var 2) (d_op op_addD o_add (d_var 4) d_int)) da_nil)))))))) da_nil))))))))
abbrev s_kind_made : Stmt := top 23
theorem sc_kind_made : FnScope ["before", "step"] ["before", "step"] (defScope s_kind_made) := ⟨rfl, rfl, rfl, by decide +kernel, rfl, by decide +kernel, by decide +kernel⟩
theorem fn_kind_made (T : Txt K mg w) {f : Addr} {fd : FuncData} (hm : mg "kind_made" = some (.ref f)) (F : Fun K "kind_made" "kind_made" s_kind_made f fd) : FnDG P w K mg base 1 "kind_made" s_kind_made ["before", "step"] m_kind_made := by
  refine fnd_mkG (np := 2) (nN := 2) (k := 0) hm F (F.binds fun _ _ _ _ _ _ us hl => match us, hl with | [_, _], _ => rfl) sc_kind_made rfl rfl fun cdv A outer s H E hr => ?_
  have tk : Takes (cxOf (L2.CX P w) P w K mg base ["before", "step"] "kind_made" (defScope s_kind_made) f cdv A outer s H E) (fun cls d _ H => E cls d H) := takes_of rfl rfl rfl rfl
  exact (dss_cons (ds_if (dt_cmp (op_eqA hr.units) o_eq (d_ix ix_seq o_ix (d_var 1) d_int) d_str) (dss_one (ds_ret (d_ix ix_seq o_ix (d_var 0) (d_ix ix_seq o_ix (d_var 1) d_int)))) dss_nil) (dss_one (ds_ret (d_tbix (by rfl) (T.c_MADE) (d_ix ix_seq o_ix (d_var 1) d_int)))))
abbrev s_kinds_of : Stmt := top 24
theorem sc_kinds_of : FnScope ["program", "made", "step"] ["program"] (defScope s_kinds_of) := ⟨rfl, rfl, rfl, by decide +kernel, rfl, by decide +kernel, by decide +kernel⟩
theorem fn_kinds_of (T : Txt K mg w) {f : Addr} {fd : FuncData} (hm : mg "kinds_of" = some (.ref f)) (F : Fun K "kinds_of" "kinds_of" s_kinds_of f fd) (G_kind_made : FnDG P w K mg base 1 "kind_made" s_kind_made ["before", "step"] m_kind_made) : FnDG P w K mg base 2 "kinds_of" s_kinds_of ["program"] m_kinds_of := by
  refine fnd_mkG (np := 1) (nN := 3) (k := 1) hm F (F.binds fun _ _ _ _ _ _ us hl => match us, hl with | [_], _ => rfl) sc_kinds_of rfl rfl fun cdv A outer s H E hr => ?_
  have tk : Takes (cxOf (L2.CX P w) P w K mg base ["program", "made", "step"] "kinds_of" (defScope s_kinds_of) f cdv A outer s H E) (fun cls d _ H => E cls d H) := takes_of rfl rfl rfl rfl
  exact (dss_cons (ds_set 1 sc_kinds_of.nd (d_new (dl_lst (da_cons d_str da_nil)))) (dss_cons (ds_forA (passes_of rfl) rfl (d_var 0) (dg_name 2 sc_kinds_of.nd) (dss_one (ds_app (d_var 1) (d_callG G_kind_made hr tk (da_cons (d_var 1) (da_cons (d_var 2) da_nil))) (fun a b => ps_expr (pe_bm PySem.F.plainAttrs_list PySem.F.slot_list_append PySem.F.type_list_append mt_append a (pa_cons b pa_nil)))))) (dss_one (ds_ret (d_var 1)))))
abbrev s_is_program : Stmt := top 25
theorem sc_is_program : FnScope ["zones", "value", "before", "step"] ["zones", "value"] (defScope s_is_program) := ⟨rfl, rfl, rfl, by decide +kernel, rfl, by decide +kernel, by decide +kernel⟩
theorem fn_is_program (T : Txt K mg w) {f : Addr} {fd : FuncData} (hm : mg "is_program" = some (.ref f)) (F : Fun K "is_program" "is_program" s_is_program f fd) (G_kind_made : FnDG P w K mg base 1 "kind_made" s_kind_made ["before", "step"] m_kind_made) (G_is_step : FnDG P w K mg base 3 "is_step" s_is_step ["zones", "before", "value"] m_is_step) (G_need_zones : FnDG P w K mg base 4 "need_zones" s_need_zones ["zones"] m_need_zones) : FnDG P w K mg base 5 "is_program" s_is_program ["zones", "value"] m_is_program := by
  refine fnd_mkG (np := 2) (nN := 4) (k := 4) hm F (F.binds fun _ _ _ _ _ _ us hl => match us, hl with | [_, _], _ => rfl) sc_is_program rfl rfl fun cdv A outer s H E hr => ?_
  have tk : Takes (cxOf (L2.CX P w) P w K mg base ["zones", "value", "before", "step"] "is_program" (defScope s_is_program) f cdv A outer s H E) (fun cls d _ H => E cls d H) := takes_of rfl rfl rfl rfl
  exact (dss_cons (ds_expr (d_callG G_need_zones hr tk (da_cons (d_var 0) da_nil))) (dss_cons (ds_if (DT.w (dw_or (dt_not (dt_val (d_isi .tup (d_var 1) T.n_isinstance T.n_tuple))) (dw_or1 (dt_cmp op_gt o_gt (d_callB call_len c_len T.n_len (da_cons (d_var 1) da_nil)) (d_glob rfl (T.c_MOST_STEPS)))))) (dss_one (ds_ret d_bl)) dss_nil) (dss_cons (ds_set 2 sc_is_program.nd (d_new (dl_lst (da_cons d_str da_nil)))) (dss_cons (ds_forA (passes_of rfl) rfl (d_var 1) (dg_name 3 sc_is_program.nd) (dss_cons (ds_if (dt_not (dt_val (d_callG G_is_step hr tk (da_cons (d_var 0) (da_cons (d_var 2) (da_cons (d_var 3) da_nil)))))) (dss_one (ds_ret d_bl)) dss_nil) (dss_one (ds_app (d_var 2) (d_callG G_kind_made hr tk (da_cons (d_var 2) (da_cons (d_var 3) da_nil))) (fun a b => ps_expr (pe_bm PySem.F.plainAttrs_list PySem.F.slot_list_append PySem.F.type_list_append mt_append a (pa_cons b pa_nil))))))) (dss_one (ds_ret (d_cmp op_lt o_lt (d_callB call_len c_len T.n_len (da_cons (d_fz (dl_lcA (own := [("step", 3)]) rfl sc_is_program.nd (d_var 1) (blkOk_by (own := [("step", 3)]) (N := ["zones", "value", "before", "step"]) (sc := defScope s_is_program) (by decide +kernel)) (fun _ _ _ _ _ => (dg_name 3 sc_is_program.nd)) (fun _ _ _ _ _ => (dts_one (dt_cmp (op_eqA hr.units) o_eq (d_ix ix_seq o_ix (d_var 3) d_int) d_str))) (fun _ _ _ _ _ => (d_var 3)))) da_nil)) d_int)))))))
abbrev s_need_program : Stmt := top 26
theorem sc_need_program : FnScope ["zones", "program"] ["zones", "program"] (defScope s_need_program) := ⟨rfl, rfl, rfl, by decide +kernel, rfl, by decide +kernel, by decide +kernel⟩
theorem fn_need_program (T : Txt K mg w) {f : Addr} {fd : FuncData} (hm : mg "need_program" = some (.ref f)) (F : Fun K "need_program" "need_program" s_need_program f fd) (G_is_program : FnDG P w K mg base 5 "is_program" s_is_program ["zones", "value"] m_is_program) : FnDG P w K mg base 6 "need_program" s_need_program ["zones", "program"] m_need_program := by
  refine fnd_mkG (np := 2) (nN := 2) (k := 5) hm F (F.binds fun _ _ _ _ _ _ us hl => match us, hl with | [_, _], _ => rfl) sc_need_program rfl rfl fun cdv A outer s H E hr => ?_
  have tk : Takes (cxOf (L2.CX P w) P w K mg base ["zones", "program"] "need_program" (defScope s_need_program) f cdv A outer s H E) (fun cls d _ H => E cls d H) := takes_of rfl rfl rfl rfl
  exact (dss_one (ds_if (dt_not (dt_val (d_callG G_is_program hr tk (da_cons (d_var 0) (da_cons (d_var 1) da_nil))))) (dss_one (ds_raise T.x_InvalidProgram rfl tk)) dss_nil))
abbrev s_number_of : Stmt := top 31
theorem sc_number_of : FnScope ["word", "figures", "digits"] ["word", "figures"] (defScope s_number_of) := ⟨rfl, rfl, rfl, by decide +kernel, rfl, by decide +kernel, by decide +kernel⟩
theorem fn_number_of (T : Txt K mg w) {f : Addr} {fd : FuncData} (hm : mg "number_of" = some (.ref f)) (F : Fun K "number_of" "number_of" s_number_of f fd) : FnDG P w K mg base 1 "number_of" s_number_of ["word", "figures"] m_number_of := by
  refine fnd_mkG (np := 2) (nN := 3) (k := 0) hm F (F.binds fun _ _ _ _ _ _ us hl => match us, hl with | [_, _], _ => rfl) sc_number_of rfl rfl fun cdv A outer s H E hr => ?_
  have tk : Takes (cxOf (L2.CX P w) P w K mg base ["word", "figures", "digits"] "number_of" (defScope s_number_of) f cdv A outer s H E) (fun cls d _ H => E cls d H) := takes_of rfl rfl rfl rfl
  exact (dss_cons (ds_set 2 sc_number_of.nd (d_rmpre (d_var 0) d_str)) (dss_cons (ds_if (DT.w (dw_or (dt_not (dt_val (d_isdig (d_var 2)))) (dw_or (dt_cmp op_gt o_gt (d_callB call_len c_len T.n_len (da_cons (d_var 2) da_nil)) (d_var 1)) (dw_or1 (dt_cmp (op_eqA hr.units) o_eq (d_var 0) d_str))))) (dss_one (ds_ret d_non)) dss_nil) (dss_cons (ds_if (DT.w (dw_and (dt_cmp (op_eqA hr.units) o_eq (d_ix ix_seq o_ix (d_var 2) d_int) d_str) (dw_and1 (dt_cmp (op_neA hr.units) o_ne (d_var 2) d_str)))) (dss_one (ds_ret d_non)) dss_nil) (dss_one (ds_ret (d_callTy call_int_str c_intS T.n_int (da_cons (d_var 0) da_nil)))))))
abbrev s_slot_value : Stmt := top 32
theorem sc_slot_value : FnScope ["part", "word"] ["part", "word"] (defScope s_slot_value) := ⟨rfl, rfl, rfl, by decide +kernel, rfl, by decide +kernel, by decide +kernel⟩
theorem fn_slot_value (T : Txt K mg w) {f : Addr} {fd : FuncData} (hm : mg "slot_value" = some (.ref f)) (F : Fun K "slot_value" "slot_value" s_slot_value f fd) (G_number_of : FnDG P w K mg base 1 "number_of" s_number_of ["word", "figures"] m_number_of) : FnDG P w K mg base 2 "slot_value" s_slot_value ["part", "word"] m_slot_value := by
  refine fnd_mkG (np := 2) (nN := 2) (k := 1) hm F (F.binds fun _ _ _ _ _ _ us hl => match us, hl with | [_, _], _ => rfl) sc_slot_value rfl rfl fun cdv A outer s H E hr => ?_
  have tk : Takes (cxOf (L2.CX P w) P w K mg base ["part", "word"] "slot_value" (defScope s_slot_value) f cdv A outer s H E) (fun cls d _ H => E cls d H) := takes_of rfl rfl rfl rfl
  exact (dss_cons (ds_if (DT.w (dw_or (dt_cmp (op_eqA hr.units) o_eq (d_var 0) d_str) (dw_or1 (dt_cmp (op_eqA hr.units) o_eq (d_var 0) d_str)))) (dss_one (ds_ret (d_var 1))) dss_nil) (dss_one (ds_ret (d_callG G_number_of hr tk (da_cons (d_var 1) (da_cons (d_glob rfl (T.c_MOST_DIGITS)) da_nil))))))
abbrev s_slot_takes : Stmt := top 33
theorem sc_slot_takes : FnScope ["zones", "known", "part", "word", "value"] ["zones", "known", "part", "word"] (defScope s_slot_takes) := ⟨rfl, rfl, rfl, by decide +kernel, rfl, by decide +kernel, by decide +kernel⟩
theorem fn_slot_takes (T : Txt K mg w) {f : Addr} {fd : FuncData} (hm : mg "slot_takes" = some (.ref f)) (F : Fun K "slot_takes" "slot_takes" s_slot_takes f fd) (G_is_part : FnDG P w K mg base 2 "is_part" s_is_part ["zones", "before", "part", "value"] m_is_part) (G_slot_value : FnDG P w K mg base 2 "slot_value" s_slot_value ["part", "word"] m_slot_value) : FnDG P w K mg base 3 "slot_takes" s_slot_takes ["zones", "known", "part", "word"] m_slot_takes := by
  refine fnd_mkG (np := 4) (nN := 5) (k := 2) hm F (F.binds fun _ _ _ _ _ _ us hl => match us, hl with | [_, _, _, _], _ => rfl) sc_slot_takes rfl rfl fun cdv A outer s H E hr => ?_
  have tk : Takes (cxOf (L2.CX P w) P w K mg base ["zones", "known", "part", "word", "value"] "slot_takes" (defScope s_slot_takes) f cdv A outer s H E) (fun cls d _ H => E cls d H) := takes_of rfl rfl rfl rfl
  exact (dss_cons (ds_set 4 sc_slot_takes.nd (d_callG G_slot_value hr tk (da_cons (d_var 2) (da_cons (d_var 3) da_nil)))) (dss_cons (ds_if (dt_cmp op_isN o_isN (d_var 4) d_non) (dss_one (ds_ret d_bl)) dss_nil) (dss_cons (ds_if (dt_cmp (op_eqA hr.units) o_eq (d_var 2) d_str) (dss_one (ds_ret (d_chain op_le op_le o_le o_le d_int (d_var 4) (d_glob rfl (T.c_MOST_APART))))) dss_nil) (dss_one (ds_ret (d_callG G_is_part hr tk (da_cons (d_var 0) (da_cons (d_var 1) (da_cons (d_var 2) (da_cons (d_var 4) da_nil))))))))))
abbrev s_word_at : Stmt := top 34
theorem sc_word_at : FnScope ["parts", "at"] ["parts", "at"] (defScope s_word_at) := ⟨rfl, rfl, rfl, by decide +kernel, rfl, by decide +kernel, by decide +kernel⟩
theorem fn_word_at (T : Txt K mg w) {f : Addr} {fd : FuncData} (hm : mg "word_at" = some (.ref f)) (F : Fun K "word_at" "word_at" s_word_at f fd) (GI_InvalidWords : XiOk P w K mg base 1 "InvalidWords" ["place"]) : FnDG P w K mg base 3 "word_at" s_word_at ["parts", "at"] m_word_at := by
  refine fnd_mkG (np := 2) (nN := 2) (k := 2) hm F (F.binds fun _ _ _ _ _ _ us hl => match us, hl with | [_, _], _ => rfl) sc_word_at rfl rfl fun cdv A outer s H E hr => ?_
  have tk : Takes (cxOf (L2.CX P w) P w K mg base ["parts", "at"] "word_at" (defScope s_word_at) f cdv A outer s H E) (fun cls d _ H => E cls d H) := takes_of rfl rfl rfl rfl
  exact (dss_cons (ds_if (dt_cmp op_ge o_ge (d_var 1) (d_callB call_len c_len T.n_len (da_cons (d_var 0) da_nil))) (dss_one (ds_raiseX GI_InvalidWords rfl hr.toRoom tk (da_cons (d_callB call_len c_len T.n_len (da_cons (d_var 0) da_nil)) da_nil))) dss_nil) (dss_one (ds_ret (d_ix ix_seq o_ix (d_var 0) (d_var 1)))))
abbrev s_read_slots : Stmt := top 35
theorem sc_read_slots : FnScope ["zones", "known", "slots", "parts", "at", "values", "part", "word"] ["zones", "known", "slots", "parts", "at"] (defScope s_read_slots) := ⟨rfl, rfl, rfl, by decide +kernel, rfl, by decide +kernel, by decide +kernel⟩
theorem fn_read_slots (T : Txt K mg w) {f : Addr} {fd : FuncData} (hm : mg "read_slots" = some (.ref f)) (F : Fun K "read_slots" "read_slots" s_read_slots f fd) (G_slot_value : FnDG P w K mg base 2 "slot_value" s_slot_value ["part", "word"] m_slot_value) (G_slot_takes : FnDG P w K mg base 3 "slot_takes" s_slot_takes ["zones", "known", "part", "word"] m_slot_takes) (G_word_at : FnDG P w K mg base 3 "word_at" s_word_at ["parts", "at"] m_word_at) (GI_InvalidWords : XiOk P w K mg base 1 "InvalidWords" ["place"]) : FnDG P w K mg base 4 "read_slots" s_read_slots ["zones", "known", "slots", "parts", "at"] m_read_slots := by
  refine fnd_mkG (np := 5) (nN := 8) (k := 3) hm F (F.binds fun _ _ _ _ _ _ us hl => match us, hl with | [_, _, _, _, _], _ => rfl) sc_read_slots rfl rfl fun cdv A outer s H E hr => ?_
  have tk : Takes (cxOf (L2.CX P w) P w K mg base ["zones", "known", "slots", "parts", "at", "values", "part", "word"] "read_slots" (defScope s_read_slots) f cdv A outer s H E) (fun cls d _ H => E cls d H) := takes_of rfl rfl rfl rfl
  exact (dss_cons (ds_set 5 sc_read_slots.nd (d_new (dl_lst (da_cons (d_ix ix_seq o_ix (d_var 3) (d_var 4)) da_nil)))) (dss_cons (ds_forA (passes_of rfl) rfl (d_var 2) (dg_name 6 sc_read_slots.nd) (dss_cons (ds_aug 4 sc_read_slots.nd ip_add d_int) (dss_cons (ds_set 7 sc_read_slots.nd (d_callG G_word_at hr tk (da_cons (d_var 3) (da_cons (d_var 4) da_nil)))) (dss_cons (ds_if (dt_not (dt_val (d_callG G_slot_takes hr tk (da_cons (d_var 0) (da_cons (d_var 1) (da_cons (d_var 6) (da_cons (d_var 7) da_nil))))))) (dss_one (ds_raiseX GI_InvalidWords rfl hr.toRoom tk (da_cons (d_var 4) da_nil))) dss_nil) (dss_one (ds_app (d_var 5) (d_callG G_slot_value hr tk (da_cons (d_var 6) (da_cons (d_var 7) da_nil))) (fun a b => ps_expr (pe_bm PySem.F.plainAttrs_list PySem.F.slot_list_append PySem.F.type_list_append mt_append a (pa_cons b pa_nil))))))))) (dss_one (ds_ret (d_callTy call_tuple_of c_tuple T.n_tuple (da_cons (d_var 5) da_nil))))))
abbrev s_read_wish : Stmt := top 36
theorem sc_read_wish : FnScope ["zones", "program", "words", "parts", "wish"] ["zones", "program", "words"] (defScope s_read_wish) := ⟨rfl, rfl, rfl, by decide +kernel, rfl, by decide +kernel, by decide +kernel⟩
theorem fn_read_wish (T : Txt K mg w) {f : Addr} {fd : FuncData} (hm : mg "read_wish" = some (.ref f)) (F : Fun K "read_wish" "read_wish" s_read_wish f fd) (G_read_slots : FnDG P w K mg base 4 "read_slots" s_read_slots ["zones", "known", "slots", "parts", "at"] m_read_slots) (G_kinds_of : FnDG P w K mg base 2 "kinds_of" s_kinds_of ["program"] m_kinds_of) (G_need_program : FnDG P w K mg base 6 "need_program" s_need_program ["zones", "program"] m_need_program) (G_need_zones : FnDG P w K mg base 4 "need_zones" s_need_zones ["zones"] m_need_zones) (GI_InvalidWords : XiOk P w K mg base 1 "InvalidWords" ["place"]) : FnDG P w K mg base 7 "read_wish" s_read_wish ["zones", "program", "words"] m_read_wish := by
  refine fnd_mkG (np := 3) (nN := 5) (k := 6) hm F (F.binds fun _ _ _ _ _ _ us hl => match us, hl with | [_, _, _], _ => rfl) sc_read_wish rfl rfl fun cdv A outer s H E hr => ?_
  have tk : Takes (cxOf (L2.CX P w) P w K mg base ["zones", "program", "words", "parts", "wish"] "read_wish" (defScope s_read_wish) f cdv A outer s H E) (fun cls d _ H => E cls d H) := takes_of rfl rfl rfl rfl
  exact (dss_cons (ds_expr (d_callG G_need_zones hr tk (da_cons (d_var 0) da_nil))) (dss_cons (ds_expr (d_callG G_need_program hr tk (da_cons (d_var 0) (da_cons (d_var 1) da_nil)))) (dss_cons (ds_set 3 sc_read_wish.nd (d_fz (dl_split (d_var 2) d_str))) (dss_cons (ds_if (dt_tbnot rfl (T.c_WISH_SLOTS) (d_ix ix_seq o_ix (d_var 3) d_int)) (dss_one (ds_raiseX GI_InvalidWords rfl hr.toRoom tk (da_cons d_int da_nil))) dss_nil) (dss_cons (ds_set 4 sc_read_wish.nd (d_callG G_read_slots hr tk (da_cons (d_var 0) (da_cons (d_callG G_kinds_of hr tk (da_cons (d_var 1) da_nil)) (da_cons (d_tbix (by rfl) (T.c_WISH_SLOTS) (d_ix ix_seq o_ix (d_var 3) d_int)) (da_cons (d_var 3) (da_cons d_int da_nil))))))) (dss_cons (ds_if (dt_cmp op_lt o_lt (d_callB call_len c_len T.n_len (da_cons (d_var 4) da_nil)) (d_callB call_len c_len T.n_len (da_cons (d_var 3) da_nil))) (dss_one (ds_raiseX GI_InvalidWords rfl hr.toRoom tk (da_cons (d_callB call_len c_len T.n_len (da_cons (d_var 4) da_nil)) da_nil))) dss_nil) (dss_one (ds_ret (d_var 4)))))))))
abbrev s__law_make_pot : Stmt := top 38
theorem sc__law_make_pot : FnScope ["_law_cell", "_law_more"] ["_law_cell"] (defScope s__law_make_pot) := ⟨rfl, rfl, rfl, by decide +kernel, rfl, by decide +kernel, by decide +kernel⟩
theorem fn__law_make_pot (T : Txt K mg w) {f : Addr} {fd : FuncData} (hm : mg "_law_make_pot" = some (.ref f)) (F : Fun K "_law_make_pot" "_law_make_pot" s__law_make_pot f fd) : FnDG P w K mg base 1 "_law_make_pot" s__law_make_pot ["_law_cell"] m_law_make_pot_v2 := by
  refine fnd_mkG (np := 1) (nN := 2) (k := 0) hm F (F.binds fun _ _ _ _ _ _ us hl => match us, hl with | [_], _ => rfl) sc__law_make_pot rfl rfl fun cdv A outer s H E hr => ?_
  have tk : Takes (cxOf (L2.CX P w) P w K mg base ["_law_cell", "_law_more"] "_law_make_pot" (defScope s__law_make_pot) f cdv A outer s H E) (fun cls d _ H => E cls d H) := takes_of rfl rfl rfl rfl
  exact (dss_cons (ds_set 1 sc__law_make_pot.nd (d_ifExp (dt_cmp op_ge o_ge (d_var 0) (d_fold (d := .int 1000000000000000000) (d_op op_pow o_pow d_int d_int) (fun _ _ => rfl))) (d_op op_sub o_sub (d_var 0) (d_fold (d := .int 1000000000000000000) (d_op op_pow o_pow d_int d_int) (fun _ _ => rfl))) d_int)) (dss_one (ds_ret (d_new (dl_lst (da_cons (d_var 1) (da_cons (d_op op_mod o_mod (d_callTy call_int1 c_int1 T.n_int (da_cons (d_var 0) da_nil)) d_int) (da_cons d_int da_nil))))))))
abbrev s__law_pick : Stmt := top 39
theorem sc__law_pick : FnScope ["_law_pot", "_law_many", "_law_digit", "_law_turn", "_law_mixed"] ["_law_pot", "_law_many"] (defScope s__law_pick) := ⟨rfl, rfl, rfl, by decide +kernel, rfl, by decide +kernel, by decide +kernel⟩
theorem fn__law_pick (T : Txt K mg w) {f : Addr} {fd : FuncData} (hm : mg "_law_pick" = some (.ref f)) (F : Fun K "_law_pick" "_law_pick" s__law_pick f fd) : FnDG P w K mg base 1 "_law_pick" s__law_pick ["_law_pot", "_law_many"] m_law_pick_v2 := by
  refine fnd_mkG (np := 2) (nN := 5) (k := 0) hm F (F.binds fun _ _ _ _ _ _ us hl => match us, hl with | [_, _], _ => rfl) sc__law_pick rfl rfl fun cdv A outer s H E hr => ?_
  have tk : Takes (cxOf (L2.CX P w) P w K mg base ["_law_pot", "_law_many", "_law_digit", "_law_turn", "_law_mixed"] "_law_pick" (defScope s__law_pick) f cdv A outer s H E) (fun cls d _ H => E cls d H) := takes_of rfl rfl rfl rfl
  exact (dss_cons (ds_if (dt_cmp op_gt o_gt (d_ix ix_seq o_ix (d_var 0) d_int) d_int) (dss_cons (ds_set 2 sc__law_pick.nd (d_op op_mod o_mod (d_callTy call_int1 c_int1 T.n_int (da_cons (d_ix ix_seq o_ix (d_var 0) d_int) da_nil)) (d_var 1))) (dss_cons (ds_setIx (d_op op_fdivW o_fdiv (d_ix ix_seq o_ix (d_var 0) d_int) (d_var 1)) (d_var 0) d_int) (dss_one (ds_ret (d_var 2))))) dss_nil) (dss_cons (ds_setIx (d_op op_addD o_add (d_ix ix_seq o_ix (d_var 0) d_int) d_int) (d_var 0) d_int) (dss_cons (ds_set 3 sc__law_pick.nd (d_ix ix_seq o_ix (d_var 0) d_int)) (dss_cons (ds_set 4 sc__law_pick.nd (d_op op_addD o_add (d_op op_mulW o_mul (d_op op_addD o_add (d_ix ix_seq o_ix (d_var 0) d_int) d_int) (d_op op_addD o_add (d_op op_addD o_add (d_op op_mulW o_mul (d_op op_mulW o_mul d_int (d_var 3)) (d_var 3)) (d_op op_mulW o_mul d_int (d_var 3))) d_int)) (d_op op_mulW o_mul d_int (d_var 3)))) (dss_cons (ds_set 4 sc__law_pick.nd (d_op op_fdivW o_fdiv (d_op op_mod o_mod (d_callTy call_int1 c_int1 T.n_int (da_cons (d_op op_addD o_add (d_op op_mulW o_mul (d_var 4) (d_var 4)) (d_op op_mulW o_mul d_int (d_var 4))) da_nil)) d_int) d_int)) (dss_one (ds_ret (d_op op_mod o_mod (d_op op_fdivW o_fdiv (d_op op_mod o_mod (d_callTy call_int1 c_int1 T.n_int (da_cons (d_op op_addD o_add (d_op op_addD o_add (d_op op_mulW o_mul (d_var 4) (d_var 4)) (d_op op_mulW o_mul d_int (d_var 4))) (d_var 3)) da_nil)) d_int) d_int) (d_var 1)))))))))
abbrev s__law_cells : Stmt := top 40
theorem sc__law_cells : FnScope ["_law_script", "_law_many"] ["_law_script", "_law_many"] (defScope s__law_cells) := ⟨rfl, rfl, rfl, by decide +kernel, rfl, by decide +kernel, by decide +kernel⟩
theorem fn__law_cells (T : Txt K mg w) {f : Addr} {fd : FuncData} (hm : mg "_law_cells" = some (.ref f)) (F : Fun K "_law_cells" "_law_cells" s__law_cells f fd) : FnDG P w K mg base 1 "_law_cells" s__law_cells ["_law_script", "_law_many"] m_law_cells := by
  refine fnd_mkG (np := 2) (nN := 2) (k := 0) hm F (F.binds fun _ _ _ _ _ _ us hl => match us, hl with | [_, _], _ => rfl) sc__law_cells rfl rfl fun cdv A outer s H E hr => ?_
  have tk : Takes (cxOf (L2.CX P w) P w K mg base ["_law_script", "_law_many"] "_law_cells" (defScope s__law_cells) f cdv A outer s H E) (fun cls d _ H => E cls d H) := takes_of rfl rfl rfl rfl
  exact (dss_one (ds_ret (d_fz (dl_cat (dl_lst (da_cons d_int da_nil)) (dl_slL (d_var 0) do_none (do_some (d_var 1)))))))
abbrev s__law_draw_spot : Stmt := top 41
theorem sc__law_draw_spot : FnScope ["_law_pot", "_law_sorts", "_law_wanted", "_law_spots", "_law_k"] ["_law_pot", "_law_sorts", "_law_wanted"] (defScope s__law_draw_spot) := ⟨rfl, rfl, rfl, by decide +kernel, rfl, by decide +kernel, by decide +kernel⟩
theorem fn__law_draw_spot (T : Txt K mg w) {f : Addr} {fd : FuncData} (hm : mg "_law_draw_spot" = some (.ref f)) (F : Fun K "_law_draw_spot" "_law_draw_spot" s__law_draw_spot f fd) (G__law_pick : FnDG P w K mg base 1 "_law_pick" s__law_pick ["_law_pot", "_law_many"] m_law_pick_v2) : FnDG P w K mg base 2 "_law_draw_spot" s__law_draw_spot ["_law_pot", "_law_sorts", "_law_wanted"] m_law_draw_spot := by
  refine fnd_mkG (np := 3) (nN := 5) (k := 1) hm F (F.binds fun _ _ _ _ _ _ us hl => match us, hl with | [_, _, _], _ => rfl) sc__law_draw_spot rfl rfl fun cdv A outer s H E hr => ?_
  have tk : Takes (cxOf (L2.CX P w) P w K mg base ["_law_pot", "_law_sorts", "_law_wanted", "_law_spots", "_law_k"] "_law_draw_spot" (defScope s__law_draw_spot) f cdv A outer s H E) (fun cls d _ H => E cls d H) := takes_of rfl rfl rfl rfl
  exact (dss_cons (ds_setLc (mw := mFz) 3 (own := [("_law_k", 4)]) (rd_fz) rfl sc__law_draw_spot.nd (di_range1 (da_cons (d_callB call_len c_len T.n_len (da_cons (d_var 1) da_nil)) da_nil) T.n_range) (blkOk_by (own := [("_law_k", 4)]) (N := ["_law_pot", "_law_sorts", "_law_wanted", "_law_spots", "_law_k"]) (sc := defScope s__law_draw_spot) (by decide +kernel)) (fun _ _ _ _ _ => (dg_name 4 sc__law_draw_spot.nd)) (fun _ _ _ _ _ => (dts_one (dt_cmp op_in_seq o_in (d_ix ix_seq o_ix (d_var 1) (d_var 4)) (d_var 2) (by rfl)))) (fun _ _ _ _ _ => (d_var 4))) (dss_one (ds_ret (d_ix ix_seq o_ix (d_fz (dl_lst (da_cons (d_ix ix_seq o_ix (d_var 3) (d_fold (d := .int (-1)) (d_un un_neg o_neg d_int) (fun _ _ => rfl))) (da_cons (d_ix ix_seq o_ix (d_var 3) (d_callG G__law_pick hr tk (da_cons (d_var 0) (da_cons (d_callB call_len c_len T.n_len (da_cons (d_var 3) da_nil)) da_nil)))) da_nil)))) (d_callG G__law_pick hr tk (da_cons (d_var 0) (da_cons d_int da_nil)))))))
abbrev s__law_sort_behind : Stmt := top 42
theorem sc__law_sort_behind : FnScope ["_law_sorts", "_law_step", "_law_kind"] ["_law_sorts", "_law_step"] (defScope s__law_sort_behind) := ⟨rfl, rfl, rfl, by decide +kernel, rfl, by decide +kernel, by decide +kernel⟩
theorem fn__law_sort_behind (T : Txt K mg w) {f : Addr} {fd : FuncData} (hm : mg "_law_sort_behind" = some (.ref f)) (F : Fun K "_law_sort_behind" "_law_sort_behind" s__law_sort_behind f fd) : FnDG P w K mg base 1 "_law_sort_behind" s__law_sort_behind ["_law_sorts", "_law_step"] m_law_sort_behind := by
  refine fnd_mkG (np := 2) (nN := 3) (k := 0) hm F (F.binds fun _ _ _ _ _ _ us hl => match us, hl with | [_, _], _ => rfl) sc__law_sort_behind rfl rfl fun cdv A outer s H E hr => ?_
  have tk : Takes (cxOf (L2.CX P w) P w K mg base ["_law_sorts", "_law_step", "_law_kind"] "_law_sort_behind" (defScope s__law_sort_behind) f cdv A outer s H E) (fun cls d _ H => E cls d H) := takes_of rfl rfl rfl rfl
  exact (dss_cons (ds_set 2 sc__law_sort_behind.nd (d_disp (dps_cons d_str d_str (dps_cons d_str d_str (dps_cons d_str d_str (dps_cons d_str d_str (dps_cons d_str d_str dps_nil))))))) (dss_cons (ds_if (dt_cmp (op_eqA hr.units) o_eq (d_ix ix_seq o_ix (d_var 1) d_int) d_str) (dss_one (ds_ret (d_ix ix_seq o_ix (d_var 0) (d_ix ix_seq o_ix (d_var 1) d_int)))) dss_nil) (dss_one (ds_ret (d_get hr.units (d_var 2) (d_ix ix_seq o_ix (d_var 1) d_int) d_str)))))
abbrev s__law_kinds_in : Stmt := top 43
theorem sc__law_kinds_in : FnScope ["_law_tale", "_law_sorts", "_law_step"] ["_law_tale"] (defScope s__law_kinds_in) := ⟨rfl, rfl, rfl, by decide +kernel, rfl, by decide +kernel, by decide +kernel⟩
theorem fn__law_kinds_in (T : Txt K mg w) {f : Addr} {fd : FuncData} (hm : mg "_law_kinds_in" = some (.ref f)) (F : Fun K "_law_kinds_in" "_law_kinds_in" s__law_kinds_in f fd) (G__law_sort_behind : FnDG P w K mg base 1 "_law_sort_behind" s__law_sort_behind ["_law_sorts", "_law_step"] m_law_sort_behind) : FnDG P w K mg base 2 "_law_kinds_in" s__law_kinds_in ["_law_tale"] m_law_kinds_in := by
  refine fnd_mkG (np := 1) (nN := 3) (k := 1) hm F (F.binds fun _ _ _ _ _ _ us hl => match us, hl with | [_], _ => rfl) sc__law_kinds_in rfl rfl fun cdv A outer s H E hr => ?_
  have tk : Takes (cxOf (L2.CX P w) P w K mg base ["_law_tale", "_law_sorts", "_law_step"] "_law_kinds_in" (defScope s__law_kinds_in) f cdv A outer s H E) (fun cls d _ H => E cls d H) := takes_of rfl rfl rfl rfl
  exact (dss_cons (ds_set 1 sc__law_kinds_in.nd (d_new (dl_lst (da_cons d_str da_nil)))) (dss_cons (ds_forA (passes_of rfl) rfl (d_var 0) (dg_name 2 sc__law_kinds_in.nd) (dss_one (ds_app (d_var 1) (d_callG G__law_sort_behind hr tk (da_cons (d_var 1) (da_cons (d_var 2) da_nil))) (fun a b => ps_expr (pe_bm PySem.F.plainAttrs_list PySem.F.slot_list_append PySem.F.type_list_append mt_append a (pa_cons b pa_nil)))))) (dss_one (ds_ret (d_var 1)))))
abbrev s__law_rule : Stmt := top 44
theorem sc__law_rule : FnScope ["_law_pot", "_law_fold_word"] ["_law_pot"] (defScope s__law_rule) := ⟨rfl, rfl, rfl, by decide +kernel, rfl, by decide +kernel, by decide +kernel⟩
theorem fn__law_rule (T : Txt K mg w) {f : Addr} {fd : FuncData} (hm : mg "_law_rule" = some (.ref f)) (F : Fun K "_law_rule" "_law_rule" s__law_rule f fd) (G__law_pick : FnDG P w K mg base 1 "_law_pick" s__law_pick ["_law_pot", "_law_many"] m_law_pick_v2) : FnDG P w K mg base 2 "_law_rule" s__law_rule ["_law_pot"] m_law_rule := by
  refine fnd_mkG (np := 1) (nN := 2) (k := 1) hm F (F.binds fun _ _ _ _ _ _ us hl => match us, hl with | [_], _ => rfl) sc__law_rule rfl rfl fun cdv A outer s H E hr => ?_
  have tk : Takes (cxOf (L2.CX P w) P w K mg base ["_law_pot", "_law_fold_word"] "_law_rule" (defScope s__law_rule) f cdv A outer s H E) (fun cls d _ H => E cls d H) := takes_of rfl rfl rfl rfl
  exact (dss_cons (ds_set 1 sc__law_rule.nd (d_ix ix_seq o_ix (d_fz (dl_lst (da_cons d_str (da_cons d_str (da_cons d_str (da_cons d_str (da_cons d_str da_nil))))))) (d_callG G__law_pick hr tk (da_cons (d_var 0) (da_cons d_int da_nil))))) (dss_one (ds_ret (d_tup (da_cons (d_var 1) (da_cons (d_ix ix_seq o_ix (d_fz (dl_lst (da_cons d_str (da_cons d_str (da_cons d_str (da_cons d_str (da_cons d_str da_nil))))))) (d_callG G__law_pick hr tk (da_cons (d_var 0) (da_cons d_int da_nil)))) da_nil))))))
abbrev s__law_words_open : Stmt := top 45
theorem sc__law_words_open : FnScope ["_law_sorts", "_law_tale", "_law_left", "_law_editions", "_law_menu", "_law_step"] ["_law_sorts", "_law_tale", "_law_left", "_law_editions"] (defScope s__law_words_open) := ⟨rfl, rfl, rfl, by decide +kernel, rfl, by decide +kernel, by decide +kernel⟩
theorem fn__law_words_open (T : Txt K mg w) {f : Addr} {fd : FuncData} (hm : mg "_law_words_open" = some (.ref f)) (F : Fun K "_law_words_open" "_law_words_open" s__law_words_open f fd) : FnDG P w K mg base 1 "_law_words_open" s__law_words_open ["_law_sorts", "_law_tale", "_law_left", "_law_editions"] m_law_words_open := by
  refine fnd_mkG (np := 4) (nN := 6) (k := 0) hm F (F.binds fun _ _ _ _ _ _ us hl => match us, hl with | [_, _, _, _], _ => rfl) sc__law_words_open rfl rfl fun cdv A outer s H E hr => ?_
  have tk : Takes (cxOf (L2.CX P w) P w K mg base ["_law_sorts", "_law_tale", "_law_left", "_law_editions", "_law_menu", "_law_step"] "_law_words_open" (defScope s__law_words_open) f cdv A outer s H E) (fun cls d _ H => E cls d H) := takes_of rfl rfl rfl rfl
  exact (dss_cons (ds_set 4 sc__law_words_open.nd (d_fz (dl_lst (da_cons d_str da_nil)))) (dss_cons (ds_if (dt_cmp op_gt o_gt (d_var 2) d_int) (dss_cons (ds_set 4 sc__law_words_open.nd (d_fz (dl_catV (d_var 4) (dl_lst (da_cons d_str (da_cons d_str (da_cons d_str da_nil))))))) (dss_cons (ds_if (dt_cmp op_in_seq o_in d_str (d_var 0) (by rfl)) (dss_one (ds_set 4 sc__law_words_open.nd (d_fz (dl_catV (d_var 4) (dl_lst (da_cons d_str (da_cons d_str (da_cons d_str da_nil)))))))) dss_nil) (dss_one (ds_if (DT.w (dw_and (dt_val (d_var 3)) (dw_and1 (dt_cmp (op_eqA hr.units) o_eq (d_fz (dl_lcA (own := [("_law_step", 5)]) rfl sc__law_words_open.nd (d_var 1) (blkOk_by (own := [("_law_step", 5)]) (N := ["_law_sorts", "_law_tale", "_law_left", "_law_editions", "_law_menu", "_law_step"]) (sc := defScope s__law_words_open) (by decide +kernel)) (fun _ _ _ _ _ => (dg_name 5 sc__law_words_open.nd)) (fun _ _ _ _ _ => (dts_one (dt_cmp (op_eqA hr.units) o_eq (d_ix ix_seq o_ix (d_var 5) d_int) d_str))) (fun _ _ _ _ _ => (d_var 5)))) (d_fz (dl_lst da_nil)))))) (dss_one (ds_set 4 sc__law_words_open.nd (d_fz (dl_catV (d_var 4) (dl_lst (da_cons d_str da_nil)))))) dss_nil)))) dss_nil) (dss_cons (ds_if (dt_cmp op_in_seq o_in d_str (d_var 0) (by rfl)) (dss_cons (ds_set 4 sc__law_words_open.nd (d_fz (dl_catV (d_var 4) (dl_lst (da_cons d_str da_nil))))) (dss_one (ds_if (dt_cmp op_in_seq o_in d_str (d_var 0) (by rfl)) (dss_one (ds_set 4 sc__law_words_open.nd (d_fz (dl_catV (d_var 4) (dl_lst (da_cons d_str (da_cons d_str da_nil))))))) dss_nil))) dss_nil) (dss_one (ds_ret (d_var 4))))))
abbrev s__law_draw_step : Stmt := top 46
theorem sc__law_draw_step : FnScope ["_law_pot", "_law_many", "_law_sorts", "_law_menu", "_law_minutes_", "_law_word", "_law_wanted", "_law_at"] ["_law_pot", "_law_many", "_law_sorts", "_law_menu", "_law_minutes_"] (defScope s__law_draw_step) := ⟨rfl, rfl, rfl, by decide +kernel, rfl, by decide +kernel, by decide +kernel⟩
theorem fn__law_draw_step (T : Txt K mg w) {f : Addr} {fd : FuncData} (hm : mg "_law_draw_step" = some (.ref f)) (F : Fun K "_law_draw_step" "_law_draw_step" s__law_draw_step f fd) (G__law_pick : FnDG P w K mg base 1 "_law_pick" s__law_pick ["_law_pot", "_law_many"] m_law_pick_v2) (G__law_rule : FnDG P w K mg base 2 "_law_rule" s__law_rule ["_law_pot"] m_law_rule) (G__law_draw_spot : FnDG P w K mg base 2 "_law_draw_spot" s__law_draw_spot ["_law_pot", "_law_sorts", "_law_wanted"] m_law_draw_spot) : FnDG P w K mg base 3 "_law_draw_step" s__law_draw_step ["_law_pot", "_law_many", "_law_sorts", "_law_menu", "_law_minutes_"] m_law_draw_step := by
  refine fnd_mkG (np := 5) (nN := 8) (k := 2) hm F (F.binds fun _ _ _ _ _ _ us hl => match us, hl with | [_, _, _, _, _], _ => rfl) sc__law_draw_step rfl rfl fun cdv A outer s H E hr => ?_
  have tk : Takes (cxOf (L2.CX P w) P w K mg base ["_law_pot", "_law_many", "_law_sorts", "_law_menu", "_law_minutes_", "_law_word", "_law_wanted", "_law_at"] "_law_draw_step" (defScope s__law_draw_step) f cdv A outer s H E) (fun cls d _ H => E cls d H) := takes_of rfl rfl rfl rfl
  exact (dss_cons (ds_set 5 sc__law_draw_step.nd (d_ix ix_seq o_ix (d_var 3) (d_callG G__law_pick hr tk (da_cons (d_var 0) (da_cons (d_callB call_len c_len T.n_len (da_cons (d_var 3) da_nil)) da_nil))))) (dss_cons (ds_set 6 sc__law_draw_step.nd (d_disp (dps_cons d_str (d_fz (dl_lst (da_cons d_str da_nil))) (dps_cons d_str (d_fz (dl_lst (da_cons d_str da_nil))) (dps_cons d_str (d_fz (dl_lst (da_cons d_str (da_cons d_str da_nil)))) dps_nil))))) (dss_cons (ds_set 7 sc__law_draw_step.nd (d_callG G__law_draw_spot hr tk (da_cons (d_var 0) (da_cons (d_var 2) (da_cons (d_get hr.units (d_var 6) (d_var 5) (d_fz (dl_lst (da_cons d_str da_nil)))) da_nil))))) (dss_cons (ds_if (dt_cmp (op_eqA hr.units) o_eq (d_var 5) d_str) (dss_one (ds_ret (d_tup (da_cons (d_var 5) (da_cons (d_var 7) (da_cons (d_ix ix_seq o_ix (d_var 4) (d_callG G__law_pick hr tk (da_cons (d_var 0) (da_cons (d_callB call_len c_len T.n_len (da_cons (d_var 4) da_nil)) da_nil)))) da_nil)))))) dss_nil) (dss_cons (ds_if (dt_cmp op_in_seq o_in (d_var 5) (d_fz (dl_lst (da_cons d_str (da_cons d_str da_nil)))) (by rfl)) (dss_one (ds_ret (d_tup (da_cons (d_var 5) (da_cons (d_var 7) (da_cons (d_callG G__law_draw_spot hr tk (da_cons (d_var 0) (da_cons (d_var 2) (da_cons (d_fz (dl_lst (da_cons d_str da_nil))) da_nil)))) da_nil)))))) dss_nil) (dss_cons (ds_if (dt_cmp (op_eqA hr.units) o_eq (d_var 5) d_str) (dss_one (ds_ret (d_op op_addD o_add (d_tup (da_cons (d_var 5) (da_cons (d_var 7) (da_cons (d_callG G__law_pick hr tk (da_cons (d_var 0) (da_cons (d_var 1) da_nil))) da_nil)))) (d_callG G__law_rule hr tk (da_cons (d_var 0) da_nil))))) dss_nil) (dss_one (ds_ret (d_tup (da_cons (d_var 5) (da_cons (d_var 7) (da_cons (d_callG G__law_pick hr tk (da_cons (d_var 0) (da_cons (d_var 1) da_nil))) da_nil))))))))))))
abbrev s__law_draw_tale : Stmt := top 47
theorem sc__law_draw_tale : FnScope ["_law_pot", "_law_many", "_law_size", "_law_left", "_law_editions", "_law_minutes_", "_law_begun", "_law_tale", "_law_sorts", "_law_k", "_law_step"] ["_law_pot", "_law_many", "_law_size", "_law_left", "_law_editions", "_law_minutes_", "_law_begun"] (defScope s__law_draw_tale) := ⟨rfl, rfl, rfl, by decide +kernel, rfl, by decide +kernel, by decide +kernel⟩
theorem fn__law_draw_tale (T : Txt K mg w) {f : Addr} {fd : FuncData} (hm : mg "_law_draw_tale" = some (.ref f)) (F : Fun K "_law_draw_tale" "_law_draw_tale" s__law_draw_tale f fd) (G__law_sort_behind : FnDG P w K mg base 1 "_law_sort_behind" s__law_sort_behind ["_law_sorts", "_law_step"] m_law_sort_behind) (G__law_draw_step : FnDG P w K mg base 3 "_law_draw_step" s__law_draw_step ["_law_pot", "_law_many", "_law_sorts", "_law_menu", "_law_minutes_"] m_law_draw_step) (G__law_words_open : FnDG P w K mg base 1 "_law_words_open" s__law_words_open ["_law_sorts", "_law_tale", "_law_left", "_law_editions"] m_law_words_open) (G__law_kinds_in : FnDG P w K mg base 2 "_law_kinds_in" s__law_kinds_in ["_law_tale"] m_law_kinds_in) : FnDG P w K mg base 4 "_law_draw_tale" s__law_draw_tale ["_law_pot", "_law_many", "_law_size", "_law_left", "_law_editions", "_law_minutes_", "_law_begun"] m_law_draw_tale := by
  refine fnd_mkG (np := 7) (nN := 11) (k := 3) hm F (F.binds fun _ _ _ _ _ _ us hl => match us, hl with | [_, _, _, _, _, _, _], _ => rfl) sc__law_draw_tale rfl rfl fun cdv A outer s H E hr => ?_
  have tk : Takes (cxOf (L2.CX P w) P w K mg base ["_law_pot", "_law_many", "_law_size", "_law_left", "_law_editions", "_law_minutes_", "_law_begun", "_law_tale", "_law_sorts", "_law_k", "_law_step"] "_law_draw_tale" (defScope s__law_draw_tale) f cdv A outer s H E) (fun cls d _ H => E cls d H) := takes_of rfl rfl rfl rfl
  exact (dss_cons (ds_set 7 sc__law_draw_tale.nd (d_new (dl_callTy call_list_of c_list T.n_list (da_cons (d_var 6) da_nil)))) (dss_cons (ds_set 8 sc__law_draw_tale.nd (d_callG G__law_kinds_in hr tk (da_cons (d_var 6) da_nil))) (dss_cons (ds_for (passes_of rfl) rfl (di_range1 (da_cons (d_op op_sub o_sub (d_var 2) (d_callB call_len c_len T.n_len (da_cons (d_var 6) da_nil))) da_nil) T.n_range) (dg_name 9 sc__law_draw_tale.nd) (dss_cons (ds_set 10 sc__law_draw_tale.nd (d_callG G__law_draw_step hr tk (da_cons (d_var 0) (da_cons (d_var 1) (da_cons (d_var 8) (da_cons (d_callG G__law_words_open hr tk (da_cons (d_var 8) (da_cons (d_var 7) (da_cons (d_var 3) (da_cons (d_var 4) da_nil))))) (da_cons (d_var 5) da_nil))))))) (dss_cons (ds_set 3 sc__law_draw_tale.nd (d_op op_sub o_sub (d_var 3) (d_callTy call_int1 c_int1 T.n_int (da_cons (d_cmp op_in_seq o_in (d_ix ix_seq o_ix (d_var 10) d_int) (d_fz (dl_lst (da_cons d_str (da_cons d_str (da_cons d_str (da_cons d_str da_nil)))))) (by rfl)) da_nil)))) (dss_cons (ds_app (d_var 8) (d_callG G__law_sort_behind hr tk (da_cons (d_var 8) (da_cons (d_var 10) da_nil))) (fun a b => ps_expr (pe_bm PySem.F.plainAttrs_list PySem.F.slot_list_append PySem.F.type_list_append mt_append a (pa_cons b pa_nil)))) (dss_one (ds_app (d_var 7) (d_var 10) (fun a b => ps_expr (pe_bm PySem.F.plainAttrs_list PySem.F.slot_list_append PySem.F.type_list_append mt_append a (pa_cons b pa_nil))))))))) (dss_one (ds_ret (d_callTy call_tuple_of c_tuple T.n_tuple (da_cons (d_var 7) da_nil)))))))
abbrev s__law_hours_in : Stmt := top 48
theorem sc__law_hours_in : FnScope ["_law_tale", "_law_sorts", "_law_k"] ["_law_tale"] (defScope s__law_hours_in) := ⟨rfl, rfl, rfl, by decide +kernel, rfl, by decide +kernel, by decide +kernel⟩
theorem fn__law_hours_in (T : Txt K mg w) {f : Addr} {fd : FuncData} (hm : mg "_law_hours_in" = some (.ref f)) (F : Fun K "_law_hours_in" "_law_hours_in" s__law_hours_in f fd) (G__law_kinds_in : FnDG P w K mg base 2 "_law_kinds_in" s__law_kinds_in ["_law_tale"] m_law_kinds_in) : FnDG P w K mg base 3 "_law_hours_in" s__law_hours_in ["_law_tale"] m_law_hours_in := by
  refine fnd_mkG (np := 1) (nN := 3) (k := 2) hm F (F.binds fun _ _ _ _ _ _ us hl => match us, hl with | [_], _ => rfl) sc__law_hours_in rfl rfl fun cdv A outer s H E hr => ?_
  have tk : Takes (cxOf (L2.CX P w) P w K mg base ["_law_tale", "_law_sorts", "_law_k"] "_law_hours_in" (defScope s__law_hours_in) f cdv A outer s H E) (fun cls d _ H => E cls d H) := takes_of rfl rfl rfl rfl
  exact (dss_cons (ds_set 1 sc__law_hours_in.nd (d_callG G__law_kinds_in hr tk (da_cons (d_var 0) da_nil))) (dss_one (ds_ret (d_fz (dl_lc (own := [("_law_k", 2)]) rfl sc__law_hours_in.nd (di_range1 (da_cons (d_callB call_len c_len T.n_len (da_cons (d_var 1) da_nil)) da_nil) T.n_range) (blkOk_by (own := [("_law_k", 2)]) (N := ["_law_tale", "_law_sorts", "_law_k"]) (sc := defScope s__law_hours_in) (by decide +kernel)) (fun _ _ _ _ _ => (dg_name 2 sc__law_hours_in.nd)) (fun _ _ _ _ _ => (dts_one (dt_cmp (op_neA hr.units) o_ne (d_ix ix_seq o_ix (d_var 1) (d_var 2)) d_str))) (fun _ _ _ _ _ => (d_var 2)))))))
abbrev s__law_draw_shifts : Stmt := top 49
theorem sc__law_draw_shifts : FnScope ["_law_pot", "_law_way", "_law_some", "_law_near", "_law_low", "_law_high", "_law_middle"] ["_law_pot"] (defScope s__law_draw_shifts) := ⟨rfl, rfl, rfl, by decide +kernel, rfl, by decide +kernel, by decide +kernel⟩
theorem fn__law_draw_shifts (T : Txt K mg w) {f : Addr} {fd : FuncData} (hm : mg "_law_draw_shifts" = some (.ref f)) (F : Fun K "_law_draw_shifts" "_law_draw_shifts" s__law_draw_shifts f fd) (G__law_pick : FnDG P w K mg base 1 "_law_pick" s__law_pick ["_law_pot", "_law_many"] m_law_pick_v2) : FnDG P w K mg base 2 "_law_draw_shifts" s__law_draw_shifts ["_law_pot"] m_law_draw_shifts := by
  refine fnd_mkG (np := 1) (nN := 7) (k := 1) hm F (F.binds fun _ _ _ _ _ _ us hl => match us, hl with | [_], _ => rfl) sc__law_draw_shifts rfl rfl fun cdv A outer s H E hr => ?_
  have tk : Takes (cxOf (L2.CX P w) P w K mg base ["_law_pot", "_law_way", "_law_some", "_law_near", "_law_low", "_law_high", "_law_middle"] "_law_draw_shifts" (defScope s__law_draw_shifts) f cdv A outer s H E) (fun cls d _ H => E cls d H) := takes_of rfl rfl rfl rfl
  exact (dss_cons (ds_set 1 sc__law_draw_shifts.nd (d_callG G__law_pick hr tk (da_cons (d_var 0) (da_cons d_int da_nil)))) (dss_cons (ds_set 2 sc__law_draw_shifts.nd (d_fz (dl_lst (da_cons (d_tup (da_cons d_int (da_cons d_int da_nil))) (da_cons (d_tup (da_cons (d_fold (d := .int (-900)) (d_un un_neg o_neg d_int) (fun _ _ => rfl)) (da_cons d_int da_nil))) (da_cons (d_tup (da_cons (d_fold (d := .int (-900)) (d_un un_neg o_neg d_int) (fun _ _ => rfl)) (da_cons (d_fold (d := .int (-899)) (d_un un_neg o_neg d_int) (fun _ _ => rfl)) da_nil))) (da_cons (d_tup (da_cons d_int da_nil)) da_nil))))))) (dss_cons (ds_set 2 sc__law_draw_shifts.nd (d_fz (dl_catV (d_var 2) (dl_lst (da_cons (d_tup (da_cons (d_fold (d := .int (-660)) (d_un un_neg o_neg d_int) (fun _ _ => rfl)) (da_cons (d_fold (d := .int (-600)) (d_un un_neg o_neg d_int) (fun _ _ => rfl)) (da_cons d_int da_nil)))) (da_cons (d_tup (da_cons (d_fold (d := .int (-1)) (d_un un_neg o_neg d_int) (fun _ _ => rfl)) (da_cons d_int (da_cons d_int da_nil)))) (da_cons (d_tup (da_cons d_int (da_cons d_int da_nil))) (da_cons (d_tup (da_cons d_int (da_cons d_int (da_cons d_int da_nil)))) da_nil)))))))) (dss_cons (ds_if (dt_cmp op_lt o_lt (d_var 1) d_int) (dss_one (ds_ret (d_ix ix_seq o_ix (d_var 2) (d_callG G__law_pick hr tk (da_cons (d_var 0) (da_cons d_int da_nil)))))) dss_nil) (dss_cons (ds_set 3 sc__law_draw_shifts.nd (d_ix ix_seq o_ix (d_fz (dl_lst (da_cons d_int (da_cons d_int (da_cons d_int (da_cons d_int (da_cons d_int (da_cons d_int (da_cons d_int da_nil))))))))) (d_callG G__law_pick hr tk (da_cons (d_var 0) (da_cons d_int da_nil))))) (dss_cons (ds_set 4 sc__law_draw_shifts.nd (d_op op_sub o_sub (d_callG G__law_pick hr tk (da_cons (d_var 0) (da_cons d_int da_nil))) d_int)) (dss_cons (ds_set 5 sc__law_draw_shifts.nd (d_callB (call_min2 rfl) c_II T.n_min (da_cons d_int (da_cons (d_op op_addD o_add (d_op op_addD o_add (d_var 4) d_int) (d_callG G__law_pick hr tk (da_cons (d_var 0) (da_cons (d_var 3) da_nil)))) da_nil)))) (dss_cons (ds_set 6 sc__law_draw_shifts.nd (d_op op_addD o_add (d_op op_addD o_add (d_var 4) d_int) (d_callG G__law_pick hr tk (da_cons (d_var 0) (da_cons (d_callB (call_max2 rfl) c_II T.n_max (da_cons d_int (da_cons (d_op op_sub o_sub (d_op op_sub o_sub (d_var 5) (d_var 4)) d_int) da_nil))) da_nil))))) (dss_cons (ds_if (DT.w (dw_and (dt_cmp (op_eqA hr.units) o_eq (d_var 1) d_int) (dw_and1 (dt_chain op_lt op_lt o_lt o_lt (d_var 4) (d_var 6) (d_var 5))))) (dss_one (ds_ret (d_tup (da_cons (d_var 4) (da_cons (d_var 6) (da_cons (d_var 5) da_nil)))))) dss_nil) (dss_one (ds_ret (d_ifExp (DT.w (dw_and (dt_cmp op_lt o_lt (d_var 4) (d_var 5)) (dw_and1 (dt_cmp op_gt o_gt (d_var 1) d_int)))) (d_tup (da_cons (d_var 4) (da_cons (d_var 5) da_nil))) (d_tup (da_cons (d_var 4) da_nil))))))))))))))
abbrev s__law_draw_apart : Stmt := top 50
theorem sc__law_draw_apart : FnScope ["_law_pot", "_law_shifts", "_law_least", "_law_some"] ["_law_pot", "_law_shifts"] (defScope s__law_draw_apart) := ⟨rfl, rfl, rfl, by decide +kernel, rfl, by decide +kernel, by decide +kernel⟩
theorem fn__law_draw_apart (T : Txt K mg w) {f : Addr} {fd : FuncData} (hm : mg "_law_draw_apart" = some (.ref f)) (F : Fun K "_law_draw_apart" "_law_draw_apart" s__law_draw_apart f fd) (G__law_pick : FnDG P w K mg base 1 "_law_pick" s__law_pick ["_law_pot", "_law_many"] m_law_pick_v2) : FnDG P w K mg base 2 "_law_draw_apart" s__law_draw_apart ["_law_pot", "_law_shifts"] m_law_draw_apart := by
  refine fnd_mkG (np := 2) (nN := 4) (k := 1) hm F (F.binds fun _ _ _ _ _ _ us hl => match us, hl with | [_, _], _ => rfl) sc__law_draw_apart rfl rfl fun cdv A outer s H E hr => ?_
  have tk : Takes (cxOf (L2.CX P w) P w K mg base ["_law_pot", "_law_shifts", "_law_least", "_law_some"] "_law_draw_apart" (defScope s__law_draw_apart) f cdv A outer s H E) (fun cls d _ H => E cls d H) := takes_of rfl rfl rfl rfl
  exact (dss_cons (ds_set 2 sc__law_draw_apart.nd (d_op op_addD o_add (d_op op_sub o_sub (d_ix ix_seq o_ix (d_var 1) (d_fold (d := .int (-1)) (d_un un_neg o_neg d_int) (fun _ _ => rfl))) (d_ix ix_seq o_ix (d_var 1) d_int)) d_int)) (dss_cons (ds_set 3 sc__law_draw_apart.nd (d_fz (dl_lst (da_cons (d_var 2) (da_cons (d_var 2) (da_cons (d_op op_addD o_add (d_var 2) (d_callG G__law_pick hr tk (da_cons (d_var 0) (da_cons d_int da_nil)))) (da_cons (d_op op_addD o_add (d_var 2) (d_callG G__law_pick hr tk (da_cons (d_var 0) (da_cons d_int da_nil)))) (da_cons (d_op op_mulW o_mul d_int (d_var 2)) (da_cons d_int (da_cons d_int da_nil)))))))))) (dss_cons (ds_set 3 sc__law_draw_apart.nd (d_fz (dl_catV (d_var 3) (dl_lst (da_cons (d_op op_addD o_add d_int (d_callG G__law_pick hr tk (da_cons (d_var 0) (da_cons d_int da_nil)))) (da_cons (d_op op_addD o_add d_int (d_callG G__law_pick hr tk (da_cons (d_var 0) (da_cons d_int da_nil)))) da_nil)))))) (dss_one (ds_ret (d_callB (call_max2 rfl) c_II T.n_max (da_cons (d_var 2) (da_cons (d_ix ix_seq o_ix (d_var 3) (d_callG G__law_pick hr tk (da_cons (d_var 0) (da_cons d_int da_nil)))) da_nil))))))))
abbrev s__law_draw_fields : Stmt := top 51
theorem sc__law_draw_fields : FnScope ["_law_pot", "_law_many", "_law_most_shifts", "_law_fields", "_law_k", "_law_shifts", "_law_dial"] ["_law_pot", "_law_many", "_law_most_shifts"] (defScope s__law_draw_fields) := ⟨rfl, rfl, rfl, by decide +kernel, rfl, by decide +kernel, by decide +kernel⟩
theorem fn__law_draw_fields (T : Txt K mg w) {f : Addr} {fd : FuncData} (hm : mg "_law_draw_fields" = some (.ref f)) (F : Fun K "_law_draw_fields" "_law_draw_fields" s__law_draw_fields f fd) (G__law_pick : FnDG P w K mg base 1 "_law_pick" s__law_pick ["_law_pot", "_law_many"] m_law_pick_v2) (G__law_draw_apart : FnDG P w K mg base 2 "_law_draw_apart" s__law_draw_apart ["_law_pot", "_law_shifts"] m_law_draw_apart) (G__law_draw_shifts : FnDG P w K mg base 2 "_law_draw_shifts" s__law_draw_shifts ["_law_pot"] m_law_draw_shifts) : FnDG P w K mg base 3 "_law_draw_fields" s__law_draw_fields ["_law_pot", "_law_many", "_law_most_shifts"] m_law_draw_fields := by
  refine fnd_mkG (np := 3) (nN := 7) (k := 2) hm F (F.binds fun _ _ _ _ _ _ us hl => match us, hl with | [_, _, _], _ => rfl) sc__law_draw_fields rfl rfl fun cdv A outer s H E hr => ?_
  have tk : Takes (cxOf (L2.CX P w) P w K mg base ["_law_pot", "_law_many", "_law_most_shifts", "_law_fields", "_law_k", "_law_shifts", "_law_dial"] "_law_draw_fields" (defScope s__law_draw_fields) f cdv A outer s H E) (fun cls d _ H => E cls d H) := takes_of rfl rfl rfl rfl
  exact (dss_cons (ds_set 3 sc__law_draw_fields.nd (d_new (dl_lst da_nil))) (dss_cons (ds_for (passes_of rfl) rfl (di_range1 (da_cons (d_var 1) da_nil) T.n_range) (dg_name 4 sc__law_draw_fields.nd) (dss_cons (ds_set 5 sc__law_draw_fields.nd (d_slT (d_callG G__law_draw_shifts hr tk (da_cons (d_var 0) da_nil)) do_none (do_some (d_var 2)))) (dss_cons (ds_if (DT.w (dw_and (dt_cmp op_gt o_gt (d_var 4) d_int) (dw_and1 (dt_cmp (op_eqA hr.units) o_eq (d_callG G__law_pick hr tk (da_cons (d_var 0) (da_cons d_int da_nil))) d_int)))) (dss_one (ds_set 5 sc__law_draw_fields.nd (d_ix ix_seq o_ix (d_ix ix_seq o_ix (d_var 3) d_int) d_int))) dss_nil) (dss_cons (ds_set 6 sc__law_draw_fields.nd (d_tup (da_cons (d_var 5) (da_cons (d_callG G__law_draw_apart hr tk (da_cons (d_var 0) (da_cons (d_var 5) da_nil))) da_nil)))) (dss_one (ds_app (d_var 3) (d_ifExp (DT.w (dw_and (dt_cmp op_gt o_gt (d_var 4) d_int) (dw_and1 (dt_cmp (op_eqA hr.units) o_eq (d_callG G__law_pick hr tk (da_cons (d_var 0) (da_cons d_int da_nil))) d_int)))) (d_ix ix_seq o_ix (d_var 3) d_int) (d_var 6)) (fun a b => ps_expr (pe_bm PySem.F.plainAttrs_list PySem.F.slot_list_append PySem.F.type_list_append mt_append a (pa_cons b pa_nil))))))))) (dss_one (ds_ret (d_callTy call_tuple_of c_tuple T.n_tuple (da_cons (d_var 3) da_nil))))))
abbrev s__law_minutes : Stmt := top 52
theorem sc__law_minutes : FnScope ["_law_pot", "_law_fields", "_law_dial", "_law_wide", "_law_some", "_law_drawn", "_law_k", "_law_number"] ["_law_pot", "_law_fields"] (defScope s__law_minutes) := ⟨rfl, rfl, rfl, by decide +kernel, rfl, by decide +kernel, by decide +kernel⟩
theorem fn__law_minutes (T : Txt K mg w) {f : Addr} {fd : FuncData} (hm : mg "_law_minutes" = some (.ref f)) (F : Fun K "_law_minutes" "_law_minutes" s__law_minutes f fd) (G__law_pick : FnDG P w K mg base 1 "_law_pick" s__law_pick ["_law_pot", "_law_many"] m_law_pick_v2) : FnDG P w K mg base 2 "_law_minutes" s__law_minutes ["_law_pot", "_law_fields"] m_law_minutes_v2 := by
  refine fnd_mkG (np := 2) (nN := 8) (k := 1) hm F (F.binds fun _ _ _ _ _ _ us hl => match us, hl with | [_, _], _ => rfl) sc__law_minutes rfl rfl fun cdv A outer s H E hr => ?_
  have tk : Takes (cxOf (L2.CX P w) P w K mg base ["_law_pot", "_law_fields", "_law_dial", "_law_wide", "_law_some", "_law_drawn", "_law_k", "_law_number"] "_law_minutes" (defScope s__law_minutes) f cdv A outer s H E) (fun cls d _ H => E cls d H) := takes_of rfl rfl rfl rfl
  exact (dss_cons (ds_set 2 sc__law_minutes.nd (d_ix ix_seq o_ix (d_var 1) (d_callG G__law_pick hr tk (da_cons (d_var 0) (da_cons (d_callB call_len c_len T.n_len (da_cons (d_var 1) da_nil)) da_nil))))) (dss_cons (ds_set 3 sc__law_minutes.nd (d_op op_sub o_sub (d_ix ix_seq o_ix (d_ix ix_seq o_ix (d_var 2) d_int) (d_fold (d := .int (-1)) (d_un un_neg o_neg d_int) (fun _ _ => rfl))) (d_ix ix_seq o_ix (d_ix ix_seq o_ix (d_var 2) d_int) d_int))) (dss_cons (ds_set 4 sc__law_minutes.nd (d_fz (dl_lst (da_cons (d_var 3) (da_cons (d_op op_sub o_sub (d_var 3) d_int) (da_cons (d_op op_addD o_add (d_var 3) d_int) (da_cons (d_ix ix_seq o_ix (d_var 2) d_int) (da_cons (d_op op_sub o_sub (d_ix ix_seq o_ix (d_var 2) d_int) d_int) (da_cons (d_op op_addD o_add (d_ix ix_seq o_ix (d_var 2) d_int) d_int) (da_cons (d_op op_sub o_sub (d_ix ix_seq o_ix (d_var 2) d_int) (d_var 3)) (da_cons (d_op op_mulW o_mul d_int (d_ix ix_seq o_ix (d_var 2) d_int)) da_nil))))))))))) (dss_cons (ds_set 4 sc__law_minutes.nd (d_fz (dl_catV (d_var 4) (dl_lst (da_cons d_int (da_cons d_int (da_cons d_int (da_cons d_int (da_cons d_int (da_cons (d_callG G__law_pick hr tk (da_cons (d_var 0) (da_cons d_int da_nil))) (da_cons (d_callG G__law_pick hr tk (da_cons (d_var 0) (da_cons d_int da_nil))) (da_cons (d_op op_sub o_sub (d_op op_sub o_sub (d_ix ix_seq o_ix (d_var 2) d_int) (d_var 3)) d_int) da_nil)))))))))))) (dss_cons (ds_setLc (mw := mFz) 5 (own := [("_law_k", 6)]) (rd_fz) rfl sc__law_minutes.nd (di_range1 (da_cons d_int da_nil) T.n_range) (blkOk_by (own := [("_law_k", 6)]) (N := ["_law_pot", "_law_fields", "_law_dial", "_law_wide", "_law_some", "_law_drawn", "_law_k", "_law_number"]) (sc := defScope s__law_minutes) (by decide +kernel)) (fun _ _ _ _ _ => (dg_name 6 sc__law_minutes.nd)) (fun _ _ _ _ _ => dts_nil) (fun _ _ _ _ _ => (d_op op_mulW o_mul (d_ix ix_seq o_ix (d_var 4) (d_callG G__law_pick hr takes0 (da_cons (d_var 0) (da_cons d_int da_nil)))) (d_ix ix_seq o_ix (d_fz (dl_lst (da_cons d_int (da_cons (d_fold (d := .int (-1)) (d_un un_neg o_neg d_int) (fun _ _ => rfl)) da_nil)))) (d_callG G__law_pick hr takes0 (da_cons (d_var 0) (da_cons d_int da_nil))))))) (dss_one (ds_ret (d_fz (dl_lcA (own := [("_law_number", 7)]) rfl sc__law_minutes.nd (d_var 5) (blkOk_by (own := [("_law_number", 7)]) (N := ["_law_pot", "_law_fields", "_law_dial", "_law_wide", "_law_some", "_law_drawn", "_law_k", "_law_number"]) (sc := defScope s__law_minutes) (by decide +kernel)) (fun _ _ _ _ _ => (dg_name 7 sc__law_minutes.nd)) (fun _ _ _ _ _ => dts_nil) (fun _ _ _ _ _ => (d_callB (call_max2 rfl) c_II T.n_max (da_cons (d_fold (d := .int (-100000)) (d_un un_neg o_neg d_int) (fun _ _ => rfl)) (da_cons (d_callB (call_min2 rfl) c_II T.n_min (da_cons d_int (da_cons (d_var 7) da_nil))) da_nil)))))))))))))
abbrev s__law_draw_want : Stmt := top 53
theorem sc__law_draw_want : FnScope ["_law_pot", "_law_hours", "_law_word", "_law_want", "_law_some"] ["_law_pot", "_law_hours"] (defScope s__law_draw_want) := ⟨rfl, rfl, rfl, by decide +kernel, rfl, by decide +kernel, by decide +kernel⟩
theorem fn__law_draw_want (T : Txt K mg w) {f : Addr} {fd : FuncData} (hm : mg "_law_draw_want" = some (.ref f)) (F : Fun K "_law_draw_want" "_law_draw_want" s__law_draw_want f fd) (G__law_pick : FnDG P w K mg base 1 "_law_pick" s__law_pick ["_law_pot", "_law_many"] m_law_pick_v2) : FnDG P w K mg base 2 "_law_draw_want" s__law_draw_want ["_law_pot", "_law_hours"] m_law_draw_want := by
  refine fnd_mkG (np := 2) (nN := 5) (k := 1) hm F (F.binds fun _ _ _ _ _ _ us hl => match us, hl with | [_, _], _ => rfl) sc__law_draw_want rfl rfl fun cdv A outer s H E hr => ?_
  have tk : Takes (cxOf (L2.CX P w) P w K mg base ["_law_pot", "_law_hours", "_law_word", "_law_want", "_law_some"] "_law_draw_want" (defScope s__law_draw_want) f cdv A outer s H E) (fun cls d _ H => E cls d H) := takes_of rfl rfl rfl rfl
  exact (dss_cons (ds_set 2 sc__law_draw_want.nd (d_ix ix_seq o_ix (d_fz (dl_lst (da_cons d_str (da_cons d_str (da_cons d_str (da_cons d_str da_nil)))))) (d_callG G__law_pick hr tk (da_cons (d_var 0) (da_cons d_int da_nil))))) (dss_cons (ds_if (dt_cmp (op_eqA hr.units) o_eq (d_var 2) d_str) (dss_one (ds_ret (d_tup (da_cons (d_var 2) da_nil)))) dss_nil) (dss_cons (ds_set 3 sc__law_draw_want.nd (d_tup (da_cons (d_var 2) (da_cons (d_ix ix_seq o_ix (d_var 1) (d_callG G__law_pick hr tk (da_cons (d_var 0) (da_cons (d_callB call_len c_len T.n_len (da_cons (d_var 1) da_nil)) da_nil)))) (da_cons (d_ix ix_seq o_ix (d_var 1) (d_callG G__law_pick hr tk (da_cons (d_var 0) (da_cons (d_callB call_len c_len T.n_len (da_cons (d_var 1) da_nil)) da_nil)))) da_nil))))) (dss_cons (ds_if (dt_cmp (op_neA hr.units) o_ne (d_var 2) d_str) (dss_one (ds_ret (d_var 3))) dss_nil) (dss_cons (ds_set 4 sc__law_draw_want.nd (d_fz (dl_lst (da_cons d_int (da_cons d_int (da_cons d_int (da_cons d_int (da_cons (d_callG G__law_pick hr tk (da_cons (d_var 0) (da_cons d_int da_nil))) (da_cons (d_callG G__law_pick hr tk (da_cons (d_var 0) (da_cons d_int da_nil))) (da_cons d_int da_nil)))))))))) (dss_one (ds_ret (d_op op_addD o_add (d_var 3) (d_tup (da_cons (d_ix ix_seq o_ix (d_var 4) (d_callG G__law_pick hr tk (da_cons (d_var 0) (da_cons d_int da_nil)))) da_nil))))))))))
abbrev s__law_writes : Stmt := top 54
theorem sc__law_writes : FnScope ["_law_word", "_law_low", "_law_high", "_law_digits", "_law_sign"] ["_law_word", "_law_low", "_law_high"] (defScope s__law_writes) := ⟨rfl, rfl, rfl, by decide +kernel, rfl, by decide +kernel, by decide +kernel⟩
theorem fn__law_writes (T : Txt K mg w) {f : Addr} {fd : FuncData} (hm : mg "_law_writes" = some (.ref f)) (F : Fun K "_law_writes" "_law_writes" s__law_writes f fd) : FnDG P w K mg base 1 "_law_writes" s__law_writes ["_law_word", "_law_low", "_law_high"] m_law_writes := by
  refine fnd_mkG (np := 3) (nN := 5) (k := 0) hm F (F.binds fun _ _ _ _ _ _ us hl => match us, hl with | [_, _, _], _ => rfl) sc__law_writes rfl rfl fun cdv A outer s H E hr => ?_
  have tk : Takes (cxOf (L2.CX P w) P w K mg base ["_law_word", "_law_low", "_law_high", "_law_digits", "_law_sign"] "_law_writes" (defScope s__law_writes) f cdv A outer s H E) (fun cls d _ H => E cls d H) := takes_of rfl rfl rfl rfl
  exact (dss_cons (ds_set 3 sc__law_writes.nd (d_ifExp (dt_cmp (op_eqA hr.units) o_eq (d_slS (d_var 0) do_none (do_some d_int)) d_str) (d_slS (d_var 0) (do_some d_int) do_none) (d_var 0))) (dss_cons (ds_if (DT.w (dw_or (dt_cmp (op_eqA hr.units) o_eq (d_var 3) d_str) (dw_or (dt_cmp op_gt o_gt (d_callB call_len c_len T.n_len (da_cons (d_var 3) da_nil)) d_int) (dw_or1 (dt_cmp (op_neA hr.units) o_ne (d_fz (dl_lc (own := [("_law_sign", 4)]) rfl sc__law_writes.nd (di_chr (d_var 3)) (blkOk_by (own := [("_law_sign", 4)]) (N := ["_law_word", "_law_low", "_law_high", "_law_digits", "_law_sign"]) (sc := defScope s__law_writes) (by decide +kernel)) (fun _ _ _ _ _ => (dg_name 4 sc__law_writes.nd)) (fun _ _ _ _ _ => (dts_one (dt_cmp op_notInS o_notInC (d_var 4) d_str (by rfl)))) (fun _ _ _ _ _ => (d_var 4)))) (d_fz (dl_lst da_nil))))))) (dss_one (ds_ret d_bl)) dss_nil) (dss_cons (ds_if (DT.w (dw_and (dt_cmp (op_eqA hr.units) o_eq (d_ix ix_seq o_ix (d_var 3) d_int) d_str) (dw_and1 (dt_cmp (op_neA hr.units) o_ne (d_var 0) d_str)))) (dss_one (ds_ret d_bl)) dss_nil) (dss_one (ds_ret (d_chain op_le op_le o_le o_le (d_var 1) (d_callTy call_int_str c_intS T.n_int (da_cons (d_var 0) da_nil)) (d_var 2)))))))
abbrev s__law_value_of : Stmt := top 55
theorem sc__law_value_of : FnScope ["_law_word"] ["_law_word"] (defScope s__law_value_of) := ⟨rfl, rfl, rfl, by decide +kernel, rfl, by decide +kernel, by decide +kernel⟩
theorem fn__law_value_of (T : Txt K mg w) {f : Addr} {fd : FuncData} (hm : mg "_law_value_of" = some (.ref f)) (F : Fun K "_law_value_of" "_law_value_of" s__law_value_of f fd) (G__law_writes : FnDG P w K mg base 1 "_law_writes" s__law_writes ["_law_word", "_law_low", "_law_high"] m_law_writes) : FnDG P w K mg base 2 "_law_value_of" s__law_value_of ["_law_word"] m_law_value_of := by
  refine fnd_mkG (np := 1) (nN := 1) (k := 1) hm F (F.binds fun _ _ _ _ _ _ us hl => match us, hl with | [_], _ => rfl) sc__law_value_of rfl rfl fun cdv A outer s H E hr => ?_
  have tk : Takes (cxOf (L2.CX P w) P w K mg base ["_law_word"] "_law_value_of" (defScope s__law_value_of) f cdv A outer s H E) (fun cls d _ H => E cls d H) := takes_of rfl rfl rfl rfl
  exact (dss_one (ds_ret (d_ifExp (dt_val (d_callG G__law_writes hr tk (da_cons (d_var 0) (da_cons (d_fold (d := .int (-100000)) (d_un un_neg o_neg d_int) (fun _ _ => rfl)) (da_cons d_int da_nil))))) (d_callTy call_int_str c_intS T.n_int (da_cons (d_var 0) da_nil)) (d_var 0))))
abbrev s__law_wish_read : Stmt := top 56
theorem sc__law_wish_read : FnScope ["_law_sorts", "_law_texts", "_law_hours", "_law_sizes", "_law_at", "_law_k", "_law_text"] ["_law_sorts", "_law_texts"] (defScope s__law_wish_read) := ⟨rfl, rfl, rfl, by decide +kernel, rfl, by decide +kernel, by decide +kernel⟩
theorem fn__law_wish_read (T : Txt K mg w) {f : Addr} {fd : FuncData} (hm : mg "_law_wish_read" = some (.ref f)) (F : Fun K "_law_wish_read" "_law_wish_read" s__law_wish_read f fd) (G__law_value_of : FnDG P w K mg base 2 "_law_value_of" s__law_value_of ["_law_word"] m_law_value_of) (G__law_writes : FnDG P w K mg base 1 "_law_writes" s__law_writes ["_law_word", "_law_low", "_law_high"] m_law_writes) : FnDG P w K mg base 3 "_law_wish_read" s__law_wish_read ["_law_sorts", "_law_texts"] m_law_wish_read := by
  refine fnd_mkG (np := 2) (nN := 7) (k := 2) hm F (F.binds fun _ _ _ _ _ _ us hl => match us, hl with | [_, _], _ => rfl) sc__law_wish_read rfl rfl fun cdv A outer s H E hr => ?_
  have tk : Takes (cxOf (L2.CX P w) P w K mg base ["_law_sorts", "_law_texts", "_law_hours", "_law_sizes", "_law_at", "_law_k", "_law_text"] "_law_wish_read" (defScope s__law_wish_read) f cdv A outer s H E) (fun cls d _ H => E cls d H) := takes_of rfl rfl rfl rfl
  exact (dss_cons (ds_setLc (mw := mFz) 2 (own := [("_law_k", 5)]) (rd_fz) rfl sc__law_wish_read.nd (di_range1 (da_cons (d_callB call_len c_len T.n_len (da_cons (d_var 0) da_nil)) da_nil) T.n_range) (blkOk_by (own := [("_law_k", 5)]) (N := ["_law_sorts", "_law_texts", "_law_hours", "_law_sizes", "_law_at", "_law_k", "_law_text"]) (sc := defScope s__law_wish_read) (by decide +kernel)) (fun _ _ _ _ _ => (dg_name 5 sc__law_wish_read.nd)) (fun _ _ _ _ _ => (dts_one (dt_cmp (op_neA hr.units) o_ne (d_ix ix_seq o_ix (d_var 0) (d_var 5)) d_str))) (fun _ _ _ _ _ => (d_callTy call_str_int c_strI T.n_str (da_cons (d_var 5) da_nil)))) (dss_cons (ds_set 3 sc__law_wish_read.nd (d_disp (dps_cons d_str d_int (dps_cons d_str d_int (dps_cons d_str d_int (dps_cons d_str d_int dps_nil)))))) (dss_cons (ds_if (dt_cmp (op_dnot hr.units) o_din (d_ix ix_seq o_ix (d_var 1) d_int) (d_var 3) (by rfl)) (dss_one (ds_ret d_int)) dss_nil) (dss_cons (ds_for (passes_of rfl) rfl (di_range2 (da_cons d_int (da_cons (d_dix hr.units (d_var 3) (d_ix ix_seq o_ix (d_var 1) d_int)) da_nil)) T.n_range) (dg_name 4 sc__law_wish_read.nd) (dss_cons (ds_if (dt_cmp (op_eqA hr.units) o_eq (d_var 4) (d_callB call_len c_len T.n_len (da_cons (d_var 1) da_nil))) (dss_one (ds_ret (d_var 4))) dss_nil) (dss_one (ds_if (DT.w (dw_or (DT.w (dw_and (dt_cmp op_lt o_lt (d_var 4) d_int) (dw_and1 (dt_cmp op_notIn_seq o_in (d_ix ix_seq o_ix (d_var 1) (d_var 4)) (d_var 2) (by rfl))))) (dw_or1 (DT.w (dw_and (dt_cmp (op_eqA hr.units) o_eq (d_var 4) d_int) (dw_and1 (dt_not (dt_val (d_callG G__law_writes hr tk (da_cons (d_ix ix_seq o_ix (d_var 1) (d_var 4)) (da_cons d_int (da_cons d_int da_nil)))))))))))) (dss_one (ds_ret (d_var 4))) dss_nil)))) (dss_cons (ds_if (dt_cmp op_gt o_gt (d_callB call_len c_len T.n_len (da_cons (d_var 1) da_nil)) (d_dix hr.units (d_var 3) (d_ix ix_seq o_ix (d_var 1) d_int))) (dss_one (ds_ret (d_dix hr.units (d_var 3) (d_ix ix_seq o_ix (d_var 1) d_int)))) dss_nil) (dss_one (ds_ret (d_callTy call_tuple_of c_tuple T.n_tuple (da_cons (d_fz (dl_lcA (own := [("_law_text", 6)]) rfl sc__law_wish_read.nd (d_var 1) (blkOk_by (own := [("_law_text", 6)]) (N := ["_law_sorts", "_law_texts", "_law_hours", "_law_sizes", "_law_at", "_law_k", "_law_text"]) (sc := defScope s__law_wish_read) (by decide +kernel)) (fun _ _ _ _ _ => (dg_name 6 sc__law_wish_read.nd)) (fun _ _ _ _ _ => dts_nil) (fun _ _ _ _ _ => (d_callG G__law_value_of hr takes0 (da_cons (d_var 6) da_nil))))) da_nil)))))))))
abbrev s__law_odd_word : Stmt := top 57
theorem sc__law_odd_word : FnScope ["_law_pot", "_law_some"] ["_law_pot"] (defScope s__law_odd_word) := ⟨rfl, rfl, rfl, by decide +kernel, rfl, by decide +kernel, by decide +kernel⟩
theorem fn__law_odd_word (T : Txt K mg w) {f : Addr} {fd : FuncData} (hm : mg "_law_odd_word" = some (.ref f)) (F : Fun K "_law_odd_word" "_law_odd_word" s__law_odd_word f fd) (G__law_pick : FnDG P w K mg base 1 "_law_pick" s__law_pick ["_law_pot", "_law_many"] m_law_pick_v2) : FnDG P w K mg base 2 "_law_odd_word" s__law_odd_word ["_law_pot"] m_law_odd_word := by
  refine fnd_mkG (np := 1) (nN := 2) (k := 1) hm F (F.binds fun _ _ _ _ _ _ us hl => match us, hl with | [_], _ => rfl) sc__law_odd_word rfl rfl fun cdv A outer s H E hr => ?_
  have tk : Takes (cxOf (L2.CX P w) P w K mg base ["_law_pot", "_law_some"] "_law_odd_word" (defScope s__law_odd_word) f cdv A outer s H E) (fun cls d _ H => E cls d H) := takes_of rfl rfl rfl rfl
  exact (dss_cons (ds_set 1 sc__law_odd_word.nd (d_fz (dl_lst (da_cons d_str (da_cons d_str (da_cons d_str (da_cons d_str (da_cons d_str (da_cons d_str (da_cons d_str (da_cons d_str (da_cons d_str (da_cons d_str (da_cons d_str da_nil)))))))))))))) (dss_cons (ds_set 1 sc__law_odd_word.nd (d_fz (dl_catV (d_var 1) (dl_lst (da_cons d_str (da_cons d_str (da_cons d_str (da_cons d_str (da_cons d_str (da_cons d_str da_nil)))))))))) (dss_cons (ds_set 1 sc__law_odd_word.nd (d_fz (dl_catV (d_var 1) (dl_lst (da_cons d_str (da_cons d_str (da_cons d_str (da_cons d_str (da_cons d_str (da_cons d_str da_nil)))))))))) (dss_cons (ds_set 1 sc__law_odd_word.nd (d_fz (dl_catV (d_var 1) (dl_lst (da_cons d_str (da_cons d_str (da_cons d_str (da_cons d_str (da_cons d_str (da_cons d_str da_nil)))))))))) (dss_cons (ds_set 1 sc__law_odd_word.nd (d_fz (dl_catV (d_var 1) (dl_lst (da_cons d_str (da_cons d_str (da_cons d_str (da_cons d_str (da_cons d_str (da_cons d_str da_nil)))))))))) (dss_cons (ds_set 1 sc__law_odd_word.nd (d_fz (dl_catV (d_var 1) (dl_lst (da_cons d_str (da_cons d_str (da_cons d_str (da_cons d_str (da_cons d_str (da_cons d_str da_nil)))))))))) (dss_cons (ds_set 1 sc__law_odd_word.nd (d_fz (dl_catV (d_var 1) (dl_lst (da_cons d_str (da_cons d_str (da_cons d_str (da_cons d_str (da_cons d_str (da_cons d_str (da_cons (d_op op_mulS o_mulS d_str d_int) (da_cons (d_op op_mulS o_mulS d_str d_int) (da_cons d_str da_nil))))))))))))) (dss_one (ds_ret (d_ix ix_seq o_ix (d_var 1) (d_callG G__law_pick hr tk (da_cons (d_var 0) (da_cons (d_callB call_len c_len T.n_len (da_cons (d_var 1) da_nil)) da_nil)))))))))))))
abbrev s__law_bent_word : Stmt := top 58
theorem sc__law_bent_word : FnScope ["_law_pot", "_law_word", "_law_sign", "_law_way", "_law_at"] ["_law_pot", "_law_word"] (defScope s__law_bent_word) := ⟨rfl, rfl, rfl, by decide +kernel, rfl, by decide +kernel, by decide +kernel⟩
theorem fn__law_bent_word (T : Txt K mg w) {f : Addr} {fd : FuncData} (hm : mg "_law_bent_word" = some (.ref f)) (F : Fun K "_law_bent_word" "_law_bent_word" s__law_bent_word f fd) (G__law_pick : FnDG P w K mg base 1 "_law_pick" s__law_pick ["_law_pot", "_law_many"] m_law_pick_v2) : FnDG P w K mg base 2 "_law_bent_word" s__law_bent_word ["_law_pot", "_law_word"] m_law_bent_word := by
  refine fnd_mkG (np := 2) (nN := 5) (k := 1) hm F (F.binds fun _ _ _ _ _ _ us hl => match us, hl with | [_, _], _ => rfl) sc__law_bent_word rfl rfl fun cdv A outer s H E hr => ?_
  have tk : Takes (cxOf (L2.CX P w) P w K mg base ["_law_pot", "_law_word", "_law_sign", "_law_way", "_law_at"] "_law_bent_word" (defScope s__law_bent_word) f cdv A outer s H E) (fun cls d _ H => E cls d H) := takes_of rfl rfl rfl rfl
  exact (dss_cons (ds_set 2 sc__law_bent_word.nd (d_ix ix_seq o_ix (d_fz (dl_lst (da_cons d_str (da_cons d_str (da_cons d_str (da_cons d_str (da_cons d_str (da_cons d_str (da_cons d_str (da_cons d_str (da_cons d_str (da_cons d_str (da_cons d_str (da_cons d_str (da_cons d_str (da_cons d_str da_nil)))))))))))))))) (d_callG G__law_pick hr tk (da_cons (d_var 0) (da_cons d_int da_nil))))) (dss_cons (ds_par 3 4 rfl sc__law_bent_word.nd (da_cons (d_callG G__law_pick hr tk (da_cons (d_var 0) (da_cons d_int da_nil))) (da_cons (d_callG G__law_pick hr tk (da_cons (d_var 0) (da_cons (d_op op_addD o_add (d_callB call_len c_len T.n_len (da_cons (d_var 1) da_nil)) d_int) da_nil))) da_nil))) (dss_cons (ds_if (dt_cmp op_lt o_lt (d_var 3) d_int) (dss_one (ds_ret (d_op op_add_str o_catS (d_op op_add_str o_catS (d_slS (d_var 1) do_none (do_some (d_var 4))) (d_var 2)) (d_slS (d_var 1) (do_some (d_op op_addD o_add (d_var 4) (d_var 3))) do_none)))) dss_nil) (dss_cons (ds_if (dt_cmp (op_eqA hr.units) o_eq (d_var 3) d_int) (dss_one (ds_ret (d_op op_add_str o_catS (d_slS (d_var 1) do_none (do_some (d_var 4))) (d_slS (d_var 1) (do_some (d_op op_addD o_add (d_var 4) d_int)) do_none)))) dss_nil) (dss_one (ds_ret (d_op op_add_str o_catS (d_op op_add_str o_catS (d_slS (d_var 1) do_none (do_some (d_var 4))) (d_slS (d_var 1) (do_some (d_var 4)) (do_some (d_op op_addD o_add (d_var 4) d_int)))) (d_slS (d_var 1) (do_some (d_var 4)) do_none))))))))
abbrev s__law_changed : Stmt := top 59
theorem sc__law_changed : FnScope ["_law_pot", "_law_texts", "_law_put", "_law_way", "_law_at"] ["_law_pot", "_law_texts"] (defScope s__law_changed) := ⟨rfl, rfl, rfl, by decide +kernel, rfl, by decide +kernel, by decide +kernel⟩
theorem fn__law_changed (T : Txt K mg w) {f : Addr} {fd : FuncData} (hm : mg "_law_changed" = some (.ref f)) (F : Fun K "_law_changed" "_law_changed" s__law_changed f fd) (G__law_bent_word : FnDG P w K mg base 2 "_law_bent_word" s__law_bent_word ["_law_pot", "_law_word"] m_law_bent_word) (G__law_pick : FnDG P w K mg base 1 "_law_pick" s__law_pick ["_law_pot", "_law_many"] m_law_pick_v2) (G__law_odd_word : FnDG P w K mg base 2 "_law_odd_word" s__law_odd_word ["_law_pot"] m_law_odd_word) : FnDG P w K mg base 3 "_law_changed" s__law_changed ["_law_pot", "_law_texts"] m_law_changed := by
  refine fnd_mkG (np := 2) (nN := 5) (k := 2) hm F (F.binds fun _ _ _ _ _ _ us hl => match us, hl with | [_, _], _ => rfl) sc__law_changed rfl rfl fun cdv A outer s H E hr => ?_
  have tk : Takes (cxOf (L2.CX P w) P w K mg base ["_law_pot", "_law_texts", "_law_put", "_law_way", "_law_at"] "_law_changed" (defScope s__law_changed) f cdv A outer s H E) (fun cls d _ H => E cls d H) := takes_of rfl rfl rfl rfl
  exact (dss_cons (ds_set 2 sc__law_changed.nd (d_fz (dl_lst (da_cons (d_callG G__law_odd_word hr tk (da_cons (d_var 0) da_nil)) da_nil)))) (dss_cons (ds_par 3 4 rfl sc__law_changed.nd (da_cons (d_callG G__law_pick hr tk (da_cons (d_var 0) (da_cons d_int da_nil))) (da_cons (d_callG G__law_pick hr tk (da_cons (d_var 0) (da_cons (d_op op_addD o_add (d_callB call_len c_len T.n_len (da_cons (d_var 1) da_nil)) d_int) da_nil))) da_nil))) (dss_cons (ds_if (dt_cmp op_lt o_lt (d_var 3) d_int) (dss_one (ds_ret (d_fz (dl_cat (dl_catW (d_fz (dl_slL (d_var 1) do_none (do_some (d_var 4)))) (d_var 2)) (dl_slL (d_var 1) (do_some (d_op op_addD o_add (d_var 4) (d_callTy call_int1 c_int1 T.n_int (da_cons (d_cmp op_gt o_gt (d_var 3) d_int) da_nil)))) do_none))))) dss_nil) (dss_cons (ds_if (dt_cmp (op_eqA hr.units) o_eq (d_var 3) d_int) (dss_one (ds_ret (d_fz (dl_cat (dl_slL (d_var 1) do_none (do_some (d_var 4))) (dl_slL (d_var 1) (do_some (d_op op_addD o_add (d_var 4) d_int)) do_none))))) dss_nil) (dss_cons (ds_if (dt_cmp (op_eqA hr.units) o_eq (d_var 3) d_int) (dss_one (ds_ret (d_fz (dl_cat (dl_cat (dl_slL (d_var 1) do_none (do_some (d_var 4))) (dl_slL (d_var 1) (do_some (d_var 4)) (do_some (d_op op_addD o_add (d_var 4) d_int)))) (dl_slL (d_var 1) (do_some (d_var 4)) do_none))))) dss_nil) (dss_cons (ds_if (dt_cmp (op_eqA hr.units) o_eq (d_var 3) d_int) (dss_one (ds_ret (d_fz (dl_slL (d_var 1) do_none (do_some (d_var 4)))))) dss_nil) (dss_cons (ds_if (DT.w (dw_or (dt_cmp (op_eqA hr.units) o_eq (d_var 3) d_int) (dw_or1 (dt_cmp (op_eqA hr.units) o_eq (d_var 4) (d_callB call_len c_len T.n_len (da_cons (d_var 1) da_nil)))))) (dss_one (ds_ret (d_fz (dl_catW (d_var 1) (d_var 2))))) dss_nil) (dss_cons (ds_if (dt_cmp (op_eqA hr.units) o_eq (d_var 3) d_int) (dss_one (ds_ret (d_fz (dl_cat (dl_catW (d_fz (dl_slL (d_var 1) do_none (do_some (d_var 4)))) (d_backA (d_fz (dl_slL (d_var 1) (do_some (d_var 4)) (do_some (d_op op_addD o_add (d_var 4) d_int)))))) (dl_slL (d_var 1) (do_some (d_op op_addD o_add (d_var 4) d_int)) do_none))))) dss_nil) (dss_one (ds_ret (d_fz (dl_cat (dl_cat (dl_slL (d_var 1) do_none (do_some (d_var 4))) (dl_lst (da_cons (d_callG G__law_bent_word hr tk (da_cons (d_var 0) (da_cons (d_ix ix_seq o_ix (d_var 1) (d_var 4)) da_nil))) da_nil))) (dl_slL (d_var 1) (do_some (d_op op_addD o_add (d_var 4) d_int)) do_none)))))))))))))
abbrev s__law_long_tale : Stmt := top 60
theorem sc__law_long_tale : FnScope ["_law_pot", "_law_fields", "_law_left", "_law_size", "_law_amounts"] ["_law_pot", "_law_fields", "_law_left"] (defScope s__law_long_tale) := ⟨rfl, rfl, rfl, by decide +kernel, rfl, by decide +kernel, by decide +kernel⟩
theorem fn__law_long_tale (T : Txt K mg w) {f : Addr} {fd : FuncData} (hm : mg "_law_long_tale" = some (.ref f)) (F : Fun K "_law_long_tale" "_law_long_tale" s__law_long_tale f fd) (G__law_draw_tale : FnDG P w K mg base 4 "_law_draw_tale" s__law_draw_tale ["_law_pot", "_law_many", "_law_size", "_law_left", "_law_editions", "_law_minutes_", "_law_begun"] m_law_draw_tale) (G__law_minutes : FnDG P w K mg base 2 "_law_minutes" s__law_minutes ["_law_pot", "_law_fields"] m_law_minutes_v2) (G__law_pick : FnDG P w K mg base 1 "_law_pick" s__law_pick ["_law_pot", "_law_many"] m_law_pick_v2) : FnDG P w K mg base 5 "_law_long_tale" s__law_long_tale ["_law_pot", "_law_fields", "_law_left"] m_law_long_tale := by
  refine fnd_mkG (np := 3) (nN := 5) (k := 4) hm F (F.binds fun _ _ _ _ _ _ us hl => match us, hl with | [_, _, _], _ => rfl) sc__law_long_tale rfl rfl fun cdv A outer s H E hr => ?_
  have tk : Takes (cxOf (L2.CX P w) P w K mg base ["_law_pot", "_law_fields", "_law_left", "_law_size", "_law_amounts"] "_law_long_tale" (defScope s__law_long_tale) f cdv A outer s H E) (fun cls d _ H => E cls d H) := takes_of rfl rfl rfl rfl
  exact (dss_cons (ds_set 3 sc__law_long_tale.nd (d_ix ix_seq o_ix (d_fz (dl_lst (da_cons (d_callG G__law_pick hr tk (da_cons (d_var 0) (da_cons d_int da_nil))) (da_cons d_int (da_cons (d_callG G__law_pick hr tk (da_cons (d_var 0) (da_cons d_int da_nil))) (da_cons d_int da_nil)))))) (d_callG G__law_pick hr tk (da_cons (d_var 0) (da_cons d_int da_nil))))) (dss_cons (ds_set 4 sc__law_long_tale.nd (d_fz (dl_catV (d_callG G__law_minutes hr tk (da_cons (d_var 0) (da_cons (d_var 1) da_nil))) (dl_lst (da_cons d_int (da_cons (d_fold (d := .int (-100000)) (d_un un_neg o_neg d_int) (fun _ _ => rfl)) da_nil)))))) (dss_one (ds_ret (d_callG G__law_draw_tale hr tk (da_cons (d_var 0) (da_cons (d_callB call_len c_len T.n_len (da_cons (d_var 1) da_nil)) (da_cons (d_var 3) (da_cons (d_var 2) (da_cons d_bl (da_cons (d_var 4) (da_cons (d_tup da_nil) da_nil))))))))))))
abbrev s__law_asked : Stmt := top 61
theorem sc__law_asked : FnScope ["_law_fields", "_law_tale", "_law_texts", "_law_text", "_law_due", "_law_told", "_law_found", "e"] ["_law_fields", "_law_tale", "_law_texts"] (defScope s__law_asked) := ⟨rfl, rfl, rfl, by decide +kernel, rfl, by decide +kernel, by decide +kernel⟩
theorem fn__law_asked (T : Txt K mg w) {f : Addr} {fd : FuncData} (hm : mg "_law_asked" = some (.ref f)) (F : Fun K "_law_asked" "_law_asked" s__law_asked f fd) (G_read_wish : FnDG P w K mg base 7 "read_wish" s_read_wish ["zones", "program", "words"] m_read_wish) (G__law_wish_read : FnDG P w K mg base 3 "_law_wish_read" s__law_wish_read ["_law_sorts", "_law_texts"] m_law_wish_read) (G__law_kinds_in : FnDG P w K mg base 2 "_law_kinds_in" s__law_kinds_in ["_law_tale"] m_law_kinds_in) : FnDG P w K mg base 8 "_law_asked" s__law_asked ["_law_fields", "_law_tale", "_law_texts"] m_law_asked_v5 := by
  refine fnd_mkG (np := 3) (nN := 8) (k := 7) hm F (F.binds fun _ _ _ _ _ _ us hl => match us, hl with | [_, _, _], _ => rfl) sc__law_asked rfl rfl fun cdv A outer s H E hr => ?_
  have tk : Takes (cxOf (L2.CX P w) P w K mg base ["_law_fields", "_law_tale", "_law_texts", "_law_text", "_law_due", "_law_told", "_law_found", "e"] "_law_asked" (defScope s__law_asked) f cdv A outer s H E) (fun cls d _ H => E cls d H) := takes_of rfl rfl rfl rfl
  exact (dss_cons (ds_set 3 sc__law_asked.nd (d_join d_str (d_var 2))) (dss_cons (ds_set 4 sc__law_asked.nd (d_callG G__law_wish_read hr tk (da_cons (d_callG G__law_kinds_in hr tk (da_cons (d_var 1) da_nil)) (da_cons (d_fz (dl_split (d_var 3) d_str)) da_nil)))) (dss_cons (ds_set 5 sc__law_asked.nd d_non) (dss_cons (ds_set 6 sc__law_asked.nd d_non) (dss_cons (ds_try (cs := ["InvalidProgram", "InvalidWords", "InvalidZones"]) sc__law_asked.nd tk (fun _ _ _ tk => (dss_one (ds_set 6 sc__law_asked.nd (d_callG G_read_wish hr tk (da_cons (d_var 0) (da_cons (d_var 1) (da_cons (d_var 3) da_nil))))))) (hds_as 7 T.t_InvalidWords_ImIsIs38 T.p__ImIsIs38 (fun _ _ tk => (dss_one (ds_set 5 sc__law_asked.nd (d_tup (da_cons (d_xf T.f_InvalidWords_place (d_var 7)) (da_cons (d_isx (d_var 7) T.i_HourError T.n_isinstance) (da_cons (d_isx (d_var 7) T.i_InvalidWish T.n_isinstance) (da_cons (d_isx (d_var 7) T.i_InvalidCommand T.n_isinstance) da_nil)))))))) HdsD.nil)) (dss_cons (ds_if (dt_val (d_isi .tup (d_var 4) T.n_isinstance T.n_tuple)) (dss_one (ds_ret (d_and (d_cmp op_isN o_isN (d_var 5) d_non) (d_one (d_cmp (op_eqA hr.units) o_eq (d_callB (cr_repr hr) c_repr T.n_repr (da_cons (d_var 6) da_nil)) (d_callB (cr_repr hr) c_repr T.n_repr (da_cons (d_var 4) da_nil))))))) dss_nil) (dss_one (ds_ret (d_and (d_cmp op_isN o_isN (d_var 6) d_non) (d_one (d_cmp (op_eqA hr.units) o_eq (d_callB (cr_repr hr) c_repr T.n_repr (da_cons (d_var 5) da_nil)) (d_callB (cr_repr hr) c_repr T.n_repr (da_cons (d_tup (da_cons (d_var 4) (da_cons d_bl (da_cons d_bl (da_cons d_bl da_nil))))) da_nil)))))))))))))
abbrev s__law_right : Stmt := top 62
theorem sc__law_right : FnScope ["_law_pot", "_law_fields", "_law_tale", "_law_turn", "_law_texts", "_law_again", "_law_at", "_law_part"] ["_law_pot"] (defScope s__law_right) := ⟨rfl, rfl, rfl, by decide +kernel, rfl, by decide +kernel, by decide +kernel⟩
theorem fn__law_right (T : Txt K mg w) {f : Addr} {fd : FuncData} (hm : mg "_law_right" = some (.ref f)) (F : Fun K "_law_right" "_law_right" s__law_right f fd) (G__law_asked : FnDG P w K mg base 8 "_law_asked" s__law_asked ["_law_fields", "_law_tale", "_law_texts"] m_law_asked_v5) (G__law_odd_word : FnDG P w K mg base 2 "_law_odd_word" s__law_odd_word ["_law_pot"] m_law_odd_word) (G__law_changed : FnDG P w K mg base 3 "_law_changed" s__law_changed ["_law_pot", "_law_texts"] m_law_changed) (G__law_draw_want : FnDG P w K mg base 2 "_law_draw_want" s__law_draw_want ["_law_pot", "_law_hours"] m_law_draw_want) (G__law_hours_in : FnDG P w K mg base 3 "_law_hours_in" s__law_hours_in ["_law_tale"] m_law_hours_in) (G__law_long_tale : FnDG P w K mg base 5 "_law_long_tale" s__law_long_tale ["_law_pot", "_law_fields", "_law_left"] m_law_long_tale) (G__law_draw_fields : FnDG P w K mg base 3 "_law_draw_fields" s__law_draw_fields ["_law_pot", "_law_many", "_law_most_shifts"] m_law_draw_fields) (G__law_pick : FnDG P w K mg base 1 "_law_pick" s__law_pick ["_law_pot", "_law_many"] m_law_pick_v2) : FnDG P w K mg base 9 "_law_right" s__law_right ["_law_pot"] m_law_right_v24 := by
  refine fnd_mkG (np := 1) (nN := 8) (k := 8) hm F (F.binds fun _ _ _ _ _ _ us hl => match us, hl with | [_], _ => rfl) sc__law_right rfl rfl fun cdv A outer s H E hr => ?_
  have tk : Takes (cxOf (L2.CX P w) P w K mg base ["_law_pot", "_law_fields", "_law_tale", "_law_turn", "_law_texts", "_law_again", "_law_at", "_law_part"] "_law_right" (defScope s__law_right) f cdv A outer s H E) (fun cls d _ H => E cls d H) := takes_of rfl rfl rfl rfl
  exact (dss_cons (ds_set 1 sc__law_right.nd (d_callG G__law_draw_fields hr tk (da_cons (d_var 0) (da_cons (d_op op_addD o_add d_int (d_callG G__law_pick hr tk (da_cons (d_var 0) (da_cons d_int da_nil)))) (da_cons d_int da_nil))))) (dss_cons (ds_set 2 sc__law_right.nd (d_callG G__law_long_tale hr tk (da_cons (d_var 0) (da_cons (d_var 1) (da_cons d_int da_nil))))) (dss_cons (ds_for (passes_of rfl) rfl (di_range1 (da_cons d_int da_nil) T.n_range) (dg_name 3 sc__law_right.nd) (dss_cons (ds_setLcA (mw := mFz) 4 (own := [("_law_part", 7)]) (rd_fz) rfl sc__law_right.nd (d_callG G__law_draw_want hr tk (da_cons (d_var 0) (da_cons (d_callG G__law_hours_in hr tk (da_cons (d_var 2) da_nil)) da_nil))) (blkOk_by (own := [("_law_part", 7)]) (N := ["_law_pot", "_law_fields", "_law_tale", "_law_turn", "_law_texts", "_law_again", "_law_at", "_law_part"]) (sc := defScope s__law_right) (by decide +kernel)) (fun _ _ _ _ _ => (dg_name 7 sc__law_right.nd)) (fun _ _ _ _ _ => dts_nil) (fun _ _ _ _ _ => (d_callTy cr_strS c_strS T.n_str (da_cons (d_var 7) da_nil)))) (dss_one (ds_for (passes_of rfl) rfl (di_range1 (da_cons d_int da_nil) T.n_range) (dg_name 5 sc__law_right.nd) (dss_cons (ds_if (dt_not (dt_val (d_callG G__law_asked hr tk (da_cons (d_var 1) (da_cons (d_var 2) (da_cons (d_var 4) da_nil)))))) (dss_one (ds_ret d_bl)) dss_nil) (dss_one (ds_set 4 sc__law_right.nd (d_callG G__law_changed hr tk (da_cons (d_var 0) (da_cons (d_var 4) da_nil)))))))))) (dss_cons (ds_for (passes_of rfl) rfl (di_range1 (da_cons (d_op op_addD o_add (d_callB call_len c_len T.n_len (da_cons (d_var 2) da_nil)) d_int) da_nil) T.n_range) (dg_name 6 sc__law_right.nd) (dss_cons (ds_if (dt_not (dt_val (d_callG G__law_asked hr tk (da_cons (d_var 1) (da_cons (d_var 2) (da_cons (d_fz (dl_lst (da_cons d_str (da_cons (d_callTy cr_strS c_strS T.n_str (da_cons (d_var 6) da_nil)) (da_cons d_str da_nil))))) da_nil)))))) (dss_one (ds_ret d_bl)) dss_nil) (dss_one (ds_if (dt_not (dt_val (d_callG G__law_asked hr tk (da_cons (d_var 1) (da_cons (d_var 2) (da_cons (d_fz (dl_lst (da_cons d_str (da_cons d_str (da_cons (d_callTy cr_strS c_strS T.n_str (da_cons (d_var 6) da_nil)) (da_cons d_str da_nil)))))) da_nil)))))) (dss_one (ds_ret d_bl)) dss_nil)))) (dss_one (ds_ret (d_and (d_callG G__law_asked hr tk (da_cons (d_var 1) (da_cons (d_var 2) (da_cons (d_fz (dl_lst (da_cons (d_callG G__law_odd_word hr tk (da_cons (d_var 0) da_nil)) da_nil))) da_nil)))) (d_one (d_callG G__law_asked hr tk (da_cons (d_var 1) (da_cons (d_var 2) (da_cons (d_fz (dl_lst (da_cons d_str da_nil))) da_nil))))))))))))
abbrev s_law : Stmt := top 63
theorem sc_law : FnScope ["_law_script", "_law_cell"] ["_law_script"] (defScope s_law) := ⟨rfl, rfl, rfl, by decide +kernel, rfl, by decide +kernel, by decide +kernel⟩
theorem fn_law (T : Txt K mg w) {f : Addr} {fd : FuncData} (hm : mg "law" = some (.ref f)) (F : Fun K "law" "law" s_law f fd) (G__law_right : FnDG P w K mg base 9 "_law_right" s__law_right ["_law_pot"] m_law_right_v24) (G__law_make_pot : FnDG P w K mg base 1 "_law_make_pot" s__law_make_pot ["_law_cell"] m_law_make_pot_v2) (G__law_cells : FnDG P w K mg base 1 "_law_cells" s__law_cells ["_law_script", "_law_many"] m_law_cells) : FnDG P w K mg base 10 "law" s_law ["_law_script"] m_law_k65_words_of_no_wish := by
  refine fnd_mkG (np := 1) (nN := 2) (k := 9) hm F (F.binds fun _ _ _ _ _ _ us hl => match us, hl with | [_], _ => rfl) sc_law rfl rfl fun cdv A outer s H E hr => ?_
  have tk : Takes (cxOf (L2.CX P w) P w K mg base ["_law_script", "_law_cell"] "law" (defScope s_law) f cdv A outer s H E) (fun cls d _ H => E cls d H) := takes_of rfl rfl rfl rfl
  exact (dss_cons (ds_forA (passes_of rfl) rfl (d_callG G__law_cells hr tk (da_cons (d_var 0) (da_cons d_int da_nil))) (dg_name 1 sc_law.nd) (dss_one (ds_if (dt_not (dt_val (d_callG G__law_right hr tk (da_cons (d_callG G__law_make_pot hr tk (da_cons (d_var 1) da_nil)) da_nil)))) (dss_one (ds_ret d_bl)) dss_nil))) (dss_one (ds_ret d_bl)))
abbrev si_InvalidWords : Stmt := inClass (top 6) 0
theorem sci_InvalidWords : FnScope ["self", "place"] ["self", "place"] (defScope si_InvalidWords) := ⟨rfl, rfl, rfl, by decide +kernel, rfl, by decide +kernel, by decide +kernel⟩
end
theorem all_mk {l : PySem.W.OpenLaw} {w : World} {K : Frag} {h : Heap} {mg : Str → Option Value} {fa : Addr} (hlaw : LawTrue m_law_k65_words_of_no_wish) (X : K.In h) (G : h.Ns mainGlobals mg) (hfa : mg "law" = some (.ref fa))
    {f0 : Addr} {od0 an0 : Option Addr} {sl0 : Array (Option Value)} {oc0 kV0 dc0 pm0 cd0 ct0 : Value} {f1 : Addr} {od1 an1 : Option Addr} {sl1 : Array (Option Value)} {oc1 kV1 dc1 pm1 cd1 ct1 : Value} {f2 : Addr} {od2 an2 : Option Addr} {sl2 : Array (Option Value)} {oc2 kV2 dc2 pm2 cd2 ct2 : Value} {f3 : Addr} {od3 an3 : Option Addr} {sl3 : Array (Option Value)} {oc3 kV3 dc3 pm3 cd3 ct3 : Value} {f4 : Addr} {od4 an4 : Option Addr} {sl4 : Array (Option Value)} {oc4 kV4 dc4 pm4 cd4 ct4 : Value} {f5 : Addr} {od5 an5 : Option Addr} {sl5 : Array (Option Value)} {oc5 kV5 dc5 pm5 cd5 ct5 : Value} {f6 : Addr} {od6 an6 : Option Addr} {sl6 : Array (Option Value)} {oc6 kV6 dc6 pm6 cd6 ct6 : Value} {f7 : Addr} {od7 an7 : Option Addr} {sl7 : Array (Option Value)} {oc7 kV7 dc7 pm7 cd7 ct7 : Value} {f8 : Addr} {od8 an8 : Option Addr} {sl8 : Array (Option Value)} {oc8 kV8 dc8 pm8 cd8 ct8 : Value} {f9 : Addr} {od9 an9 : Option Addr} {sl9 : Array (Option Value)} {oc9 kV9 dc9 pm9 cd9 ct9 : Value} {f10 : Addr} {od10 an10 : Option Addr} {sl10 : Array (Option Value)} {oc10 kV10 dc10 pm10 cd10 ct10 : Value} {f11 : Addr} {od11 an11 : Option Addr} {sl11 : Array (Option Value)} {oc11 kV11 dc11 pm11 cd11 ct11 : Value} {f12 : Addr} {od12 an12 : Option Addr} {sl12 : Array (Option Value)} {oc12 kV12 dc12 pm12 cd12 ct12 : Value} {f13 : Addr} {od13 an13 : Option Addr} {sl13 : Array (Option Value)} {oc13 kV13 dc13 pm13 cd13 ct13 : Value} {f14 : Addr} {od14 an14 : Option Addr} {sl14 : Array (Option Value)} {oc14 kV14 dc14 pm14 cd14 ct14 : Value} {f15 : Addr} {od15 an15 : Option Addr} {sl15 : Array (Option Value)} {oc15 kV15 dc15 pm15 cd15 ct15 : Value} {f16 : Addr} {od16 an16 : Option Addr} {sl16 : Array (Option Value)} {oc16 kV16 dc16 pm16 cd16 ct16 : Value} {f17 : Addr} {od17 an17 : Option Addr} {sl17 : Array (Option Value)} {oc17 kV17 dc17 pm17 cd17 ct17 : Value} {f18 : Addr} {od18 an18 : Option Addr} {sl18 : Array (Option Value)} {oc18 kV18 dc18 pm18 cd18 ct18 : Value} {f19 : Addr} {od19 an19 : Option Addr} {sl19 : Array (Option Value)} {oc19 kV19 dc19 pm19 cd19 ct19 : Value} {f20 : Addr} {od20 an20 : Option Addr} {sl20 : Array (Option Value)} {oc20 kV20 dc20 pm20 cd20 ct20 : Value} {f21 : Addr} {od21 an21 : Option Addr} {sl21 : Array (Option Value)} {oc21 kV21 dc21 pm21 cd21 ct21 : Value} {f22 : Addr} {od22 an22 : Option Addr} {sl22 : Array (Option Value)} {oc22 kV22 dc22 pm22 cd22 ct22 : Value} {f23 : Addr} {od23 an23 : Option Addr} {sl23 : Array (Option Value)} {oc23 kV23 dc23 pm23 cd23 ct23 : Value} {f24 : Addr} {od24 an24 : Option Addr} {sl24 : Array (Option Value)} {oc24 kV24 dc24 pm24 cd24 ct24 : Value} {f25 : Addr} {od25 an25 : Option Addr} {sl25 : Array (Option Value)} {oc25 kV25 dc25 pm25 cd25 ct25 : Value} {f26 : Addr} {od26 an26 : Option Addr} {sl26 : Array (Option Value)} {oc26 kV26 dc26 pm26 cd26 ct26 : Value} {f27 : Addr} {od27 an27 : Option Addr} {sl27 : Array (Option Value)} {oc27 kV27 dc27 pm27 cd27 ct27 : Value} {f28 : Addr} {od28 an28 : Option Addr} {sl28 : Array (Option Value)} {oc28 kV28 dc28 pm28 cd28 ct28 : Value} {f29 : Addr} {od29 an29 : Option Addr} {sl29 : Array (Option Value)} {oc29 kV29 dc29 pm29 cd29 ct29 : Value} {f30 : Addr} {od30 an30 : Option Addr} {sl30 : Array (Option Value)} {oc30 kV30 dc30 pm30 cd30 ct30 : Value} {f31 : Addr} {od31 an31 : Option Addr} {sl31 : Array (Option Value)} {oc31 kV31 dc31 pm31 cd31 ct31 : Value} {f32 : Addr} {od32 an32 : Option Addr} {sl32 : Array (Option Value)} {oc32 kV32 dc32 pm32 cd32 ct32 : Value} {f33 : Addr} {od33 an33 : Option Addr} {sl33 : Array (Option Value)} {oc33 kV33 dc33 pm33 cd33 ct33 : Value} {f34 : Addr} {od34 an34 : Option Addr} {sl34 : Array (Option Value)} {oc34 kV34 dc34 pm34 cd34 ct34 : Value} {f35 : Addr} {od35 an35 : Option Addr} {sl35 : Array (Option Value)} {oc35 kV35 dc35 pm35 cd35 ct35 : Value} {f36 : Addr} {od36 an36 : Option Addr} {sl36 : Array (Option Value)} {oc36 kV36 dc36 pm36 cd36 ct36 : Value} {f37 : Addr} {od37 an37 : Option Addr} {sl37 : Array (Option Value)} {oc37 kV37 dc37 pm37 cd37 ct37 : Value} {f38 : Addr} {od38 an38 : Option Addr} {sl38 : Array (Option Value)} {oc38 kV38 dc38 pm38 cd38 ct38 : Value} {f39 : Addr} {od39 an39 : Option Addr} {sl39 : Array (Option Value)} {oc39 kV39 dc39 pm39 cd39 ct39 : Value} {f40 : Addr} {od40 an40 : Option Addr} {sl40 : Array (Option Value)} {oc40 kV40 dc40 pm40 cd40 ct40 : Value} {f41 : Addr} {od41 an41 : Option Addr} {sl41 : Array (Option Value)} {oc41 kV41 dc41 pm41 cd41 ct41 : Value} {Q0_1 : Addr} {oQ0_1 : Option Addr} {nQ0_1 : Nat} {sQ0_1 : Array (Option Value)} {tQ0_2 : Tok} {tQ0_3 : Tok} {tQ0_4 : Tok} {Q1_1 : Addr} {oQ1_1 : Option Addr} {nQ1_1 : Nat} {sQ1_1 : Array (Option Value)} {tQ1_2 : Tok} {tQ1_3 : Tok} {tQ1_4 : Tok} {Q2_t : Addr} {nQ2_t : Nat} {hQ2_0 : Int} {uQ2_0 : Tok} {tQ2_1 : Tok} {hQ2_1 : Int} {uQ2_1 : Tok} {tQ2_2 : Tok} {hQ2_2 : Int} {uQ2_2 : Tok} {tQ2_3 : Tok} {hQ2_3 : Int} {uQ2_3 : Tok} {tQ2_4 : Tok} {hQ2_4 : Int} {uQ2_4 : Tok} {tQ2_5 : Tok} {hQ2_5 : Int} {uQ2_5 : Tok} {tQ2_6 : Tok} {t3 : Tok} {t4 : Tok} {t5 : Tok} {t6 : Tok} {t7 : Tok} {t8 : Tok} {Q9_t : Addr} {nQ9_t : Nat} {hQ9_0 : Int} {uQ9_0 : Tok} {Q9_1 : Addr} {oQ9_1 : Option Addr} {nQ9_1 : Nat} {sQ9_1 : Array (Option Value)} {tQ9_2 : Tok} {tQ9_3 : Tok} {hQ9_1 : Int} {uQ9_1 : Tok} {Q9_4 : Addr} {oQ9_4 : Option Addr} {nQ9_4 : Nat} {sQ9_4 : Array (Option Value)} {tQ9_5 : Tok} {tQ9_6 : Tok} {tQ9_7 : Tok} {tQ9_8 : Tok} {hQ9_2 : Int} {uQ9_2 : Tok} {Q9_9 : Addr} {oQ9_9 : Option Addr} {nQ9_9 : Nat} {sQ9_9 : Array (Option Value)} {tQ9_10 : Tok} {tQ9_11 : Tok} {hQ9_3 : Int} {uQ9_3 : Tok} {Q9_12 : Addr} {oQ9_12 : Option Addr} {nQ9_12 : Nat} {sQ9_12 : Array (Option Value)} {tQ9_13 : Tok} {tQ9_14 : Tok} {hQ9_4 : Int} {uQ9_4 : Tok} {Q9_15 : Addr} {oQ9_15 : Option Addr} {nQ9_15 : Nat} {sQ9_15 : Array (Option Value)} {tQ9_16 : Tok} {tQ9_17 : Tok} {hQ9_5 : Int} {uQ9_5 : Tok} {Q9_18 : Addr} {oQ9_18 : Option Addr} {nQ9_18 : Nat} {sQ9_18 : Array (Option Value)} {tQ9_19 : Tok} {tQ9_20 : Tok} {hQ9_6 : Int} {uQ9_6 : Tok} {Q9_21 : Addr} {oQ9_21 : Option Addr} {nQ9_21 : Nat} {sQ9_21 : Array (Option Value)} {tQ9_22 : Tok} {tQ9_23 : Tok} {Q10_t : Addr} {nQ10_t : Nat} {hQ10_0 : Int} {uQ10_0 : Tok} {Q10_1 : Addr} {oQ10_1 : Option Addr} {nQ10_1 : Nat} {sQ10_1 : Array (Option Value)} {hQ10_1 : Int} {uQ10_1 : Tok} {Q10_2 : Addr} {oQ10_2 : Option Addr} {nQ10_2 : Nat} {sQ10_2 : Array (Option Value)} {tQ10_3 : Tok} {tQ10_4 : Tok} {hQ10_2 : Int} {uQ10_2 : Tok} {Q10_5 : Addr} {oQ10_5 : Option Addr} {nQ10_5 : Nat} {sQ10_5 : Array (Option Value)} {tQ10_6 : Tok} {tQ10_7 : Tok} {hQ10_3 : Int} {uQ10_3 : Tok} {Q10_8 : Addr} {oQ10_8 : Option Addr} {nQ10_8 : Nat} {sQ10_8 : Array (Option Value)} {tQ10_9 : Tok} {tQ10_10 : Tok} {tQ10_11 : Tok} {C0 : Addr} {C1 : Addr} {C2 : Addr} {C3 : Addr} {C4 : Addr} {C5 : Addr} {nm_2 q_2 : Str} {N_2 fI_2 : Addr} {bs_2 bm_2 sub_2 : List Value} {sn_2 : List Str} {ab_2 : Bool} {col_2 : Option Bool} {dd_2 : Option Addr} {m0_2 m1_2 m2_2 m3_2 m5_2 : Option Value} {oI_2 kVI_2 dcI_2 pmI_2 cdI_2 ctI_2 : Value} {odI_2 anI_2 : Option Addr} {slI_2 : Array (Option Value)}
    (a0 : PySem.W.nsIn K mainGlobals "is_integer" = some (some (.ref f0)))
    (l0 : K.lookup f0 = some ⟨oc0, od0, .func (PySem.W.fnOf "is_integer" "is_integer" (defArgs s_is_integer) (defBody s_is_integer) (defScope s_is_integer) .none kV0 dc0 pm0 an0 cd0 ct0), sl0⟩)
    (c0 : PySem.W.codeIn K cd0 "is_integer" = true)
    (k0 : PySem.W.keepIn K (.ref f0) = true)
    (a1 : PySem.W.nsIn K mainGlobals "is_zone" = some (some (.ref f1)))
    (l1 : K.lookup f1 = some ⟨oc1, od1, .func (PySem.W.fnOf "is_zone" "is_zone" (defArgs s_is_zone) (defBody s_is_zone) (defScope s_is_zone) .none kV1 dc1 pm1 an1 cd1 ct1), sl1⟩)
    (c1 : PySem.W.codeIn K cd1 "is_zone" = true)
    (k1 : PySem.W.keepIn K (.ref f1) = true)
    (a2 : PySem.W.nsIn K mainGlobals "is_zones" = some (some (.ref f2)))
    (l2 : K.lookup f2 = some ⟨oc2, od2, .func (PySem.W.fnOf "is_zones" "is_zones" (defArgs s_is_zones) (defBody s_is_zones) (defScope s_is_zones) .none kV2 dc2 pm2 an2 cd2 ct2), sl2⟩)
    (c2 : PySem.W.codeIn K cd2 "is_zones" = true)
    (k2 : PySem.W.keepIn K (.ref f2) = true)
    (a3 : PySem.W.nsIn K mainGlobals "need_zones" = some (some (.ref f3)))
    (l3 : K.lookup f3 = some ⟨oc3, od3, .func (PySem.W.fnOf "need_zones" "need_zones" (defArgs s_need_zones) (defBody s_need_zones) (defScope s_need_zones) .none kV3 dc3 pm3 an3 cd3 ct3), sl3⟩)
    (c3 : PySem.W.codeIn K cd3 "need_zones" = true)
    (k3 : PySem.W.keepIn K (.ref f3) = true)
    (a4 : PySem.W.nsIn K mainGlobals "is_part" = some (some (.ref f4)))
    (l4 : K.lookup f4 = some ⟨oc4, od4, .func (PySem.W.fnOf "is_part" "is_part" (defArgs s_is_part) (defBody s_is_part) (defScope s_is_part) .none kV4 dc4 pm4 an4 cd4 ct4), sl4⟩)
    (c4 : PySem.W.codeIn K cd4 "is_part" = true)
    (k4 : PySem.W.keepIn K (.ref f4) = true)
    (a5 : PySem.W.nsIn K mainGlobals "is_step" = some (some (.ref f5)))
    (l5 : K.lookup f5 = some ⟨oc5, od5, .func (PySem.W.fnOf "is_step" "is_step" (defArgs s_is_step) (defBody s_is_step) (defScope s_is_step) .none kV5 dc5 pm5 an5 cd5 ct5), sl5⟩)
    (c5 : PySem.W.codeIn K cd5 "is_step" = true)
    (k5 : PySem.W.keepIn K (.ref f5) = true)
    (a6 : PySem.W.nsIn K mainGlobals "kind_made" = some (some (.ref f6)))
    (l6 : K.lookup f6 = some ⟨oc6, od6, .func (PySem.W.fnOf "kind_made" "kind_made" (defArgs s_kind_made) (defBody s_kind_made) (defScope s_kind_made) .none kV6 dc6 pm6 an6 cd6 ct6), sl6⟩)
    (c6 : PySem.W.codeIn K cd6 "kind_made" = true)
    (k6 : PySem.W.keepIn K (.ref f6) = true)
    (a7 : PySem.W.nsIn K mainGlobals "kinds_of" = some (some (.ref f7)))
    (l7 : K.lookup f7 = some ⟨oc7, od7, .func (PySem.W.fnOf "kinds_of" "kinds_of" (defArgs s_kinds_of) (defBody s_kinds_of) (defScope s_kinds_of) .none kV7 dc7 pm7 an7 cd7 ct7), sl7⟩)
    (c7 : PySem.W.codeIn K cd7 "kinds_of" = true)
    (k7 : PySem.W.keepIn K (.ref f7) = true)
    (a8 : PySem.W.nsIn K mainGlobals "is_program" = some (some (.ref f8)))
    (l8 : K.lookup f8 = some ⟨oc8, od8, .func (PySem.W.fnOf "is_program" "is_program" (defArgs s_is_program) (defBody s_is_program) (defScope s_is_program) .none kV8 dc8 pm8 an8 cd8 ct8), sl8⟩)
    (c8 : PySem.W.codeIn K cd8 "is_program" = true)
    (k8 : PySem.W.keepIn K (.ref f8) = true)
    (a9 : PySem.W.nsIn K mainGlobals "need_program" = some (some (.ref f9)))
    (l9 : K.lookup f9 = some ⟨oc9, od9, .func (PySem.W.fnOf "need_program" "need_program" (defArgs s_need_program) (defBody s_need_program) (defScope s_need_program) .none kV9 dc9 pm9 an9 cd9 ct9), sl9⟩)
    (c9 : PySem.W.codeIn K cd9 "need_program" = true)
    (k9 : PySem.W.keepIn K (.ref f9) = true)
    (a10 : PySem.W.nsIn K mainGlobals "number_of" = some (some (.ref f10)))
    (l10 : K.lookup f10 = some ⟨oc10, od10, .func (PySem.W.fnOf "number_of" "number_of" (defArgs s_number_of) (defBody s_number_of) (defScope s_number_of) .none kV10 dc10 pm10 an10 cd10 ct10), sl10⟩)
    (c10 : PySem.W.codeIn K cd10 "number_of" = true)
    (k10 : PySem.W.keepIn K (.ref f10) = true)
    (a11 : PySem.W.nsIn K mainGlobals "slot_value" = some (some (.ref f11)))
    (l11 : K.lookup f11 = some ⟨oc11, od11, .func (PySem.W.fnOf "slot_value" "slot_value" (defArgs s_slot_value) (defBody s_slot_value) (defScope s_slot_value) .none kV11 dc11 pm11 an11 cd11 ct11), sl11⟩)
    (c11 : PySem.W.codeIn K cd11 "slot_value" = true)
    (k11 : PySem.W.keepIn K (.ref f11) = true)
    (a12 : PySem.W.nsIn K mainGlobals "slot_takes" = some (some (.ref f12)))
    (l12 : K.lookup f12 = some ⟨oc12, od12, .func (PySem.W.fnOf "slot_takes" "slot_takes" (defArgs s_slot_takes) (defBody s_slot_takes) (defScope s_slot_takes) .none kV12 dc12 pm12 an12 cd12 ct12), sl12⟩)
    (c12 : PySem.W.codeIn K cd12 "slot_takes" = true)
    (k12 : PySem.W.keepIn K (.ref f12) = true)
    (a13 : PySem.W.nsIn K mainGlobals "word_at" = some (some (.ref f13)))
    (l13 : K.lookup f13 = some ⟨oc13, od13, .func (PySem.W.fnOf "word_at" "word_at" (defArgs s_word_at) (defBody s_word_at) (defScope s_word_at) .none kV13 dc13 pm13 an13 cd13 ct13), sl13⟩)
    (c13 : PySem.W.codeIn K cd13 "word_at" = true)
    (k13 : PySem.W.keepIn K (.ref f13) = true)
    (a14 : PySem.W.nsIn K mainGlobals "read_slots" = some (some (.ref f14)))
    (l14 : K.lookup f14 = some ⟨oc14, od14, .func (PySem.W.fnOf "read_slots" "read_slots" (defArgs s_read_slots) (defBody s_read_slots) (defScope s_read_slots) .none kV14 dc14 pm14 an14 cd14 ct14), sl14⟩)
    (c14 : PySem.W.codeIn K cd14 "read_slots" = true)
    (k14 : PySem.W.keepIn K (.ref f14) = true)
    (a15 : PySem.W.nsIn K mainGlobals "read_wish" = some (some (.ref f15)))
    (l15 : K.lookup f15 = some ⟨oc15, od15, .func (PySem.W.fnOf "read_wish" "read_wish" (defArgs s_read_wish) (defBody s_read_wish) (defScope s_read_wish) .none kV15 dc15 pm15 an15 cd15 ct15), sl15⟩)
    (c15 : PySem.W.codeIn K cd15 "read_wish" = true)
    (k15 : PySem.W.keepIn K (.ref f15) = true)
    (a16 : PySem.W.nsIn K mainGlobals "_law_make_pot" = some (some (.ref f16)))
    (l16 : K.lookup f16 = some ⟨oc16, od16, .func (PySem.W.fnOf "_law_make_pot" "_law_make_pot" (defArgs s__law_make_pot) (defBody s__law_make_pot) (defScope s__law_make_pot) .none kV16 dc16 pm16 an16 cd16 ct16), sl16⟩)
    (c16 : PySem.W.codeIn K cd16 "_law_make_pot" = true)
    (k16 : PySem.W.keepIn K (.ref f16) = true)
    (a17 : PySem.W.nsIn K mainGlobals "_law_pick" = some (some (.ref f17)))
    (l17 : K.lookup f17 = some ⟨oc17, od17, .func (PySem.W.fnOf "_law_pick" "_law_pick" (defArgs s__law_pick) (defBody s__law_pick) (defScope s__law_pick) .none kV17 dc17 pm17 an17 cd17 ct17), sl17⟩)
    (c17 : PySem.W.codeIn K cd17 "_law_pick" = true)
    (k17 : PySem.W.keepIn K (.ref f17) = true)
    (a18 : PySem.W.nsIn K mainGlobals "_law_cells" = some (some (.ref f18)))
    (l18 : K.lookup f18 = some ⟨oc18, od18, .func (PySem.W.fnOf "_law_cells" "_law_cells" (defArgs s__law_cells) (defBody s__law_cells) (defScope s__law_cells) .none kV18 dc18 pm18 an18 cd18 ct18), sl18⟩)
    (c18 : PySem.W.codeIn K cd18 "_law_cells" = true)
    (k18 : PySem.W.keepIn K (.ref f18) = true)
    (a19 : PySem.W.nsIn K mainGlobals "_law_draw_spot" = some (some (.ref f19)))
    (l19 : K.lookup f19 = some ⟨oc19, od19, .func (PySem.W.fnOf "_law_draw_spot" "_law_draw_spot" (defArgs s__law_draw_spot) (defBody s__law_draw_spot) (defScope s__law_draw_spot) .none kV19 dc19 pm19 an19 cd19 ct19), sl19⟩)
    (c19 : PySem.W.codeIn K cd19 "_law_draw_spot" = true)
    (k19 : PySem.W.keepIn K (.ref f19) = true)
    (a20 : PySem.W.nsIn K mainGlobals "_law_sort_behind" = some (some (.ref f20)))
    (l20 : K.lookup f20 = some ⟨oc20, od20, .func (PySem.W.fnOf "_law_sort_behind" "_law_sort_behind" (defArgs s__law_sort_behind) (defBody s__law_sort_behind) (defScope s__law_sort_behind) .none kV20 dc20 pm20 an20 cd20 ct20), sl20⟩)
    (c20 : PySem.W.codeIn K cd20 "_law_sort_behind" = true)
    (k20 : PySem.W.keepIn K (.ref f20) = true)
    (a21 : PySem.W.nsIn K mainGlobals "_law_kinds_in" = some (some (.ref f21)))
    (l21 : K.lookup f21 = some ⟨oc21, od21, .func (PySem.W.fnOf "_law_kinds_in" "_law_kinds_in" (defArgs s__law_kinds_in) (defBody s__law_kinds_in) (defScope s__law_kinds_in) .none kV21 dc21 pm21 an21 cd21 ct21), sl21⟩)
    (c21 : PySem.W.codeIn K cd21 "_law_kinds_in" = true)
    (k21 : PySem.W.keepIn K (.ref f21) = true)
    (a22 : PySem.W.nsIn K mainGlobals "_law_rule" = some (some (.ref f22)))
    (l22 : K.lookup f22 = some ⟨oc22, od22, .func (PySem.W.fnOf "_law_rule" "_law_rule" (defArgs s__law_rule) (defBody s__law_rule) (defScope s__law_rule) .none kV22 dc22 pm22 an22 cd22 ct22), sl22⟩)
    (c22 : PySem.W.codeIn K cd22 "_law_rule" = true)
    (k22 : PySem.W.keepIn K (.ref f22) = true)
    (a23 : PySem.W.nsIn K mainGlobals "_law_words_open" = some (some (.ref f23)))
    (l23 : K.lookup f23 = some ⟨oc23, od23, .func (PySem.W.fnOf "_law_words_open" "_law_words_open" (defArgs s__law_words_open) (defBody s__law_words_open) (defScope s__law_words_open) .none kV23 dc23 pm23 an23 cd23 ct23), sl23⟩)
    (c23 : PySem.W.codeIn K cd23 "_law_words_open" = true)
    (k23 : PySem.W.keepIn K (.ref f23) = true)
    (a24 : PySem.W.nsIn K mainGlobals "_law_draw_step" = some (some (.ref f24)))
    (l24 : K.lookup f24 = some ⟨oc24, od24, .func (PySem.W.fnOf "_law_draw_step" "_law_draw_step" (defArgs s__law_draw_step) (defBody s__law_draw_step) (defScope s__law_draw_step) .none kV24 dc24 pm24 an24 cd24 ct24), sl24⟩)
    (c24 : PySem.W.codeIn K cd24 "_law_draw_step" = true)
    (k24 : PySem.W.keepIn K (.ref f24) = true)
    (a25 : PySem.W.nsIn K mainGlobals "_law_draw_tale" = some (some (.ref f25)))
    (l25 : K.lookup f25 = some ⟨oc25, od25, .func (PySem.W.fnOf "_law_draw_tale" "_law_draw_tale" (defArgs s__law_draw_tale) (defBody s__law_draw_tale) (defScope s__law_draw_tale) .none kV25 dc25 pm25 an25 cd25 ct25), sl25⟩)
    (c25 : PySem.W.codeIn K cd25 "_law_draw_tale" = true)
    (k25 : PySem.W.keepIn K (.ref f25) = true)
    (a26 : PySem.W.nsIn K mainGlobals "_law_hours_in" = some (some (.ref f26)))
    (l26 : K.lookup f26 = some ⟨oc26, od26, .func (PySem.W.fnOf "_law_hours_in" "_law_hours_in" (defArgs s__law_hours_in) (defBody s__law_hours_in) (defScope s__law_hours_in) .none kV26 dc26 pm26 an26 cd26 ct26), sl26⟩)
    (c26 : PySem.W.codeIn K cd26 "_law_hours_in" = true)
    (k26 : PySem.W.keepIn K (.ref f26) = true)
    (a27 : PySem.W.nsIn K mainGlobals "_law_draw_shifts" = some (some (.ref f27)))
    (l27 : K.lookup f27 = some ⟨oc27, od27, .func (PySem.W.fnOf "_law_draw_shifts" "_law_draw_shifts" (defArgs s__law_draw_shifts) (defBody s__law_draw_shifts) (defScope s__law_draw_shifts) .none kV27 dc27 pm27 an27 cd27 ct27), sl27⟩)
    (c27 : PySem.W.codeIn K cd27 "_law_draw_shifts" = true)
    (k27 : PySem.W.keepIn K (.ref f27) = true)
    (a28 : PySem.W.nsIn K mainGlobals "_law_draw_apart" = some (some (.ref f28)))
    (l28 : K.lookup f28 = some ⟨oc28, od28, .func (PySem.W.fnOf "_law_draw_apart" "_law_draw_apart" (defArgs s__law_draw_apart) (defBody s__law_draw_apart) (defScope s__law_draw_apart) .none kV28 dc28 pm28 an28 cd28 ct28), sl28⟩)
    (c28 : PySem.W.codeIn K cd28 "_law_draw_apart" = true)
    (k28 : PySem.W.keepIn K (.ref f28) = true)
    (a29 : PySem.W.nsIn K mainGlobals "_law_draw_fields" = some (some (.ref f29)))
    (l29 : K.lookup f29 = some ⟨oc29, od29, .func (PySem.W.fnOf "_law_draw_fields" "_law_draw_fields" (defArgs s__law_draw_fields) (defBody s__law_draw_fields) (defScope s__law_draw_fields) .none kV29 dc29 pm29 an29 cd29 ct29), sl29⟩)
    (c29 : PySem.W.codeIn K cd29 "_law_draw_fields" = true)
    (k29 : PySem.W.keepIn K (.ref f29) = true)
    (a30 : PySem.W.nsIn K mainGlobals "_law_minutes" = some (some (.ref f30)))
    (l30 : K.lookup f30 = some ⟨oc30, od30, .func (PySem.W.fnOf "_law_minutes" "_law_minutes" (defArgs s__law_minutes) (defBody s__law_minutes) (defScope s__law_minutes) .none kV30 dc30 pm30 an30 cd30 ct30), sl30⟩)
    (c30 : PySem.W.codeIn K cd30 "_law_minutes" = true)
    (k30 : PySem.W.keepIn K (.ref f30) = true)
    (a31 : PySem.W.nsIn K mainGlobals "_law_draw_want" = some (some (.ref f31)))
    (l31 : K.lookup f31 = some ⟨oc31, od31, .func (PySem.W.fnOf "_law_draw_want" "_law_draw_want" (defArgs s__law_draw_want) (defBody s__law_draw_want) (defScope s__law_draw_want) .none kV31 dc31 pm31 an31 cd31 ct31), sl31⟩)
    (c31 : PySem.W.codeIn K cd31 "_law_draw_want" = true)
    (k31 : PySem.W.keepIn K (.ref f31) = true)
    (a32 : PySem.W.nsIn K mainGlobals "_law_writes" = some (some (.ref f32)))
    (l32 : K.lookup f32 = some ⟨oc32, od32, .func (PySem.W.fnOf "_law_writes" "_law_writes" (defArgs s__law_writes) (defBody s__law_writes) (defScope s__law_writes) .none kV32 dc32 pm32 an32 cd32 ct32), sl32⟩)
    (c32 : PySem.W.codeIn K cd32 "_law_writes" = true)
    (k32 : PySem.W.keepIn K (.ref f32) = true)
    (a33 : PySem.W.nsIn K mainGlobals "_law_value_of" = some (some (.ref f33)))
    (l33 : K.lookup f33 = some ⟨oc33, od33, .func (PySem.W.fnOf "_law_value_of" "_law_value_of" (defArgs s__law_value_of) (defBody s__law_value_of) (defScope s__law_value_of) .none kV33 dc33 pm33 an33 cd33 ct33), sl33⟩)
    (c33 : PySem.W.codeIn K cd33 "_law_value_of" = true)
    (k33 : PySem.W.keepIn K (.ref f33) = true)
    (a34 : PySem.W.nsIn K mainGlobals "_law_wish_read" = some (some (.ref f34)))
    (l34 : K.lookup f34 = some ⟨oc34, od34, .func (PySem.W.fnOf "_law_wish_read" "_law_wish_read" (defArgs s__law_wish_read) (defBody s__law_wish_read) (defScope s__law_wish_read) .none kV34 dc34 pm34 an34 cd34 ct34), sl34⟩)
    (c34 : PySem.W.codeIn K cd34 "_law_wish_read" = true)
    (k34 : PySem.W.keepIn K (.ref f34) = true)
    (a35 : PySem.W.nsIn K mainGlobals "_law_odd_word" = some (some (.ref f35)))
    (l35 : K.lookup f35 = some ⟨oc35, od35, .func (PySem.W.fnOf "_law_odd_word" "_law_odd_word" (defArgs s__law_odd_word) (defBody s__law_odd_word) (defScope s__law_odd_word) .none kV35 dc35 pm35 an35 cd35 ct35), sl35⟩)
    (c35 : PySem.W.codeIn K cd35 "_law_odd_word" = true)
    (k35 : PySem.W.keepIn K (.ref f35) = true)
    (a36 : PySem.W.nsIn K mainGlobals "_law_bent_word" = some (some (.ref f36)))
    (l36 : K.lookup f36 = some ⟨oc36, od36, .func (PySem.W.fnOf "_law_bent_word" "_law_bent_word" (defArgs s__law_bent_word) (defBody s__law_bent_word) (defScope s__law_bent_word) .none kV36 dc36 pm36 an36 cd36 ct36), sl36⟩)
    (c36 : PySem.W.codeIn K cd36 "_law_bent_word" = true)
    (k36 : PySem.W.keepIn K (.ref f36) = true)
    (a37 : PySem.W.nsIn K mainGlobals "_law_changed" = some (some (.ref f37)))
    (l37 : K.lookup f37 = some ⟨oc37, od37, .func (PySem.W.fnOf "_law_changed" "_law_changed" (defArgs s__law_changed) (defBody s__law_changed) (defScope s__law_changed) .none kV37 dc37 pm37 an37 cd37 ct37), sl37⟩)
    (c37 : PySem.W.codeIn K cd37 "_law_changed" = true)
    (k37 : PySem.W.keepIn K (.ref f37) = true)
    (a38 : PySem.W.nsIn K mainGlobals "_law_long_tale" = some (some (.ref f38)))
    (l38 : K.lookup f38 = some ⟨oc38, od38, .func (PySem.W.fnOf "_law_long_tale" "_law_long_tale" (defArgs s__law_long_tale) (defBody s__law_long_tale) (defScope s__law_long_tale) .none kV38 dc38 pm38 an38 cd38 ct38), sl38⟩)
    (c38 : PySem.W.codeIn K cd38 "_law_long_tale" = true)
    (k38 : PySem.W.keepIn K (.ref f38) = true)
    (a39 : PySem.W.nsIn K mainGlobals "_law_asked" = some (some (.ref f39)))
    (l39 : K.lookup f39 = some ⟨oc39, od39, .func (PySem.W.fnOf "_law_asked" "_law_asked" (defArgs s__law_asked) (defBody s__law_asked) (defScope s__law_asked) .none kV39 dc39 pm39 an39 cd39 ct39), sl39⟩)
    (c39 : PySem.W.codeIn K cd39 "_law_asked" = true)
    (k39 : PySem.W.keepIn K (.ref f39) = true)
    (a40 : PySem.W.nsIn K mainGlobals "_law_right" = some (some (.ref f40)))
    (l40 : K.lookup f40 = some ⟨oc40, od40, .func (PySem.W.fnOf "_law_right" "_law_right" (defArgs s__law_right) (defBody s__law_right) (defScope s__law_right) .none kV40 dc40 pm40 an40 cd40 ct40), sl40⟩)
    (c40 : PySem.W.codeIn K cd40 "_law_right" = true)
    (k40 : PySem.W.keepIn K (.ref f40) = true)
    (a41 : PySem.W.nsIn K mainGlobals "law" = some (some (.ref f41)))
    (l41 : K.lookup f41 = some ⟨oc41, od41, .func (PySem.W.fnOf "law" "law" (defArgs s_law) (defBody s_law) (defScope s_law) .none kV41 dc41 pm41 an41 cd41 ct41), sl41⟩)
    (c41 : PySem.W.codeIn K cd41 "law" = true)
    (k41 : PySem.W.keepIn K (.ref f41) = true)
    (z0 : PySem.W.nsIn K mainGlobals "all" = some none)
    (z1 : PySem.W.nsIn K mainGlobals "bool" = some none)
    (z2 : PySem.W.nsIn K mainGlobals "enumerate" = some none)
    (z3 : PySem.W.nsIn K mainGlobals "int" = some none)
    (z4 : PySem.W.nsIn K mainGlobals "isinstance" = some none)
    (z5 : PySem.W.nsIn K mainGlobals "len" = some none)
    (z6 : PySem.W.nsIn K mainGlobals "list" = some none)
    (z7 : PySem.W.nsIn K mainGlobals "max" = some none)
    (z8 : PySem.W.nsIn K mainGlobals "min" = some none)
    (z9 : PySem.W.nsIn K mainGlobals "range" = some none)
    (z10 : PySem.W.nsIn K mainGlobals "repr" = some none)
    (z11 : PySem.W.nsIn K mainGlobals "str" = some none)
    (z12 : PySem.W.nsIn K mainGlobals "tuple" = some none)
    (v0 : PySem.W.nsIn K mainGlobals "FOLDS" = some (some (.ref Q0_1)))
    (q0_1 : K.lookup Q0_1 = some ⟨.type "tuple", oQ0_1, .seq #[(.str "early" tQ0_2), (.str "late" tQ0_3), (.str "refuse" tQ0_4)] nQ0_1, sQ0_1⟩)
    (v1 : PySem.W.nsIn K mainGlobals "GAPS" = some (some (.ref Q1_1)))
    (q1_1 : K.lookup Q1_1 = some ⟨.type "tuple", oQ1_1, .seq #[(.str "ahead" tQ1_2), (.str "behind" tQ1_3), (.str "refuse" tQ1_4)] nQ1_1, sQ1_1⟩)
    (v2 : PySem.W.nsIn K mainGlobals "MADE" = some (some (.ref Q2_t)))
    (tb2 : K.lookup Q2_t = some ⟨.type "dict", none, .dict #[⟨hQ2_0, (.str "read" uQ2_0), (.str "reading" tQ2_1)⟩, ⟨hQ2_1, (.str "find" uQ2_1), (.str "moment" tQ2_2)⟩, ⟨hQ2_2, (.str "offset" uQ2_2), (.str "span" tQ2_3)⟩, ⟨hQ2_3, (.str "edition" uQ2_3), (.str "moment" tQ2_4)⟩, ⟨hQ2_4, (.str "plus" uQ2_4), (.str "reading" tQ2_5)⟩, ⟨hQ2_5, (.str "less" uQ2_5), (.str "moment" tQ2_6)⟩] nQ2_t, #[]⟩)
    (hs2_0 : hQ2_0 = PyData.keyHash w.params "read")
    (hs2_1 : hQ2_1 = PyData.keyHash w.params "find")
    (hs2_2 : hQ2_2 = PyData.keyHash w.params "offset")
    (hs2_3 : hQ2_3 = PyData.keyHash w.params "edition")
    (hs2_4 : hQ2_4 = PyData.keyHash w.params "plus")
    (hs2_5 : hQ2_5 = PyData.keyHash w.params "less")
    (lw2 : (Q2_t == sysModules) = false)
    (v3 : PySem.W.nsIn K mainGlobals "MOST_APART" = some (some (.int (1000000) t3)))
    (v4 : PySem.W.nsIn K mainGlobals "MOST_DIGITS" = some (some (.int (7) t4)))
    (v5 : PySem.W.nsIn K mainGlobals "MOST_MINUTES" = some (some (.int (100000) t5)))
    (v6 : PySem.W.nsIn K mainGlobals "MOST_OFFSET" = some (some (.int (900) t6)))
    (v7 : PySem.W.nsIn K mainGlobals "MOST_SPACING" = some (some (.int (1000000) t7)))
    (v8 : PySem.W.nsIn K mainGlobals "MOST_STEPS" = some (some (.int (8) t8)))
    (v9 : PySem.W.nsIn K mainGlobals "PARTS" = some (some (.ref Q9_t)))
    (tb9 : K.lookup Q9_t = some ⟨.type "dict", none, .dict #[⟨hQ9_0, (.str "read" uQ9_0), (.ref Q9_1)⟩, ⟨hQ9_1, (.str "find" uQ9_1), (.ref Q9_4)⟩, ⟨hQ9_2, (.str "offset" uQ9_2), (.ref Q9_9)⟩, ⟨hQ9_3, (.str "edition" uQ9_3), (.ref Q9_12)⟩, ⟨hQ9_4, (.str "plus" uQ9_4), (.ref Q9_15)⟩, ⟨hQ9_5, (.str "less" uQ9_5), (.ref Q9_18)⟩, ⟨hQ9_6, (.str "add" uQ9_6), (.ref Q9_21)⟩] nQ9_t, #[]⟩)
    (hs9_0 : hQ9_0 = PyData.keyHash w.params "read")
    (hs9_1 : hQ9_1 = PyData.keyHash w.params "find")
    (hs9_2 : hQ9_2 = PyData.keyHash w.params "offset")
    (hs9_3 : hQ9_3 = PyData.keyHash w.params "edition")
    (hs9_4 : hQ9_4 = PyData.keyHash w.params "plus")
    (hs9_5 : hQ9_5 = PyData.keyHash w.params "less")
    (hs9_6 : hQ9_6 = PyData.keyHash w.params "add")
    (lw9 : (Q9_t == sysModules) = false)
    (q9_1 : K.lookup Q9_1 = some ⟨.type "tuple", oQ9_1, .seq #[(.str "moment" tQ9_2), (.str "place" tQ9_3)] nQ9_1, sQ9_1⟩)
    (q9_4 : K.lookup Q9_4 = some ⟨.type "tuple", oQ9_4, .seq #[(.str "reading" tQ9_5), (.str "place" tQ9_6), (.str "fold" tQ9_7), (.str "gap" tQ9_8)] nQ9_4, sQ9_4⟩)
    (q9_9 : K.lookup Q9_9 = some ⟨.type "tuple", oQ9_9, .seq #[(.str "moment" tQ9_10), (.str "place" tQ9_11)] nQ9_9, sQ9_9⟩)
    (q9_12 : K.lookup Q9_12 = some ⟨.type "tuple", oQ9_12, .seq #[(.str "moment" tQ9_13), (.str "place" tQ9_14)] nQ9_12, sQ9_12⟩)
    (q9_15 : K.lookup Q9_15 = some ⟨.type "tuple", oQ9_15, .seq #[(.str "moment" tQ9_16), (.str "span" tQ9_17)] nQ9_15, sQ9_15⟩)
    (q9_18 : K.lookup Q9_18 = some ⟨.type "tuple", oQ9_18, .seq #[(.str "reading" tQ9_19), (.str "span" tQ9_20)] nQ9_18, sQ9_18⟩)
    (q9_21 : K.lookup Q9_21 = some ⟨.type "tuple", oQ9_21, .seq #[(.str "point" tQ9_22), (.str "minutes" tQ9_23)] nQ9_21, sQ9_21⟩)
    (v10 : PySem.W.nsIn K mainGlobals "WISH_SLOTS" = some (some (.ref Q10_t)))
    (tb10 : K.lookup Q10_t = some ⟨.type "dict", none, .dict #[⟨hQ10_0, (.str "found" uQ10_0), (.ref Q10_1)⟩, ⟨hQ10_1, (.str "same" uQ10_1), (.ref Q10_2)⟩, ⟨hQ10_2, (.str "order" uQ10_2), (.ref Q10_5)⟩, ⟨hQ10_3, (.str "near" uQ10_3), (.ref Q10_8)⟩] nQ10_t, #[]⟩)
    (hs10_0 : hQ10_0 = PyData.keyHash w.params "found")
    (hs10_1 : hQ10_1 = PyData.keyHash w.params "same")
    (hs10_2 : hQ10_2 = PyData.keyHash w.params "order")
    (hs10_3 : hQ10_3 = PyData.keyHash w.params "near")
    (lw10 : (Q10_t == sysModules) = false)
    (q10_1 : K.lookup Q10_1 = some ⟨.type "tuple", oQ10_1, .seq #[] nQ10_1, sQ10_1⟩)
    (q10_2 : K.lookup Q10_2 = some ⟨.type "tuple", oQ10_2, .seq #[(.str "point" tQ10_3), (.str "point" tQ10_4)] nQ10_2, sQ10_2⟩)
    (q10_5 : K.lookup Q10_5 = some ⟨.type "tuple", oQ10_5, .seq #[(.str "point" tQ10_6), (.str "point" tQ10_7)] nQ10_5, sQ10_5⟩)
    (q10_8 : K.lookup Q10_8 = some ⟨.type "tuple", oQ10_8, .seq #[(.str "point" tQ10_9), (.str "point" tQ10_10), (.str "most" tQ10_11)] nQ10_8, sQ10_8⟩)
    (xa0 : PySem.W.nsIn K mainGlobals "InvalidProgram" = some (some (.ref C0)))
    (xq0 : PySem.W.excIn K C0 [.type "ValueError", .type "Exception", .type "BaseException", .type "object"] "ValueError.__new__" = true)
    (xk0 : PySem.W.keepIn K (.ref C0) = true)
    (xb0 : PySem.W.subIn K (.ref C0) (.type "BaseException") = some true)
    (xt0 : PySem.W.typeIn K (.ref C0) = some (.type "type"))
    (xa1 : PySem.W.nsIn K mainGlobals "InvalidZones" = some (some (.ref C1)))
    (xq1 : PySem.W.excIn K C1 [.type "ValueError", .type "Exception", .type "BaseException", .type "object"] "ValueError.__new__" = true)
    (xk1 : PySem.W.keepIn K (.ref C1) = true)
    (xb1 : PySem.W.subIn K (.ref C1) (.type "BaseException") = some true)
    (xt1 : PySem.W.typeIn K (.ref C1) = some (.type "type"))
    (xa2 : PySem.W.nsIn K mainGlobals "InvalidWords" = some (some (.ref C2)))
    (xf0 : PySem.W.findIn K (.ref C2) "__getattribute__" = some (some (.builtin "BaseException.__getattribute__")))
    (xf1 : PySem.W.findIn K (.ref C2) "__getattr__" = some none)
    (xf2 : PySem.W.subIn K (.ref C2) (.type "BaseException") = some true)
    (xf3 : PySem.W.hasDictIn K C2 = true)
    (xf4 : PySem.W.findIn K (.ref C2) "place" = some none)
    (xa3 : PySem.W.nsIn K mainGlobals "HourError" = some (some (.ref C3)))
    (xf5 : PySem.W.findIn K (.ref C0) "__getattribute__" = some (some (.builtin "BaseException.__getattribute__")))
    (xf6 : PySem.W.findIn K (.ref C0) "__getattr__" = some none)
    (xf7 : PySem.W.hasDictIn K C0 = true)
    (xf8 : PySem.W.findIn K (.ref C0) "__class__" = some (some (.builtin "object.__class__")))
    (xf9 : PySem.W.specialIn K (.builtin "object.__class__") "__get__" = some (some (.builtin "getset_descriptor.__get__")))
    (xf10 : PySem.W.takesIn K (.builtin "object.__class__") = some true)
    (xf11 : PySem.W.mroIn K C0 (.type "object") = some true)
    (xf12 : PySem.W.hasDictIn K C3 = true)
    (xf13 : PySem.W.typeIn K (.ref C3) = some (.type "type"))
    (xf14 : PySem.W.subIn K (.ref C3) (.ref C3) = some true)
    (xf15 : PySem.W.subIn K (.ref C0) (.ref C3) = some true)
    (xf16 : PySem.W.findIn K (.ref C2) "__class__" = some (some (.builtin "object.__class__")))
    (xf17 : PySem.W.mroIn K C2 (.type "object") = some true)
    (xf18 : PySem.W.subIn K (.ref C2) (.ref C3) = some true)
    (xf19 : PySem.W.findIn K (.ref C1) "__getattribute__" = some (some (.builtin "BaseException.__getattribute__")))
    (xf20 : PySem.W.findIn K (.ref C1) "__getattr__" = some none)
    (xf21 : PySem.W.hasDictIn K C1 = true)
    (xf22 : PySem.W.findIn K (.ref C1) "__class__" = some (some (.builtin "object.__class__")))
    (xf23 : PySem.W.mroIn K C1 (.type "object") = some true)
    (xf24 : PySem.W.subIn K (.ref C1) (.ref C3) = some true)
    (xa4 : PySem.W.nsIn K mainGlobals "InvalidCommand" = some (some (.ref C4)))
    (xf25 : PySem.W.hasDictIn K C4 = true)
    (xf26 : PySem.W.typeIn K (.ref C4) = some (.type "type"))
    (xf27 : PySem.W.subIn K (.ref C4) (.ref C4) = some true)
    (xf28 : PySem.W.subIn K (.ref C0) (.ref C4) = some false)
    (xf29 : PySem.W.subIn K (.ref C2) (.ref C4) = some false)
    (xf30 : PySem.W.subIn K (.ref C1) (.ref C4) = some false)
    (xa5 : PySem.W.nsIn K mainGlobals "InvalidWish" = some (some (.ref C5)))
    (xf31 : PySem.W.hasDictIn K C5 = true)
    (xf32 : PySem.W.typeIn K (.ref C5) = some (.type "type"))
    (xf33 : PySem.W.subIn K (.ref C5) (.ref C5) = some true)
    (xf34 : PySem.W.subIn K (.ref C0) (.ref C5) = some false)
    (xf35 : PySem.W.subIn K (.ref C2) (.ref C5) = some false)
    (xf36 : PySem.W.subIn K (.ref C1) (.ref C5) = some false)
    (xf37 : PySem.W.mroIn K C0 (.type "tuple") = some false)
    (xf38 : PySem.W.mroIn K C0 (.type "list") = some false)
    (xf39 : PySem.W.mroIn K C0 (.type "int") = some false)
    (xf40 : PySem.W.mroIn K C0 (.type "str") = some false)
    (xf41 : PySem.W.mroIn K C0 (.type "bool") = some false)
    (xf42 : PySem.W.mroIn K C0 (.type "dict") = some false)
    (xf43 : PySem.W.mroIn K C2 (.type "tuple") = some false)
    (xf44 : PySem.W.mroIn K C2 (.type "list") = some false)
    (xf45 : PySem.W.mroIn K C2 (.type "int") = some false)
    (xf46 : PySem.W.mroIn K C2 (.type "str") = some false)
    (xf47 : PySem.W.mroIn K C2 (.type "bool") = some false)
    (xf48 : PySem.W.mroIn K C2 (.type "dict") = some false)
    (xf49 : PySem.W.mroIn K C1 (.type "tuple") = some false)
    (xf50 : PySem.W.mroIn K C1 (.type "list") = some false)
    (xf51 : PySem.W.mroIn K C1 (.type "int") = some false)
    (xf52 : PySem.W.mroIn K C1 (.type "str") = some false)
    (xf53 : PySem.W.mroIn K C1 (.type "bool") = some false)
    (xf54 : PySem.W.mroIn K C1 (.type "dict") = some false)
    (xf55 : PySem.W.typeIn K (.ref C2) = some (.type "type"))
    (xf56 : PySem.W.subIn K (.ref C0) (.ref C2) = some false)
    (xf57 : PySem.W.subIn K (.ref C2) (.ref C2) = some true)
    (xf58 : PySem.W.subIn K (.ref C1) (.ref C2) = some false)
    (xL2 : K.lookup C2 = some (excClassObj nm_2 q_2 C2 N_2 bs_2 bm_2 true sn_2 sub_2 ab_2 col_2 dd_2 m0_2 m1_2 m2_2 m3_2 m5_2 "ValueError.__new__"))
    (rb2 : PySem.HandSPX.refsVE bm_2 = true)
    (xf59 : PySem.W.findIn K (.ref C2) "__init__" = some (some (.ref fI_2)))
    (xf60 : PySem.W.typeIn K (.ref fI_2) = some (.type "function"))
    (lI2 : K.lookup fI_2 = some ⟨oI_2, odI_2, .func (PySem.W.fnOf "__init__" "InvalidWords.__init__" (defArgs si_InvalidWords) (defBody si_InvalidWords) (defScope si_InvalidWords) .none kVI_2 dcI_2 pmI_2 anI_2 cdI_2 ctI_2), slI_2⟩)
    (cI2 : PySem.W.codeIn K cdI_2 "InvalidWords.__init__" = true)
    (xf61 : PySem.W.keepIn K (.ref fI_2) = true)
    (xf62 : PySem.W.readsIn K C3 (.type "type") = true)
    (xf63 : PySem.W.specialIn K (.ref C3) "__getattribute__" = some (some (.builtin "type.__getattribute__")))
    (xf64 : PySem.W.findCls K (.ref C3) (.type "type") "__init__" = some (.val (.builtin "ValueError.__init__")))
    (xf65 : PySem.W.findIn K (.ref C2) "__setattr__" = some (some (.builtin "object.__setattr__")))
    (xf66 : PySem.W.keepIn K (.ref C2) = true) :
    ∃ fd : FuncData, (∀ (s : Shared) (v : Value), BindsTo s fd ⟨[v], []⟩ [("_law_script", v)]) ∧ ∀ base : Heap, K.In base → base.Ns mainGlobals mg → FnG l.prog w K mg base (L2.CX l.prog w) 10 fa fd ["_law_script"] (spLaw K) := by
  have e := hfa.symm.trans (PySem.W.mg_of X G a41)
  cases e
  have T : Txt K mg w := ⟨PySem.W.mg_none_of X G z0, PySem.W.mg_none_of X G z1, PySem.W.mg_none_of X G z2, PySem.W.mg_none_of X G z3, PySem.W.mg_none_of X G z4, PySem.W.mg_none_of X G z5, PySem.W.mg_none_of X G z6, PySem.W.mg_none_of X G z7, PySem.W.mg_none_of X G z8, PySem.W.mg_none_of X G z9, PySem.W.mg_none_of X G z10, PySem.W.mg_none_of X G z11, PySem.W.mg_none_of X G z12, ⟨_, _, PySem.W.mg_of X G v0, rvR, (.tup (kt_mk q0_1 (Nat.le_of_ble_eq_true rfl) (.cons rvS (.cons rvS (.cons rvS .nil)))) (.cons (.str _) (.cons (.str _) (.cons (.str _) .nil))))⟩, ⟨_, _, PySem.W.mg_of X G v1, rvR, (.tup (kt_mk q1_1 (Nat.le_of_ble_eq_true rfl) (.cons rvS (.cons rvS (.cons rvS .nil)))) (.cons (.str _) (.cons (.str _) (.cons (.str _) .nil))))⟩, ⟨_, _, _, PySem.W.mg_of X G v2, tb2, lw2, (.cons rfl hs2_0 rvS (.str _) (.cons rfl hs2_1 rvS (.str _) (.cons rfl hs2_2 rvS (.str _) (.cons rfl hs2_3 rvS (.str _) (.cons rfl hs2_4 rvS (.str _) (.cons rfl hs2_5 rvS (.str _) .nil))))))⟩, ⟨t3, PySem.W.mg_of X G v3⟩, ⟨t4, PySem.W.mg_of X G v4⟩, ⟨t5, PySem.W.mg_of X G v5⟩, ⟨t6, PySem.W.mg_of X G v6⟩, ⟨t7, PySem.W.mg_of X G v7⟩, ⟨t8, PySem.W.mg_of X G v8⟩, ⟨_, _, _, PySem.W.mg_of X G v9, tb9, lw9, (.cons rfl hs9_0 rvR (.tup (kt_mk q9_1 (Nat.le_of_ble_eq_true rfl) (.cons rvS (.cons rvS .nil))) (.cons (.str _) (.cons (.str _) .nil))) (.cons rfl hs9_1 rvR (.tup (kt_mk q9_4 (Nat.le_of_ble_eq_true rfl) (.cons rvS (.cons rvS (.cons rvS (.cons rvS .nil))))) (.cons (.str _) (.cons (.str _) (.cons (.str _) (.cons (.str _) .nil))))) (.cons rfl hs9_2 rvR (.tup (kt_mk q9_9 (Nat.le_of_ble_eq_true rfl) (.cons rvS (.cons rvS .nil))) (.cons (.str _) (.cons (.str _) .nil))) (.cons rfl hs9_3 rvR (.tup (kt_mk q9_12 (Nat.le_of_ble_eq_true rfl) (.cons rvS (.cons rvS .nil))) (.cons (.str _) (.cons (.str _) .nil))) (.cons rfl hs9_4 rvR (.tup (kt_mk q9_15 (Nat.le_of_ble_eq_true rfl) (.cons rvS (.cons rvS .nil))) (.cons (.str _) (.cons (.str _) .nil))) (.cons rfl hs9_5 rvR (.tup (kt_mk q9_18 (Nat.le_of_ble_eq_true rfl) (.cons rvS (.cons rvS .nil))) (.cons (.str _) (.cons (.str _) .nil))) (.cons rfl hs9_6 rvR (.tup (kt_mk q9_21 (Nat.le_of_ble_eq_true rfl) (.cons rvS (.cons rvS .nil))) (.cons (.str _) (.cons (.str _) .nil))) .nil)))))))⟩, ⟨_, _, _, PySem.W.mg_of X G v10, tb10, lw10, (.cons rfl hs10_0 rvR (.tup (kt_mk q10_1 (Nat.le_of_ble_eq_true rfl) .nil) .nil) (.cons rfl hs10_1 rvR (.tup (kt_mk q10_2 (Nat.le_of_ble_eq_true rfl) (.cons rvS (.cons rvS .nil))) (.cons (.str _) (.cons (.str _) .nil))) (.cons rfl hs10_2 rvR (.tup (kt_mk q10_5 (Nat.le_of_ble_eq_true rfl) (.cons rvS (.cons rvS .nil))) (.cons (.str _) (.cons (.str _) .nil))) (.cons rfl hs10_3 rvR (.tup (kt_mk q10_8 (Nat.le_of_ble_eq_true rfl) (.cons rvS (.cons rvS (.cons rvS .nil)))) (.cons (.str _) (.cons (.str _) (.cons (.str _) .nil)))) .nil))))⟩, ⟨C0, PySem.W.mg_of X G xa0, xq0, xk0, xb0, xt0⟩, ⟨C1, PySem.W.mg_of X G xa1, xq1, xk1, xb1, xt1⟩, ⟨C2, (PySem.W.mg_of X G xa2), ⟨xf0, xf1, xf2, xf3⟩, xf4⟩, ⟨_, ⟨(PySem.W.mg_of X G xa3), _, rfl⟩, (List.forall_mem_cons.mpr ⟨⟨_, (PySem.W.mg_of X G xa0), ⟨xf5, xf6, xb0, xf7, xf8, xf9, xf10, xf11⟩, ((kit_own xf12 xf13 xf14 xf15)).trans (by decide +kernel)⟩, (List.forall_mem_cons.mpr ⟨⟨_, (PySem.W.mg_of X G xa2), ⟨xf0, xf1, xf2, xf3, xf16, xf9, xf10, xf17⟩, ((kit_own xf12 xf13 xf14 xf18)).trans (by decide +kernel)⟩, (List.forall_mem_cons.mpr ⟨⟨_, (PySem.W.mg_of X G xa1), ⟨xf19, xf20, xb1, xf21, xf22, xf9, xf10, xf23⟩, ((kit_own xf12 xf13 xf14 xf24)).trans (by decide +kernel)⟩, (fun _ z => absurd z List.not_mem_nil)⟩)⟩)⟩)⟩, ⟨_, ⟨(PySem.W.mg_of X G xa4), _, rfl⟩, (List.forall_mem_cons.mpr ⟨⟨_, (PySem.W.mg_of X G xa0), ⟨xf5, xf6, xb0, xf7, xf8, xf9, xf10, xf11⟩, ((kit_own xf25 xf26 xf27 xf28)).trans (by decide +kernel)⟩, (List.forall_mem_cons.mpr ⟨⟨_, (PySem.W.mg_of X G xa2), ⟨xf0, xf1, xf2, xf3, xf16, xf9, xf10, xf17⟩, ((kit_own xf25 xf26 xf27 xf29)).trans (by decide +kernel)⟩, (List.forall_mem_cons.mpr ⟨⟨_, (PySem.W.mg_of X G xa1), ⟨xf19, xf20, xb1, xf21, xf22, xf9, xf10, xf23⟩, ((kit_own xf25 xf26 xf27 xf30)).trans (by decide +kernel)⟩, (fun _ z => absurd z List.not_mem_nil)⟩)⟩)⟩)⟩, ⟨_, ⟨(PySem.W.mg_of X G xa5), _, rfl⟩, (List.forall_mem_cons.mpr ⟨⟨_, (PySem.W.mg_of X G xa0), ⟨xf5, xf6, xb0, xf7, xf8, xf9, xf10, xf11⟩, ((kit_own xf31 xf32 xf33 xf34)).trans (by decide +kernel)⟩, (List.forall_mem_cons.mpr ⟨⟨_, (PySem.W.mg_of X G xa2), ⟨xf0, xf1, xf2, xf3, xf16, xf9, xf10, xf17⟩, ((kit_own xf31 xf32 xf33 xf35)).trans (by decide +kernel)⟩, (List.forall_mem_cons.mpr ⟨⟨_, (PySem.W.mg_of X G xa1), ⟨xf19, xf20, xb1, xf21, xf22, xf9, xf10, xf23⟩, ((kit_own xf31 xf32 xf33 xf36)).trans (by decide +kernel)⟩, (fun _ z => absurd z List.not_mem_nil)⟩)⟩)⟩)⟩, ⟨(List.forall_mem_cons.mpr ⟨⟨_, (PySem.W.mg_of X G xa0), C0, rfl, ⟨xf5, xf6, xb0, xf7, xf8, xf9, xf10, xf11⟩, (List.forall_mem_cons.mpr ⟨(kit_plain (by decide +kernel) xf37), (List.forall_mem_cons.mpr ⟨(kit_plain (by decide +kernel) xf38), (List.forall_mem_cons.mpr ⟨(kit_plain (by decide +kernel) xf39), (List.forall_mem_cons.mpr ⟨(kit_plain (by decide +kernel) xf40), (List.forall_mem_cons.mpr ⟨(kit_plain (by decide +kernel) xf41), (List.forall_mem_cons.mpr ⟨(kit_plain (by decide +kernel) xf42), (fun _ z => absurd z List.not_mem_nil)⟩)⟩)⟩)⟩)⟩)⟩)⟩, (List.forall_mem_cons.mpr ⟨⟨_, (PySem.W.mg_of X G xa2), C2, rfl, ⟨xf0, xf1, xf2, xf3, xf16, xf9, xf10, xf17⟩, (List.forall_mem_cons.mpr ⟨(kit_plain (by decide +kernel) xf43), (List.forall_mem_cons.mpr ⟨(kit_plain (by decide +kernel) xf44), (List.forall_mem_cons.mpr ⟨(kit_plain (by decide +kernel) xf45), (List.forall_mem_cons.mpr ⟨(kit_plain (by decide +kernel) xf46), (List.forall_mem_cons.mpr ⟨(kit_plain (by decide +kernel) xf47), (List.forall_mem_cons.mpr ⟨(kit_plain (by decide +kernel) xf48), (fun _ z => absurd z List.not_mem_nil)⟩)⟩)⟩)⟩)⟩)⟩)⟩, (List.forall_mem_cons.mpr ⟨⟨_, (PySem.W.mg_of X G xa1), C1, rfl, ⟨xf19, xf20, xb1, xf21, xf22, xf9, xf10, xf23⟩, (List.forall_mem_cons.mpr ⟨(kit_plain (by decide +kernel) xf49), (List.forall_mem_cons.mpr ⟨(kit_plain (by decide +kernel) xf50), (List.forall_mem_cons.mpr ⟨(kit_plain (by decide +kernel) xf51), (List.forall_mem_cons.mpr ⟨(kit_plain (by decide +kernel) xf52), (List.forall_mem_cons.mpr ⟨(kit_plain (by decide +kernel) xf53), (List.forall_mem_cons.mpr ⟨(kit_plain (by decide +kernel) xf54), (fun _ z => absurd z List.not_mem_nil)⟩)⟩)⟩)⟩)⟩)⟩)⟩, (fun _ z => absurd z List.not_mem_nil)⟩)⟩)⟩)⟩, ⟨_, (PySem.W.mg_of X G xa2), (List.forall_mem_cons.mpr ⟨⟨_, (PySem.W.mg_of X G xa0), (PySem.W.exm_ref xf2 xf3 xf55 xf56).trans (by decide +kernel)⟩, (List.forall_mem_cons.mpr ⟨⟨_, (PySem.W.mg_of X G xa2), (PySem.W.exm_ref xf2 xf3 xf55 xf57).trans (by decide +kernel)⟩, (List.forall_mem_cons.mpr ⟨⟨_, (PySem.W.mg_of X G xa1), (PySem.W.exm_ref xf2 xf3 xf55 xf58).trans (by decide +kernel)⟩, (fun _ z => absurd z List.not_mem_nil)⟩)⟩)⟩)⟩⟩
  have F0 := fun_mk (st := s_is_integer) l0 c0 k0
  have F1 := fun_mk (st := s_is_zone) l1 c1 k1
  have F2 := fun_mk (st := s_is_zones) l2 c2 k2
  have F3 := fun_mk (st := s_need_zones) l3 c3 k3
  have F4 := fun_mk (st := s_is_part) l4 c4 k4
  have F5 := fun_mk (st := s_is_step) l5 c5 k5
  have F6 := fun_mk (st := s_kind_made) l6 c6 k6
  have F7 := fun_mk (st := s_kinds_of) l7 c7 k7
  have F8 := fun_mk (st := s_is_program) l8 c8 k8
  have F9 := fun_mk (st := s_need_program) l9 c9 k9
  have F10 := fun_mk (st := s_number_of) l10 c10 k10
  have F11 := fun_mk (st := s_slot_value) l11 c11 k11
  have F12 := fun_mk (st := s_slot_takes) l12 c12 k12
  have F13 := fun_mk (st := s_word_at) l13 c13 k13
  have F14 := fun_mk (st := s_read_slots) l14 c14 k14
  have F15 := fun_mk (st := s_read_wish) l15 c15 k15
  have F16 := fun_mk (st := s__law_make_pot) l16 c16 k16
  have F17 := fun_mk (st := s__law_pick) l17 c17 k17
  have F18 := fun_mk (st := s__law_cells) l18 c18 k18
  have F19 := fun_mk (st := s__law_draw_spot) l19 c19 k19
  have F20 := fun_mk (st := s__law_sort_behind) l20 c20 k20
  have F21 := fun_mk (st := s__law_kinds_in) l21 c21 k21
  have F22 := fun_mk (st := s__law_rule) l22 c22 k22
  have F23 := fun_mk (st := s__law_words_open) l23 c23 k23
  have F24 := fun_mk (st := s__law_draw_step) l24 c24 k24
  have F25 := fun_mk (st := s__law_draw_tale) l25 c25 k25
  have F26 := fun_mk (st := s__law_hours_in) l26 c26 k26
  have F27 := fun_mk (st := s__law_draw_shifts) l27 c27 k27
  have F28 := fun_mk (st := s__law_draw_apart) l28 c28 k28
  have F29 := fun_mk (st := s__law_draw_fields) l29 c29 k29
  have F30 := fun_mk (st := s__law_minutes) l30 c30 k30
  have F31 := fun_mk (st := s__law_draw_want) l31 c31 k31
  have F32 := fun_mk (st := s__law_writes) l32 c32 k32
  have F33 := fun_mk (st := s__law_value_of) l33 c33 k33
  have F34 := fun_mk (st := s__law_wish_read) l34 c34 k34
  have F35 := fun_mk (st := s__law_odd_word) l35 c35 k35
  have F36 := fun_mk (st := s__law_bent_word) l36 c36 k36
  have F37 := fun_mk (st := s__law_changed) l37 c37 k37
  have F38 := fun_mk (st := s__law_long_tale) l38 c38 k38
  have F39 := fun_mk (st := s__law_asked) l39 c39 k39
  have F40 := fun_mk (st := s__law_right) l40 c40 k40
  have F41 := fun_mk (st := s_law) l41 c41 k41
  refine ⟨PySem.W.fnOf "law" "law" (defArgs s_law) (defBody s_law) (defScope s_law) .none kV41 dc41 pm41 an41 cd41 ct41, fun s v => .of_eq rfl, fun base _ _ => ?_⟩
  have HI_InvalidWords : HiOk K mg "HourError" := ⟨C3, .type "type", (PySem.W.mg_of X G xa3), xf62, xf63, xf64⟩
  have FI_InvalidWords := fun_mk (st := si_InvalidWords) lI2 cI2 xf61
  have GI_InvalidWords : XiOk l.prog w K mg base 1 "InvalidWords" ["place"] := xi_mk1 (msg := "a word cannot stand at its place") (PySem.W.mg_of X G xa2) ⟨⟨_, _, _, _, _, _, _, _, _, _, _, _, _, _, _, xL2, rb2⟩, xf65, xf2, xf55, xf66⟩ xf59 xf60 FI_InvalidWords (FI_InvalidWords.binds fun _ _ _ _ _ _ us hl => match us, hl with | [_, _], _ => rfl) sci_InvalidWords xf4 (fun cdv A outer s H E => pss_cons (ps_expr (pe_hinit rfl HI_InvalidWords (pa_cons (pv 0) (pa_cons pe_str pa_nil)))) (pss_one (ps_ost (pv 0) (pv 1))))
  have G_is_integer := fn_is_integer (P := l.prog) (w := w) (base := base) T (PySem.W.mg_of X G a0) F0 
  have G_is_zone := fn_is_zone (P := l.prog) (w := w) (base := base) T (PySem.W.mg_of X G a1) F1 G_is_integer
  have G_is_zones := fn_is_zones (P := l.prog) (w := w) (base := base) T (PySem.W.mg_of X G a2) F2 G_is_zone
  have G_need_zones := fn_need_zones (P := l.prog) (w := w) (base := base) T (PySem.W.mg_of X G a3) F3 G_is_zones
  have G_is_part := fn_is_part (P := l.prog) (w := w) (base := base) T (PySem.W.mg_of X G a4) F4 G_is_integer
  have G_is_step := fn_is_step (P := l.prog) (w := w) (base := base) T (PySem.W.mg_of X G a5) F5 G_is_part
  have G_kind_made := fn_kind_made (P := l.prog) (w := w) (base := base) T (PySem.W.mg_of X G a6) F6 
  have G_kinds_of := fn_kinds_of (P := l.prog) (w := w) (base := base) T (PySem.W.mg_of X G a7) F7 G_kind_made
  have G_is_program := fn_is_program (P := l.prog) (w := w) (base := base) T (PySem.W.mg_of X G a8) F8 G_kind_made G_is_step G_need_zones
  have G_need_program := fn_need_program (P := l.prog) (w := w) (base := base) T (PySem.W.mg_of X G a9) F9 G_is_program
  have G_number_of := fn_number_of (P := l.prog) (w := w) (base := base) T (PySem.W.mg_of X G a10) F10 
  have G_slot_value := fn_slot_value (P := l.prog) (w := w) (base := base) T (PySem.W.mg_of X G a11) F11 G_number_of
  have G_slot_takes := fn_slot_takes (P := l.prog) (w := w) (base := base) T (PySem.W.mg_of X G a12) F12 G_is_part G_slot_value
  have G_word_at := fn_word_at (P := l.prog) (w := w) (base := base) T (PySem.W.mg_of X G a13) F13 GI_InvalidWords
  have G_read_slots := fn_read_slots (P := l.prog) (w := w) (base := base) T (PySem.W.mg_of X G a14) F14 G_slot_value G_slot_takes G_word_at GI_InvalidWords
  have G_read_wish := fn_read_wish (P := l.prog) (w := w) (base := base) T (PySem.W.mg_of X G a15) F15 G_read_slots G_kinds_of G_need_program G_need_zones GI_InvalidWords
  have G__law_make_pot := fn__law_make_pot (P := l.prog) (w := w) (base := base) T (PySem.W.mg_of X G a16) F16 
  have G__law_pick := fn__law_pick (P := l.prog) (w := w) (base := base) T (PySem.W.mg_of X G a17) F17 
  have G__law_cells := fn__law_cells (P := l.prog) (w := w) (base := base) T (PySem.W.mg_of X G a18) F18 
  have G__law_draw_spot := fn__law_draw_spot (P := l.prog) (w := w) (base := base) T (PySem.W.mg_of X G a19) F19 G__law_pick
  have G__law_sort_behind := fn__law_sort_behind (P := l.prog) (w := w) (base := base) T (PySem.W.mg_of X G a20) F20 
  have G__law_kinds_in := fn__law_kinds_in (P := l.prog) (w := w) (base := base) T (PySem.W.mg_of X G a21) F21 G__law_sort_behind
  have G__law_rule := fn__law_rule (P := l.prog) (w := w) (base := base) T (PySem.W.mg_of X G a22) F22 G__law_pick
  have G__law_words_open := fn__law_words_open (P := l.prog) (w := w) (base := base) T (PySem.W.mg_of X G a23) F23 
  have G__law_draw_step := fn__law_draw_step (P := l.prog) (w := w) (base := base) T (PySem.W.mg_of X G a24) F24 G__law_pick G__law_rule G__law_draw_spot
  have G__law_draw_tale := fn__law_draw_tale (P := l.prog) (w := w) (base := base) T (PySem.W.mg_of X G a25) F25 G__law_sort_behind G__law_draw_step G__law_words_open G__law_kinds_in
  have G__law_hours_in := fn__law_hours_in (P := l.prog) (w := w) (base := base) T (PySem.W.mg_of X G a26) F26 G__law_kinds_in
  have G__law_draw_shifts := fn__law_draw_shifts (P := l.prog) (w := w) (base := base) T (PySem.W.mg_of X G a27) F27 G__law_pick
  have G__law_draw_apart := fn__law_draw_apart (P := l.prog) (w := w) (base := base) T (PySem.W.mg_of X G a28) F28 G__law_pick
  have G__law_draw_fields := fn__law_draw_fields (P := l.prog) (w := w) (base := base) T (PySem.W.mg_of X G a29) F29 G__law_pick G__law_draw_apart G__law_draw_shifts
  have G__law_minutes := fn__law_minutes (P := l.prog) (w := w) (base := base) T (PySem.W.mg_of X G a30) F30 G__law_pick
  have G__law_draw_want := fn__law_draw_want (P := l.prog) (w := w) (base := base) T (PySem.W.mg_of X G a31) F31 G__law_pick
  have G__law_writes := fn__law_writes (P := l.prog) (w := w) (base := base) T (PySem.W.mg_of X G a32) F32 
  have G__law_value_of := fn__law_value_of (P := l.prog) (w := w) (base := base) T (PySem.W.mg_of X G a33) F33 G__law_writes
  have G__law_wish_read := fn__law_wish_read (P := l.prog) (w := w) (base := base) T (PySem.W.mg_of X G a34) F34 G__law_value_of G__law_writes
  have G__law_odd_word := fn__law_odd_word (P := l.prog) (w := w) (base := base) T (PySem.W.mg_of X G a35) F35 G__law_pick
  have G__law_bent_word := fn__law_bent_word (P := l.prog) (w := w) (base := base) T (PySem.W.mg_of X G a36) F36 G__law_pick
  have G__law_changed := fn__law_changed (P := l.prog) (w := w) (base := base) T (PySem.W.mg_of X G a37) F37 G__law_bent_word G__law_pick G__law_odd_word
  have G__law_long_tale := fn__law_long_tale (P := l.prog) (w := w) (base := base) T (PySem.W.mg_of X G a38) F38 G__law_draw_tale G__law_minutes G__law_pick
  have G__law_asked := fn__law_asked (P := l.prog) (w := w) (base := base) T (PySem.W.mg_of X G a39) F39 G_read_wish G__law_wish_read G__law_kinds_in
  have G__law_right := fn__law_right (P := l.prog) (w := w) (base := base) T (PySem.W.mg_of X G a40) F40 G__law_asked G__law_odd_word G__law_changed G__law_draw_want G__law_hours_in G__law_long_tale G__law_draw_fields G__law_pick
  have G_law := fn_law (P := l.prog) (w := w) (base := base) T (PySem.W.mg_of X G a41) F41 G__law_right G__law_make_pot G__law_cells
  exact law_okG (PySem.W.mg_of X G a41) F41 G_law hlaw
theorem walk {l : PySem.W.OpenLaw} {q : Program} {loose : List Str} {XP : (Str → Option Value) → Heap → Prop} {YP : World → Heap → Prop} {d : DefRec} {K : Params → Frag} (hn : l.most = some 63) (hdf : d.params.defaults = [])
    (hY : ∀ (w : World) (h : Heap), YP w h → (K w.params).In h)
    (F : ∀ (w : World) (mg : Str → Option Value) (fa : Addr) (h : Heap), (K w.params).In h → h.Ns mainGlobals mg → mg d.name = some (.ref fa) →
      ∃ fd : FuncData, (∀ (s : Shared) (u : Value), BindsTo s fd ⟨[u], []⟩ [("_law_script", u)]) ∧ ∀ base : Heap, (K w.params).In base → base.Ns mainGlobals mg → FnG l.prog w (K w.params) mg base (L2.CX l.prog w) 10 fa fd ["_law_script"] (spLaw (K w.params))) :
    PySem.W.WalkO q loose XP YP l.row.toRowW d [] (fun f vs => PySem.call f vs) :=
  walkG_of (k := 10) hn hdf ⟨rfl, by decide, by decide⟩ hY F
end V
-- text HmBase
namespace Dm
open PySem L2
/-- a pot of digits stands at p -/
def Pot (p : Nat) (S : Sto) : Prop := ∃ k : Int, S[p]? = some (.lst [.int k])
/-- from S to S': the pot at p has turned, cells have come, all else is as it was -/
structure Go (p : Nat) (S S' : Sto) : Prop where
  len : S.length ≤ S'.length
  same : ∀ n, n < S.length → n ≠ p → S'[n]? = S[n]?
  pot : Pot p S'
theorem Pot.lt {p : Nat} {S : Sto} (h : Pot p S) : p < S.length := by
  obtain ⟨k, e⟩ := h
  exact (List.getElem?_eq_some_iff.mp e).1
theorem Go.refl {p : Nat} {S : Sto} (h : Pot p S) : Go p S S := ⟨Nat.le_refl _, fun _ _ _ => rfl, h⟩
theorem Go.trans {p : Nat} {S S1 S2 : Sto} (a : Go p S S1) (b : Go p S1 S2) : Go p S S2 :=
  ⟨Nat.le_trans a.len b.len, fun n h hn => (b.same n (Nat.lt_of_lt_of_le h a.len) hn).trans (a.same n h hn), b.pot⟩
theorem Go.push {p : Nat} {S S1 : Sto} (a : Go p S S1) (c : Cell) : Go p S (S1 ++ [c]) :=
  ⟨by rw [List.length_append]; exact Nat.le_trans a.len (Nat.le_add_right _ _), fun n h hn => by
    rw [List.getElem?_append_left (Nat.lt_of_lt_of_le h a.len)]
    exact a.same n h hn, by
    obtain ⟨k, e⟩ := a.pot
    exact ⟨k, by rw [List.getElem?_append_left (List.getElem?_eq_some_iff.mp e).1]; exact e⟩⟩
/-- a cell that is younger than S is written -/
theorem Go.setNew {p n : Nat} {S S1 : Sto} (hp : Pot p S) (a : Go p S S1) (hn : S.length ≤ n) (c : Cell) : Go p S (S1.set n c) :=
  ⟨by rw [List.length_set]; exact a.len, fun m h hm => by
    rw [List.getElem?_set_ne (by omega)]
    exact a.same m h hm, by
    obtain ⟨k, e⟩ := a.pot
    have := hp.lt
    exact ⟨k, by rw [List.getElem?_set_ne (by omega)]; exact e⟩⟩
theorem Go.get {p n : Nat} {S S1 : Sto} {c : Cell} (a : Go p S S1) (h : S[n]? = some c) (hn : n ≠ p) : S1[n]? = some c := by
  rw [a.same n (List.getElem?_eq_some_iff.mp h).1 hn]
  exact h
end Dm
-- text HmDig
namespace Dm
open PySem L2
theorem rngD_nil {lo : Int} : rngD lo 0 = [] := rfl
theorem rngD_cons {lo : Int} {n : Nat} : rngD lo (n + 1) = .int lo :: rngD (lo + 1) n := by
  unfold rngD
  rw [List.range_succ_eq_map, List.map_cons, List.map_map]
  congr 1
  · simp
  · refine List.map_congr_left fun i _ => ?_
    simp only [Function.comp]
    congr 1
    omega
theorem mul_bits {i j : Int} {n m : Nat} (h : i.natAbs < 2 ^ n) (h' : j.natAbs < 2 ^ m) : (i * j).natAbs < 2 ^ (n + m) := by
  rw [Int.natAbs_mul, Nat.pow_add]
  exact Nat.mul_lt_mul'' h h'
theorem add_bits {i j : Int} {n m : Nat} (h : i.natAbs < 2 ^ n) (h' : j.natAbs < 2 ^ n) (hm : n + 1 ≤ m) : (i + j).natAbs < 2 ^ m := by
  have a := Int.natAbs_add_le i j
  have b : 2 ^ (n + 1) ≤ 2 ^ m := Nat.pow_le_pow_right (by decide) hm
  have c : (2:Nat) ^ (n + 1) = 2 ^ n * 2 := Nat.pow_succ 2 n
  omega
theorem up_bits {i : Int} {n m : Nat} (h : i.natAbs < 2 ^ n) (hm : n ≤ m) : i.natAbs < 2 ^ m :=
  Nat.lt_of_lt_of_le h (Nat.pow_le_pow_right (by decide) hm)
end Dm
-- text HmZone
namespace Dm
open PySem L2
theorem seq_cut {ρ : Rho} {S : Sto} {N B C : Rho → Sto → Prop} {R : D → Sto → Prop} {EO : EXO} {a b : MS} (M : Rho → Sto → Prop) (h : ∀ M' : Rho → Sto → Prop, (∀ ρ S, M ρ S → M' ρ S) → (a ρ S).DoesE EO M' R B C) (k : ∀ ρ S, M ρ S → (b ρ S).DoesE EO N R B C) : (mSeq a b ρ S).DoesE EO N R B C := by
  rw [does_seq]
  exact (h M fun _ _ h => h).mono k (fun _ _ h => h) (fun _ _ h => h) (fun _ _ h => h)
/-- a zone of one, two or three offsets -/
inductive ZoneOK : List Int → Int → Prop
  | one (a s : Int) : -900 ≤ a → a ≤ 900 → 0 < s → s ≤ 1000000 → ZoneOK [a] s
  | two (a b s : Int) : -900 ≤ a → a < b → b ≤ 900 → b - a < s → s ≤ 1000000 → ZoneOK [a, b] s
  | three (a b c s : Int) : -900 ≤ a → a < b → b < c → c ≤ 900 → c - a < s → s ≤ 1000000 → ZoneOK [a, b, c] s
def zoneD (os : List Int) (s : Int) : D := .tup [.tup (os.map .int), .int s]
@[simp] theorem atI_last1 {α : Type} {x : α} : atI [x] (-1) = some x := rfl
@[simp] theorem atI_last2 {α : Type} {x y : α} : atI [x, y] (-1) = some y := rfl
@[simp] theorem atI_last3 {α : Type} {x y z : α} : atI [x, y, z] (-1) = some z := rfl
end Dm
-- text HmBag
namespace Dm
open PySem L2
/-- a bag of draws stands at p, n more can be drawn -/
def Bag (p n : Nat) (S : Sto) : Prop := ∃ a b c : Int, S[p]? = some (.lst [.int a, .int b, .int c]) ∧ 0 ≤ b ∧ b < 2305843009213693951 ∧ 0 ≤ c ∧ c + n ≤ 9223372036854775808
/-- from S to S': cells have come, all but p is as it was -/
structure GoB (p : Nat) (S S' : Sto) : Prop where
  len : S.length ≤ S'.length
  same : ∀ n, n < S.length → n ≠ p → S'[n]? = S[n]?
theorem Bag.lt {p n : Nat} {S : Sto} (h : Bag p n S) : p < S.length := by
  obtain ⟨a, b, c, e, _⟩ := h
  exact (List.getElem?_eq_some_iff.mp e).1
theorem Bag.mono {p n m : Nat} {S : Sto} (h : Bag p n S) (hm : m ≤ n) : Bag p m S := by
  obtain ⟨a, b, c, e, h1, h2, h3, h4⟩ := h
  exact ⟨a, b, c, e, h1, h2, h3, by omega⟩
theorem Bag.push {p n : Nat} {S : Sto} (h : Bag p n S) (c : Cell) : Bag p n (S ++ [c]) := by
  have hl := h.lt
  obtain ⟨a, b, c, e, r⟩ := h
  exact ⟨a, b, c, by rw [List.getElem?_append_left hl]; exact e, r⟩
theorem Bag.set {p n q : Nat} {S : Sto} (h : Bag p n S) (hq : q ≠ p) (c : Cell) : Bag p n (S.set q c) := by
  obtain ⟨a, b, c, e, r⟩ := h
  exact ⟨a, b, c, by rw [List.getElem?_set_ne hq]; exact e, r⟩
theorem GoB.refl {p : Nat} {S : Sto} : GoB p S S := ⟨Nat.le_refl _, fun _ _ _ => rfl⟩
theorem GoB.trans {p : Nat} {S S1 S2 : Sto} (a : GoB p S S1) (b : GoB p S1 S2) : GoB p S S2 :=
  ⟨Nat.le_trans a.len b.len, fun n h hn => (b.same n (Nat.lt_of_lt_of_le h a.len) hn).trans (a.same n h hn)⟩
theorem GoB.push {p : Nat} {S : Sto} (c : Cell) : GoB p S (S ++ [c]) := ⟨by rw [List.length_append]; omega, fun n h _ => List.getElem?_append_left h⟩
theorem GoB.setNew {p n : Nat} {S S1 : Sto} (a : GoB p S S1) (hn : S.length ≤ n) (c : Cell) : GoB p S (S1.set n c) :=
  ⟨by rw [List.length_set]; exact a.len, fun m h hm => by
    rw [List.getElem?_set_ne (by omega)]
    exact a.same m h hm⟩
theorem GoB.get {p n : Nat} {S S1 : Sto} {c : Cell} (a : GoB p S S1) (h : S[n]? = some c) (hn : n ≠ p) : S1[n]? = some c := by
  rw [a.same n (List.getElem?_eq_some_iff.mp h).1 hn]
  exact h
end Dm
-- text HmBelt
namespace Dm
open PySem L2
end Dm
-- text HmTab
namespace Dm
open PySem L2
theorem pure_of {α : Type} {r : Res α} {a : α} {S : Sto} (h : ∀ Q : α → Sto → Prop, Q a S → r.Does Q) : r = .ok a S := by
  obtain ⟨a', S', e, h1, h2⟩ := (h (fun x T => x = a ∧ T = S) ⟨rfl, rfl⟩).eq
  rw [e, h1, h2]
section
variable {S : Sto} {os : List Int} {s h m : Int} {js : List (Int × Int)}
theorem ZoneOK.len {os : List Int} {s : Int} (z : ZoneOK os s) : 1 ≤ os.length ∧ os.length ≤ 3 := by cases z <;> simp
theorem ZoneOK.sp (z : ZoneOK os s) : 0 < s ∧ s ≤ 1000000 := by cases z <;> constructor <;> omega
@[simp] theorem is_integer_int {i : Int} : m_is_integer [.int i] S = .ok (.bl true) S := by
  refine pure_of fun Q q => ?_
  refine does_def rfl ?_
  simpa [isTn] using q
theorem is_zone_ok (z : ZoneOK os s) : m_is_zone [zoneD os s] S = .ok (.bl true) S := by
  refine pure_of fun Q q => ?_
  refine does_def rfl ?_
  cases z with
  | one a s h1 h2 h3 h4 => simp [zoneD, isTn, rngD_cons, rngD_nil, h1, h2, h3, h4, q]
  | two a b s h1 h2 h3 h4 h5 =>
    have e1 : a ≤ 900 := by omega
    have e2 : -900 ≤ b := by omega
    have e3 : ¬ b ≤ a := by omega
    simp [zoneD, isTn, rngD_cons, rngD_nil, h1, h2, h3, h4, h5, e1, e2, e3, q]
  | three a b c s h1 h2 h3 h4 h5 h6 => 
    have e1 : a ≤ 900 := by omega
    have e2 : -900 ≤ b := by omega
    have e3 : ¬ b ≤ a := by omega
    have e4 : b ≤ 900 := by omega
    have e5 : -900 ≤ c := by omega
    have e6 : ¬ c ≤ b := by omega
    simp [zoneD, isTn, rngD_cons, rngD_nil, h1, h2, h3, h4, h5, h6, e1, e2, e3, e4, e5, e6, q]
@[simp] theorem need_zone_ok (z : ZoneOK os s) : m_need_zone [zoneD os s] S = .ok .non S := by
  refine pure_of fun Q q => ?_
  refine does_def rfl ?_
  simp [is_zone_ok z, q]
@[simp] theorem need_number_int {i : Int} : m_need_number [.int i] S = .ok .non S := by
  refine pure_of fun Q q => ?_
  refine does_def rfl ?_
  simp [q]
/-- a jump and a table, as data -/
def jmpD (j : Int × Int) : D := .tup [.int j.1, .int j.2]
def tabD (h : Int) (js : List (Int × Int)) : D := .tup [.int h, .tup (js.map jmpD)]
section
variable {j : Int × Int} {ρ : Rho} {f : List D → Rho → Option Rho}
@[simp] theorem ix_jmp0 : gIx S (jmpD j) (.int 0) = some (.int j.1) := by simp [jmpD]
@[simp] theorem ix_jmp1 : gIx S (jmpD j) (.int 1) = some (.int j.2) := by simp [jmpD]
@[simp] theorem ix_tab0 : gIx S (tabD h js) (.int 0) = some (.int h) := by simp [tabD]
@[simp] theorem ix_tab1 : gIx S (tabD h js) (.int 1) = some (.tup (js.map jmpD)) := by simp [tabD]
@[simp] theorem ix_zone0 : gIx S (zoneD os s) (.int 0) = some (.tup (os.map .int)) := by simp [zoneD]
@[simp] theorem ix_zone1 : gIx S (zoneD os s) (.int 1) = some (.int s) := by simp [zoneD]
@[simp] theorem len_jmp : gLen S [jmpD j] = some (.int 2) := rfl
@[simp] theorem len_tab : gLen S [tabD h js] = some (.int 2) := rfl
@[simp] theorem len_zone : gLen S [zoneD os s] = some (.int 2) := rfl
@[simp] theorem ty_jmp : tyOf S (jmpD j) = some .tup := rfl
@[simp] theorem ty_tab : tyOf S (tabD h js) = some .tup := rfl
@[simp] theorem ty_zone : tyOf S (zoneD os s) = some .tup := rfl
@[simp] theorem tg_jmp : tgT 2 f (jmpD j) ρ = f [.int j.1, .int j.2] ρ := rfl
@[simp] theorem tg_tab : tgT 2 f (tabD h js) ρ = f [.int h, .tup (js.map jmpD)] ρ := rfl
@[simp] theorem tg_zone : tgT 2 f (zoneD os s) ρ = f [.tup (os.map .int), .int s] ρ := rfl
end
/-- the jumps that may follow: the offset held, the moment of the jump before -/
def Chain (os : List Int) (s : Int) : Int → Option Int → List (Int × Int) → Prop
  | _, _, [] => True
  | h, p, (m, o) :: r => o ∈ os ∧ o ≠ h ∧ (∀ q, p = some q → q + s ≤ m) ∧ Chain os s o (some m) r
structure TabOK (os : List Int) (s h : Int) (js : List (Int × Int)) : Prop where
  held : h ∈ os
  chain : Chain os s h none js
theorem flat_ints (os : List Int) : (os.map D.int).all flatD = true := by
  rw [List.all_map]
  exact List.all_eq_true.mpr fun _ _ => rfl
theorem any_ints (os : List Int) (o : Int) : (os.map D.int).any (eqF · (.int o)) = decide (o ∈ os) := by
  induction os with
  | nil => simp
  | cons a r ih =>
    rw [List.map_cons, List.any_cons, ih, eqF_int]
    have e : (a == o) = decide (o = a) := by
      by_cases h : o = a
      · subst h; simp
      · have h' : ¬ a = o := fun x => h x.symm
        simp [h, h']
    rw [e]
    simp
theorem gIn_ints {o : Int} : gIn false S (.int o) (.tup (os.map .int)) = some (.bl (decide (o ∈ os))) := by
  unfold gIn
  rw [seqOf_tup]
  simp only
  rw [if_pos ⟨rfl, flat_ints os⟩, any_ints]
  simp
theorem is_offset_int {o : Int} : m_is_offset [zoneD os s, .int o] S = .ok (.bl (decide (o ∈ os))) S := by
  refine pure_of fun Q q => ?_
  refine does_def rfl ?_
  simp [gIn_ints, q]
theorem is_mark_jmp {j : Int × Int} : m_is_mark [zoneD os s, jmpD j] S = .ok (.bl (decide (j.2 ∈ os))) S := by
  refine pure_of fun Q q => ?_
  refine does_def rfl ?_
  simp [isTn, is_offset_int, q]
def enumF (k : Nat) (ds : List D) : List D := (ds.zipIdx k).map fun p => .tup [.int (p.2 : Nat), p.1]
theorem enumD_eq {ds : List D} : enumD ds = enumF 0 ds := rfl
theorem enumF_cons {k : Nat} {d : D} {r : List D} : enumF k (d :: r) = .tup [.int k, d] :: enumF (k + 1) r := rfl
theorem is_table_ok (z : ZoneOK os s) (t : TabOK os s h js) : m_is_table [zoneD os s, tabD h js] S = .ok (.bl true) S := by
  refine pure_of fun Q q => ?_
  refine does_def rfl ?_
  simp [isTn, need_zone_ok z, is_offset_int, t.held, enumD_eq]
  refine forL_cut (fun ds ρ S' => S' = S ∧ ∃ (pre suf : List (Int × Int)) (h' : Int) (pm : Option Int) (x4 x5 : Option D), ρ = [some (zoneD os s), some (tabD h js), some (.int h'), some (.tup (js.map jmpD)), x4, x5]
    ∧ js = pre ++ suf ∧ ds = enumF pre.length (suf.map jmpD) ∧ Chain os s h' pm suf ∧ (pre ≠ [] → ∃ m o, pm = some m ∧ atI (js.map jmpD) ((pre.length : Int) - 1) = some (jmpD (m, o)))) _ ⟨rfl, [], js, h, none, none, none, rfl, rfl, rfl, t.chain, fun h => (h rfl).elim⟩ ?_ ?_
  · rintro d r ρ S' ⟨rfl, pre, suf, h', pm, x4, x5, rfl, ej, e, c, l⟩
    cases suf with
    | nil => cases e
    | cons j suf =>
      rw [List.map_cons, enumF_cons] at e
      injection e with e1 e2
      subst e1
      obtain ⟨c1, c2, c3, c4⟩ := c
      refine ⟨[some (zoneD os s), some (tabD h js), some (.int h'), some (.tup (js.map jmpD)), some (.int pre.length), some (jmpD j)], by simp, fun M hM => ?_⟩
      have last : some (jmpD j) = atI (js.map jmpD) (((pre ++ [j]).length : Int) - 1) := by
        rw [ej, atI_of (by simp) (by simp; omega)]
        simp
      have fin : M [some (zoneD os s), some (tabD h js), some (.int j.2), some (.tup (js.map jmpD)), some (.int pre.length), some (jmpD j)] S' :=
        hM _ _ ⟨rfl, pre ++ [j], suf, _, _, _, _, rfl, by rw [ej, List.append_assoc] <;> rfl, by rw [e2, List.length_append] <;> rfl, c4, fun _ => ⟨_, _, rfl, last.symm⟩⟩
      simp [is_mark_jmp, c1, c2]
      by_cases hp : pre = []
      · subst hp
        simpa using fin
      · obtain ⟨m, o, e3, e4⟩ := l hp
        have c5 := c3 m e3
        rw [e4]
        have c6 : ¬ j.1 - m < s := by omega
        simp [List.length_pos_iff, hp, c6]
        exact fin
  · rintro ρ S' ⟨rfl, pre, suf, h', pm, x4, x5, rfl, ej, e, c, l⟩
    simpa using q
end
end Dm
-- text HmChart
namespace Dm
open PySem L2
section
variable {S : Sto} {os : List Int} {s h m : Int} {js : List (Int × Int)} {p : Nat}
@[simp] theorem need_table_ok (z : ZoneOK os s) (t : TabOK os s h js) : m_need_table [zoneD os s, tabD h js] S = .ok .non S := by
  refine pure_of fun Q q => ?_
  refine does_def rfl ?_
  simp [is_table_ok z t, q]
/-- the offset at a moment: up to the first jump after it -/
def offAt : Int → List (Int × Int) → Int → Int
  | h, [], _ => h
  | h, (a, o) :: r, m => if m < a then h else offAt o r m
@[simp] theorem whole_int {i : Int} : m_law_whole [.int i] S = .ok (.bl true) S := by
  refine pure_of fun Q q => ?_
  refine does_def rfl ?_
  simpa [isTn] using q
theorem same_int {n : Nat} {i j : Int} : m_law_same (n + 1) [.int i, .int j] S = .ok (.bl (i == j)) S := by
  refine pure_of fun Q q => ?_
  unfold m_law_same
  refine does_def rfl ?_
  simpa [isTn] using q
@[simp] theorem same_int30 {i j : Int} : m_law_same 30 [.int i, .int j] S = .ok (.bl (i == j)) S := same_int
theorem ZoneOK.at (z : ZoneOK os s) {i : Int} (h0 : 0 ≤ i) (h1 : i < os.length) : ∃ o, atI (os.map D.int) i = some (.int o) ∧ o ∈ os ∧ os[i.toNat]? = some o := by
  have l : i.toNat < os.length := by omega
  refine ⟨os[i.toNat], ?_, List.getElem_mem l, List.getElem?_eq_getElem l⟩
  rw [atI_of h0 (by rw [List.length_map]; exact h1), List.getElem?_map, List.getElem?_eq_getElem l] <;> rfl
end
end Dm
-- text HmNear
namespace Dm
open PySem L2
section
variable {S : Sto} {os : List Int} {s h m : Int} {js : List (Int × Int)} {p : Nat}
theorem Pot.set {n : Nat} {c : Cell} (h : Pot p S) (hn : p ≠ n) : Pot p (S.set n c) := by
  obtain ⟨k, e⟩ := h
  exact ⟨k, by rw [List.getElem?_set_ne (Ne.symm hn)]; exact e⟩
end
theorem cut_len {ds : List D} {lo hi : Option Int} : (cutD ds lo hi).length ≤ ds.length := by
  unfold cutD
  rw [List.length_take, List.length_drop]
  omega
theorem cut_mem {ds : List D} {lo hi : Option Int} {d : D} (h : d ∈ cutD ds lo hi) : d ∈ ds := List.mem_of_mem_drop (List.mem_of_mem_take h)
end Dm
-- text HmSame
namespace Dm
open PySem L2
/-- data that the law calls the same, of a depth -/
inductive Eqv (S : Sto) : Nat → D → D → Prop
  | non {n : Nat} : Eqv S n .non .non
  | int {n : Nat} {i : Int} : Eqv S n (.int i) (.int i)
  | bl {n : Nat} {b : Bool} : Eqv S n (.bl b) (.bl b)
  | str {n : Nat} {x : Str} : Eqv S n (.str x) (.str x)
  | tup {n : Nat} {ds es : List D} : ds.length = es.length → es.length ≤ 16777216 → (∀ (i : Nat) (d e : D), ds[i]? = some d → es[i]? = some e → Eqv S n d e) → Eqv S (n + 1) (.tup ds) (.tup es)
  | lst {n : Nat} {d e : D} {ds es : List D} : lstOf S d = some ds → lstOf S e = some es → ds.length = es.length → es.length ≤ 16777216 → (∀ (i : Nat) (d e : D), ds[i]? = some d → es[i]? = some e → Eqv S n d e) → Eqv S (n + 1) d e
section
variable {S : Sto}
theorem Eqv.up {n m : Nat} {d e : D} (h : Eqv S n d e) (hm : n ≤ m) : Eqv S m d e := by
  induction h generalizing m with
  | non => exact .non
  | int => exact .int
  | bl => exact .bl
  | str => exact .str
  | tup hl h16 _ ih =>
    obtain ⟨k, rfl⟩ : ∃ k, m = k + 1 := ⟨m - 1, by omega⟩
    exact .tup hl h16 fun i d e a b => ih i d e a b (by omega)
  | lst hd he hl h16 _ ih =>
    obtain ⟨k, rfl⟩ : ∃ k, m = k + 1 := ⟨m - 1, by omega⟩
    exact .lst hd he hl h16 fun i d e a b => ih i d e a b (by omega)
end
end Dm
-- text HmHours
namespace Dm
open PySem L2
section
variable {S : Sto} {os : List Int} {s h m r : Int} {js : List (Int × Int)} {p : Nat}
/-- the moments of a reading, by the offsets -/
def momsOf (os : List Int) (h : Int) (js : List (Int × Int)) (r : Int) : List Int := (os.reverse.filter fun o => offAt h js (r - o) == o).map fun o => r - o
theorem lcQ_filter {f : D → Rho → Option Rho} {mt me : ME} {ρ : Rho} {α : Type} {as : List α} {i : α → D} {S : Sto} {Q : List D → Sto → Prop} (t : α → Bool) (g : α → D) (h : ∀ a, a ∈ as → ∃ ρ1, f (i a) ρ = some ρ1 ∧ (∀ Q : D → Sto → Prop, Q (.bl (t a)) S → (mt ρ1 S).Does Q) ∧ ∀ Q : D → Sto → Prop, t a = true → Q (g a) S → (me ρ1 S).Does Q) (q : Q ((as.filter t).map g) S) : LcQ f mt me ρ (as.map i) S Q := by
  induction as generalizing Q with
  | nil => rw [List.map_nil, lcQ_nil]; exact q
  | cons a r ih =>
    obtain ⟨ρ1, e, k1, k2⟩ := h a List.mem_cons_self
    rw [List.map_cons, lcQ_cons, e]
    refine k1 _ ?_
    rw [blQ_bl]
    cases c : t a with
    | true =>
      rw [if_pos rfl]
      refine k2 _ c (ih (fun d hd => h d (List.mem_cons_of_mem _ hd)) ?_)
      rw [List.filter_cons, if_pos c] at q
      exact q
    | false =>
      rw [if_neg (by decide)]
      refine ih (fun d hd => h d (List.mem_cons_of_mem _ hd)) ?_
      rw [List.filter_cons, if_neg (by rw [c]; decide)] at q
      exact q
end
end Dm
-- text HmLooks
namespace Dm
open PySem L2
/-- from S to S': the pots of P have turned, all else is as it was -/
structure GoS (P : Nat → Prop) (S S' : Sto) : Prop where
  len : S.length ≤ S'.length
  same : ∀ n, n < S.length → ¬ P n → S'[n]? = S[n]?
  pot : ∀ n, P n → Pot n S'
section
variable {P : Nat → Prop} {S S1 S2 : Sto} {p q n : Nat} {os : List Int} {s : Int}
theorem GoS.refl (h : ∀ n, P n → Pot n S) : GoS P S S := ⟨Nat.le_refl _, fun _ _ _ => rfl, h⟩
theorem GoS.trans (a : GoS P S S1) (b : GoS P S1 S2) : GoS P S S2 :=
  ⟨Nat.le_trans a.len b.len, fun n h hn => (b.same n (Nat.lt_of_lt_of_le h a.len) hn).trans (a.same n h hn), b.pot⟩
theorem Pot.push {c : Cell} (h : Pot p S) : Pot p (S ++ [c]) := by
  obtain ⟨k, e⟩ := h
  exact ⟨k, by rw [List.getElem?_append_left (List.getElem?_eq_some_iff.mp e).1]; exact e⟩
theorem GoS.push (a : GoS P S S1) (c : Cell) : GoS P S (S1 ++ [c]) :=
  ⟨by rw [List.length_append]; exact Nat.le_trans a.len (Nat.le_add_right _ _), fun n h hn => by
    rw [List.getElem?_append_left (Nat.lt_of_lt_of_le h a.len)]
    exact a.same n h hn, fun n hn => (a.pot n hn).push⟩
theorem GoS.setNew (h : ∀ n, P n → Pot n S) (a : GoS P S S1) (hn : S.length ≤ n) (c : Cell) : GoS P S (S1.set n c) :=
  ⟨by rw [List.length_set]; exact a.len, fun m hm hp => by
    rw [List.getElem?_set_ne (by omega)]
    exact a.same m hm hp, fun m hm => by
    have := (h m hm).lt
    exact (a.pot m hm).set (by omega)⟩
theorem GoS.get {c : Cell} (a : GoS P S S1) (h : S[n]? = some c) (hn : ¬ P n) : S1[n]? = some c := by
  rw [a.same n (List.getElem?_eq_some_iff.mp h).1 hn]
  exact h
theorem Go.all (g : Go q S S1) (hq : P q) (h : ∀ n, P n → Pot n S) : GoS P S S1 :=
  ⟨g.len, fun n hn hp => g.same n hn fun e => hp (e ▸ hq), fun n hn => by
    by_cases e : n = q
    · subst e; exact g.pot
    · obtain ⟨k, z⟩ := h n hn
      exact ⟨k, g.get z e⟩⟩
theorem GoS.one (g : GoS (· = p) S S1) : Go p S S1 := ⟨g.len, fun n hn e => g.same n hn e, g.pot p rfl⟩
def looksD (ls : List (Int × Int)) : D := .tup (ls.map jmpD)
end
end Dm
-- text HmCrowd
namespace Dm
open PySem L2
/-! ### looks by their places -/
def Hh (ls : List (Int × Int)) (i : Nat) : Int := (ls.getD i (0, 0)).1
def Oo (ls : List (Int × Int)) (i : Nat) : Int := (ls.getD i (0, 0)).2
def chg (ls : List (Int × Int)) (i : Nat) : Int := if Oo ls (i + 1) = Oo ls i then 0 else 1
def tal (ls : List (Int × Int)) : Nat → Int
  | 0 => 0
  | k + 1 => tal ls k + chg ls k
def cond (s : Int) (ls : List (Int × Int)) (i j : Nat) : Bool := decide (Hh ls j - Hh ls i - 1 < (tal ls j - tal ls i - 1) * s)
def crowAt (s : Int) (ls : List (Int × Int)) (j : Nat) : Option (Nat × Nat) := (List.range' 0 j).findSome? fun b => if cond s ls (j - 1 - b) j then some (j - 1 - b, j) else none
def crow (s : Int) (ls : List (Int × Int)) : Option (Nat × Nat) := (List.range' 0 ls.length).findSome? fun j => crowAt s ls j
section
variable {S : Sto} {os : List Int} {s : Int} {ls : List (Int × Int)} {n p : Nat}
@[simp] theorem ty_looks : tyOf S (looksD ls) = some .tup := rfl
@[simp] theorem len_looks : gLen S [looksD ls] = some (.int ls.length) := by simp [looksD]
@[simp] theorem ix_looks {i : Int} : gIx S (looksD ls) (.int i) = atI (ls.map jmpD) i := rfl
end
end Dm
-- text HmEarly
namespace Dm
open PySem L2
end Dm
-- text HmFit
namespace Dm
open PySem L2
/-- the earliest moment of the next jump -/
def bar (s : Int) (p : Option Int) (h : Int) : Int := match p with
  | none => h + 1
  | some q => if q + s > h + 1 then q + s else h + 1
def early (s : Int) : Option Int → Int × Int → List (Int × Int) → Option (List (Int × Int))
  | _, _, [] => some []
  | p, (h, o), (h', o') :: r => if o' = o then early s p (h', o') r else if bar s p h > h' then none else (early s (some (bar s p h)) (h', o') r).map ((bar s p h, o') :: ·)
def earlyT (os : List Int) (s : Int) : List (Int × Int) → Option (Int × List (Int × Int))
  | [] => some (os.headD 0, [])
  | l :: r => (early s none l r).map (l.2, ·)
end Dm
namespace Dm
open PySem L2
/-- data without cells -/
inductive Plain : Nat → D → Prop
  | non {n : Nat} : Plain n .non
  | int {n : Nat} {i : Int} : Plain n (.int i)
  | bl {n : Nat} {b : Bool} : Plain n (.bl b)
  | str {n : Nat} {x : Str} : Plain n (.str x)
  | tup {n : Nat} {ds : List D} : ds.length ≤ 16777216 → (∀ d, d ∈ ds → Plain n d) → Plain (n + 1) (.tup ds)
theorem Plain.eqv {S : Sto} {n : Nat} {d : D} (h : Plain n d) : Eqv S n d d := by
  induction h with
  | non => exact .non
  | int => exact .int
  | bl => exact .bl
  | str => exact .str
  | tup hl _ ih => exact .tup rfl hl fun i d e a b => by rw [a] at b; cases b; exact ih d (List.mem_of_getElem? a)
theorem Plain.up {n m : Nat} {d : D} (h : Plain n d) (hm : n ≤ m) : Plain m d := by
  induction h generalizing m with
  | non => exact .non
  | int => exact .int
  | bl => exact .bl
  | str => exact .str
  | tup hl _ ih =>
    obtain ⟨k, rfl⟩ : ∃ k, m = k + 1 := ⟨m - 1, by omega⟩
    exact .tup hl fun d hd => ih d hd (by omega)
end Dm
-- text HmEtab
namespace Dm
open PySem L2
end Dm
-- text HmHold
namespace Dm
open PySem L2
/-! ### looks that some table has are not crowded -/
end Dm
-- text HmLeft
namespace Dm
open PySem L2
theorem cut_take {ds : List D} {k : Int} (h : 0 ≤ k) : cutD ds none (some k) = ds.take k.toNat := by
  unfold cutD
  have e : k = (k.toNat : Int) := by omega
  rw [e, HT.sIx_nat, HT.sIx_none, List.drop_zero, Nat.sub_zero, Int.toNat_natCast]
  by_cases c : k.toNat ≤ ds.length
  · rw [Nat.min_eq_left c]
  · rw [Nat.min_eq_right (by omega), List.take_length, List.take_of_length_le (by omega)]
/-! ### looks with one more -/
section
variable {S : Sto} {os : List Int} {s m o : Int} {ls : List (Int × Int)} {n p : Nat}
/-- cells have come -/
def Grow (S S' : Sto) : Prop := ∃ cs, S' = S ++ cs
theorem Grow.refl : Grow S S := ⟨[], (List.append_nil _).symm⟩
theorem Grow.push {S' : Sto} (h : Grow S S') (c : Cell) : Grow S (S' ++ [c]) := by
  obtain ⟨cs, rfl⟩ := h
  exact ⟨cs ++ [c], by rw [List.append_assoc]⟩
theorem Grow.trans {S1 S2 : Sto} (h : Grow S S1) (h2 : Grow S1 S2) : Grow S S2 := by
  obtain ⟨cs, rfl⟩ := h
  obtain ⟨ds, rfl⟩ := h2
  exact ⟨cs ++ ds, by rw [List.append_assoc]⟩
theorem Grow.get {S' : Sto} {c : Cell} (h : Grow S S') (e : S[n]? = some c) : S'[n]? = some c := by
  obtain ⟨cs, rfl⟩ := h
  rw [List.getElem?_append_left (List.getElem?_eq_some_iff.mp e).1]
  exact e
theorem Grow.len {S' : Sto} (h : Grow S S') : S.length ≤ S'.length := by
  obtain ⟨cs, rfl⟩ := h
  rw [List.length_append]; omega
theorem Grow.go {S' : Sto} (h : Grow S S') (hp : Pot p S) : Go p S S' := by
  refine ⟨h.len, fun n hn _ => ?_, ?_⟩
  · obtain ⟨cs, rfl⟩ := h
    rw [List.getElem?_append_left hn]
  · obtain ⟨k, e⟩ := hp
    exact ⟨k, h.get e⟩
end
end Dm
-- text HmFind
namespace Dm
open PySem L2
section
variable {S : Sto} {os : List Int} {s h r : Int} {js : List (Int × Int)} {fold gap : Str}
/-! ### the law's gap -/
/-- the widest offsets -/
structure Ends2 (os : List Int) (s a b : Int) : Prop where
  lo : atI (os.map D.int) 0 = some (.int a)
  hi : atI (os.map D.int) (-1) = some (.int b)
  w : b - a < s
  mem : ∀ o, o ∈ os → a ≤ o ∧ o ≤ b
  ma : a ∈ os
  mb : b ∈ os
/-! ### what is found -/
@[simp] theorem gDIx_new {kvs : List (Key × D)} {y : D} : gDIx (S ++ [.dic kvs]) (.cell S.length) y = (keyD y).bind fun k => valD kvs k := gDIx_cell (by simp)
def RuleF (x : Str) : Prop := x = "early" ∨ x = "late" ∨ x = "refuse"
def RuleG (x : Str) : Prop := x = "ahead" ∨ x = "behind" ∨ x = "refuse"
@[simp] theorem flatD_str {x : Str} : flatD (.str x) = true := rfl
end
end Dm
-- text HmProg
namespace Dm
open PySem L2
/-! ### programs of steps -/
inductive Kd where
  | mom | rdg | spn
  deriving DecidableEq
def Kd.s : Kd → Str
  | .mom => "moment"
  | .rdg => "reading"
  | .spn => "span"
def Kd.d (k : Kd) : D := .str k.s
inductive Stp where
  | read (i p : Nat) | find (i p : Nat) (f g : Str) | offset (i p : Nat) | edition (i p : Nat)
  | plus (i j : Nat) | less (i j : Nat) | add (i : Nat) (m : Int)
def Stp.d : Stp → D
  | .read i p => .tup [.str "read", .int i, .int p]
  | .find i p f g => .tup [.str "find", .int i, .int p, .str f, .str g]
  | .offset i p => .tup [.str "offset", .int i, .int p]
  | .edition i p => .tup [.str "edition", .int i, .int p]
  | .plus i j => .tup [.str "plus", .int i, .int j]
  | .less i j => .tup [.str "less", .int i, .int j]
  | .add i m => .tup [.str "add", .int i, .int m]
def Stp.kind (row : List Kd) : Stp → Kd
  | .read _ _ => .rdg
  | .find _ _ _ _ => .mom
  | .offset _ _ => .spn
  | .edition _ _ => .mom
  | .plus _ _ => .rdg
  | .less _ _ => .mom
  | .add i _ => row.getD i .mom
/-- a step behind values of these kinds, beside nz zones -/
def Stp.OK (nz : Nat) (row : List Kd) : Stp → Prop
  | .read i p => row[i]? = some .mom ∧ p < nz
  | .find i p f g => row[i]? = some .rdg ∧ p < nz ∧ RuleF f ∧ RuleG g
  | .offset i p => row[i]? = some .mom ∧ p < nz
  | .edition i p => row[i]? = some .mom ∧ p < nz
  | .plus i j => row[i]? = some .mom ∧ row[j]? = some .spn
  | .less i j => row[i]? = some .rdg ∧ row[j]? = some .spn
  | .add i m => (row[i]? = some .mom ∨ row[i]? = some .rdg) ∧ -100000 ≤ m ∧ m ≤ 100000
def Stp.isEd : Stp → Bool
  | .edition _ _ => true
  | _ => false
def kindsFrom (row : List Kd) : List Stp → List Kd
  | [] => row
  | t :: ts => kindsFrom (row ++ [t.kind row]) ts
def ProgFrom (nz : Nat) (row : List Kd) : List Stp → Prop
  | [] => True
  | t :: ts => t.OK nz row ∧ ProgFrom nz (row ++ [t.kind row]) ts
def progD (ts : List Stp) : D := .tup (ts.map Stp.d)
/-- a program beside nz zones -/
structure ProgOK (nz : Nat) (ts : List Stp) : Prop where
  len : ts.length ≤ 8
  steps : ProgFrom nz [.mom] ts
  eds : (ts.filter Stp.isEd).length < 2
theorem kindsFrom_snoc (row : List Kd) : ∀ (ts : List Stp) (t : Stp), kindsFrom row (ts ++ [t]) = kindsFrom row ts ++ [t.kind (kindsFrom row ts)]
  | [], t => rfl
  | u :: ts, t => by
    show kindsFrom (row ++ [u.kind row]) (ts ++ [t]) = _
    rw [kindsFrom_snoc]; rfl
theorem progFrom_snoc {nz : Nat} : ∀ {ts : List Stp} {row : List Kd} {t : Stp}, ProgFrom nz row ts → t.OK nz (kindsFrom row ts) → ProgFrom nz row (ts ++ [t])
  | [], _, _, _, h => ⟨h, trivial⟩
  | u :: ts, _, _, ⟨a, b⟩, h => ⟨a, progFrom_snoc b h⟩
theorem kindsFrom_length (row : List Kd) : ∀ ts : List Stp, (kindsFrom row ts).length = row.length + ts.length
  | [] => rfl
  | t :: ts => by
    show (kindsFrom (row ++ [t.kind row]) ts).length = _
    rw [kindsFrom_length]
    simp
    omega
/-! ### the parts of a step -/
section
variable {S : Sto} {zs : List D} {n m : Nat} {row : List Kd}
theorem row_at {i : Nat} {k : Kd} (hn : S[n]? = some (.lst (row.map Kd.d))) (h : row[i]? = some k) : gIx S (.cell n) (.int i) = some (.str k.s) ∧ gLen S [.cell n] = some (.int row.length) ∧ (i : Int) < row.length := by
  have hi := (List.getElem?_eq_some_iff.mp h).1
  refine ⟨?_, by rw [gLen_cell hn, List.length_map], by omega⟩
  rw [gIx_cell hn, atI_of (by omega) (by rw [List.length_map]; omega)]
  simp [h, Kd.d]
theorem part_kind {i : Nat} {k : Kd} (hn : S[n]? = some (.lst (row.map Kd.d))) (h : row[i]? = some k) : m_is_part [.tup zs, .cell n, .str k.s, .int i] S = .ok (.bl true) S := by
  refine pure_of fun Q q => ?_
  refine does_def rfl ?_
  obtain ⟨h1, h2, h3⟩ := row_at hn h
  cases k <;> (simp [h1, h2, h3, Kd.s]; exact q)
theorem part_point {i : Nat} {k : Kd} (hn : S[n]? = some (.lst (row.map Kd.d))) (h : row[i]? = some k) (hk : k ≠ .spn) : m_is_part [.tup zs, .cell n, .str "point", .int i] S = .ok (.bl true) S := by
  refine pure_of fun Q q => ?_
  refine does_def rfl ?_
  obtain ⟨h1, h2, h3⟩ := row_at hn h
  cases k with
  | spn => exact absurd rfl hk
  | mom => simp [h1, h2, h3, Kd.s]; exact q
  | rdg => simp [h1, h2, h3, Kd.s]; exact q
theorem part_place {p : Nat} (h : p < zs.length) : m_is_part [.tup zs, .cell n, .str "place", .int p] S = .ok (.bl true) S := by
  refine pure_of fun Q q => ?_
  refine does_def rfl ?_
  simp [h]; exact q
theorem part_minutes {m : Int} (h : -100000 ≤ m ∧ m ≤ 100000) : m_is_part [.tup zs, .cell n, .str "minutes", .int m] S = .ok (.bl true) S := by
  refine pure_of fun Q q => ?_
  refine does_def rfl ?_
  simp [h]; exact q
theorem part_fold {f : Str} (h : RuleF f) : m_is_part [.tup zs, .cell n, .str "fold", .str f] S = .ok (.bl true) S := by
  refine pure_of fun Q q => ?_
  refine does_def rfl ?_
  rcases h with rfl | rfl | rfl <;> (simp [isTn, gIn, eqF]; exact q)
theorem part_gap {f : Str} (h : RuleG f) : m_is_part [.tup zs, .cell n, .str "gap", .str f] S = .ok (.bl true) S := by
  refine pure_of fun Q q => ?_
  refine does_def rfl ?_
  rcases h with rfl | rfl | rfl <;> (simp [isTn, gIn, eqF]; exact q)
/-! ### steps -/
theorem is_step_ok {t : Stp} (hn : S[n]? = some (.lst (row.map Kd.d))) (h : t.OK zs.length row) : m_is_step [.tup zs, .cell n, t.d] S = .ok (.bl true) S := by
  refine pure_of fun Q q => ?_
  refine does_def rfl ?_
  cases t with
  | read i p =>
    have e1 := part_kind (zs := zs) hn h.1
    have e2 := part_place (S := S) (n := n) h.2
    simp only [Kd.s] at e1
    simp (decide := true) [Stp.d, isTn, tbLook, enumD, wipeD, e1, e2, gAll, lstOf, blsOf]
    exact q
  | offset i p =>
    have e1 := part_kind (zs := zs) hn h.1
    have e2 := part_place (S := S) (n := n) h.2
    simp only [Kd.s] at e1
    simp (decide := true) [Stp.d, isTn, tbLook, enumD, wipeD, e1, e2, gAll, lstOf, blsOf]
    exact q
  | edition i p =>
    have e1 := part_kind (zs := zs) hn h.1
    have e2 := part_place (S := S) (n := n) h.2
    simp only [Kd.s] at e1
    simp (decide := true) [Stp.d, isTn, tbLook, enumD, wipeD, e1, e2, gAll, lstOf, blsOf]
    exact q
  | find i p f g =>
    have e1 := part_kind (zs := zs) hn h.1
    have e2 := part_place (S := S) (n := n) h.2.1
    have e3 := part_fold (S := S) (n := n) (zs := zs) h.2.2.1
    have e4 := part_gap (S := S) (n := n) (zs := zs) h.2.2.2
    simp only [Kd.s] at e1
    simp (decide := true) [Stp.d, isTn, tbLook, enumD, wipeD, atI, ixN, e1, e2, e3, e4, gAll, lstOf, blsOf]
    exact q
  | plus i j =>
    have e1 := part_kind (zs := zs) hn h.1
    have e2 := part_kind (zs := zs) hn h.2
    simp only [Kd.s] at e1 e2
    simp (decide := true) [Stp.d, isTn, tbLook, enumD, wipeD, e1, e2, gAll, lstOf, blsOf]
    exact q
  | less i j =>
    have e1 := part_kind (zs := zs) hn h.1
    have e2 := part_kind (zs := zs) hn h.2
    simp only [Kd.s] at e1 e2
    simp (decide := true) [Stp.d, isTn, tbLook, enumD, wipeD, e1, e2, gAll, lstOf, blsOf]
    exact q
  | add i m =>
    have e2 := part_minutes (S := S) (n := n) (zs := zs) h.2
    have e1 : m_is_part [.tup zs, .cell n, .str "point", .int i] S = .ok (.bl true) S := by
      rcases h.1 with h | h
      · exact part_point hn h (by decide)
      · exact part_point hn h (by decide)
    simp (decide := true) [Stp.d, isTn, tbLook, enumD, wipeD, e1, e2, gAll, lstOf, blsOf]
    exact q
theorem kind_made_ok {t : Stp} (hn : S[n]? = some (.lst (row.map Kd.d))) (h : t.OK m row) : m_kind_made [.cell n, t.d] S = .ok (t.kind row).d S := by
  refine pure_of fun Q q => ?_
  refine does_def rfl ?_
  cases t with
  | add i m =>
    have e : ∃ k, row[i]? = some k := by rcases h.1 with h | h <;> exact ⟨_, h⟩
    obtain ⟨k, e⟩ := e
    obtain ⟨h1, h2, h3⟩ := row_at hn e
    simp [Stp.d, h1]
    simp [Stp.kind, e, Kd.d] at q
    exact q
  | _ => simp (decide := true) [Stp.d, tbLook]; exact q
theorem kinds_of_does {ts : List Stp} {Q : D → Sto → Prop} (h : ProgFrom m [.mom] ts) (hl : ts.length ≤ 60) (q : Q (.cell S.length) (S ++ [.lst ((kindsFrom [.mom] ts).map Kd.d)])) : (m_kinds_of [progD ts] S).Does Q := by
  refine does_def rfl ?_
  simp [progD]
  refine forL_cut (fun ds ρ S' => ∃ us row x2, ds = (us : List Stp).map Stp.d ∧ ρ = [some (.tup (ts.map Stp.d)), some (.cell S.length), x2] ∧ S' = S ++ [.lst (row.map Kd.d)] ∧ ProgFrom m row us ∧ kindsFrom row us = kindsFrom [.mom] ts ∧ row.length + us.length ≤ 61) _
    ⟨ts, [.mom], _, rfl, rfl, rfl, h, rfl, by simp; omega⟩ ?_ ?_
  · rintro d r ρ S1 ⟨us, row, x2, e, rfl, rfl, hp, hk, hl⟩
    cases us with
    | nil => cases e
    | cons u us =>
      simp at e
      obtain ⟨rfl, rfl⟩ := e
      refine ⟨_, rfl, fun M hM => ?_⟩
      have hn : (S ++ [.lst (row.map Kd.d)])[S.length]? = some (.lst (row.map Kd.d)) := by simp
      simp at hl
      simp [kind_made_ok hn hp.1]
      refine ⟨by omega, hM _ _ ⟨us, row ++ [u.kind row], _, rfl, rfl, by simp, hp.2, hk, by simp; omega⟩⟩
  · rintro ρ S1 ⟨us, row, x2, e, rfl, rfl, hp, hk, hl⟩
    cases us with
    | nil =>
      simp
      rw [← hk] at q
      exact q
    | cons u us => cases e
end
end Dm
-- text HmProg2
namespace Dm
open PySem L2
abbrev Zs := List (List Int × Int)
def zonesD (zs : Zs) : D := .tup (zs.map fun z => zoneD z.1 z.2)
/-- one or two zones -/
structure ZsOK (zs : Zs) : Prop where
  all : ∀ z, z ∈ zs → ZoneOK z.1 z.2
  len : zs.length = 1 ∨ zs.length = 2
section
variable {S : Sto} {zs : Zs} {ts : List Stp}
theorem is_zones_ok (z : ZsOK zs) : m_is_zones [zonesD zs] S = .ok (.bl true) S := by
  refine pure_of fun Q q => ?_
  refine does_def rfl ?_
  obtain ⟨h, l⟩ := z
  match zs, h, l with
  | [], _, l => simp at l
  | [a], h, _ =>
    have h1 := h a (by simp)
    simp [zonesD, isTn, wipeD]
    rw [lcAQ_fix (n := 1) (ds := [zoneD a.1 a.2]) (.inl rfl) rfl]
    simp [is_zone_ok h1, gAll, lstOf, blsOf]
    exact q
  | [a, b], h, _ =>
    have h1 := h a (by simp)
    have h2 := h b (by simp)
    simp [zonesD, isTn, wipeD]
    rw [lcAQ_fix (n := 2) (ds := [zoneD a.1 a.2, zoneD b.1 b.2]) (.inl rfl) rfl]
    simp [is_zone_ok h1, is_zone_ok h2, gAll, lstOf, blsOf]
    exact q
  | _ :: _ :: _ :: _, _, l => simp at l
theorem need_zones_ok (z : ZsOK zs) : m_need_zones [zonesD zs] S = .ok .non S := by
  refine pure_of fun Q q => ?_
  refine does_def rfl ?_
  simp [is_zones_ok z]
  exact q
theorem isEd_does {t : Stp} {ρ : Rho} {i : Nat} (hi : ρ[i]? = some (some t.d)) : ∀ Q : D → Sto → Prop, Q (.bl t.isEd) S → (mOp gEq (mOp gIx (mVar i) (mK (.int 0))) (mK (.str "edition")) ρ S).Does Q := by
  intro Q q
  cases t <;> (simp (decide := true) [hi, Stp.d]; exact q)
theorem is_program_does {Q : D → Sto → Prop} (z : ZsOK zs) (h : ProgOK zs.length ts) (q : Q (.bl true) (S ++ [.lst ((kindsFrom [.mom] ts).map Kd.d)])) : (m_is_program [zonesD zs, progD ts] S).Does Q := by
  have hl := h.len
  have he := h.eds
  refine does_def rfl ?_
  simp [need_zones_ok z, progD, isTn, hl]
  have hl' : ¬ (8 : Int) < ts.length := by omega
  simp [hl']
  refine forL_cut (fun ds ρ S' => ∃ us row x3, ds = (us : List Stp).map Stp.d ∧ ρ = [some (zonesD zs), some (.tup (ts.map Stp.d)), some (.cell S.length), x3] ∧ S' = S ++ [.lst (row.map Kd.d)] ∧ ProgFrom zs.length row us ∧ kindsFrom row us = kindsFrom [.mom] ts ∧ row.length + us.length ≤ 61) _
    ⟨ts, [.mom], _, rfl, rfl, rfl, h.steps, rfl, by simp; omega⟩ ?_ ?_
  · rintro d r ρ S1 ⟨us, row, x2, e, rfl, rfl, hp, hk, hl⟩
    cases us with
    | nil => cases e
    | cons u us =>
      simp at e
      obtain ⟨rfl, rfl⟩ := e
      refine ⟨_, rfl, fun M hM => ?_⟩
      have hn : (S ++ [.lst (row.map Kd.d)])[S.length]? = some (.lst (row.map Kd.d)) := by simp
      have hs := is_step_ok (zs := zs.map fun z => zoneD z.1 z.2) hn (t := u) (by rw [List.length_map]; exact hp.1)
      simp at hl
      simp [zonesD, hs, kind_made_ok hn hp.1]
      refine ⟨by omega, hM _ _ ⟨us, row ++ [u.kind row], _, rfl, rfl, by simp, hp.2, hk, by simp; omega⟩⟩
  · rintro ρ S1 ⟨us, row, x2, e, rfl, rfl, hp, hk, hl⟩
    cases us with
    | cons u us => cases e
    | nil =>
      simp [wipeD]
      try rw [lcAQ_fix (.inl rfl) (by simp)]
      refine lcQ_filter (as := ts) (i := Stp.d) Stp.isEd Stp.d ?_ ?_
      · intro t _
        refine ⟨_, rfl, isEd_does rfl, fun Q _ q => ?_⟩
        simp
        exact q
      · simp
        have : ((ts.filter Stp.isEd).length : Int) < 2 := by omega
        simp [this]
        rw [← hk] at q
        exact q
theorem need_program_does {Q : D → Sto → Prop} (z : ZsOK zs) (h : ProgOK zs.length ts) (q : Q .non (S ++ [.lst ((kindsFrom [.mom] ts).map Kd.d)])) : (m_need_program [zonesD zs, progD ts] S).Does Q := by
  refine does_def rfl ?_
  simp
  refine is_program_does z h ?_
  simp
  exact q
end
end Dm
-- text HmDeed
namespace Dm
open PySem L2
theorem atI_lastL {α : Type} {l : List α} (h : l ≠ []) : ∃ x, x ∈ l ∧ atI l (-1) = some x := by
  have hp : 0 < l.length := List.length_pos_iff.mpr h
  have h1 : (0 : Int) ≤ -1 + (l.length : Int) := by omega
  have h2 : (-1 + (l.length : Int)).toNat = l.length - 1 := by omega
  refine ⟨l[l.length - 1]'(by omega), List.getElem_mem _, ?_⟩
  have h3 : (1 : Int) ≤ l.length := by omega
  simp [atI, ixN, h2, h3]
theorem atI_memL {α : Type} {l : List α} {r : Int} (h0 : 0 ≤ r) (h : r < l.length) : ∃ x, x ∈ l ∧ atI l r = some x := by
  rw [atI_of h0 h]
  have : r.toNat < l.length := by omega
  exact ⟨l[r.toNat], List.getElem_mem _, List.getElem?_eq_getElem this⟩
theorem kd_eq (a b : Kd) : (a.s == b.s) = decide (a = b) := by cases a <;> cases b <;> decide
section
variable {S : Sto} {p n r : Nat} {row : List Kd}
theorem in_row (hr : S[r]? = some (.lst (row.map Kd.d))) (k : Kd) : gIn false S (.str k.s) (.cell r) = some (.bl (decide (k ∈ row))) := by
  unfold gIn
  rw [seqOf_cell hr]
  have h1 : (row.map Kd.d).all flatD = true := by simp [Kd.d, flatD]
  have h2 : ((row.map Kd.d).any fun x => eqF x (.str k.s)) = decide (k ∈ row) := by
    rw [List.any_map]
    have : (fun x => eqF x (.str k.s)) ∘ Kd.d = fun a : Kd => decide (a = k) := by
      funext a
      show eqF (.str a.s) (.str k.s) = _
      show (a.s == k.s) = _
      exact kd_eq a k
    rw [this]
    by_cases c : k ∈ row
    · rw [decide_eq_true c, List.any_eq_true]
      exact ⟨k, c, decide_eq_true rfl⟩
    · rw [decide_eq_false c, List.any_eq_false]
      intro x hx
      simp only [decide_eq_true_eq]
      rintro rfl
      exact c hx
  simp only [h1, h2, flatD_str, and_self, if_true, Bool.false_eq_true, if_false]
theorem stp_py {t : Stp} {nz : Nat} (h : t.OK nz row) : ∃ q, toPy t.d = some q ∧ q.canLay0 = true ∧ q.depth ≤ 1 := by
  cases t with
  | find i p f g =>
    obtain ⟨_, _, hf, hg⟩ := h
    refine ⟨_, rfl, ?_, by simp [PyData.depth, PyData.depthAll]⟩
    rcases hf with rfl | rfl | rfl <;> rcases hg with rfl | rfl | rfl <;> (simp [PyData.canLay0, PyData.canLayAll0]; decide +kernel)
  | _ => exact ⟨_, rfl, by simp [PyData.canLay0, PyData.canLayAll0]; decide +kernel, by simp [PyData.depth, PyData.depthAll]⟩
end
end Dm
-- text HmWanted
namespace Dm
open PySem L2
section
variable {S : Sto} {p n r : Nat} {row : List Kd}
theorem kindsFrom_mem {k : Kd} : ∀ {ts : List Stp} {row : List Kd}, k ∈ row → k ∈ kindsFrom row ts
  | [], _, h => h
  | t :: ts, row, h => kindsFrom_mem (ts := ts) (List.mem_append_left _ h)
end
end Dm
-- text HmPlan
namespace Dm
open PySem L2
def Stp.isFind : Stp → Bool
  | .find _ _ _ _ => true
  | _ => false
def Stp.isConv : Stp → Bool
  | .find _ _ _ _ => true
  | .read _ _ => true
  | .offset _ _ => true
  | .edition _ _ => true
  | _ => false
section
variable {S : Sto} {p n r : Nat} {row : List Kd}
/-- the words that may come next -/
def NW (row : List Kd) (a b c : Int) (w : Str) : Prop := w = "add" ∨ (w = "plus" ∧ Kd.spn ∈ row) ∨ (w = "less" ∧ Kd.spn ∈ row ∧ Kd.rdg ∈ row) ∨ (0 < a ∧ (w = "read" ∨ w = "offset" ∨ (w = "edition" ∧ 0 < c) ∨ (w = "find" ∧ 0 < b ∧ Kd.rdg ∈ row)))
end
end Dm
-- text HmPlan2
namespace Dm
open PySem L2
/-- a drawn step -/
structure PGood (nz : Nat) (row : List Kd) (a b c : Int) (t : Stp) : Prop where
  ok : t.OK nz row
  conv : t.isConv = true → 0 < a
  find : t.isFind = true → 0 < b
  ed : t.isEd = true → 0 < c
section
variable {S : Sto} {p n r : Nat} {row : List Kd} {zs : Zs}
def bI (b : Bool) : Int := if b then 1 else 0
def cnt (f : Stp → Bool) (ts : List Stp) : Int := ((ts.filter f).length : Int)
theorem cnt_nil {f : Stp → Bool} : cnt f [] = 0 := rfl
theorem cnt_snoc {f : Stp → Bool} {ts : List Stp} {t : Stp} : cnt f (ts ++ [t]) = cnt f ts + bI (f t) := by
  unfold cnt bI
  rw [List.filter_append]
  by_cases h : f t = true
  · simp [h]
  · simp [h]
end
end Dm
-- text HmEarth
namespace Dm
open PySem L2
/-! ### tables by zones -/
abbrev Tb := Int × List (Int × Int)
def Tb.d (t : Tb) : D := tabD t.1 t.2
def Tb.of (t : Tb) (m : Int) : Int := offAt t.1 t.2 m
structure TbsOK (zs : Zs) (tb : List Tb) : Prop where
  len : tb.length = zs.length
  ok : ∀ (p : Nat) (z : List Int × Int) (t : Tb), zs[p]? = some z → tb[p]? = some t → TabOK z.1 z.2 t.1 t.2
def getT (tb : List Tb) (p : Nat) : Tb := tb.getD p (0, [])
def getZ (zs : Zs) (p : Nat) : List Int × Int := zs.getD p ([], 1)
def getV (vs : List Int) (i : Nat) : Int := vs.getD i 0
theorem getV_at {vs : List Int} {i : Nat} (h : i < vs.length) : vs[i]? = some (getV vs i) := by
  unfold getV
  rw [List.getD_eq_getElem?_getD, List.getElem?_eq_getElem h]; rfl
theorem getT_at {tb : List Tb} {i : Nat} (h : i < tb.length) : tb[i]? = some (getT tb i) := by
  unfold getT
  rw [List.getD_eq_getElem?_getD, List.getElem?_eq_getElem h]; rfl
theorem getZ_at {zs : Zs} {i : Nat} (h : i < zs.length) : zs[i]? = some (getZ zs i) := by
  unfold getZ
  rw [List.getD_eq_getElem?_getD, List.getElem?_eq_getElem h]; rfl
theorem TbsOK.tab {zs : Zs} {tb : List Tb} (h : TbsOK zs tb) {p : Nat} (hp : p < zs.length) : TabOK (getZ zs p).1 (getZ zs p).2 (getT tb p).1 (getT tb p).2 :=
  h.ok p _ _ (getZ_at hp) (getT_at (by rw [h.len]; exact hp))
theorem ZsOK.at {zs : Zs} (z : ZsOK zs) {p : Nat} (hp : p < zs.length) : ZoneOK (getZ zs p).1 (getZ zs p).2 := z.all _ (List.mem_of_getElem? (getZ_at hp))
theorem TbsOK.set {zs : Zs} {tb later : List Tb} (h : TbsOK zs tb) (h' : TbsOK zs later) (p : Nat) : TbsOK zs (tb.set p (getT later p)) := by
  refine ⟨by rw [List.length_set]; exact h.len, fun i z t hz ht => ?_⟩
  by_cases e : p = i
  · subst e
    have hp : p < tb.length := by
      have := (List.getElem?_eq_some_iff.mp ht).1
      rw [List.length_set] at this
      exact this
    rw [List.getElem?_set_self hp] at ht
    cases ht
    exact h'.ok p z _ hz (getT_at (by rw [h'.len, ← h.len]; exact hp))
  · rw [List.getElem?_set_ne e] at ht
    exact h.ok i z t hz ht
section
variable {S : Sto} {os : List Int} {s h m r : Int} {js : List (Int × Int)}
@[simp] theorem tgU_jmp {j : Int × Int} {ρ : Rho} {f : List D → Rho → Option Rho} : tgU 2 f (jmpD j) ρ = f [.int j.1, .int j.2] ρ := rfl
@[simp] theorem tgU_zone {ρ : Rho} {f : List D → Rho → Option Rho} : tgU 2 f (zoneD os s) ρ = f [.tup (os.map .int), .int s] ρ := rfl
@[simp] theorem tgU_tab {ρ : Rho} {f : List D → Rho → Option Rho} : tgU 2 f (tabD h js) ρ = f [.int h, .tup (js.map jmpD)] ρ := rfl
/-! ### a find -/
def findI (ms : List Int) (g : Int × Int) (r : Int) (fold gap : Str) : Option Int := match ms with
  | [m] => some m
  | [m, m'] => if fold = "refuse" then none else if fold = "early" then some m else some m'
  | _ => if gap = "refuse" then none else if gap = "ahead" then some (r - g.1) else some (r - g.2)
end
end Dm
-- text HmFollow
namespace Dm
open PySem L2
/-! ### a run by the document -/
def loO (os : List Int) : Int := os.headD 0
def hiO (os : List Int) : Int := os.getLastD 0
theorem ZoneOK.ends {os : List Int} {s : Int} (z : ZoneOK os s) : Ends2 os s (loO os) (hiO os) := by
  cases z with
  | one a s => exact ⟨rfl, rfl, by simp [loO, hiO]; omega, by simp [loO, hiO], by simp [loO], by simp [hiO]⟩
  | two a b s => exact ⟨rfl, rfl, by simp [loO, hiO]; omega, by simp [loO, hiO]; omega, by simp [loO], by simp [hiO]⟩
  | three a b c s => exact ⟨rfl, rfl, by simp [loO, hiO]; omega, by simp [loO, hiO]; omega, by simp [loO], by simp [hiO]⟩
def foundT (z : List Int × Int) (t : Tb) (r : Int) (f g : Str) : Option Int := findI (momsOf z.1 t.1 t.2 r) (t.of (r - hiO z.1), t.of (r - loO z.1)) r f g
def stepV (zs : Zs) (tb : List Tb) (vs : List Int) : Stp → Option Int
  | .read i p => some (getV vs i + (getT tb p).of (getV vs i))
  | .find i p f g => foundT (getZ zs p) (getT tb p) (getV vs i) f g
  | .offset i p => some ((getT tb p).of (getV vs i))
  | .edition i _ => some (getV vs i)
  | .plus i j => some (getV vs i + getV vs j)
  | .less i j => some (getV vs i - getV vs j)
  | .add i m => some (getV vs i + m)
def askedS (zs : Zs) (vs : List Int) : Stp → List Int
  | .read i _ => [getV vs i]
  | .find i p _ _ => (getZ zs p).1.reverse.map fun o => getV vs i - o
  | .offset i _ => [getV vs i]
  | .edition i _ => [getV vs i - 1]
  | _ => []
def Stp.base : Stp → Nat
  | .read i _ => i
  | .find i _ _ _ => i
  | .offset i _ => i
  | .edition i _ => i
  | .plus i _ => i
  | .less i _ => i
  | .add i _ => i
def Stp.place : Stp → Nat
  | .read _ p => p
  | .find _ p _ _ => p
  | .offset _ p => p
  | .edition _ p => p
  | _ => 0
theorem Stp.OK.base {nz : Nat} {row : List Kd} {t : Stp} (h : t.OK nz row) : t.base < row.length := by
  cases t with
  | add i m => rcases h.1 with h | h <;> exact (List.getElem?_eq_some_iff.mp h).1
  | _ => exact (List.getElem?_eq_some_iff.mp h.1).1
section
variable {S : Sto} {zs : Zs} {tb : List Tb} {vs : List Int} {row : List Kd} {n c : Nat} {t : Stp}
/-! ### what is looked at -/
abbrev Lk := Int × Int × Int × Int
def lkD (m : Lk) : D := .tup [.int m.1, .int m.2.1, .int m.2.2.1, .int m.2.2.2]
def pushLk (lk : List Lk) (m : Lk) : List Lk := if m ∈ lk then lk else lk ++ [m]
def sideOf : Option (Nat × Int) → Nat → Int → Int
  | some (q, m), p, w => if q = p ∧ m ≤ w then 1 else 0
  | none, _, _ => 0
def edD : Option (Nat × Int) → List (Key × D)
  | none => []
  | some (q, m) => [(.inl q, .int m)]
end
end Dm
-- text HmFollow2
namespace Dm
open PySem L2
section
variable {S : Sto} {zs : Zs} {tb : List Tb} {vs : List Int} {row : List Kd} {n c : Nat} {t : Stp}
/-- how a run ends -/
inductive Fin where
  | done (vs : List Int)
  | refused (vs : List Int) (k : Nat)
  | unsuited
def followS (ag : Tb → Tb → Int → Bool) (zs : Zs) (later : List Tb) : List Tb → Nat → List Int → List Stp → Fin
  | _, _, vs, [] => .done vs
  | tb, k, vs, t :: ts => if t.isEd = true ∧ ag (getT tb t.place) (getT later t.place) (getV vs t.base) = false then .unsuited
    else match stepV zs tb vs t with
      | none => .refused vs k
      | some v => followS ag zs later (if t.isEd = true then tb.set t.place (getT later t.place) else tb) (k + 1) (vs ++ [v]) ts
theorem ed_form {t : Stp} (h : t.isEd = true) : t = .edition t.base t.place := by
  cases t <;> first | rfl | cases h
end
end Dm
-- text HmFollow3
namespace Dm
open PySem L2
theorem cnt_cons {f : Stp → Bool} {t : Stp} {ts : List Stp} : cnt f (t :: ts) = bI (f t) + cnt f ts := by
  unfold cnt bI
  by_cases h : f t = true
  · simp [h]; omega
  · simp [h]
theorem cnt_nn {f : Stp → Bool} {ts : List Stp} : 0 ≤ cnt f ts := Int.natCast_nonneg _
section
variable {S : Sto} {zs : Zs} {tb later : List Tb} {vs : List Int} {row : List Kd} {n c : Nat} {t : Stp} {ts : List Stp}
/-- the four cells of a run -/
structure Cells (S : Sto) (a : Nat) (tb : List Tb) (ed : Option (Nat × Int)) (vs : List Int) (lk : List Lk) : Prop where
  c4 : S[a]? = some (.lst (tb.map Tb.d))
  c5 : S[a + 1]? = some (.dic (edD ed))
  c6 : S[a + 2]? = some (.lst (vs.map .int))
  c7 : S[a + 3]? = some (.lst (lk.map lkD))
theorem set_at {S : Sto} {n : Nat} {c c' : Cell} (h : S[n]? = some c') : (S.set n c)[n]? = some c := List.getElem?_set_self (List.getElem?_eq_some_iff.mp h).1
theorem Cells.val {S : Sto} {a : Nat} {tb : List Tb} {ed : Option (Nat × Int)} {vs : List Int} {lk : List Lk} (h : Cells S a tb ed vs lk) (vs' : List Int) : Cells (S.set (a + 2) (.lst (vs'.map .int))) a tb ed vs' lk :=
  ⟨by rw [List.getElem?_set_ne (by omega)]; exact h.c4, by rw [List.getElem?_set_ne (by omega)]; exact h.c5, set_at h.c6, by rw [List.getElem?_set_ne (by omega)]; exact h.c7⟩
/-- a look of a step -/
def markS (org : Int) (tb : List Tb) (ed : Option (Nat × Int)) (t : Stp) (w : Int) : Lk := ((t.place : Int), sideOf ed t.place w, w - org, offAt (getT tb t.place).1 (getT tb t.place).2 w)
def addL (org : Int) (tb : List Tb) (ed : Option (Nat × Int)) (t : Stp) (lk : List Lk) (ws : List Int) : List Lk := ws.foldl (fun lk w => pushLk lk (markS org tb ed t w)) lk
/-- a run with its looks -/
def followL (ag : Tb → Tb → Int → Bool) (zs : Zs) (later : List Tb) (org : Int) : List Tb → Option (Nat × Int) → Nat → List Int → List Lk → List Stp → Fin × List Lk
  | _, _, _, vs, lk, [] => (.done vs, lk)
  | tb, ed, k, vs, lk, t :: ts => if t.isEd = true ∧ ag (getT tb t.place) (getT later t.place) (getV vs t.base) = false then (.unsuited, addL org tb ed t lk (askedS zs vs t))
    else match stepV zs tb vs t with
      | none => (.refused vs k, addL org tb ed t lk (askedS zs vs t))
      | some v => followL ag zs later org (if t.isEd = true then tb.set t.place (getT later t.place) else tb) (if t.isEd = true then some (t.place, getV vs t.base) else ed) (k + 1) (vs ++ [v]) (addL org tb ed t lk (askedS zs vs t)) ts
theorem followL_fst {ag : Tb → Tb → Int → Bool} {org : Int} : ∀ {ts : List Stp} {tb : List Tb} {ed : Option (Nat × Int)} {k : Nat} {vs : List Int} {lk : List Lk}, (followL ag zs later org tb ed k vs lk ts).1 = followS ag zs later tb k vs ts
  | [], _, _, _, _, _ => rfl
  | t :: ts, tb, ed, k, vs, lk => by
    rw [followL, followS]
    split
    · rfl
    · cases stepV zs tb vs t with
      | none => rfl
      | some v => exact followL_fst
end
end Dm
-- text HmRun
namespace Dm
open PySem L2
section
variable {S : Sto} {zs : Zs} {tb later : List Tb} {vs : List Int} {row : List Kd} {n c : Nat} {t : Stp} {ts : List Stp}
/-! ### worlds -/
/-! ### a step -/
/-! ### a table ahead of a moment -/
def aheadJ (js : List (Int × Int)) (m : Int) : List (Int × Int) := js.filter fun j => decide (j.1 < m)
def agP (a b : Tb) (m : Int) : Bool := decide (a.1 = b.1 ∧ aheadJ a.2 m = aheadJ b.2 m)
end
end Dm
-- text HmRun2
namespace Dm
open PySem L2
@[simp] theorem does_raise {c : Str} {ρ : Rho} {S : Sto} {N B C : Rho → Sto → Prop} {R : D → Sto → Prop} {EO : EXO} : (mRaise c ρ S).DoesE EO N R B C = EO c [] ρ S := rfl
@[simp] theorem does_raiseX {c : Str} {ns : List Str} {ma : MA} {ρ : Rho} {S : Sto} {N B C : Rho → Sto → Prop} {R : D → Sto → Prop} {EO : EXO} : (mRaiseX c ns ma ρ S).DoesE EO N R B C = (ma ρ S).DoesE (eAt EO ρ) fun ds S1 => ds.length = ns.length ∧ EO c (ns.zip ds).reverse ρ S1 := by
  unfold mRaiseX
  rw [does_ofRes]; congr 1; funext ds S1
  by_cases h : ds.length = ns.length
  · rw [if_pos h]; simp [h, Out.DoesE]
  · rw [if_neg h]; simp [h, Out.DoesE]
end Dm
-- text HmEarth2
namespace Dm
open PySem L2
end Dm
-- text HmEarth3
namespace Dm
open PySem L2
section
variable {S : Sto} {p n : Nat} {os : List Int} {s : Int} {zs : Zs} {ts : List Stp}
theorem TbsOK.cons {z : List Int × Int} {t : Tb} {zs : Zs} {tb : List Tb} (h : TabOK z.1 z.2 t.1 t.2) (k : TbsOK zs tb) : TbsOK (z :: zs) (t :: tb) := by
  refine ⟨by simp [k.len], fun p z' t' hz ht => ?_⟩
  cases p with
  | zero =>
    simp at hz ht
    subst hz ht
    exact h
  | succ p =>
    simp at hz ht
    exact k.ok p z' t' hz ht
/-! ### bounds of the values -/
def VB (row : List Kd) (vs : List Int) : Prop := row.length = vs.length ∧ ∀ (i : Nat) (v : Int) (k : Kd), vs[i]? = some v → row[i]? = some k → (-(2000000000000 + 200000 * (i : Int)) ≤ v ∧ v ≤ 2000000000000 + 200000 * i) ∧ (k = .spn → -900 ≤ v ∧ v ≤ 900)
theorem VB.at {row : List Kd} {vs : List Int} (h : VB row vs) {i : Nat} {k : Kd} (hi : row[i]? = some k) : (-(2000000000000 + 200000 * (i : Int)) ≤ getV vs i ∧ getV vs i ≤ 2000000000000 + 200000 * i) ∧ (k = .spn → -900 ≤ getV vs i ∧ getV vs i ≤ 900) ∧ i < vs.length := by
  have hl := (List.getElem?_eq_some_iff.mp hi).1
  rw [h.1] at hl
  exact ⟨(h.2 i _ k (getV_at hl) hi).1, (h.2 i _ k (getV_at hl) hi).2, hl⟩
/-! ### the same numbers -/
theorem int_short {i : Int} (h : i.natAbs < 100000000000000) : (PyData.shown (.int i)).length ≤ 15 := by
  have e := int_text_length_le10 (k := 14) (by decide) h
  show (Str.ofString (toString i)).length ≤ 15
  rw [ofString_length]; exact e
end
end Dm
-- text HmAgree
namespace Dm
open PySem L2
section
variable {os : List Int} {s m : Int}
theorem chain_gt (hs : 0 < s) : ∀ {js : List (Int × Int)} {h p : Int}, Chain os s h (some p) js → ∀ j, j ∈ js → p < j.1
  | (t, o) :: r, h, p, ⟨_, _, c, d⟩, j, hj => by
    have := c p rfl
    rcases List.mem_cons.mp hj with rfl | hj
    · simp only; omega
    · have := chain_gt hs d j hj
      omega
theorem ahead_nil (hs : 0 < s) {t o h : Int} {p : Option Int} {r : List (Int × Int)} (c : Chain os s h p ((t, o) :: r)) (ht : ¬ t < m) : aheadJ ((t, o) :: r) m = [] := by
  unfold aheadJ
  rw [List.filter_eq_nil_iff]
  intro j hj
  rcases List.mem_cons.mp hj with rfl | hj
  · simp only [decide_eq_true_eq]; omega
  · have := chain_gt hs c.2.2.2 j hj
    simp only [decide_eq_true_eq]; omega
theorem ahead_cons {t o : Int} {r : List (Int × Int)} (ht : t < m) : aheadJ ((t, o) :: r) m = (t, o) :: aheadJ r m := by
  unfold aheadJ
  rw [List.filter_cons, if_pos (decide_eq_true ht)]
theorem off_ahead (hs : 0 < s) {e : Int} (he : e < m) : ∀ {js : List (Int × Int)} {h : Int} {p : Option Int}, Chain os s h p js → offAt h js e = offAt h (aheadJ js m) e
  | [], _, _, _ => rfl
  | (t, o) :: r, h, p, c => by
    by_cases ht : t < m
    · rw [ahead_cons ht, offAt, offAt, off_ahead hs he c.2.2.2]
    · rw [show offAt h ((t, o) :: r) e = h by rw [offAt, if_pos (by omega)], ahead_nil hs c ht]; rfl
end
end Dm
-- text HmRan
namespace Dm
open PySem L2
/-! ### try -/
section
variable {ρ : Rho} {S : Sto} {N B C : Rho → Sto → Prop} {R : D → Sto → Prop} {EO : EXO}
@[simp] theorem does_try {cs : List Str} {hs : List (Str × Option Nat × MS)} {mb : MS} : (mTry cs hs mb ρ S).DoesE EO N R B C = (mb ρ S).DoesE (fun c fs ρ1 S1 => ∃ ns, intFsOf fs = some ns ∧ c ∈ cs ∧ (catchD c fs ns hs ρ1 S1).DoesE EO N R B C) N R B C := by
  unfold mTry
  cases mb ρ S with
  | exc c fs ρ1 S1 =>
    simp only [Out.DoesE]
    cases e : intFsOf fs with
    | none => simp [Out.DoesE, e]
    | some ns =>
      by_cases h : c ∈ cs
      · simp [h, e, Out.DoesE]
      · simp [h, e, Out.DoesE]
  | _ => rfl
@[simp] theorem catch_nil {c : Str} {fs : List (Str × D)} {ns : List (Str × Int)} : (catchD c fs ns [] ρ S).DoesE EO N R B C = EO c fs ρ S := rfl
@[simp] theorem catch_cons {c h : Str} {fs : List (Str × D)} {ns : List (Str × Int)} {oi : Option Nat} {ms : MS} {r : List (Str × Option Nat × MS)} : (catchD c fs ns ((h, oi, ms) :: r) ρ S).DoesE EO N R B C =
    if xSub c h = true then (ms (setI oi ρ (.exn c ns)) S).DoesE (fun _ _ _ _ => False) (fun ρ S => N (clearI oi ρ) S) R (fun ρ S => B (clearI oi ρ) S) (fun ρ S => C (clearI oi ρ) S) else (catchD c fs ns r ρ S).DoesE EO N R B C := by
  rw [catchD]
  by_cases h : xSub c h = true
  · simp only [if_pos h]
    cases ms (setI oi ρ (.exn c ns)) S <;> rfl
  · simp only [if_neg h]
@[simp] theorem gXf_exn {c f : Str} {fs : List (Str × Int)} : gXf c f S (.exn c fs) = (fs.lookup f).map D.int := by simp [gXf]
end
/-! ### repr of pairs -/
/-! ### what becomes of a run -/
end Dm
-- text HmMoved
namespace Dm
open PySem L2
def mvJ (d : Int) (j : Int × Int) : Int × Int := (j.1 + d, j.2)
def mvT (d : Int) (t : Tb) : Tb := (t.1, t.2.map (mvJ d))
def mvK (d : Int) (k : Kd) : Int := if k = .spn then 0 else d
def mvV (d : Int) (row : List Kd) (vs : List Int) : List Int := List.zipWith (fun k v => v + mvK d k) row vs
section
variable {d m : Int} {zs : Zs} {tb later : List Tb} {row : List Kd} {vs : List Int} {t : Stp}
theorem getV_mv {i : Nat} {k : Kd} (hl : row.length = vs.length) (hk : row[i]? = some k) : getV (mvV d row vs) i = getV vs i + mvK d k := by
  have hi := (List.getElem?_eq_some_iff.mp hk).1
  have hv := getV_at (vs := vs) (i := i) (by omega)
  unfold getV mvV
  rw [List.getD_eq_getElem?_getD, List.getElem?_zipWith, hk, hv]
  rfl
theorem mvV_snoc {k : Kd} {v : Int} (hl : row.length = vs.length) : mvV d (row ++ [k]) (vs ++ [v]) = mvV d row vs ++ [v + mvK d k] := by
  unfold mvV
  rw [List.zipWith_append hl]; rfl
theorem findI_mv {ms : List Int} {g : Int × Int} {r : Int} {f p : Str} : findI (ms.map (· + d)) g (r + d) f p = (findI ms g r f p).map (· + d) := by
  have gap : (if p = "refuse" then none else if p = "ahead" then some (r + d - g.1) else some (r + d - g.2)) = (if p = "refuse" then none else if p = "ahead" then some (r - g.1) else some (r - g.2)).map (· + d) := by
    split
    · rfl
    · split <;> (simp only [Option.map_some]; congr 1; omega)
  match ms with
  | [] => exact gap
  | [m] => rfl
  | [m, m'] =>
    show (if f = "refuse" then none else if f = "early" then some (m + d) else some (m' + d)) = (if f = "refuse" then none else if f = "early" then some m else some m').map (· + d)
    split
    · rfl
    · split <;> rfl
  | a :: b :: c :: r => exact gap
theorem chain_mv {os : List Int} {s : Int} : ∀ {js : List (Int × Int)} {h : Int} {p : Option Int}, Chain os s h p js → Chain os s h (p.map (· + d)) (js.map (mvJ d))
  | [], _, _, _ => trivial
  | (m, o) :: r, h, p, ⟨a, b, c, e⟩ => by
    refine ⟨a, b, ?_, chain_mv (p := some m) e⟩
    intro q hq
    cases p with
    | none => cases hq
    | some p =>
      have hq : p + d = q := by injection hq
      have := c p rfl
      show q + s ≤ m + d
      omega
theorem TbsOK.mv (tk : TbsOK zs tb) : TbsOK zs (tb.map (mvT d)) := by
  refine ⟨by rw [List.length_map]; exact tk.len, fun p z t hz ht => ?_⟩
  rw [List.getElem?_map] at ht
  cases e : tb[p]? with
  | none => rw [e] at ht; cases ht
  | some t0 =>
    rw [e] at ht
    cases ht
    have := tk.ok p z t0 hz e
    exact ⟨this.held, chain_mv this.chain⟩
/-! ### the words -/
variable {S : Sto} {n : Nat} {ts : List Stp}
/-- what is due, as a value -/
def dueD (b : Nat) (S : Sto) : Fin → D → Prop
  | .done vs, e => ∃ n, b ≤ n ∧ e = .tup [.str "", .cell n] ∧ S[n]? = some (.lst (vs.map .int))
  | .refused _ k, e => e = .tup [.str "refused", .int k]
  | .unsuited, e => e = .tup [.str "unsuited", .non]
theorem dueD.go {b p : Nat} {S S' : Sto} {f : Fin} {e : D} (h : dueD b S f e) (g : GoB p S S') (hp : p < b) : dueD b S' f e := by
  cases f with
  | done vs =>
    obtain ⟨n, hn, rfl, hc⟩ := h
    exact ⟨n, hn, rfl, g.get hc (by omega)⟩
  | refused vs k => exact h
  | unsuited => exact h
end
end Dm
-- text HmEdition
namespace Dm
open PySem L2
end Dm
-- text HmEdition2
namespace Dm
open PySem L2
end Dm
-- text HmEdition3
namespace Dm
open PySem L2
end Dm
-- text HmReplay
namespace Dm
open PySem L2
section
variable {d m : Int} {zs : Zs} {tb tb2 later later2 : List Tb} {row : List Kd} {vs : List Int} {t : Stp}
theorem agP_of {os : List Int} {s : Int} {a b : Tb} (hs : 0 < s) (ta : TabOK os s a.1 a.2) (tb : TabOK os s b.1 b.2) (h : agP a b m = true) {e : Int} (he : e < m) : a.of e = b.of e := by
  obtain ⟨h1, h2⟩ := of_decide_eq_true h
  unfold Tb.of
  rw [off_ahead hs he ta.chain, off_ahead hs he tb.chain, h1, h2]
theorem moms_like {os : List Int} {t t2 : Tb} {r : Int} (h : ∀ o, o ∈ os → t2.of (r - o + d) = t.of (r - o)) : momsOf os t2.1 t2.2 (r + d) = (momsOf os t.1 t.2 r).map (· + d) := by
  unfold momsOf
  rw [List.map_map]
  have : (os.reverse.filter fun o => offAt t2.1 t2.2 (r + d - o) == o) = os.reverse.filter fun o => offAt t.1 t.2 (r - o) == o := by
    refine List.filter_congr fun o ho => ?_
    have e : r + d - o = (r - o) + d := by omega
    rw [e]
    have := h o (List.mem_reverse.mp ho)
    unfold Tb.of at this
    rw [this]
  rw [this]
  refine List.map_congr_left fun o _ => ?_
  show r + d - o = r - o + d
  omega
/-- a step whose looks are alike makes the like value -/
theorem step_like (z : ZsOK zs) (h : t.OK zs.length row) (hl : row.length = vs.length) (hw : ∀ w, w ∈ askedS zs vs t → (getT tb2 t.place).of (w + d) = (getT tb t.place).of w) :
    stepV zs tb2 (mvV d row vs) t = (stepV zs tb vs t).map (· + mvK d (t.kind row)) := by
  have e1 : mvK d .mom = d := rfl
  have e2 : mvK d .rdg = d := rfl
  have e3 : mvK d .spn = 0 := rfl
  cases t with
  | read i p =>
    have e := getV_mv (d := d) hl h.1
    rw [e1] at e
    have hh : (getT tb2 p).of (getV vs i + d) = (getT tb p).of (getV vs i) := hw (getV vs i) (by simp [askedS])
    show some (getV (mvV d row vs) i + (getT tb2 p).of (getV (mvV d row vs) i)) = some (getV vs i + (getT tb p).of (getV vs i) + d)
    rw [e, hh]
    congr 1; omega
  | find i p f g =>
    have e := getV_mv (d := d) hl h.1
    rw [e2] at e
    have hp := h.2.1
    have zp := z.at hp
    have E := zp.ends
    have hh : ∀ o, o ∈ (getZ zs p).1 → (getT tb2 p).of (getV vs i - o + d) = (getT tb p).of (getV vs i - o) := fun o ho => hw _ (List.mem_map.mpr ⟨o, List.mem_reverse.mpr ho, rfl⟩)
    show findI (momsOf (getZ zs p).1 (getT tb2 p).1 (getT tb2 p).2 (getV (mvV d row vs) i)) ((getT tb2 p).of (getV (mvV d row vs) i - hiO (getZ zs p).1), (getT tb2 p).of (getV (mvV d row vs) i - loO (getZ zs p).1)) (getV (mvV d row vs) i) f g = (findI (momsOf (getZ zs p).1 (getT tb p).1 (getT tb p).2 (getV vs i)) ((getT tb p).of (getV vs i - hiO (getZ zs p).1), (getT tb p).of (getV vs i - loO (getZ zs p).1)) (getV vs i) f g).map (· + d)
    rw [e, moms_like hh, findI_mv]
    have a1 : getV vs i + d - hiO (getZ zs p).1 = getV vs i - hiO (getZ zs p).1 + d := by omega
    have a2 : getV vs i + d - loO (getZ zs p).1 = getV vs i - loO (getZ zs p).1 + d := by omega
    rw [a1, a2, hh _ E.mb, hh _ E.ma]
  | offset i p =>
    have e := getV_mv (d := d) hl h.1
    rw [e1] at e
    have hh : (getT tb2 p).of (getV vs i + d) = (getT tb p).of (getV vs i) := hw (getV vs i) (by simp [askedS])
    show some ((getT tb2 p).of (getV (mvV d row vs) i)) = some ((getT tb p).of (getV vs i) + 0)
    rw [e, hh, Int.add_zero]
  | edition i p =>
    have e := getV_mv (d := d) hl h.1
    exact congrArg some e
  | plus i j =>
    have e := getV_mv (d := d) hl h.1
    have e' := getV_mv (d := d) hl h.2
    rw [e1] at e
    rw [e3] at e'
    show some (getV (mvV d row vs) i + getV (mvV d row vs) j) = some (getV vs i + getV vs j + d)
    rw [e, e']
    congr 1; omega
  | less i j =>
    have e := getV_mv (d := d) hl h.1
    have e' := getV_mv (d := d) hl h.2
    rw [e2] at e
    rw [e3] at e'
    show some (getV (mvV d row vs) i - getV (mvV d row vs) j) = some (getV vs i - getV vs j + d)
    rw [e, e']
    congr 1; omega
  | add i m =>
    obtain ⟨k, hk⟩ : ∃ k, row[i]? = some k := by rcases h.1 with h | h <;> exact ⟨_, h⟩
    have e := getV_mv (d := d) hl hk
    have ek : Stp.kind row (.add i m) = k := by
      show row.getD i .mom = k
      rw [List.getD_eq_getElem?_getD, hk]; rfl
    rw [ek]
    show some (getV (mvV d row vs) i + m) = some (getV vs i + m + mvK d k)
    rw [e]
    congr 1; omega
theorem asked_mv (h : t.OK zs.length row) (hl : row.length = vs.length) : askedS zs (mvV d row vs) t = (askedS zs vs t).map (· + d) := by
  have e1 : mvK d .mom = d := rfl
  have e2 : mvK d .rdg = d := rfl
  cases t with
  | read i p =>
    have e := getV_mv (d := d) hl h.1
    rw [e1] at e
    show [getV (mvV d row vs) i] = [getV vs i + d]
    rw [e]
  | find i p f g =>
    have e := getV_mv (d := d) hl h.1
    rw [e2] at e
    show (getZ zs p).1.reverse.map (fun o => getV (mvV d row vs) i - o) = ((getZ zs p).1.reverse.map fun o => getV vs i - o).map (· + d)
    rw [e, List.map_map]
    refine List.map_congr_left fun o _ => ?_
    show getV vs i + d - o = getV vs i - o + d
    omega
  | offset i p =>
    have e := getV_mv (d := d) hl h.1
    rw [e1] at e
    show [getV (mvV d row vs) i] = [getV vs i + d]
    rw [e]
  | edition i p =>
    have e := getV_mv (d := d) hl h.1
    rw [e1] at e
    show [getV (mvV d row vs) i - 1] = [getV vs i - 1 + d]
    rw [e]
    congr 1; omega
  | plus i j => rfl
  | less i j => rfl
  | add i m => rfl
/-! ### looks -/
variable {org : Int} {ed : Option (Nat × Int)} {lk : List Lk} {ws : List Int}
theorem push_mem {m x : Lk} : x ∈ pushLk lk m ↔ x ∈ lk ∨ x = m := by
  unfold pushLk
  split
  · rename_i h
    constructor
    · exact .inl
    · rintro (h2 | rfl)
      · exact h2
      · exact h
  · simp
theorem addL_mono {x : Lk} (h : x ∈ lk) : x ∈ addL org tb ed t lk ws := by
  unfold addL
  induction ws generalizing lk with
  | nil => exact h
  | cons w ws ih => exact ih (push_mem.mpr (.inl h))
theorem addL_mem {w : Int} (h : w ∈ ws) : markS org tb ed t w ∈ addL org tb ed t lk ws := by
  induction ws generalizing lk with
  | nil => cases h
  | cons u ws ih =>
    rcases List.mem_cons.mp h with rfl | h
    · exact addL_mono (lk := pushLk lk (markS org tb ed t w)) (push_mem.mpr (.inr rfl))
    · exact ih (lk := pushLk lk (markS org tb ed t u)) h
theorem followL_mono {ag : Tb → Tb → Int → Bool} {x : Lk} : ∀ {ts : List Stp} {tb : List Tb} {ed : Option (Nat × Int)} {k : Nat} {vs : List Int} {lk : List Lk}, x ∈ lk → x ∈ (followL ag zs later org tb ed k vs lk ts).2
  | [], _, _, _, _, _, h => h
  | t :: ts, tb, ed, k, vs, lk, h => by
    rw [followL]
    split
    · exact addL_mono h
    · cases stepV zs tb vs t with
      | none => exact addL_mono h
      | some v => exact followL_mono (addL_mono h)
def mvE (d : Int) : Option (Nat × Int) → Option (Nat × Int)
  | some (q, m) => some (q, m + d)
  | none => none
theorem side_mv {p : Nat} {w : Int} : sideOf (mvE d ed) p (w + d) = sideOf ed p w := by
  cases ed with
  | none => rfl
  | some x =>
    obtain ⟨q, m⟩ := x
    show (if q = p ∧ m + d ≤ w + d then (1 : Int) else 0) = if q = p ∧ m ≤ w then 1 else 0
    by_cases h : q = p ∧ m ≤ w
    · rw [if_pos h, if_pos ⟨h.1, by omega⟩]
    · rw [if_neg h, if_neg (fun h2 => h ⟨h2.1, by omega⟩)]
theorem addL_like (h : ∀ w, w ∈ ws → (getT tb2 t.place).of (w + d) = (getT tb t.place).of w) : addL (org + d) tb2 (mvE d ed) t lk (ws.map (· + d)) = addL org tb ed t lk ws := by
  induction ws generalizing lk with
  | nil => rfl
  | cons w ws ih =>
    have e : markS (org + d) tb2 (mvE d ed) t (w + d) = markS org tb ed t w := by
      unfold markS
      rw [side_mv]
      have := h w List.mem_cons_self
      unfold Tb.of at this
      rw [this, show w + d - (org + d) = w - org by omega]
    have := ih (lk := pushLk lk (markS org tb ed t w)) fun w hw => h w (List.mem_cons_of_mem _ hw)
    show addL (org + d) tb2 (mvE d ed) t (pushLk lk (markS (org + d) tb2 (mvE d ed) t (w + d))) (ws.map (· + d)) = addL org tb ed t (pushLk lk (markS org tb ed t w)) ws
    rw [e, this]
/-! ### a run once more, in another world with the same looks -/
def curT (ed : Option (Nat × Int)) (a b : List Tb) (p : Nat) : Tb := match ed with
  | some (q, _) => if q = p then getT b p else getT a p
  | none => getT a p
/-- a look holds in the world -/
def LikeM (org : Int) (a b : List Tb) (x : Lk) : Prop := ∀ p : Nat, x.1 = p → (x.2.1 = 0 → (getT a p).of (x.2.2.1 + org) = x.2.2.2) ∧ (x.2.1 = 1 → (getT b p).of (x.2.2.1 + org) = x.2.2.2)
def mvF (d : Int) (row : List Kd) : Fin → Fin
  | .done vs => .done (mvV d row vs)
  | .refused vs k => .refused (mvV d row vs) k
  | .unsuited => .unsuited
theorem kinds_more : ∀ {ts : List Stp} {row : List Kd}, ∃ more, kindsFrom row ts = row ++ more
  | [], row => ⟨[], (List.append_nil _).symm⟩
  | t :: ts, row => by
    obtain ⟨m, e⟩ := kinds_more (ts := ts) (row := row ++ [t.kind row])
    exact ⟨t.kind row :: m, by show kindsFrom (row ++ [t.kind row]) ts = _; rw [e]; simp⟩
theorem mvV_more {ts : List Stp} (hl : row.length = vs.length) : mvV d (kindsFrom row ts) vs = mvV d row vs := by
  obtain ⟨m, e⟩ := kinds_more (ts := ts) (row := row)
  rw [e]
  unfold mvV
  have := List.zipWith_append (f := fun k v => v + mvK d k) (l₁' := m) (l₂' := []) hl
  rw [List.append_nil] at this
  rw [this]
  simp
theorem replay (z : ZsOK zs) (tk2 : TbsOK zs tb2) (tl2 : TbsOK zs later2) : ∀ {ts : List Stp} {tbc tbc2 : List Tb} {ed : Option (Nat × Int)} {row : List Kd} {vs : List Int} {lk : List Lk} {k : Nat},
    ProgFrom zs.length row ts → row.length = vs.length → (∀ p, p < zs.length → getT tbc2 p = curT ed tb2 later2 p) → tbc2.length = zs.length → (∀ q m, ed = some (q, m) → q < zs.length ∧ agP (getT tb2 q) (getT later2 q) (m + d) = true) → (ed = none ∨ cnt Stp.isEd ts ≤ 0) → cnt Stp.isEd ts ≤ 1 →
    (∀ x, x ∈ (followL agP zs later org tbc ed k vs lk ts).2 → LikeM (org + d) tb2 later2 x) → (followL agP zs later org tbc ed k vs lk ts).1 ≠ .unsuited →
    (∀ pre i p post, ts = pre ++ .edition i p :: post → ∀ vs', followS agP zs later tbc k vs pre = .done vs' → agP (getT tb2 p) (getT later2 p) (getV vs' i + d) = true) →
    followL agP zs later2 (org + d) tbc2 (mvE d ed) k (mvV d row vs) lk ts = (mvF d (kindsFrom row ts) (followL agP zs later org tbc ed k vs lk ts).1, (followL agP zs later org tbc ed k vs lk ts).2)
  | [], tbc, tbc2, ed, row, vs, lk, k, hp, hl, hc, hc2, he, hE, hE1, hL, hu, hS => rfl
  | t :: ts, tbc, tbc2, ed, row, vs, lk, k, hp, hl, hc, hc2, he, hE, hE1, hL, hu, hS => by
    have ok := hp.1
    -- the looks of the step are alike
    have sub : ∀ x, x ∈ addL org tbc ed t lk (askedS zs vs t) → x ∈ (followL agP zs later org tbc ed k vs lk (t :: ts)).2 := by
      intro x hx
      rw [followL]
      split
      · exact hx
      · cases stepV zs tbc vs t with
        | none => exact hx
        | some v => exact followL_mono hx
    have like : ∀ w, w ∈ askedS zs vs t → (getT tbc2 t.place).of (w + d) = (getT tbc t.place).of w := by
      intro w hw
      have hpl : t.place < zs.length := by
        cases t with
        | read i p => exact ok.2
        | find i p f g => exact ok.2.1
        | offset i p => exact ok.2
        | edition i p => exact ok.2
        | plus i j => cases hw
        | less i j => cases hw
        | add i m => cases hw
      obtain ⟨h0, h1⟩ := hL _ (sub _ (addL_mem hw)) t.place rfl
      have ew : (markS org tbc ed t w).2.2.1 + (org + d) = w + d := by show w - org + (org + d) = w + d; omega
      rw [ew] at h0 h1
      have h0' : sideOf ed t.place w = 0 → (getT tb2 t.place).of (w + d) = (getT tbc t.place).of w := h0
      have h1' : sideOf ed t.place w = 1 → (getT later2 t.place).of (w + d) = (getT tbc t.place).of w := h1
      rw [hc _ hpl]
      cases hed : ed with
      | none =>
        refine h0' ?_
        rw [hed]; rfl
      | some x =>
        obtain ⟨q, m⟩ := x
        show (if q = t.place then getT later2 t.place else getT tb2 t.place).of (w + d) = _
        by_cases hq : q = t.place
        · rw [if_pos hq]
          by_cases hm : m ≤ w
          · refine h1' ?_
            rw [hed]
            show (if q = t.place ∧ m ≤ w then (1 : Int) else 0) = 1
            rw [if_pos ⟨hq, hm⟩]
          · have a0 := (he q m hed).2
            rw [hq] at a0
            have hs := (z.at hpl).sp
            rw [← agP_of (s := (getZ zs t.place).2) (by omega) (tk2.tab hpl) (tl2.tab hpl) a0 (e := w + d) (by omega)]
            refine h0' ?_
            rw [hed]
            show (if q = t.place ∧ m ≤ w then (1 : Int) else 0) = 0
            rw [if_neg (fun h => hm h.2)]
        · rw [if_neg hq]
          refine h0' ?_
          rw [hed]
          show (if q = t.place ∧ m ≤ w then (1 : Int) else 0) = 0
          rw [if_neg (fun h => hq h.1)]
    have hst := step_like (d := d) (tb := tbc) (tb2 := tbc2) z ok hl like
    have hlk : addL (org + d) tbc2 (mvE d ed) t lk (askedS zs (mvV d row vs) t) = addL org tbc ed t lk (askedS zs vs t) := by
      rw [asked_mv ok hl]
      exact addL_like like
    have kf : kindsFrom row (t :: ts) = kindsFrom (row ++ [t.kind row]) ts := rfl
    by_cases hEd : t.isEd = true
    · obtain ⟨i, p, rfl⟩ : ∃ i p, t = .edition i p := ⟨_, _, ed_form hEd⟩
      have hed : ed = none := by
        rcases hE with h | h
        · exact h
        · rw [cnt_cons] at h
          have : bI (Stp.isEd (.edition i p)) = 1 := rfl
          have := cnt_nn (f := Stp.isEd) (ts := ts)
          omega
      subst hed
      have hp2 : p < zs.length := ok.2
      have hgv := getV_mv (d := d) hl ok.1
      have e1 : mvK d .mom = d := rfl
      rw [e1] at hgv
      have ha2 := hS [] i p ts rfl vs rfl
      have hc0 : getT tbc2 p = getT tb2 p := hc p hp2
      rw [followL] at hu hL
      rw [followL, followL]
      simp only [Stp.isEd, Stp.place, Stp.base, true_and, if_true, stepV, hlk] at hu hL ⊢
      by_cases ca : agP (getT tbc p) (getT later p) (getV vs i) = false
      · rw [if_pos ca] at hu
        exact absurd rfl hu
      · rw [if_neg ca] at hu hL ⊢
        rw [hc0, hgv, ha2, if_neg (by decide)]
        have hv := mvV_snoc (d := d) (k := Kd.mom) (v := getV vs i) hl
        rw [e1] at hv
        rw [← hv, kf]
        have hkd : Stp.kind row (.edition i p) = .mom := rfl
        rw [hkd]
        refine replay z tk2 tl2 (ed := some (p, getV vs i)) (row := row ++ [Kd.mom]) (by have := hp.2; rw [hkd] at this; exact this) (by simp [hl]) (fun p' hp' => ?_) (by rw [List.length_set]; exact hc2) (fun q m h => ?_) (.inr ?_) ?_ hL hu ?_
        · show getT (tbc2.set p (getT later2 p)) p' = if p = p' then getT later2 p' else getT tb2 p'
          unfold getT
          rw [List.getD_eq_getElem?_getD]
          by_cases e : p = p'
          · subst e
            rw [if_pos rfl, List.getElem?_set_self (by omega)]; rfl
          · rw [if_neg e, List.getElem?_set_ne e, ← List.getD_eq_getElem?_getD]
            exact hc p' hp'
        · cases h
          exact ⟨hp2, ha2⟩
        · rw [cnt_cons] at hE1
          have : bI (Stp.isEd (.edition i p)) = 1 := rfl
          omega
        · rw [cnt_cons] at hE1
          have : bI (Stp.isEd (.edition i p)) = 1 := rfl
          omega
        · intro pre j q post e vs' h
          exfalso
          rw [e] at hE1
          have h1 : cnt Stp.isEd (Stp.edition i p :: (pre ++ Stp.edition j q :: post)) = 1 + (cnt Stp.isEd pre + (1 + cnt Stp.isEd post)) := by
            rw [cnt_cons]
            have h2 : cnt Stp.isEd (pre ++ Stp.edition j q :: post) = cnt Stp.isEd pre + (1 + cnt Stp.isEd post) := by
              unfold cnt
              rw [List.filter_append, List.filter_cons]
              simp [Stp.isEd]
              omega
            rw [h2]; rfl
          rw [h1] at hE1
          have := cnt_nn (f := Stp.isEd) (ts := pre)
          have := cnt_nn (f := Stp.isEd) (ts := post)
          omega
    · have hEd' : t.isEd = false := by simpa using hEd
      have f : ∀ (l : List Tb) (o : Int) (tb : List Tb) (ed : Option (Nat × Int)) (vs : List Int), followL agP zs l o tb ed k vs lk (t :: ts) = match stepV zs tb vs t with
          | none => (.refused vs k, addL o tb ed t lk (askedS zs vs t))
          | some v => followL agP zs l o tb ed (k + 1) (vs ++ [v]) (addL o tb ed t lk (askedS zs vs t)) ts := by
        intro l o tb ed vs
        rw [followL, if_neg (fun h => by rw [hEd'] at h; exact Bool.noConfusion h.1)]
        simp only [hEd']
        rfl
      rw [f] at hu hL
      rw [f, f, hst, hlk]
      cases e : stepV zs tbc vs t with
      | none =>
        show (Fin.refused (mvV d row vs) k, _) = (Fin.refused (mvV d (kindsFrom row (t :: ts)) vs) k, _)
        rw [mvV_more hl]
      | some v =>
        rw [e] at hu hL
        simp only [Option.map_some] at hu hL ⊢
        rw [← mvV_snoc hl, kf]
        refine replay z tk2 tl2 hp.2 (by simp [hl]) hc hc2 he ?_ ?_ hL hu ?_
        · rcases hE with h | h
          · exact .inl h
          · refine .inr ?_
            rw [cnt_cons, hEd'] at h
            have : bI false = 0 := rfl
            omega
        · rw [cnt_cons, hEd'] at hE1
          have : bI false = 0 := rfl
          omega
        · intro pre i p post e2 vs' h
          refine hS (t :: pre) i p post (by rw [e2]; rfl) vs' ?_
          rw [followS, if_neg (fun h => by rw [hEd'] at h; exact Bool.noConfusion h.1), e]
          simp only [hEd']
          exact h
end
end Dm
-- text HmEagree
namespace Dm
open PySem L2
end Dm
-- text HmLeftAt
namespace Dm
open PySem L2
@[simp] theorem does_callBL {S : Sto} {ρ : Rho} {g : Sto → List D → Option (List D)} {a : MA} {E : EX} {Q : List D → Sto → Prop} : (mCallBL g a ρ S).DoesE E Q = (a ρ S).DoesE E fun xs S1 => match g S1 xs with
    | some z => Q z S1
    | none => False := by
  unfold mCallBL
  rw [does_bind]
  congr 1
  funext x S1
  cases g S1 x <;> rfl
section
variable {S : Sto} {os : List Int} {s m o : Int} {ls : List (Int × Int)} {n p : Nat}
@[simp] theorem gList_looks : gList S [looksD ls] = some (ls.map jmpD) := rfl
@[simp] theorem gList_tup {ds : List D} : gList S [.tup ds] = some ds := rfl
@[simp] theorem gList_lst {ds : List D} : gList S [.lst ds] = some ds := rfl
end
end Dm
-- text HmCchart
namespace Dm
open PySem L2
end Dm
-- text HmGone
namespace Dm
open PySem L2
end Dm
-- text HmGone2
namespace Dm
open PySem L2
end Dm
-- text HmTurn
namespace Dm
open PySem L2
section
variable {S : Sto} {os : List Int} {s h r c d : Int} {js : List (Int × Int)} {fold gap : Str}
@[simp] theorem lcAQ_mapT {f : D → Rho → Option Rho} {mt me : ME} {ρ : Rho} {Q : List D → Sto → Prop} {α : Type} {g : α → D} {as : List α} : LcAQ (.tup (as.map g)) f mt me ρ as.length S Q = LcQ f mt me ρ (as.map g) S Q := lcAQ_fix (.inl rfl) (by rw [List.length_map])
@[simp] theorem lcAQ_mapL {f : D → Rho → Option Rho} {mt me : ME} {ρ : Rho} {Q : List D → Sto → Prop} {α : Type} {g : α → D} {as : List α} : LcAQ (.lst (as.map g)) f mt me ρ as.length S Q = LcQ f mt me ρ (as.map g) S Q := lcAQ_fix (.inr rfl) (by rw [List.length_map])
/-! ### the zone, the table, moved and turned -/
end
end Dm
-- text HmWider
namespace Dm
open PySem L2
end Dm
-- text HmCase
namespace Dm
open PySem L2
section
variable {d m : Int} {row : List Kd} {vs : List Int} {S : Sto} {ts : List Stp} {lk : List Lk} {a b : Nat}
/-- the moment of the edition of a place -/
def nowF (site : Nat) : List Stp → List Int → Option Int
  | t :: ts, v :: vs => if t.isEd = true ∧ t.place = site then some v else nowF site ts vs
  | _, _ => none
end
end Dm
-- text HmRep
namespace Dm
open PySem L2
end Dm
-- text HmMarks
namespace Dm
open PySem L2
section
variable {d o s h : Int} {os : List Int} {js : List (Int × Int)} {zs : Zs} {tb later : List Tb} {ts : List Stp} {lk : List Lk} {E : Option (Nat × Int)} {f : Fin}
/-! ### looks of one place -/
def mkP (x : Lk) : Int × Int := (x.2.2.1, x.2.2.2)
def firstM (lk : List Lk) (p : Nat) : List (Int × Int) := (lk.filter fun x : Lk => decide (x.1 = (p : Int) ∧ x.2.1 = 0)).map mkP
def laterM (lk : List Lk) (p : Nat) (n : Int) : List (Int × Int) := (lk.filter fun x : Lk => decide (x.1 = (p : Int) ∧ (x.2.1 = 1 ∨ x.2.2.1 < n))).map mkP
/-! ### worlds in which the run is the same -/
structure Fits (zs : Zs) (tb later : List Tb) (o : Int) (ts : List Stp) (lk : List Lk) (d : Int) (a b : List Tb) : Prop where
  ta : TbsOK zs a
  tl : TbsOK zs b
  like : ∀ x, x ∈ lk → LikeM (o + d) a b x
  ag : ∀ pre i p post, ts = pre ++ .edition i p :: post → ∀ vs', followS agP zs later tb 0 [o] pre = .done vs' → agP (getT a p) (getT b p) (getV vs' i + d) = true
theorem Fits.run {a b : List Tb} (z : ZsOK zs) (ok : ProgFrom zs.length [.mom] ts) (he : cnt Stp.isEd ts ≤ 1) (hu : followS agP zs later tb 0 [o] ts ≠ .unsuited) (F : Fits zs tb later o ts (followL agP zs later o tb none 0 [o] [] ts).2 d a b) :
    followS agP zs b a 0 [o + d] ts = mvF d (kindsFrom [.mom] ts) (followS agP zs later tb 0 [o] ts) := by
  have h := replay (org := o) (d := d) (tb2 := a) (later2 := b) (later := later) z F.ta F.tl (ts := ts) (tbc := tb) (tbc2 := a) (ed := none) (row := [.mom]) (vs := [o]) (lk := []) (k := 0) ok rfl (fun _ _ => rfl) F.ta.len (fun _ _ h => nomatch h) (.inl rfl) he F.like
    (by rw [followL_fst]; exact hu) F.ag
  have h2 := congrArg Prod.fst h
  have hm : mvV d [.mom] [o] = [o + d] := rfl
  rw [followL_fst, followL_fst, hm] at h2
  exact h2
/-! ### the early world -/
def eT (zs : Zs) (lk : List Lk) (p : Nat) : Tb := (earlyT (getZ zs p).1 (getZ zs p).2 (srtP (firstM lk p))).getD (0, [])
def eN (zs : Zs) (lk : List Lk) (p : Nat) (n : Int) : Tb := (earlyT (getZ zs p).1 (getZ zs p).2 (srtP (laterM lk p n))).getD (0, [])
def eL (zs : Zs) (lk : List Lk) (now : Nat → Option Int) (p : Nat) : Tb := match now p with
  | none => eT zs lk p
  | some n => eN zs lk p n
end
end Dm
-- text HmEworld
namespace Dm
open PySem L2
end Dm
-- text HmCas1
namespace Dm
open PySem L2
section
variable {S : Sto} {zs : Zs} {os : List Int} {s m : Int} {lk : List Lk} {p : Nat} {now : Option Int} {ts : List Stp} {vs : List Int}
/-! ### cases: the small functions -/
def sideM (lk : List Lk) (p : Nat) (e : Int) : List (Int × Int) := (lk.filter fun x : Lk => decide (x.1 = (p : Int) ∧ x.2.1 = e)).map mkP
def edOf (now : Option Int) (m : Int) : Int := match now with
  | none => 0
  | some n => if n ≤ m then 1 else 0
def known (lk : List Lk) (p : Nat) (e m : Int) : Option Int := (lk.find? fun x : Lk => decide (x.1 = (p : Int) ∧ x.2.1 = e ∧ x.2.2.1 = m)).map (·.2.2.2)
def laterL (lk : List Lk) (p : Nat) (n : Int) : List (Int × Int) := ((srtP (sideM lk p 0)).filter fun x => decide (x.1 < n)) ++ srtP (sideM lk p 1)
def fitB (z : List Int × Int) (lk : List Lk) (p : Nat) (now : Option Int) : Bool := (crow z.2 (srtP (sideM lk p 0))).isNone && match now with
  | none => true
  | some n => (crow z.2 (laterL lk p n)).isNone
def longL (zs : Zs) (lk : List Lk) (p : Nat) (now : Option Int) (m : Int) : List (List Lk) := match known lk p (edOf now m) m with
  | some _ => [lk]
  | none => ((getZ zs p).1.map fun o => lk ++ [((p : Int), edOf now m, m, o)]).filter fun l => fitB (getZ zs p) l p now
end
end Dm
-- text HmCas2
namespace Dm
open PySem L2
section
variable {S : Sto} {zs : Zs} {os : List Int} {s m : Int} {lk : List Lk} {p : Nat} {ts : List Stp} {vs : List Int} {now : Nat → Option Int}
/-! ### looks that can be looked at further -/
structure LkW (zs : Zs) (now : Nat → Option Int) (lk : List Lk) : Prop where
  nodup : lk.Nodup
  each : ∀ x, x ∈ lk → ∃ p : Nat, p < zs.length ∧ x.1 = (p : Int) ∧ x.2.2.2 ∈ (getZ zs p).1 ∧ (x.2.1 = 0 ∨ x.2.1 = 1 ∧ ∃ n, now p = some n ∧ n ≤ x.2.2.1)
  uniq : ∀ x, x ∈ lk → ∀ y, y ∈ lk → x.1 = y.1 → x.2.1 = y.2.1 → x.2.2.1 = y.2.2.1 → x = y
theorem LkW.nil : LkW zs now [] := ⟨.nil, (fun _ h => nomatch h), fun _ h => nomatch h⟩
/-! ### the walks -/
end
end Dm
-- text HmCas3
namespace Dm
open PySem L2
section
variable {S : Sto} {zs : Zs} {os : List Int} {s m o : Int} {lk b : List Lk} {p : Nat} {ts : List Stp} {vs : List Int} {now now2 : Nat → Option Int} {ms : List Int}
/-! ### the cases, as lists -/
abbrev Case := List Lk × List Int × Option Nat
def optN : Option Nat → D
  | none => .non
  | some k => .int k
def branchL (zs : Zs) (now : Nat → Option Int) (p : Nat) (lk : List Lk) (ms : List Int) : List (List Lk) := ms.foldl (fun bs m => bs.flatMap fun b => longL zs b p (now p) m) [lk]
/-- the early table of a place as it holds now -/
def curE (zs : Zs) (lk : List Lk) (now : Nat → Option Int) (p : Nat) : Tb := match now p with
  | none => (earlyT (getZ zs p).1 (getZ zs p).2 (srtP (sideM lk p 0))).getD (0, [])
  | some n => (earlyT (getZ zs p).1 (getZ zs p).2 (laterL lk p n)).getD (0, [])
def tbE (zs : Zs) (lk : List Lk) (now : Nat → Option Int) : List Tb := (List.range zs.length).map (curE zs lk now)
def nowOf (ts : List Stp) (vs : List Int) (p : Nat) : Option Int := nowF p ts (vs.drop 1)
def madeL (zs : Zs) (now : Nat → Option Int) (k : Nat) (t : Stp) (vs : List Int) (b : List Lk) : Case := match stepV zs (tbE zs b now) vs t with
  | none => (b, vs, some k)
  | some v => (b, vs ++ [v], none)
def behindL (zs : Zs) (ts : List Stp) (k : Nat) (c : Case) : List Case := match c.2.2 with
  | some _ => [c]
  | none => (branchL zs (nowOf ts c.2.1) (ts.getD k (.add 0 0)).place c.1 (askedS zs c.2.1 (ts.getD k (.add 0 0)))).map (madeL zs (nowOf ts c.2.1) k (ts.getD k (.add 0 0)) c.2.1)
/-! ### what fits -/
def FitA (zs : Zs) (now : Nat → Option Int) (lk : List Lk) : Prop := ∀ p, p < zs.length → fitB (getZ zs p) lk p (now p) = true
/-! ### one look more -/
end
end Dm
-- text HmCas4
namespace Dm
open PySem L2
end Dm
-- text HmCas5
namespace Dm
open PySem L2
end Dm
-- text HmCas6
namespace Dm
open PySem L2
end Dm
-- text HmCas7
namespace Dm
open PySem L2
/-! ### repr of nested data of bounded size -/
structure RpB (d : PyData) (w k : Nat) : Prop where
  sh : d.showable = true
  nd : d.hasDict = false
  len : d.shown.length ≤ w
  dp : d.depth ≤ k
theorem rpB_int {i : Int} (h : i.natAbs < 100000000000000) : RpB (.int i) 15 0 := by
  refine ⟨?_, by simp only [PyData.hasDict], int_short h, by simp only [PyData.depth]; omega⟩
  have h1 : i.natAbs < 2 ^ 60 := by omega
  have := log2_le h1
  have h2 : i.natAbs.log2 < 1920 := by omega
  simp only [PyData.showable, h2, decide_true]
theorem RpB.up {d : PyData} {w k w' k' : Nat} (h : RpB d w k) (hw : w ≤ w') (hk : k ≤ k') : RpB d w' k' := ⟨h.sh, h.nd, Nat.le_trans h.len hw, Nat.le_trans h.dp hk⟩
theorem rpB_all {w k : Nat} : ∀ {ds : List PyData}, (∀ d, d ∈ ds → RpB d w k) → PyData.showableAll ds = true ∧ PyData.hasDictAll ds = false ∧ ((PyData.shownAll ds).map (·.length)).sum ≤ w * ds.length ∧ (PyData.shownAll ds).length = ds.length ∧ PyData.depthAll ds ≤ k
  | [], _ => ⟨rfl, rfl, Nat.le_refl _, rfl, by simp [PyData.depthAll]⟩
  | d :: ds, h => by
    obtain ⟨a1, a2, a3, a4, a5⟩ := rpB_all fun x hx => h x (List.mem_cons_of_mem _ hx)
    have b := h d List.mem_cons_self
    have b3 := b.len
    have b4 := b.dp
    refine ⟨?_, ?_, ?_, ?_, ?_⟩
    · simp only [PyData.showableAll, b.sh, a1, Bool.and_self]
    · simp only [PyData.hasDictAll, b.nd, a2, Bool.or_self]
    · simp only [PyData.shownAll, List.map_cons, List.sum_cons, List.length_cons, Nat.mul_succ]
      omega
    · simp only [PyData.shownAll, List.length_cons, a4]
    · simp only [PyData.depthAll]
      omega
theorem rpB_tup {w k n : Nat} {ds : List PyData} (h : ∀ d, d ∈ ds → RpB d w k) (hn : ds.length ≤ n) : RpB (.tuple ds) ((w + 2) * n + 3) (k + 1) := by
  obtain ⟨a1, a2, a3, a4, a5⟩ := rpB_all h
  refine ⟨by simp only [PyData.showable]; exact a1, by simp only [PyData.hasDict]; exact a2, ?_, by simp only [PyData.depth]; omega⟩
  simp only [PyData.shown]
  have h1 := tupleText_len_le (PyData.shownAll ds)
  have h2 : (w + 2) * ds.length ≤ (w + 2) * n := Nat.mul_le_mul_left _ hn
  rw [Nat.add_mul] at h2
  omega
theorem RpB.ok {d : PyData} {w k : Nat} (h : RpB d w k) (hw : w ≤ 16777216) (hk : k ≤ 64) : reprOk d := by
  have h3 : sizeLine = 16777216 := rfl
  exact ⟨h.sh, h.nd, by have := h.len; omega, Nat.le_trans h.dp hk⟩
/-! ### cases as data -/
/-! ### the cases of a program: bounds -/
end Dm
-- text HmCas8
namespace Dm
open PySem L2
end Dm
-- text HmOdo
namespace Dm
/-! ### all choices, one after another -/
inductive Ch (α : Type) : Type
  | ret (a : α) : Ch α
  | pick (n : Nat) (f : Nat → Ch α) : Ch α
namespace Ch
variable {α β : Type}
def run : Ch α → List (Nat × Nat) → α × List (Nat × Nat)
  | ret a, _ => (a, [])
  | pick n f, row => ((run (f (min (row.headD (0, 0)).1 (n - 1))) row.tail).1, (min (row.headD (0, 0)).1 (n - 1), n) :: (run (f (min (row.headD (0, 0)).1 (n - 1))) row.tail).2)
def bind : Ch α → (α → Ch β) → Ch β
  | ret a, g => g a
  | pick n f, g => pick n fun j => bind (f j) g
end Ch
end Dm
-- text HmRow1
namespace Dm
open PySem L2
end Dm
-- text HmRow2
namespace Dm
open PySem L2
section
variable {zs : Zs} {ts : List Stp} {k p n : Nat} {c : Case} {vs : List Int} {lk b : List Lk} {t : Stp} {m o : Int} {ms : List Int} {now now2 : Nat → Option Int} {row : List Kd}
def dfsL (zs : Zs) (ts : List Stp) : Nat → Nat → Case → List Case
  | 0, _, c => [c]
  | n + 1, k, c => (behindL zs ts k c).flatMap (dfsL zs ts n (k + 1))
end
end Dm
-- text HmRow3
namespace Dm
open PySem L2
end Dm
-- text HmRow4
namespace Dm
open PySem L2
end Dm
-- text HmRow5
namespace Dm
open PySem L2
end Dm
-- text HmRow6
namespace Dm
open PySem L2
end Dm
-- text HmRow7
namespace Dm
open PySem L2
/-! ### the next row -/
end Dm
-- text HmRow8
namespace Dm
open PySem L2
section
variable {S : Sto} {zs : Zs} {ts : List Stp} {k p n w : Nat} {vs : List Int} {lk : List Lk} {t : Stp} {ms : List Int} {nw : Option Int}
/-! ### how many -/
def wt (w : Nat) : Stp → Nat
  | .find _ _ _ _ => w
  | .read _ _ => 1
  | .offset _ _ => 1
  | .edition _ _ => 1
  | _ => 0
/-! ### the due cases -/
end
end Dm
-- text HmPick
set_option maxHeartbeats 1000000
namespace Dm
open PySem L2
theorem ifS_no' {ρ : Rho} {S : Sto} {c : ME} {a b : MS} {EO : EXO} {N B C : Rho → Sto → Prop} {R : D → Sto → Prop} (h : ∀ Q : D → Sto → Prop, Q (.bl false) S → (c ρ S).Does Q) (k : (b ρ S).DoesE EO N R B C) : (mSeq (mIfS c a mNop) b ρ S).DoesE EO N R B C := by
  rw [does_seq, does_ifS]
  exact Res.Does.toE (h _ k)
theorem ifS_yes' {ρ : Rho} {S : Sto} {c : ME} {a b : MS} {EO : EXO} {N B C : Rho → Sto → Prop} {R : D → Sto → Prop} (h : ∀ Q : D → Sto → Prop, Q (.bl true) S → (c ρ S).Does Q) (k : (a ρ S).DoesE EO (fun ρ S => (b ρ S).DoesE EO N R B C) R B C) : (mSeq (mIfS c a mNop) b ρ S).DoesE EO N R B C := by
  rw [does_seq, does_ifS]
  exact Res.Does.toE (h _ k)
/-! ### the pots of the later laws -/
theorem make_pot_does {S : Sto} {c : Int} {Q : D → Sto → Prop} (q : ∀ S', Bag S.length 9223372036854775808 S' → GoB S.length S S' → Q (.cell S.length) S') : (m_law_make_pot_v2 [.int c] S).Does Q := by
  refine does_def rfl ?_
  have hc : CDivW c 2305843009213693951 := cdivw (by decide) (by decide)
  have b0 : 0 ≤ c % 2305843009213693951 := Int.emod_nonneg c (by decide)
  have b1 : c % 2305843009213693951 < 2305843009213693951 := Int.emod_lt_of_pos c (by decide)
  by_cases h : 1000000000000000000 ≤ c
  · simp [hc, h]
    exact q _ ⟨_, _, 0, by rw [List.getElem?_append_right (Nat.le_refl _), Nat.sub_self]; rfl, b0, b1, by decide, by decide⟩ (GoB.push _)
  · simp [hc, h]
    exact q _ ⟨_, _, 0, by rw [List.getElem?_append_right (Nat.le_refl _), Nat.sub_self]; rfl, b0, b1, by decide, by decide⟩ (GoB.push _)
theorem pick2_does {S : Sto} {p n : Nat} {u : Int} {Q : D → Sto → Prop} (hp : Bag p (n + 1) S) (h0 : 0 < u) (hb : u < 18446744073709551616)
    (q : ∀ r S', Bag p n S' → GoB p S S' → 0 ≤ r → r < u → Q (.int r) S') : (m_law_pick_v2 [.cell p, .int u] S).Does Q := by
  obtain ⟨a, b, c, e, b0, b1, c0, c1⟩ := id hp
  have hl := hp.lt
  refine does_def rfl ?_
  have hu : ∀ k : Int, CDivW k u := fun k => cdivw h0 hb
  by_cases ha : 0 < a
  · refine ifS_yes' (fun Q q => by simp [gIx_cell e, ha]; exact q) ?_
    simp [gIx_cell e, ha, hu]
    refine ⟨h0, _, e, 0, rfl, ?_⟩
    refine q _ _ ⟨a / u, b, c, by simp [hl], b0, b1, c0, by omega⟩ ⟨by rw [List.length_set]; exact Nat.le_refl _, fun n h hn => List.getElem?_set_ne (Ne.symm hn)⟩ (Int.emod_nonneg _ (by omega)) (Int.emod_lt_of_pos _ h0)
  · refine ifS_no' (fun Q q => by simp [gIx_cell e, ha]; exact q) ?_
    refine seq_cut (fun ρ S' => ρ = [some (.cell p), some (.int u), none, none, none] ∧ S'[p]? = some (.lst [.int a, .int b, .int (c + 1)]) ∧ GoB p S S') (fun M hM => ?_) ?_
    · simp [gIx_cell e]
      refine ⟨_, e, 2, rfl, hM _ _ ⟨rfl, ?_, ⟨by rw [List.length_set]; exact Nat.le_refl _, fun n h hn => List.getElem?_set_ne (Ne.symm hn)⟩⟩⟩
      rw [List.getElem?_set_self hl]; rfl
    rintro ρ S1 ⟨rfl, e2, g1⟩
    refine seq_cut (fun ρ S' => ρ = [some (.cell p), some (.int u), none, some (.int (c + 1)), none] ∧ S1 = S') (fun M hM => ?_) ?_
    · simp [gIx_cell e2]
      exact hM _ _ ⟨rfl, rfl⟩
    rintro ρ _ ⟨rfl, rfl⟩
    obtain ⟨t, ht⟩ : ∃ t, t = c + 1 := ⟨_, rfl⟩
    have t0 : t.natAbs < 2 ^ 64 := by omega
    have hb' : (b + 11).natAbs < 2 ^ 62 := by omega
    have m1 := mul_bits (show (19 : Int).natAbs < 2 ^ 5 by decide) t0
    have m2 := mul_bits m1 t0
    have m3 := mul_bits (show (6364136 : Int).natAbs < 2 ^ 23 by decide) t0
    have m4 : (19 * t * t + 6364136 * t + 5).natAbs < 2 ^ 140 := add_bits (n := 139) (add_bits (n := 138) (up_bits m2 (by decide)) (up_bits m3 (by decide)) (by decide)) (Nat.lt_of_lt_of_le (show (5 : Int).natAbs < 2 ^ 3 by decide) (Nat.pow_le_pow_right (by decide) (by decide))) (by decide)
    have m5 := mul_bits hb' m4
    have m6 := mul_bits (show (40503 : Int).natAbs < 2 ^ 16 by decide) t0
    have m7 : ((b + 11) * (19 * t * t + 6364136 * t + 5) + 40503 * t).natAbs < 2 ^ 210 := add_bits (n := 209) (up_bits m5 (by decide)) (up_bits m6 (by decide)) (by decide)
    refine seq_cut (fun ρ S' => ∃ x : Int, ρ = [some (.cell p), some (.int u), none, some (.int t), some (.int x)] ∧ S1 = S' ∧ x.natAbs < 2 ^ 210) (fun M hM => ?_) ?_
    · rw [← ht]
      simp [gIx_cell e2]
      refine ⟨cmulw 5 64 (by decide) t0 (by decide), cmulw 80 64 (up_bits m1 (by decide)) t0 (by decide), cmulw 23 64 (by decide) t0 (by decide), cmulw 62 140 hb' m4 (by decide), cmulw 16 64 (by decide) t0 (by decide), ?_⟩
      exact hM _ _ ⟨_, rfl, rfl, m7⟩
    rintro ρ _ ⟨x, rfl, rfl, hx⟩
    refine seq_cut (fun ρ S' => ∃ x : Int, ρ = [some (.cell p), some (.int u), none, some (.int t), some (.int x)] ∧ S1 = S' ∧ x.natAbs < 2 ^ 62) (fun M hM => ?_) ?_
    · have r0 : 0 ≤ (x * x + 1442695 * x) % 2305843009213693951 := Int.emod_nonneg _ (by decide)
      have r1 : (x * x + 1442695 * x) % 2305843009213693951 < 2305843009213693951 := Int.emod_lt_of_pos _ (by decide)
      have hm : ∀ k : Int, CDivW k 2305843009213693951 := fun k => cdivw (by decide) (by decide)
      have hd : ∀ k : Int, CDivW k 2053 := fun k => cdivw (by decide) (by decide)
      simp [hm, hd]
      refine ⟨cmulw 210 210 hx hx (by decide), cmulw 21 210 (by decide) hx (by decide), ?_⟩
      exact hM _ _ ⟨_, rfl, rfl, by omega⟩
    rintro ρ _ ⟨x, rfl, rfl, hx⟩
    have hm : ∀ k : Int, CDivW k 1000000000039 := fun k => cdivw (by decide) (by decide)
    have hd : ∀ k : Int, CDivW k 32 := fun k => cdivw (by decide) (by decide)
    simp [hm, hd, hu]
    refine ⟨cmulw 62 62 hx hx (by decide), cmulw 13 62 (by decide) hx (by decide), h0, ?_⟩
    exact q _ _ ⟨a, b, c + 1, e2, b0, b1, by omega, by omega⟩ g1 (Int.emod_nonneg _ (by omega)) (Int.emod_lt_of_pos _ h0)
end Dm
-- text HmOdd1
namespace Dm
open PySem L2
/-- data of any kind: nothing that may change -/
inductive OddD : D → Prop
  | non : OddD .non
  | bl (b : Bool) : OddD (.bl b)
  | int (i : Int) : OddD (.int i)
  | str (x : Str) : OddD (.str x)
  | exn (c : Str) (fs : List (Str × Int)) : OddD (.exn c fs)
  | tup {ds : List D} : ds.length ≤ 1000 → (∀ d, d ∈ ds → OddD d) → OddD (.tup ds)
  | lst {ds : List D} : ds.length ≤ 1000 → (∀ d, d ∈ ds → OddD d) → OddD (.lst ds)
def isI : D → Bool
  | .int _ => true
  | _ => false
section
variable {S : Sto} {os : List Int} {s : Int} {d : D}
theorem is_integer_odd (h : OddD d) : m_is_integer [d] S = .ok (.bl (isI d)) S := by
  refine pure_of fun Q q => ?_
  refine does_def rfl ?_
  cases h <;> (simp [isTn]; exact q)
end
end Dm
-- text HmOdd2
namespace Dm
open PySem L2
end Dm
-- text HmOdd3
namespace Dm
open PySem L2
end Dm
-- text HmOdd4
namespace Dm
open PySem L2
/-- a row of data, so many at most -/
structure OddL (k : Nat) (ds : List D) : Prop where
  len : ds.length ≤ k
  all : ∀ d, d ∈ ds → OddD d
theorem OddL.one {d : D} (h : OddD d) : OddL 1 [d] := ⟨by simp, fun x hx => by rw [List.mem_singleton.mp hx]; exact h⟩
theorem OddL.tup {k : Nat} {ds : List D} (h : OddL k ds) (hk : k ≤ 1000 := by decide) : OddD (.tup ds) := .tup (Nat.le_trans h.len hk) h.all
theorem OddL.lst {k : Nat} {ds : List D} (h : OddL k ds) (hk : k ≤ 1000 := by decide) : OddD (.lst ds) := .lst (Nat.le_trans h.len hk) h.all
theorem OddL.mono {k m : Nat} {ds : List D} (h : OddL k ds) (hk : k ≤ m) : OddL m ds := ⟨Nat.le_trans h.len hk, h.all⟩
end Dm
-- text HmFields
set_option maxHeartbeats 1000000
namespace Dm
open PySem L2
/-! ### drawn zones of the later laws -/
section
variable {S : Sto} {p n : Nat} {os : List Int} {s : Int}
theorem shOK_cut {m : Int} (z : ZoneOK os 1000000) (h1 : 1 ≤ m) : ∃ os', cutD (os.map D.int) none (some m) = os'.map D.int ∧ ZoneOK os' 1000000 ∧ (os'.length : Int) ≤ m := by
  refine ⟨os.take m.toNat, by rw [cut_take (by omega), List.map_take], ?_, by rw [List.length_take]; omega⟩
  have e : m.toNat = 1 ∨ m.toNat = 2 ∨ 3 ≤ m.toNat := by omega
  cases z with
  | one a s h1 h2 h3 h4 =>
    rw [List.take_of_length_le (by simp; omega)]
    exact .one _ _ h1 h2 h3 h4
  | two a b s h1 h2 h3 h4 h5 =>
    rcases e with e | e | e
    · rw [e]; exact .one a _ h1 (by omega) (by omega) (by omega)
    · rw [e]; exact .two _ _ _ h1 h2 h3 h4 h5
    · rw [List.take_of_length_le (by simp; omega)]
      exact .two _ _ _ h1 h2 h3 h4 h5
  | three a b c s h1 h2 h3 h4 h5 h6 =>
    rcases e with e | e | e
    · rw [e]; exact .one a _ h1 (by omega) (by omega) (by omega)
    · rw [e]; exact .two a b _ h1 h2 (by omega) (by omega) (by omega)
    · rw [List.take_of_length_le (by simp; omega)]
      exact .three _ _ _ _ h1 h2 h3 h4 h5 h6
theorem draw_shifts_does {Q : D → Sto → Prop} (hp : Bag p (n + 10) S) (q : ∀ os S', Bag p n S' → GoB p S S' → ZoneOK os 1000000 → Q (.tup (os.map .int)) S') : (m_law_draw_shifts [.cell p] S).Does Q := by
  refine does_def rfl ?_
  refine seq_cut (fun ρ S' => ∃ w : Int, ρ = [some (.cell p), some (.int w), none, none, none, none, none] ∧ Bag p (n + 9) S' ∧ GoB p S S' ∧ 0 ≤ w ∧ w < 8) (fun M hM => ?_) ?_
  · simp
    exact pick2_does (n := n + 9) (hp.mono (by omega)) (by decide) (by decide) fun r S1 b1 g1 r0 r1 => hM _ _ ⟨r, rfl, b1, g1, r0, r1⟩
  rintro ρ S1 ⟨w, rfl, b1, g1, w0, w1⟩
  refine seq_cut (fun ρ S' => ∃ L, ρ = [some (.cell p), some (.int w), some (.lst L), none, none, none, none] ∧ S1 = S' ∧ L = [.tup [.int 0, .int 60], .tup [.int (-900), .int 900], .tup [.int (-900), .int (-899)], .tup [.int 0]]) (fun M hM => ?_) ?_
  · simp
    exact hM _ _ ⟨_, rfl, rfl, rfl⟩
  rintro ρ _ ⟨L, rfl, rfl, rfl⟩
  refine seq_cut (fun ρ S' => ∃ L, ρ = [some (.cell p), some (.int w), some (.lst L), none, none, none, none] ∧ S1 = S' ∧ L = [.tup [.int 0, .int 60], .tup [.int (-900), .int 900], .tup [.int (-900), .int (-899)], .tup [.int 0], .tup [.int (-660), .int (-600), .int 840], .tup [.int (-1), .int 0, .int 1], .tup [.int 899, .int 900], .tup [.int 0, .int 1, .int 900]]) (fun M hM => ?_) ?_
  · simp
    exact hM _ _ ⟨_, rfl, rfl, rfl⟩
  rintro ρ _ ⟨L, rfl, rfl, hL⟩
  by_cases c : w < 2
  · refine ifS_yes' (fun Q q => by simp [c]; exact q) ?_
    simp
    refine pick2_does (n := n + 8) (b1.mono (by omega)) (by decide) (by decide) fun r S2 b2 g2 r0 r1 => ?_
    have b := b2.mono (show n ≤ n + 8 by omega)
    have g := g1.trans g2
    subst hL
    have e : r = 0 ∨ r = 1 ∨ r = 2 ∨ r = 3 ∨ r = 4 ∨ r = 5 ∨ r = 6 ∨ r = 7 := by omega
    rcases e with e | e | e | e | e | e | e | e <;> subst e <;> simp [atI, ixN]
    · exact q [0, 60] _ b g (.two _ _ _ (by decide) (by decide) (by decide) (by decide) (by decide))
    · exact q [-900, 900] _ b g (.two _ _ _ (by decide) (by decide) (by decide) (by decide) (by decide))
    · exact q [-900, -899] _ b g (.two _ _ _ (by decide) (by decide) (by decide) (by decide) (by decide))
    · exact q [0] _ b g (.one _ _ (by decide) (by decide) (by decide) (by decide))
    · exact q [-660, -600, 840] _ b g (.three _ _ _ _ (by decide) (by decide) (by decide) (by decide) (by decide) (by decide))
    · exact q [-1, 0, 1] _ b g (.three _ _ _ _ (by decide) (by decide) (by decide) (by decide) (by decide) (by decide))
    · exact q [899, 900] _ b g (.two _ _ _ (by decide) (by decide) (by decide) (by decide) (by decide))
    · exact q [0, 1, 900] _ b g (.three _ _ _ _ (by decide) (by decide) (by decide) (by decide) (by decide) (by decide))
  · refine ifS_no' (fun Q q => by simp [c]; exact q) ?_
    clear hL
    refine seq_cut (fun ρ S' => ∃ near : Int, ρ = [some (.cell p), some (.int w), some (.lst L), some (.int near), none, none, none] ∧ Bag p (n + 8) S' ∧ GoB p S S' ∧ 0 < near ∧ near ≤ 1800) (fun M hM => ?_) ?_
    · simp
      refine pick2_does (n := n + 8) b1 (by decide) (by decide) fun r S2 b2 g2 r0 r1 => ?_
      have g := g1.trans g2
      have e : r = 0 ∨ r = 1 ∨ r = 2 ∨ r = 3 ∨ r = 4 ∨ r = 5 ∨ r = 6 := by omega
      rcases e with e | e | e | e | e | e | e <;> subst e <;> simp [atI, ixN] <;> exact hM _ _ ⟨_, rfl, b2, g, by decide, by decide⟩
    rintro ρ S2 ⟨near, rfl, b2, g2, n0, n1⟩
    refine seq_cut (fun ρ S' => ∃ low : Int, ρ = [some (.cell p), some (.int w), some (.lst L), some (.int near), some (.int low), none, none] ∧ Bag p (n + 7) S' ∧ GoB p S S' ∧ -900 ≤ low ∧ low ≤ 900) (fun M hM => ?_) ?_
    · simp
      refine pick2_does (n := n + 7) b2 (by decide) (by decide) fun r S3 b3 g3 r0 r1 => ?_
      simp
      exact hM _ _ ⟨_, rfl, b3, g2.trans g3, by omega, by omega⟩
    rintro ρ S3 ⟨low, rfl, b3, g3, l0, l1⟩
    refine seq_cut (fun ρ S' => ∃ high : Int, ρ = [some (.cell p), some (.int w), some (.lst L), some (.int near), some (.int low), some (.int high), none] ∧ Bag p (n + 6) S' ∧ GoB p S S' ∧ low ≤ high ∧ high ≤ 900) (fun M hM => ?_) ?_
    · simp
      refine pick2_does (n := n + 6) b3 n0 (by omega) fun r S4 b4 g4 r0 r1 => ?_
      simp
      exact hM _ _ ⟨_, rfl, b4, g3.trans g4, by split <;> omega, by split <;> omega⟩
    rintro ρ S4 ⟨high, rfl, b4, g4, h0, h1⟩
    refine seq_cut (fun ρ S' => ∃ mid : Int, ρ = [some (.cell p), some (.int w), some (.lst L), some (.int near), some (.int low), some (.int high), some (.int mid)] ∧ Bag p (n + 5) S' ∧ GoB p S S') (fun M hM => ?_) ?_
    · simp
      refine pick2_does (n := n + 5) b4 (by split <;> omega) (by split <;> omega) fun r S5 b5 g5 r0 r1 => ?_
      simp
      exact hM _ _ ⟨_, rfl, b5, g4.trans g5⟩
    rintro ρ S5 ⟨mid, rfl, b5, g5⟩
    have b := b5.mono (show n ≤ n + 5 by omega)
    by_cases c7 : w = 7 ∧ low < mid ∧ mid < high
    · obtain ⟨rfl, c1, c2⟩ := c7
      refine ifS_yes' (fun Q q => by simp [c1, c2]; exact q) ?_
      simp
      exact q [low, mid, high] _ b g5 (.three _ _ _ _ l0 c1 c2 h1 (by omega) (by decide))
    · refine ifS_no' (fun Q q => ?_) ?_
      · by_cases c1 : w = 7
        · subst c1
          by_cases c2 : low < mid
          · have c3 : ¬ mid < high := fun h => c7 ⟨rfl, c2, h⟩
            simp [c2, c3]; exact q
          · simp [c2]; exact q
        · have c1' : (w == 7) = false := by simp [c1]
          simp [c1']; exact q
      · by_cases c1 : low < high
        · by_cases c2 : 2 < w
          · simp [c1, c2]
            exact q [low, high] _ b g5 (.two _ _ _ l0 c1 h1 (by omega) (by decide))
          · simp [c1, c2]
            exact q [low] _ b g5 (.one _ _ l0 l1 (by decide) (by decide))
        · simp [c1]
          exact q [low] _ b g5 (.one _ _ l0 l1 (by decide) (by decide))
theorem draw_apart_does {Q : D → Sto → Prop} (hp : Bag p (n + 5) S) (z : ZoneOK os 1000000) (q : ∀ s S', Bag p n S' → GoB p S S' → ZoneOK os s → Q (.int s) S') : (m_law_draw_apart [.cell p, .tup (os.map .int)] S).Does Q := by
  refine does_def rfl ?_
  refine seq_cut (fun ρ S' => ∃ l : Int, ρ = [some (.cell p), some (.tup (os.map .int)), some (.int l), none] ∧ S = S' ∧ 1 ≤ l ∧ l ≤ 1801 ∧ ∀ s, l ≤ s → s ≤ 1000000 → ZoneOK os s) (fun M hM => ?_) ?_
  · cases z with
    | one a s h1 h2 h3 h4 =>
      simp
      exact hM _ _ ⟨_, rfl, rfl, by omega, by omega, fun s k1 k2 => .one _ _ h1 h2 (by omega) k2⟩
    | two a b s h1 h2 h3 h4 h5 =>
      simp
      exact hM _ _ ⟨_, rfl, rfl, by omega, by omega, fun s k1 k2 => .two _ _ _ h1 h2 h3 (by omega) k2⟩
    | three a b c s h1 h2 h3 h4 h5 h6 =>
      simp
      exact hM _ _ ⟨_, rfl, rfl, by omega, by omega, fun s k1 k2 => .three _ _ _ _ h1 h2 h3 h4 (by omega) k2⟩
  rintro ρ _ ⟨l, rfl, rfl, l0, l1, zz⟩
  refine seq_cut (fun ρ S' => ∃ a b : Int, ρ = [some (.cell p), some (.tup (os.map .int)), some (.int l), some (.lst [.int l, .int l, .int a, .int b, .int (2 * l), .int 1440, .int 1000000])] ∧ Bag p (n + 3) S' ∧ GoB p S S' ∧ 1 ≤ a ∧ a ≤ 10000 ∧ 1 ≤ b ∧ b ≤ 10000) (fun M hM => ?_) ?_
  · simp
    refine pick2_does (n := n + 4) hp (by decide) (by decide) fun r S1 b1 g1 r0 r1 => ?_
    simp
    refine pick2_does (n := n + 3) b1 (by decide) (by decide) fun r' S2 b2 g2 r0' r1' => ?_
    simp
    exact ⟨cmulw64 (by decide) (by omega), hM _ _ ⟨_, _, rfl, b2, g1.trans g2, by omega, by omega, by omega, by omega⟩⟩
  rintro ρ S2 ⟨a, b, rfl, b2, g2, a0, a1, b0, b1⟩
  refine seq_cut (fun ρ S' => ∃ is : List Int, ρ = [some (.cell p), some (.tup (os.map .int)), some (.int l), some (.lst (is.map .int))] ∧ Bag p (n + 1) S' ∧ GoB p S S' ∧ is.length = 9 ∧ ∀ i, i ∈ is → i ≤ 1000000) (fun M hM => ?_) ?_
  · simp
    refine pick2_does (n := n + 2) b2 (by decide) (by decide) fun r S3 b3 g3 r0 r1 => ?_
    simp
    refine pick2_does (n := n + 1) b3 (by decide) (by decide) fun r' S4 b4 g4 r0' r1' => ?_
    simp
    refine hM _ _ ⟨[l, l, a, b, 2 * l, 1440, 1000000, 1 + r, 100000 + r'], rfl, b4, g2.trans (g3.trans g4), rfl, ?_⟩
    intro i hi
    simp only [List.mem_cons, List.not_mem_nil, or_false] at hi
    rcases hi with rfl | rfl | rfl | rfl | rfl | rfl | rfl | rfl | rfl <;> omega
  rintro ρ S4 ⟨is, rfl, b4, g4, il, ib⟩
  simp
  refine pick2_does (n := n) b4 (by decide) (by decide) fun r S5 b5 g5 r0 r1 => ?_
  have hr : r.toNat < is.length := by omega
  have e : atI (is.map D.int) r = some (.int is[r.toNat]) := by
    rw [atI_of r0 (by rw [List.length_map]; omega), List.getElem?_map, List.getElem?_eq_getElem hr]; rfl
  simp [e]
  have := ib _ (List.getElem_mem hr)
  exact q _ _ b5 (g4.trans g5) (zz _ (by split <;> omega) (by split <;> omega))
end
end Dm
-- text HmFields2
set_option maxHeartbeats 1000000
namespace Dm
open PySem L2
section
variable {S : Sto} {p n : Nat} {os : List Int} {s : Int}
theorem zone_wide (z : ZoneOK os s) : ZoneOK os 1000000 := by
  cases z with
  | one a s h1 h2 h3 h4 => exact .one _ _ h1 h2 (by decide) (by decide)
  | two a b s h1 h2 h3 h4 h5 => exact .two _ _ _ h1 h2 h3 (by omega) (by decide)
  | three a b c s h1 h2 h3 h4 h5 h6 => exact .three _ _ _ _ h1 h2 h3 h4 (by omega) (by decide)
theorem draw_fields_does {many : Nat} {most : Int} {Q : D → Sto → Prop} (hm : many = 1 ∨ many = 2) (h1 : 1 ≤ most) (hp : Bag p (n + 40) S) (q : ∀ zs S', Bag p n S' → GoB p S S' → ZsOK zs → zs.length = many → (∀ z, z ∈ zs → (z.1.length : Int) ≤ most) → Q (zonesD zs) S') : (m_law_draw_fields [.cell p, .int (many : Int), .int most] S).Does Q := by
  have pl := hp.lt
  refine does_def rfl ?_
  refine seq_cut (fun ρ S' => ρ = [some (.cell p), some (.int (many : Int)), some (.int most), some (.cell S.length), none, none, none] ∧ S' = S ++ [.lst []]) (fun M hM => ?_) ?_
  · simp
    exact hM _ _ ⟨rfl, rfl⟩
  rintro ρ _ ⟨rfl, rfl⟩
  have b0 := hp.push (.lst [])
  have g0 : GoB p S (S ++ [Cell.lst []]) := GoB.push _
  have cN : (S ++ [Cell.lst []])[S.length]? = some (.lst []) := by simp
  have nN : S.length ≠ p := by omega
  generalize hN : S.length = N at cN nN
  have lN : S.length ≤ N := by omega
  generalize S ++ [Cell.lst []] = S0 at b0 g0 cN
  refine seq_cut (fun ρ S' => ∃ (zs : Zs) (x4 x5 x6 : Option D), ρ = [some (.cell p), some (.int (many : Int)), some (.int most), some (.cell N), x4, x5, x6] ∧ Bag p n S' ∧ GoB p S S' ∧ S'[N]? = some (.lst (zs.map fun z => zoneD z.1 z.2)) ∧ (∀ z, z ∈ zs → ZoneOK z.1 z.2 ∧ (z.1.length : Int) ≤ most) ∧ zs.length = many) (fun M hM => ?_) ?_
  · simp
    refine ⟨by omega, ?_⟩
    refine forL_cut (fun es ρ S' => ∃ (t k : Nat) (zs : Zs) (x4 x5 x6 : Option D), es = rngD (t : Int) k ∧ t + k = many ∧ ρ = [some (.cell p), some (.int (many : Int)), some (.int most), some (.cell N), x4, x5, x6] ∧ Bag p (n + 20 * k) S' ∧ GoB p S S' ∧ S'[N]? = some (.lst (zs.map fun z => zoneD z.1 z.2)) ∧ (∀ z, z ∈ zs → ZoneOK z.1 z.2 ∧ (z.1.length : Int) ≤ most) ∧ zs.length = t) _
      ⟨0, many, [], none, none, none, rfl, by omega, rfl, b0.mono (by omega), g0, cN, (fun _ h => nomatch h), rfl⟩ ?_ ?_
    · rintro d r ρ S1 ⟨t, k, zs, x4, x5, x6, e, tk, rfl, b1, g1, c1, hz, zl⟩
      cases k with
      | zero => cases e
      | succ k =>
        rw [rngD_cons] at e
        injection e with e1 e2
        subst e1
        refine ⟨_, rfl, fun M2 hM2 => ?_⟩
        refine seq_cut (fun ρ S' => ∃ os, ρ = [some (.cell p), some (.int (many : Int)), some (.int most), some (.cell N), some (.int (t : Int)), some (.tup (os.map .int)), x6] ∧ Bag p (n + 20 * k + 10) S' ∧ GoB p S1 S' ∧ ZoneOK os 1000000 ∧ (os.length : Int) ≤ most) (fun M hM => ?_) ?_
        · simp
          refine draw_shifts_does (n := n + 20 * k + 10) (b1.mono (by omega)) fun os S2 b2 g2 z => ?_
          obtain ⟨os', e, z', l'⟩ := shOK_cut z h1
          simp [e]
          exact hM _ _ ⟨os', rfl, b2, g2, z', l'⟩
        rintro ρ S2 ⟨os, rfl, b2, g2, z2, l2⟩
        have c2 := g2.get c1 nN
        refine seq_cut (fun ρ S' => ∃ os, ρ = [some (.cell p), some (.int (many : Int)), some (.int most), some (.cell N), some (.int (t : Int)), some (.tup (os.map .int)), x6] ∧ Bag p (n + 20 * k + 9) S' ∧ GoB p S1 S' ∧ ZoneOK os 1000000 ∧ (os.length : Int) ≤ most) (fun M hM => ?_) ?_
        · by_cases c0 : t = 0
          · subst c0
            simp
            exact hM _ _ ⟨os, rfl, b2.mono (by omega), g2, z2, l2⟩
          · have c0' : (0 : Int) < t := by omega
            obtain ⟨zz, hzz⟩ : ∃ zz, zs[0]? = some zz := ⟨zs[0]'(by omega), List.getElem?_eq_getElem (by omega)⟩
            have mz := hz zz (List.mem_of_getElem? hzz)
            have a0 : atI (zs.map fun z => zoneD z.1 z.2) 0 = some (zoneD zz.1 zz.2) := by
              rw [atI_of (by decide) (by rw [List.length_map]; omega), List.getElem?_map]
              show (zs[0]?).map _ = _
              rw [hzz]; rfl
            simp [c0', show 0 < t by omega]
            refine pick2_does (u := 3) (n := n + 20 * k + 9) b2 (by decide) (by decide) fun r S3 b3 g3 r0 r1 => ?_
            have c3 := g3.get c2 nN
            by_cases cr : r = 0
            · subst cr
              have i0 : gIx S3 (zoneD zz.1 zz.2) (.int 0) = some (.tup (zz.1.map .int)) := by simp [zoneD]
              simp [gIx_cell c3, a0, i0]
              exact hM _ _ ⟨zz.1, rfl, b3, g2.trans g3, zone_wide mz.1, mz.2⟩
            · simp [cr]
              exact hM _ _ ⟨os, rfl, b3, g2.trans g3, z2, l2⟩
        rintro ρ S3 ⟨os, rfl, b3, g3, z3, l3⟩
        refine seq_cut (fun ρ S' => ∃ s, ρ = [some (.cell p), some (.int (many : Int)), some (.int most), some (.cell N), some (.int (t : Int)), some (.tup (os.map .int)), some (zoneD os s)] ∧ Bag p (n + 20 * k + 1) S' ∧ GoB p S1 S' ∧ ZoneOK os s) (fun M hM => ?_) ?_
        · simp
          refine draw_apart_does (n := n + 20 * k + 1) (b3.mono (by omega)) z3 fun s S4 b4 g4 z4 => ?_
          exact hM _ _ ⟨s, rfl, b4, g3.trans g4, z4⟩
        rintro ρ S4 ⟨s, rfl, b4, g4, z4⟩
        have c4 := g4.get c1 nN
        have fin : ∀ (z : List Int × Int) (S5 : Sto), Bag p (n + 20 * k) S5 → GoB p S1 S5 → ZoneOK z.1 z.2 → (z.1.length : Int) ≤ most → M2 [some (.cell p), some (.int (many : Int)), some (.int most), some (.cell N), some (.int (t : Int)), some (.tup (os.map .int)), some (zoneD os s)] (S5.set N (.lst ((zs.map fun z => zoneD z.1 z.2) ++ [zoneD z.1 z.2]))) := fun z S5 b5 g5 hz5 hl5 => by
          have hlt := (List.getElem?_eq_some_iff.mp (g5.get c1 nN)).1
          refine hM2 _ _ ⟨t + 1, k, zs ++ [z], _, _, _, by rw [e2] <;> rfl, by omega, rfl, b5.set nN _, (g1.trans g5).setNew lN _, by rw [List.getElem?_set_self hlt, List.map_append] <;> rfl, fun x hx => ?_, by rw [List.length_append, zl] <;> rfl⟩
          rcases List.mem_append.mp hx with hx | hx
          · exact hz x hx
          · rw [List.mem_singleton.mp hx]; exact ⟨hz5, hl5⟩
        by_cases c0 : t = 0
        · subst c0
          simp [c4]
          exact ⟨by omega, fin (os, s) S4 (b4.mono (by omega)) g4 z4 l3⟩
        · have c0' : (0 : Int) < t := by omega
          obtain ⟨zz, hzz⟩ : ∃ zz, zs[0]? = some zz := ⟨zs[0]'(by omega), List.getElem?_eq_getElem (by omega)⟩
          have mz := hz zz (List.mem_of_getElem? hzz)
          have a0 : atI (zs.map fun z => zoneD z.1 z.2) 0 = some (zoneD zz.1 zz.2) := by
            rw [atI_of (by decide) (by rw [List.length_map]; omega), List.getElem?_map]
            show (zs[0]?).map _ = _
            rw [hzz]; rfl
          simp [c0', show 0 < t by omega]
          refine ⟨⟨_, c4⟩, ?_⟩
          refine pick2_does (u := 8) (n := n + 20 * k) b4 (by decide) (by decide) fun r S5 b5 g5 r0 r1 => ?_
          have c5 := g5.get c4 nN
          by_cases cr : r = 0
          · subst cr
            simp [gIx_cell c5, a0, c5]
            exact ⟨by omega, fin zz S5 b5 (g4.trans g5) mz.1 mz.2⟩
          · simp [cr, c5]
            exact ⟨by omega, fin (os, s) S5 b5 (g4.trans g5) z4 l3⟩
    · rintro ρ S1 ⟨t, k, zs, x4, x5, x6, e, tk, rfl, b1, g1, c1, hz, zl⟩
      cases k with
      | succ k => rw [rngD_cons] at e; cases e
      | zero => exact hM _ _ ⟨zs, _, _, _, rfl, b1, g1, c1, hz, by omega⟩
  rintro ρ S1 ⟨zs, x4, x5, x6, rfl, b1, g1, c1, hz, zl⟩
  simp [gTuple_cell c1]
  exact q zs _ b1 g1 ⟨fun z h => (hz z h).1, by omega⟩ zl fun z h => (hz z h).2
end
end Dm
-- text HmTale1
set_option maxHeartbeats 1000000
namespace Dm
open PySem L2
/-! ### drawn programs of the later laws: rules, minutes, indexes of values -/
section
variable {S : Sto} {p n r : Nat} {row : List Kd} {zs : Zs}
theorem rule2_does {Q : D → Sto → Prop} (hp : Bag p (n + 2) S) (q : ∀ f g S', Bag p n S' → GoB p S S' → RuleF f → RuleG g → Q (.tup [.str f, .str g]) S') : (m_law_rule [.cell p] S).Does Q := by
  refine does_def rfl ?_
  simp
  refine pick2_does (n := n + 1) hp (by decide) (by decide) fun c S1 b1 g1 r0 r1 => ?_
  have e1 : ∃ f, RuleF f ∧ atI [D.str "early", .str "late", .str "early", .str "late", .str "refuse"] c = some (.str f) := by
    have e : c = 0 ∨ c = 1 ∨ c = 2 ∨ c = 3 ∨ c = 4 := by omega
    rcases e with rfl | rfl | rfl | rfl | rfl
    · exact ⟨_, .inl rfl, by simp⟩
    · exact ⟨_, .inr (.inl rfl), by simp⟩
    · exact ⟨_, .inl rfl, by simp⟩
    · exact ⟨_, .inr (.inl rfl), by simp [atI, ixN]⟩
    · exact ⟨_, .inr (.inr rfl), by simp [atI, ixN]⟩
  obtain ⟨f, hf, ef⟩ := e1
  simp [ef]
  refine pick2_does (n := n) b1 (by decide) (by decide) fun c2 S2 b2 g2 s0 s1 => ?_
  have e2 : ∃ g, RuleG g ∧ atI [D.str "ahead", .str "behind", .str "ahead", .str "behind", .str "refuse"] c2 = some (.str g) := by
    have e : c2 = 0 ∨ c2 = 1 ∨ c2 = 2 ∨ c2 = 3 ∨ c2 = 4 := by omega
    rcases e with rfl | rfl | rfl | rfl | rfl
    · exact ⟨_, .inl rfl, by simp⟩
    · exact ⟨_, .inr (.inl rfl), by simp⟩
    · exact ⟨_, .inl rfl, by simp⟩
    · exact ⟨_, .inr (.inl rfl), by simp [atI, ixN]⟩
    · exact ⟨_, .inr (.inr rfl), by simp [atI, ixN]⟩
  obtain ⟨g, hg, eg⟩ := e2
  simp [eg]
  exact q f g _ b2 (g1.trans g2) hf hg
/-- the index of a value of one of these kinds -/
theorem draw_spot_does {ks : List Kd} {Q : D → Sto → Prop} (hp : Bag p (n + 2) S) (hr : S[r]? = some (.lst (row.map Kd.d))) (hrp : r ≠ p) (hk : ∃ k, k ∈ row ∧ k ∈ ks) (hl : row.length ≤ 60) (q : ∀ (i : Nat) k S', Bag p n S' → GoB p S S' → row[i]? = some k → k ∈ ks → Q (.int i) S') :
    (m_law_draw_spot [.cell p, .cell r, .lst (ks.map Kd.d)] S).Does Q := by
  refine does_def rfl ?_
  have ink : ∀ k : Kd, gIn false S (.str k.s) (.lst (ks.map Kd.d)) = some (.bl (decide (k ∈ ks))) := by
    intro k
    unfold gIn
    have h1 : (ks.map Kd.d).all flatD = true := by simp [Kd.d, flatD]
    have h2 : ((ks.map Kd.d).any fun x => eqF x (.str k.s)) = decide (k ∈ ks) := by
      rw [List.any_map]
      have : (fun x => eqF x (.str k.s)) ∘ Kd.d = fun a : Kd => decide (a = k) := by
        funext a
        show eqF (.str a.s) (.str k.s) = _
        show (a.s == k.s) = _
        exact kd_eq a k
      rw [this]
      by_cases c : k ∈ ks
      · rw [decide_eq_true c, List.any_eq_true]
        exact ⟨k, c, decide_eq_true rfl⟩
      · rw [decide_eq_false c, List.any_eq_false]
        intro x hx
        simp only [decide_eq_true_eq]
        rintro rfl
        exact c hx
    simp only [seqOf_fix (.inr rfl), h1, h2, flatD_str, and_self, if_true, Bool.false_eq_true, if_false]
  refine seq_cut (fun ρ S' => S' = S ∧ ∃ l x4, ρ = [some (.cell p), some (.cell r), some (.lst (ks.map Kd.d)), some (.lst ((l : List Nat).map fun i : Nat => D.int i)), x4] ∧ l ≠ [] ∧ l.length ≤ 60 ∧ ∀ i, i ∈ l → ∃ k, row[i]? = some k ∧ k ∈ ks) (fun M hM => ?_) ?_
  · simp [gLen_cell hr]
    refine ⟨by omega, ?_⟩
    unfold rngD
    refine lcQ_filter (as := List.range row.length) (i := fun i : Nat => D.int (0 + i)) (fun i => decide (∃ k, row[i]? = some k ∧ k ∈ ks)) (fun i : Nat => D.int i) ?_ ?_
    · intro i hi
      have hi' : i < row.length := List.mem_range.mp hi
      have e : row[i]? = some row[i] := List.getElem?_eq_getElem hi'
      obtain ⟨h1, h2, h3⟩ := row_at hr e
      refine ⟨_, rfl, fun Q q => ?_, fun Q _ q => ?_⟩
      · simp [wipeD, h1, ink]
        rw [e] at q
        simp at q
        exact q
      · simp [wipeD]
        exact q
    · refine hM _ _ ⟨rfl, _, _, rfl, ?_, ?_, ?_⟩
      · obtain ⟨k, hk1, hk2⟩ := hk
        obtain ⟨i, e⟩ := List.mem_iff_getElem?.mp hk1
        exact List.ne_nil_of_mem (a := i) (List.mem_filter.mpr ⟨List.mem_range.mpr (List.getElem?_eq_some_iff.mp e).1, decide_eq_true ⟨k, e, hk2⟩⟩)
      · exact Nat.le_trans (List.length_filter_le _ _) (by simpa using hl)
      · intro i hi
        exact of_decide_eq_true (List.mem_filter.mp hi).2
  rintro ρ _ ⟨rfl, l, x4, rfl, ne, ll, hi⟩
  have ne' : l.map (fun i : Nat => D.int i) ≠ [] := by simpa using ne
  have : 0 < l.length := List.length_pos_iff.mpr ne
  obtain ⟨x0, hx0, e0⟩ := atI_lastL ne'
  obtain ⟨i0, hi0, rfl⟩ := List.mem_map.mp hx0
  simp [e0]
  refine pick2_does (n := n + 1) hp (by omega) (by omega) fun c2 S2 b2 g2 s0 s1 => ?_
  obtain ⟨x, hx, e⟩ := atI_memL (l := l.map fun i : Nat => D.int i) s0 (by simpa using s1)
  obtain ⟨i, hi', rfl⟩ := List.mem_map.mp hx
  simp [e]
  refine pick2_does (n := n) b2 (by decide) (by decide) fun c S1 b1 g1 r0 r1 => ?_
  have ec : c = 0 ∨ c = 1 := by omega
  rcases ec with rfl | rfl
  · simp
    obtain ⟨k, h1, h2⟩ := hi i0 hi0
    exact q i0 k _ b1 (g2.trans g1) h1 h2
  · simp
    obtain ⟨k, h1, h2⟩ := hi i hi'
    exact q i k _ b1 (g2.trans g1) h1 h2
/-- eight amounts -/
theorem minutes8_does {Q : D → Sto → Prop} (hp : Bag p (n + 20) S) (z : ZsOK zs) (q : ∀ (ms : List Int) S', Bag p n S' → GoB p S S' → ms.length = 8 → (∀ m, m ∈ ms → -100000 ≤ m ∧ m ≤ 100000) → Q (.lst (ms.map .int)) S') : (m_law_minutes_v2 [.cell p, zonesD zs] S).Does Q := by
  refine does_def rfl ?_
  have hz : 0 < zs.length ∧ zs.length ≤ 2 := by rcases z.len with h | h <;> omega
  refine seq_cut (fun ρ S' => ∃ os s, ρ = [some (.cell p), some (zonesD zs), some (zoneD os s), none, none, none, none, none] ∧ Bag p (n + 19) S' ∧ GoB p S S' ∧ ZoneOK os s) (fun M hM => ?_) ?_
  · simp [zonesD]
    refine pick2_does (n := n + 19) hp (by omega) (by omega) fun c S1 b1 g1 r0 r1 => ?_
    obtain ⟨x, hx, e⟩ := atI_memL (l := zs.map fun z => zoneD z.1 z.2) r0 (by simpa using r1)
    obtain ⟨⟨os, s⟩, hz', rfl⟩ := List.mem_map.mp hx
    rw [gIx_tup, e]
    simp
    exact hM _ _ ⟨os, s, rfl, b1, g1, z.all _ hz'⟩
  rintro ρ S1 ⟨os, s, rfl, b1, g1, zo⟩
  have hw : ∃ a b : Int, atI (os.map D.int) (-1) = some (.int b) ∧ atI (os.map D.int) 0 = some (.int a) ∧ 0 ≤ b - a ∧ b - a < s ∧ s ≤ 1000000 := by
    cases zo with
    | one a s h1 h2 h3 h4 => exact ⟨a, a, by simp, by simp, by omega, by omega, h4⟩
    | two a b s h1 h2 h3 h4 h5 => exact ⟨a, b, by simp, by simp, by omega, by omega, h5⟩
    | three a b c s h1 h2 h3 h4 h5 h6 => exact ⟨a, c, by simp, by simp, by omega, by omega, h6⟩
  obtain ⟨a, b, ea, eb, w0, w1, w2⟩ := hw
  refine seq_cut (fun ρ S' => ∃ w : Int, ρ = [some (.cell p), some (zonesD zs), some (zoneD os s), some (.int w), none, none, none, none] ∧ S1 = S' ∧ 0 ≤ w ∧ w < s) (fun M hM => ?_) ?_
  · simp [zoneD, ea, eb]
    exact hM _ _ ⟨b - a, rfl, rfl, w0, w1⟩
  rintro ρ _ ⟨w, rfl, rfl, v0, v1⟩
  clear ea eb w0 w1
  refine seq_cut (fun ρ S' => ∃ is : List Int, ρ = [some (.cell p), some (zonesD zs), some (zoneD os s), some (.int w), some (.lst (is.map .int)), none, none, none] ∧ S1 = S' ∧ is.length = 8 ∧ ∀ i, i ∈ is → -9000000 ≤ i ∧ i ≤ 9000000) (fun M hM => ?_) ?_
  · have k1 : CMulW 2 s := cmulw64 (by omega) (by omega)
    simp [zoneD, k1]
    refine hM _ _ ⟨[w, w - 1, w + 1, s, s - 1, s + 1, s - w, 2 * s], rfl, rfl, rfl, fun i hi => ?_⟩
    simp at hi
    omega
  rintro ρ _ ⟨is, rfl, rfl, l8, hi⟩
  refine seq_cut (fun ρ S' => ∃ is : List Int, ρ = [some (.cell p), some (zonesD zs), some (zoneD os s), some (.int w), some (.lst (is.map .int)), none, none, none] ∧ Bag p (n + 17) S' ∧ GoB p S S' ∧ is.length = 16 ∧ ∀ i, i ∈ is → -9000000 ≤ i ∧ i ≤ 9000000) (fun M hM => ?_) ?_
  · simp
    refine pick2_does (n := n + 18) b1 (by decide) (by decide) fun x S2 b2 g2 x0 x1 => ?_
    refine pick2_does (n := n + 17) b2 (by decide) (by decide) fun y S3 b3 g3 y0 y1 => ?_
    simp [zoneD]
    have := hM _ _ ⟨is ++ [1, 0, 1440, 60, 100000, x, y, s - w - 1], rfl, b3, g1.trans (g2.trans g3), by simp [l8], fun i hi' => by
      rcases List.mem_append.mp hi' with h | h
      · exact hi i h
      · simp at h
        omega⟩
    simp [zoneD] at this ⊢
    exact ⟨by omega, this⟩
  clear hi l8 is
  rintro ρ S2 ⟨is, rfl, b2, g2, l16, hi⟩
  refine seq_cut (fun ρ S' => ∃ (is : List Int) (x4 x6 : Option D), ρ = [some (.cell p), some (zonesD zs), some (zoneD os s), some (.int w), x4, some (.lst (is.map .int)), x6, none] ∧ Bag p n S' ∧ GoB p S S' ∧ is.length = 8) (fun M hM => ?_) ?_
  · simp
    have key : ∀ (k t : Nat) (S3 : Sto) (Q : List D → Sto → Prop), Bag p (n + 2 * k) S3 → GoB p S S3 → (∀ js S', Bag p n S' → GoB p S S' → js.length = k → Q ((js : List Int).map .int) S') →
        LcQ (tgN 6) mYes (mOp gMul (mOp gIx (mVar 4) (mCall m_law_pick_v2 (mCons (mVar 0) (mCons (mK (.int 16)) mNil)))) (mOp gIx (mFz (mLst (mCons (mK (.int 1)) (mCons (mK (.int (-1))) mNil)))) (mCall m_law_pick_v2 (mCons (mVar 0) (mCons (mK (.int 2)) mNil))))) [some (.cell p), some (zonesD zs), some (zoneD os s), some (.int w), some (.lst (is.map .int)), none, none, none] (rngD (t : Int) k) S3 Q := by
      intro k
      induction k with
      | zero => intro t S3 Q b3 g3 q; rw [rngD_nil, lcQ_nil]; exact q [] S3 b3 g3 rfl
      | succ k ih =>
        intro t S3 Q b3 g3 q
        rw [rngD_cons, lcQ_cons]
        simp
        refine pick2_does (n := n + 2 * k + 1) (b3.mono (by omega)) (by decide) (by decide) fun c S4 b4 g4 c0 c1 => ?_
        obtain ⟨x, hx, e⟩ := atI_memL (l := is.map D.int) c0 (by rw [List.length_map, l16]; exact c1)
        obtain ⟨i, hi', rfl⟩ := List.mem_map.mp hx
        try rw [gIx_lst]
        rw [e]
        simp
        refine pick2_does (n := n + 2 * k) b4 (by decide) (by decide) fun c S5 b5 g5 d0 d1 => ?_
        have hb := hi i hi'
        have ec : c = 0 ∨ c = 1 := by omega
        rcases ec with rfl | rfl
        · have km : CMulW i 1 := cmulw64 (by omega) (by omega)
          simp [km]
          exact ih (t + 1) S5 _ b5 (g3.trans (g4.trans g5)) fun js S' b' g' l' => q (i :: js) S' b' g' (by simp [l'])
        · have km : CMulW i (-1) := cmulw64 (by omega) (by omega)
          simp [km]
          exact ih (t + 1) S5 _ b5 (g3.trans (g4.trans g5)) fun js S' b' g' l' => q (-i :: js) S' b' g' (by simp [l'])
    have := key 8 0 S2 (fun ys S' => M [some (.cell p), some (zonesD zs), some (zoneD os s), some (.int w), some (.lst (is.map .int)), some (.lst ys), none, none] S') (b2.mono (by omega)) g2 fun js S' b' g' l' => hM _ _ ⟨js, _, _, rfl, b', g', l'⟩
    exact this
  clear hi l16 is
  rintro ρ S3 ⟨is, x4, x6, rfl, b3, g3, l8⟩
  simp
  try rw [lcAQ_fix (.inr rfl) (by simp)]
  refine lcQ_filter (as := is) (i := D.int) (fun _ => true) (fun i : Int => D.int (max (-100000) (min 100000 i))) (fun i _ => ⟨_, rfl, fun Q q => by simp; exact q, fun Q _ q => ?_⟩) ?_
  · simp [wipeD]
    have e : (if -100000 < (if i < 100000 then i else 100000) then (if i < 100000 then i else 100000) else -100000) = max (-100000) (min 100000 i) := by
      split <;> split at * <;> omega
    rw [e]
    exact q
  · rw [List.filter_eq_self.mpr (fun _ _ => rfl)]
    have := q (is.map fun i => max (-100000) (min 100000 i)) S3 b3 g3 (by simp [l8]) (fun m hm => by
      obtain ⟨i, _, rfl⟩ := List.mem_map.mp hm
      omega)
    rw [List.map_map] at this
    exact this
end
end Dm
-- text HmTale2
set_option maxHeartbeats 1000000
namespace Dm
open PySem L2
/-! ### drawn programs of the later laws: the words, a step -/
section
variable {S : Sto} {p n r : Nat} {row : List Kd} {zs : Zs}
theorem Grow.gobT {S S' : Sto} (g : Grow S S') : GoB p S S' := by
  obtain ⟨cs, rfl⟩ := g
  exact ⟨by rw [List.length_append]; omega, fun n h _ => List.getElem?_append_left h⟩
theorem Bag.growT {S S' : Sto} (h : Bag p n S) (g : Grow S S') : Bag p n S' := by
  obtain ⟨a, b, c, e, r⟩ := h
  exact ⟨a, b, c, g.get e, r⟩
theorem Grow.setT {S S' : Sto} {n : Nat} (g : Grow S S') (hn : S.length ≤ n) (c : Cell) : Grow S (S'.set n c) := by
  obtain ⟨cs, rfl⟩ := g
  rw [List.set_append_right _ _ hn]
  exact ⟨_, rfl⟩
def kdS : List (Key × D) := [(.inr "read", .str "reading"), (.inr "find", .str "moment"), (.inr "offset", .str "span"), (.inr "edition", .str "moment"), (.inr "plus", .str "reading")]
theorem kdS_eq : keysD [(D.str (Str.ofString "read"), D.str (Str.ofString "reading")), (D.str (Str.ofString "find"), D.str (Str.ofString "moment")), (D.str (Str.ofString "offset"), D.str (Str.ofString "span")), (D.str (Str.ofString "edition"), D.str (Str.ofString "moment")), (D.str (Str.ofString "plus"), D.str (Str.ofString "reading"))] = some kdS := rfl
theorem kdS_m : mergeD [] kdS = kdS := rfl
theorem dic_new {kvs : List (Key × D)} : dicOf (S ++ [.dic kvs]) (.cell S.length) = some kvs := dicOf_cell (by simp)
theorem sort_behind_does {m : Nat} {t : Stp} {Q : D → Sto → Prop} (hn : S[n]? = some (.lst (row.map Kd.d))) (h : t.OK m row) (q : ∀ c, Q (t.kind row).d (S ++ [c])) : (m_law_sort_behind [.cell n, t.d] S).Does Q := by
  refine does_def rfl ?_
  have q := q (.dic kdS)
  have hn' : (S ++ [.dic kdS])[n]? = some (.lst (row.map Kd.d)) := by
    rw [List.getElem?_append_left (List.getElem?_eq_some_iff.mp hn).1]; exact hn
  have l5 : kdS.length ≤ 15 := by decide
  cases t with
  | add i m =>
    have e : ∃ k, row[i]? = some k := by rcases h.1 with h | h <;> exact ⟨_, h⟩
    obtain ⟨k, e⟩ := e
    obtain ⟨h1, h2, h3⟩ := row_at hn' e
    simp [Stp.d, kdS_eq, kdS_m, l5, h1]
    simp [Stp.kind, e, Kd.d] at q
    exact q
  | _ => simp (decide := true) [Stp.d, kdS_eq, kdS_m, l5, dic_new, valD, kdS]; exact q
theorem kinds_in_does {m : Nat} {ts : List Stp} {Q : D → Sto → Prop} (h : ProgFrom m [.mom] ts) (hl : ts.length ≤ 60) (q : ∀ S', Grow S S' → S.length < S'.length → S'[S.length]? = some (.lst ((kindsFrom [.mom] ts).map Kd.d)) → Q (.cell S.length) S') : (m_law_kinds_in [progD ts] S).Does Q := by
  refine does_def rfl ?_
  simp [progD]
  refine forL_cut (fun ds ρ S' => ∃ us row x2, ds = (us : List Stp).map Stp.d ∧ ρ = [some (.tup (ts.map Stp.d)), some (.cell S.length), x2] ∧ Grow S S' ∧ S.length < S'.length ∧ S'[S.length]? = some (.lst (row.map Kd.d)) ∧ ProgFrom m row us ∧ kindsFrom row us = kindsFrom [.mom] ts ∧ row.length + us.length ≤ 61) _
    ⟨ts, [.mom], _, rfl, rfl, Grow.refl.push _, by simp, by simp [Kd.d, Kd.s], h, rfl, by simp; omega⟩ ?_ ?_
  · rintro d r ρ S1 ⟨us, row, x2, e, rfl, g1, l1, hn, hp, hk, hl⟩
    cases us with
    | nil => cases e
    | cons u us =>
      simp at e
      obtain ⟨rfl, rfl⟩ := e
      refine ⟨_, rfl, fun M hM => ?_⟩
      simp at hl
      simp
      refine ⟨⟨_, hn⟩, ?_⟩
      refine sort_behind_does hn hp.1 fun c => ?_
      have hn2 : (S1 ++ [c])[S.length]? = some (.lst (row.map Kd.d)) := by rw [List.getElem?_append_left l1]; exact hn
      simp [hn2]
      refine ⟨by omega, hM _ _ ⟨us, row ++ [u.kind row], _, rfl, rfl, (g1.push _).setT (Nat.le_refl _) _, by simp; omega, ?_, hp.2, hk, by simp; omega⟩⟩
      rw [List.getElem?_set_self (by simp; omega), List.map_append] <;> rfl
  · rintro ρ S1 ⟨us, row, x2, e, rfl, g1, l1, hn, hp, hk, hl⟩
    cases us with
    | nil =>
      simp
      rw [show row = kindsFrom [.mom] ts from hk] at hn
      exact q S1 g1 l1 hn
    | cons u us => cases e
end
section
variable {S : Sto} {p n r : Nat} {row : List Kd} {zs : Zs}
theorem stps_pyT {nz : Nat} : ∀ l : List Stp, (∀ t, t ∈ l → ∃ row, t.OK nz row) → ∃ qs, toPys (l.map Stp.d) = some qs ∧ PyData.canLayAll0 qs = true ∧ PyData.depthAll qs ≤ 1 ∧ qs.length = l.length
  | [], _ => ⟨[], rfl, rfl, Nat.zero_le _, rfl⟩
  | t :: l, h => by
    obtain ⟨row, ho⟩ := h t List.mem_cons_self
    obtain ⟨q, e, h1, h2⟩ := stp_py ho
    obtain ⟨qs, es, k1, k2, k3⟩ := stps_pyT l fun t ht => h t (List.mem_cons_of_mem _ ht)
    refine ⟨q :: qs, by simp [toPys, e, es], by simp [PyData.canLayAll0, h1, k1], by simp only [PyData.depthAll]; omega, by simp [k3]⟩
theorem gEq_steps {nz : Nat} {l : List Stp} (hok : ∀ u, u ∈ l → ∃ row, u.OK nz row) : gEq S (.lst (l.map Stp.d)) (.lst []) = some (.bl (decide (l = []))) := by
  obtain ⟨qs, es, k1, k2, k3⟩ := stps_pyT l hok
  have e1 : toPyS S (.lst (l.map Stp.d)) = some (.list qs) := by simp only [toPyS, toPy, es]; rfl
  have e2 : toPyS S (.lst []) = some (.list []) := rfl
  cases l with
  | nil =>
    cases qs with
    | nil =>
      unfold gEq eqD
      simp only [e1, e2]
      simp [SeqAt.shaped, PyData.canLay0, PyData.canLayAll0, PyData.depth, PyData.depthAll, PyData.eqv]
      rfl
    | cons => cases k3
  | cons t l =>
    cases qs with
    | nil => simp at k3
    | cons p ps =>
      unfold gEq eqD
      simp only [e1, e2]
      have k2' : PyData.depthAll (p :: ps) ≤ 1 := k2
      have z0 : PyData.depthAll [] = 0 := rfl
      simp [SeqAt.shaped, PyData.canLay0, k1, PyData.canLayAll0, PyData.depth, PyData.eqv]
      exact ⟨⟨⟨by simpa [PyData.canLayAll0] using k1, by omega⟩, by omega⟩, rfl⟩
/-- the words that may begin the next step -/
theorem words_open_does {k : Nat} {nz : Nat} {ts : List Stp} {a : Int} {ed : Bool} {Q : D → Sto → Prop} (hr : S[r]? = some (.lst (row.map Kd.d))) (hk : S[k]? = some (.lst (ts.map Stp.d))) (hok : ∀ t, t ∈ ts → ∃ row, t.OK nz row)
    (q : ∀ ws : List Str, ws ≠ [] → ws.length ≤ 60 → (∀ w, w ∈ ws → NW row a 1 (if ed = true ∧ ts.filter Stp.isEd = [] then 1 else 0) w) → Q (.lst (ws.map D.str)) S) :
    (m_law_words_open [.cell r, .cell k, .int a, .bl ed] S).Does Q := by
  refine does_def rfl ?_
  have hsp := in_row hr .spn
  have hrd := in_row hr .rdg
  simp only [Kd.s] at hsp hrd
  obtain ⟨c, hc⟩ : ∃ c : Int, c = if ed = true ∧ ts.filter Stp.isEd = [] then 1 else 0 := ⟨_, rfl⟩
  rw [← hc] at q
  refine seq_cut (fun ρ S' => S = S' ∧ ∃ ws : List Str, ρ = [some (.cell r), some (.cell k), some (.int a), some (.bl ed), some (.lst (ws.map D.str)), none] ∧ ws ≠ [] ∧ ws.length ≤ 1 ∧ ∀ w, w ∈ ws → NW row a 1 c w) (fun M hM => ?_) ?_
  · simp
    exact hM _ _ ⟨rfl, ["add"], rfl, by simp, by simp, by simp [NW]⟩
  rintro ρ _ ⟨rfl, ws, rfl, ne, ll, hw⟩
  refine seq_cut (fun ρ S' => S = S' ∧ ∃ (ws : List Str) (x5 : Option D), ρ = [some (.cell r), some (.cell k), some (.int a), some (.bl ed), some (.lst (ws.map D.str)), x5] ∧ ws ≠ [] ∧ ws.length ≤ 10 ∧ ∀ w, w ∈ ws → NW row a 1 c w) (fun M hM => ?_) ?_
  · by_cases ca : 0 < a
    · have edL : ∀ (x4 : D) (K : List D → Sto → Prop), K ((ts.filter Stp.isEd).map Stp.d) S → LcAQ (D.cell k) (tgN 5) (mOp gEq (mOp gIx (mVar 5) (mK (.int 0))) (mK (.str "edition"))) (mVar 5) [some (.cell r), some (.cell k), some (.int a), some (.bl ed), some x4, none] ts.length S K := by
        intro x4 K hK
        refine lcAQ_ext (fun S' => S = S') Stp.isEd Stp.d rfl (fun S' h => by subst h; rw [seqOf_cell hk]) rfl (fun t _ S1 h => ?_) (fun S' h => by subst h; exact hK)
        subst h
        refine ⟨_, rfl, ?_, fun S2 h2 ht => ?_⟩
        · cases t <;> simp (decide := true) [Stp.d, Stp.isEd]
        · simp
          exact h2
      have fin : ∀ us : List Str, us.length ≤ 7 → (∀ w, w ∈ us → NW row a 1 c w) → M [some (.cell r), some (.cell k), some (.int a), some (.bl ed), some (.lst ((ws ++ us).map D.str)), none] S := fun us hl hu => hM _ _ ⟨rfl, _, _, rfl, by simp [ne], by simp; omega, fun w h => by
        rcases List.mem_append.mp h with h | h
        · exact hw w h
        · exact hu w h⟩
      have edE := gEq_steps (S := S) (l := ts.filter Stp.isEd) fun u hu => hok u (List.mem_filter.mp hu).1
      have nR : NW row a 1 c "read" := by simp [NW, ca]
      have nO : NW row a 1 c "offset" := by simp [NW, ca]
      simp [ca, hrd, seqOf_cell hk]
      refine ⟨by omega, ?_⟩
      by_cases h2 : Kd.rdg ∈ row
      · have nF : NW row a 1 c "find" := by simp [NW, ca, h2]
        simp [h2]
        refine ⟨by omega, ?_⟩
        cases he : ed with
        | false =>
          subst he
          simp
          have := fin ["read", "read", "offset", "find", "find", "find"] (by simp) (by simp [nR, nO, nF])
          simpa using this
        | true =>
          subst he
          simp
          refine edL _ _ ?_
          rw [edE]
          simp
          by_cases h3 : ts.filter Stp.isEd = []
          · have nE : NW row a 1 c "edition" := by simp [NW, ca, hc, h3]
            have h3' : ∀ (a : Stp), a ∈ ts → a.isEd = false := fun a ha => by simpa using List.filter_eq_nil_iff.mp h3 a ha
            rw [if_pos h3']
            refine ⟨by omega, ?_⟩
            have := fin ["read", "read", "offset", "find", "find", "find", "edition"] (by simp) (by simp [nR, nO, nF, nE])
            simpa using this
          · rw [if_neg fun h => h3 (List.filter_eq_nil_iff.mpr fun a ha => by simp [h a ha])]
            have := fin ["read", "read", "offset", "find", "find", "find"] (by simp) (by simp [nR, nO, nF])
            simpa using this
      · simp [h2]
        cases he : ed with
        | false =>
          subst he
          simp
          have := fin ["read", "read", "offset"] (by simp) (by simp [nR, nO])
          simpa using this
        | true =>
          subst he
          simp
          refine edL _ _ ?_
          rw [edE]
          simp
          by_cases h3 : ts.filter Stp.isEd = []
          · have nE : NW row a 1 c "edition" := by simp [NW, ca, hc, h3]
            have h3' : ∀ (a : Stp), a ∈ ts → a.isEd = false := fun a ha => by simpa using List.filter_eq_nil_iff.mp h3 a ha
            rw [if_pos h3']
            refine ⟨by omega, ?_⟩
            have := fin ["read", "read", "offset", "edition"] (by simp) (by simp [nR, nO, nE])
            simpa using this
          · rw [if_neg fun h => h3 (List.filter_eq_nil_iff.mpr fun a ha => by simp [h a ha])]
            have := fin ["read", "read", "offset"] (by simp) (by simp [nR, nO])
            simpa using this
    · simp [ca]
      exact hM _ _ ⟨rfl, ws, _, rfl, ne, by omega, hw⟩
  rintro ρ _ ⟨rfl, ws, x5, rfl, ne, ll, hw⟩
  have fin : ∀ us : List Str, us.length ≤ 7 → (∀ w, w ∈ us → NW row a 1 c w) → Q (.lst ((ws ++ us).map D.str)) S := fun us hl hu => q _ (by simp [ne]) (by simp; omega) fun w h => by
    rcases List.mem_append.mp h with h | h
    · exact hw w h
    · exact hu w h
  by_cases h1 : Kd.spn ∈ row
  · have nP : NW row a 1 c "plus" := by simp [NW, h1]
    by_cases h2 : Kd.rdg ∈ row
    · have nL : NW row a 1 c "less" := by simp [NW, h1, h2]
      simp [h1, h2, hsp, hrd]
      refine ⟨by omega, by omega, ?_⟩
      have := fin ["plus", "less", "less"] (by simp) (by simp [nP, nL])
      simpa using this
    · simp [h1, h2, hsp, hrd]
      refine ⟨by omega, ?_⟩
      have := fin ["plus"] (by simp) (by simp [nP])
      simpa using this
  · simp [h1, hsp]
    exact q ws ne (by omega) hw
end
end Dm
-- text HmTale3
set_option maxHeartbeats 1000000
namespace Dm
open PySem L2
/-! ### drawn programs of the later laws: a step, a program -/
section
variable {S : Sto} {p n r : Nat} {row : List Kd} {nz : Nat}
def kdW : List (Key × D) := [(.inr "find", .lst [.str "reading"]), (.inr "less", .lst [.str "reading"]), (.inr "add", .lst [.str "moment", .str "reading"])]
theorem kdW_eq : keysD [(D.str (Str.ofString "find"), D.lst [D.str (Str.ofString "reading")]), (D.str (Str.ofString "less"), D.lst [D.str (Str.ofString "reading")]), (D.str (Str.ofString "add"), D.lst [D.str (Str.ofString "moment"), D.str (Str.ofString "reading")])] = some kdW := rfl
theorem kdW_m : mergeD [] kdW = kdW := rfl
end
end Dm
-- text HmTale4
set_option maxHeartbeats 1000000
namespace Dm
open PySem L2
/-! ### drawn programs of the later laws: a program -/
theorem progFrom_memT {nz : Nat} : ∀ {ts : List Stp} {row : List Kd}, ProgFrom nz row ts → ∀ t, t ∈ ts → ∃ row, t.OK nz row
  | [], _, _, _, h => nomatch h
  | u :: ts, row, ⟨a, b⟩, t, h => by
    rcases List.mem_cons.mp h with rfl | h
    · exact ⟨row, a⟩
    · exact progFrom_memT b t h
theorem gInConv {S : Sto} {t : Stp} : ∃ w, gIx S t.d (.int 0) = some (.str w) ∧ gIn false S (.str w) (.lst [.str "read", .str "find", .str "offset", .str "edition"]) = some (.bl t.isConv) := by
  cases t <;> exact ⟨_, rfl, by simp (decide := true) [gIn, Stp.isConv, eqF]⟩
end Dm
-- text HmTale5
set_option maxHeartbeats 1000000
namespace Dm
open PySem L2
/-! ### programs cut off, zones and programs of any size -/
end Dm
-- text HmTale6
set_option maxHeartbeats 1000000
namespace Dm
open PySem L2
end Dm
-- text HmTale7
set_option maxHeartbeats 1000000
namespace Dm
open PySem L2
end Dm
-- text HmLc1
set_option maxHeartbeats 1000000
namespace Dm
open PySem L2
/-! ### the later laws' own search: what can be -/
section
variable {S : Sto} {zs : Zs} {os : List Int} {s m o : Int} {lk : List Lk} {p n : Nat} {ls : List (Int × Int)} {now : Nat → Option Int}
def nwD : Option (Nat × Int) → D
  | none => .non
  | some (p, n) => .tup [.int p, .int n]
end
end Dm
-- text HmLc2
set_option maxHeartbeats 1000000
namespace Dm
open PySem L2
/-! ### the later laws' own search: what a step looks at and makes -/
end Dm
-- text HmLc3
set_option maxHeartbeats 1000000
namespace Dm
open PySem L2
/-! ### the later laws' own search: its tree, plain -/
section
variable {zs : Zs} {lk b : List Lk} {p k w : Nat} {ts : List Stp} {vs : List Int} {t : Stp} {m : Int} {now : Nat → Option Int} {ms pre suf : List Int}
/-- the edition that the values came to -/
def edN : List Stp → List Int → Option (Nat × Int)
  | t :: ts, v :: vs => if t.isEd = true then some (t.place, v) else edN ts vs
  | _, _ => none
def nowN (ts : List Stp) (vs : List Int) : Option (Nat × Int) := edN ts (vs.drop 1)
/-! ### what comes below a state -/
def subL (zs : Zs) (ts : List Stp) (lk : List Lk) (vs : List Int) : List Case := dfsL zs ts (ts.length + 1 - vs.length) (vs.length - 1) (lk, vs, none)
/-! ### how long the search takes -/
def unk (zs : Zs) (ts : List Stp) (lk : List Lk) (vs : List Int) : List Int := (askedS zs vs (ts.getD (vs.length - 1) (.add 0 0))).filter fun m => (known lk (ts.getD (vs.length - 1) (.add 0 0)).place (edOf (nowOf ts vs (ts.getD (vs.length - 1) (.add 0 0)).place) m) m).isNone
def gW (w c : Nat) : Nat → Nat
  | 0 => 1 + c
  | a + 1 => 1 + w * gW w c a
def cW (w : Nat) : List Stp → Nat
  | [] => 1
  | t :: r => gW w (cW w r) (wt w t)
def wgt (w : Nat) (zs : Zs) (ts : List Stp) (lk : List Lk) (vs : List Int) : Nat := if vs.length ≤ ts.length then gW w (cW w (ts.drop vs.length)) (unk zs ts lk vs).length else 1
end
end Dm
-- text HmLc4
set_option maxHeartbeats 1000000
namespace Dm
open PySem L2
/-! ### the later laws' own search: its states -/
abbrev Sta := List Lk × List Int
def stD (ts : List Stp) (x : Sta) : D := .tup [.tup (x.1.map lkD), .tup (x.2.map .int), nwD (nowN ts x.2)]
def endD (ts : List Stp) (c : Case) : D := .tup [.tup (c.1.map lkD), .tup (c.2.1.map .int), optN c.2.2, nwD (nowN ts c.2.1)]
/-! ### what holds in a state -/
structure SeW (zs : Zs) (ts : List Stp) (x : Sta) : Prop where
  w : LkW zs (nowOf ts x.2) x.1
  f : FitA zs (nowOf ts x.2) x.1
  v1 : 1 ≤ x.2.length
  v2 : x.2.length ≤ ts.length + 1
  lb : x.1.length + (unk zs ts x.1 x.2).length + 3 * (ts.length - x.2.length) ≤ 300
end Dm
-- text HmLc5
set_option maxHeartbeats 1000000
namespace Dm
open PySem L2
/-! ### the later laws' own search: its loop -/
abbrev rC (zs : Zs) (ts : List Stp) (bg : D) (d q : Nat) (x5 x6 x7 x8 x9 x10 x11 x12 x13 x14 x15 x16 : Option D) : Rho := [some (zonesD zs), some (progD ts), some bg, some (.cell d), some (.cell q), x5, x6, x7, x8, x9, x10, x11, x12, x13, x14, x15, x16]
section
variable {S0 S : Sto} {zs : Zs} {ts : List Stp} {lk : List Lk} {vs : List Int} {w d q : Nat} {bg : D} {dn : List Case} {init : List Sta} {EO : EXO} {B : Rho → Sto → Prop} {R : D → Sto → Prop}
def subS (zs : Zs) (ts : List Stp) (x : Sta) : List Case := subL zs ts x.1 x.2
def wgS (w : Nat) (zs : Zs) (ts : List Stp) (x : Sta) : Nat := wgt w zs ts x.1 x.2
/-- what a turn of the loop leaves -/
structure Turn (zs : Zs) (ts : List Stp) (w d q : Nat) (bg : D) (S0 : Sto) (dn : List Case) (init : List Sta) (x : Sta) (ρ : Rho) (S : Sto) : Prop where
  env : ∃ x5 x6 x7 x8 x9 x10 x11 x12 x13 x14 x15 x16, ρ = rC zs ts bg d q x5 x6 x7 x8 x9 x10 x11 x12 x13 x14 x15 x16
  g : Grow S0 S
  ex : ∃ (dn' : List Case) (st : List Sta), S[d]? = some (.lst (dn'.map (endD ts))) ∧ S[q]? = some (.lst (st.map (stD ts))) ∧ (∀ y, y ∈ st → y ∈ init ∨ SeW zs ts y) ∧
    dn' ++ st.reverse.flatMap (subS zs ts) = dn ++ (init ++ [x]).reverse.flatMap (subS zs ts) ∧ (st.map (wgS w zs ts)).sum + 1 ≤ ((init ++ [x]).map (wgS w zs ts)).sum ∧ dn'.length ≤ dn.length + 1
end
end Dm
-- text HmLc6
set_option maxHeartbeats 1000000
namespace Dm
open PySem L2
end Dm
-- text HmVals
set_option maxHeartbeats 1000000
namespace Dm
open PySem L2
/-! ### few values: what the offsets of the zones can make of a program -/
end Dm
-- text HmAsk1
set_option maxHeartbeats 1000000
namespace Dm
open PySem L2
/-! ### differences and refusals -/
section
variable {S : Sto} {zs : Zs} {ts : List Stp} {vs : List Int} {lk : List Lk} {n i a b : Nat} {row : List Kd} {k : Kd}
/-- an index of a moment or reading -/
def HourI (row : List Kd) (i : Nat) : Prop := ∃ k, row[i]? = some k ∧ k ≠ .spn
/-! ### the law's own -/
end
end Dm
-- text HmEw1
namespace Dm
open PySem L2
/-! ### early worlds of cases, the program's and the law's -/
end Dm
-- text HmAdd
namespace Dm
open PySem L2
end Dm
-- text HmAllT1
namespace Dm
open PySem L2
end Dm
-- text HmAllT2
namespace Dm
open PySem L2
end Dm
-- text HmAllT3
namespace Dm
open PySem L2
end Dm
-- text HmAllT4
namespace Dm
open PySem L2
/-- two rows, item by item -/
inductive Rel2 {α β : Type} (P : α → β → Prop) : List α → List β → Prop
  | nil : Rel2 P [] []
  | cons {a b as bs} : P a b → Rel2 P as bs → Rel2 P (a :: as) (b :: bs)
theorem Rel2.len {α β : Type} {P : α → β → Prop} {as : List α} {bs : List β} (h : Rel2 P as bs) : bs.length = as.length := by
  induction h with
  | nil => rfl
  | cons _ _ ih => rw [List.length_cons, List.length_cons, ih]
theorem Rel2.mem {α β : Type} {P : α → β → Prop} {as : List α} {bs : List β} (h : Rel2 P as bs) {b : β} (hb : b ∈ bs) : ∃ a, a ∈ as ∧ P a b := by
  induction h with
  | nil => cases hb
  | @cons a b' _ _ p _ ih =>
    rcases List.mem_cons.mp hb with rfl | hb
    · exact ⟨a, List.mem_cons_self, p⟩
    · obtain ⟨a, h1, h2⟩ := ih hb
      exact ⟨a, List.mem_cons_of_mem _ h1, h2⟩
theorem rngD_map {lo : Int} {n : Nat} : rngD lo n = ((List.range n).map fun (i : Nat) => lo + i).map D.int := by
  unfold rngD
  rw [List.map_map] <;> rfl
end Dm
-- text HmAsk2
set_option maxHeartbeats 1000000
namespace Dm
open PySem L2
/-! ### the frame of the later laws -/
theorem law_loop2 {right : List D → Sto → Res D} {k : Int} (h : ∀ p S, Bag p 9223372036854775808 S → (right [.cell p] S).Does fun d _ => d = .bl true) :
    LawTrue (mDef 1 2 (mSeq (mForA (mCall m_law_cells (mCons (mVar 0) (mCons (mK (.int k)) mNil))) (tgN 1) (mIfS (mNot (mCall right (mCons (mCall m_law_make_pot_v2 (mCons (mVar 1) mNil)) mNil))) (mRet (mK (.bl false))) mNop)) (mRet (mK (.bl true))))) := by
  intro ns hl
  have cells : ∀ {Q : D → Sto → Prop}, (∀ cs : List Int, Q (.lst (cs.map .int)) []) → (m_law_cells [.lst (ns.map .int), .int k] []).Does Q := by
    intro Q q
    refine does_def rfl ?_
    have cl : (cutD (ns.map .int) none (some k)).length ≤ 63 := Nat.le_trans cut_len (by rw [List.length_map]; exact hl)
    obtain ⟨cs, hcs⟩ : ∃ cs : List Int, cutD (ns.map D.int) none (some k) = cs.map .int := by
      have all : ∀ d, d ∈ cutD (ns.map D.int) none (some k) → ∃ c : Int, d = .int c := fun d hd => by
        obtain ⟨c, _, rfl⟩ := List.mem_map.mp (cut_mem hd)
        exact ⟨c, rfl⟩
      generalize cutD (ns.map D.int) none (some k) = l at all
      clear cl q
      induction l with
      | nil => exact ⟨[], rfl⟩
      | cons d l ih =>
        obtain ⟨c, rfl⟩ := all d List.mem_cons_self
        obtain ⟨cs, rfl⟩ := ih fun d hd => all d (List.mem_cons_of_mem _ hd)
        exact ⟨c :: cs, rfl⟩
    have lc : (cutD (ns.map D.int) none (some k)).length = cs.length := by rw [hcs, List.length_map]
    have q := q (1600000000000000000000000000000000731 :: cs)
    rw [does_ret]
    simp only [does_fz, does_catL, does_lst, does_cons, does_k, does_nil, does_slL, does_var, List.getElem?_cons_zero, List.getElem?_cons_succ, does_noPart, does_part, lstOf_lst, hcs, List.singleton_append]
    refine ⟨by simp, ?_⟩
    refine ⟨by simp; omega, ?_⟩
    rw [List.map_cons, ← hcs] at q
    exact q
  have main : (mDef 1 2 (mSeq (mForA (mCall m_law_cells (mCons (mVar 0) (mCons (mK (.int k)) mNil))) (tgN 1) (mIfS (mNot (mCall right (mCons (mCall m_law_make_pot_v2 (mCons (mVar 1) mNil)) mNil))) (mRet (mK (.bl false))) mNop)) (mRet (mK (.bl true)))) [.lst (ns.map .int)] []).Does fun d _ => d = .bl true := by
    refine does_def rfl ?_
    rw [does_seq, does_forA]
    simp only [does_call, does_cons, does_nil, does_var, does_k, List.getElem?_cons_zero]
    refine Res.Does.toE (cells fun cs => ?_)
    rw [forAS_lst]
    refine forL_cut (fun ds ρ S' => (∀ d, d ∈ ds → ∃ c : Int, d = .int c) ∧ ∃ y, ρ = [some (.lst (ns.map .int)), y]) _ ⟨?_, none, rfl⟩ ?_ ?_
    · intro d hd
      obtain ⟨c, _, rfl⟩ := List.mem_map.mp hd
      exact ⟨c, rfl⟩
    · rintro d r ρ S' ⟨hd, y, rfl⟩
      obtain ⟨c, rfl⟩ := hd d List.mem_cons_self
      refine ⟨_, rfl, fun M hM => ?_⟩
      simp
      refine make_pot_does fun S1 b1 g1 => ?_
      obtain ⟨d, S2, e, rfl⟩ := (h _ _ b1).eq
      rw [e]
      simp
      exact hM _ _ ⟨fun d h => hd d (List.mem_cons_of_mem _ h), _, rfl⟩
    · rintro ρ S' _
      rfl
  obtain ⟨d, S', e, rfl⟩ := main.eq
  exact ⟨S', e⟩
section
variable {S : Sto} {zs : Zs} {ts : List Stp} {p n : Nat} {row : List Kd}
/-! ### the hours of a program -/
def hoursL (row : List Kd) : List Nat := (List.range row.length).filter fun i => !(row.getD i .spn == .spn)
theorem hours_mem {i : Nat} (h : i ∈ hoursL row) : HourI row i := by
  obtain ⟨h1, h2⟩ := List.mem_filter.mp h
  have h1 := List.mem_range.mp h1
  refine ⟨row[i], List.getElem?_eq_getElem h1, fun e => ?_⟩
  rw [List.getD_eq_getElem?_getD, List.getElem?_eq_getElem h1] at h2
  simp [e] at h2
theorem hours_zero {k : Kd} {r : List Kd} (hk : k ≠ .spn) : 0 ∈ hoursL (k :: r) := by
  refine List.mem_filter.mpr ⟨List.mem_range.mpr (by simp), ?_⟩
  simp
  exact hk
theorem hours_len : (hoursL row).length ≤ row.length := by
  unfold hoursL
  refine Nat.le_trans (List.length_filter_le _ _) ?_
  rw [List.length_range]
  exact Nat.le_refl _
theorem kinds_head : ∀ {ts : List Stp} {k : Kd} {r : List Kd}, ∃ r', kindsFrom (k :: r) ts = k :: r'
  | [], k, r => ⟨r, rfl⟩
  | t :: ts, k, r => by
    show ∃ r', kindsFrom ((k :: r) ++ _) ts = k :: r'
    rw [List.cons_append]
    exact kinds_head
theorem hours_pos : 0 ∈ hoursL (kindsFrom [.mom] ts) := by
  obtain ⟨r', e⟩ := kinds_head (ts := ts) (k := .mom) (r := [])
  rw [e]
  exact hours_zero (by decide)
def hoursD (ts : List Stp) : List D := (hoursL (kindsFrom [.mom] ts)).map fun i : Nat => D.int i
theorem hours_in_does {m : Nat} {Q : D → Sto → Prop} (h : ProgFrom m [.mom] ts) (hl : ts.length ≤ 60) (q : ∀ S', Grow S S' → Q (.lst (hoursD ts)) S') : (m_law_hours_in [progD ts] S).Does Q := by
  refine does_def rfl ?_
  refine seq_cut (fun ρ S' => ∃ c, ρ = [some (progD ts), some (.cell c), none] ∧ Grow S S' ∧ S'[c]? = some (.lst ((kindsFrom [.mom] ts).map Kd.d))) (fun M hM => ?_) ?_
  · simp
    refine kinds_in_does h hl fun S1 g1 l1 c1 => ?_
    exact hM _ _ ⟨_, rfl, g1, c1⟩
  rintro ρ S1 ⟨c, rfl, g1, c1⟩
  have len : (kindsFrom [.mom] ts).length = ts.length + 1 := by rw [kindsFrom_length]; simp; omega
  have gl : gLen S1 [.cell c] = some (.int ((ts.length + 1 : Nat) : Int)) := by rw [gLen_cell c1, List.length_map, len]
  simp [gl, wipeD]
  refine ⟨by omega, ?_⟩
  have e1 : rngD 0 (ts.length + 1) = (List.range (ts.length + 1)).map fun i : Nat => D.int i := by
    rw [rngD_map, List.map_map]
    refine List.map_congr_left fun i _ => ?_
    simp
  rw [e1]
  refine lcQ_filter (as := List.range (ts.length + 1)) (i := fun i : Nat => D.int i) (fun i => !((kindsFrom [.mom] ts).getD i .spn == .spn)) (fun i : Nat => D.int i) ?_ ?_
  · intro i hi
    have hi := List.mem_range.mp hi
    have hi' : i < (kindsFrom [.mom] ts).length := by omega
    have ei := List.getElem?_eq_getElem hi'
    obtain ⟨h1, h2, h3⟩ := row_at c1 ei
    refine ⟨_, rfl, fun Q q => ?_, fun Q _ q => ?_⟩
    · rw [List.getD_eq_getElem?_getD, ei] at q
      generalize (kindsFrom [Kd.mom] ts)[i] = k at h1 q
      cases k <;> (simp (decide := true) [h1, Kd.s] at q ⊢; exact q)
    · simp; exact q
  · have q := q S1 g1
    unfold hoursD hoursL at q
    rw [len] at q
    exact q
/-- one of the hours, drawn -/
theorem hoursD_len (hl : ts.length ≤ 60) : 0 < (hoursD ts).length ∧ (hoursD ts).length ≤ 61 := by
  have l1 : 0 < (hoursL (kindsFrom [.mom] ts)).length := List.length_pos_of_mem hours_pos
  have l2 := hours_len (row := kindsFrom [.mom] ts)
  rw [kindsFrom_length] at l2
  simp at l2
  have e : (hoursD ts).length = (hoursL (kindsFrom [.mom] ts)).length := by unfold hoursD; rw [List.length_map]
  omega
theorem hour_at {v : Int} (h0 : 0 ≤ v) (h1 : v < (hoursD ts).length) : ∃ i : Nat, HourI (kindsFrom [.mom] ts) i ∧ atI (hoursD ts) v = some (.int i) := by
  have e : (hoursD ts).length = (hoursL (kindsFrom [.mom] ts)).length := by unfold hoursD; rw [List.length_map]
  have hv : v.toNat < (hoursL (kindsFrom [.mom] ts)).length := by omega
  refine ⟨_, hours_mem (List.getElem_mem hv), ?_⟩
  rw [atI_of (by omega) (by omega)]
  unfold hoursD
  rw [List.getElem?_map, List.getElem?_eq_getElem hv]; rfl
theorem pick_hour {Q : D → Sto → Prop} (hp : Bag p (n + 1) S) (hl : ts.length ≤ 60) (q : ∀ v i S', Bag p n S' → GoB p S S' → HourI (kindsFrom [.mom] ts) i → atI (hoursD ts) v = some (.int (i : Nat)) → Q (.int v) S') :
    (m_law_pick_v2 [.cell p, .int (hoursD ts).length] S).Does Q := by
  obtain ⟨l1, l2⟩ := hoursD_len hl
  refine pick2_does (n := n) hp (by omega) (by omega) fun v S1 b1 g1 r0 r1 => ?_
  obtain ⟨i, h1, h2⟩ := hour_at (ts := ts) r0 r1
  exact q _ i _ b1 g1 h1 h2
/-! ### the zones and the program -/
end
end Dm
-- text HmEw2
set_option maxHeartbeats 1000000
namespace Dm
open PySem L2
/-! ### early worlds can be shown -/
section
variable {S : Sto} {zs : Zs} {ts : List Stp} {lk : List Lk} {vs : List Int} {now : Nat → Option Int}
mutual
theorem pyC_of {S : Sto} : ∀ {d : D} {p : PyData}, toPy d = some p → toPyC S d = some p
  | .non, p, e => e
  | .bl b, p, e => e
  | .int i, p, e => e
  | .str x, p, e => e
  | .tup ds, p, e => by
    rw [toPy] at e
    cases c : toPys ds with
    | none => rw [c] at e; cases e
    | some ps =>
      rw [c] at e
      rw [toPyC, pysC_of c]
      exact e
  | .lst ds, p, e => by
    rw [toPy] at e
    cases c : toPys ds with
    | none => rw [c] at e; cases e
    | some ps =>
      rw [c] at e
      rw [toPyC, pysC_of c]
      exact e
  | .cell n, p, e => by rw [toPy] at e; cases e
  | .glo x, p, e => by rw [toPy] at e; cases e
  | .exn a b, p, e => by rw [toPy] at e; cases e
theorem pysC_of {S : Sto} : ∀ {ds : List D} {ps : List PyData}, toPys ds = some ps → toPysC S ds = some ps
  | [], ps, e => by rw [toPys] at e; rw [toPysC]; exact e
  | d :: ds, ps, e => by
    rw [toPys] at e
    cases c : toPy d with
    | none => rw [c] at e; cases e
    | some p =>
      cases c2 : toPys ds with
      | none => rw [c, c2] at e; cases e
      | some qs =>
        rw [c, c2] at e
        rw [toPysC, pyC_of c, pysC_of c2]
        exact e
end
end
end Dm
-- text HmAsk3
set_option maxHeartbeats 1000000
namespace Dm
open PySem L2
/-! ### witness -/
end Dm
-- text HmWish
set_option maxHeartbeats 1000000
namespace Dm
open PySem L2
/-! ### wishes about a program -/
inductive Wsh where
  | found | same (a b : Nat) | order (a b : Nat) | near (a b : Nat) (w : Int)
def Wsh.d : Wsh → D
  | .found => .tup [.str "found"]
  | .same a b => .tup [.str "same", .int a, .int b]
  | .order a b => .tup [.str "order", .int a, .int b]
  | .near a b w => .tup [.str "near", .int a, .int b, .int w]
def Wsh.OK (row : List Kd) : Wsh → Prop
  | .found => True
  | .same a b => HourI row a ∧ HourI row b
  | .order a b => HourI row a ∧ HourI row b
  | .near a b w => HourI row a ∧ HourI row b ∧ 0 ≤ w ∧ w ≤ 1000000
/-- whether a case breaks a wish -/
def brk (w : Wsh) (c : Case) : Bool := match w, c.2.2 with
  | .found, r => r.isSome
  | _, some _ => false
  | .same a b, none => !(getV c.2.1 b - getV c.2.1 a == 0)
  | .order a b, none => decide (getV c.2.1 b - getV c.2.1 a < 0)
  | .near a b w, none => decide (w < if getV c.2.1 b - getV c.2.1 a < 0 then -(getV c.2.1 b - getV c.2.1 a) else getV c.2.1 b - getV c.2.1 a)
/-- the values that a wish names are there -/
def Wsh.In (c : Case) : Wsh → Prop
  | .found => True
  | .same a b => c.2.2 = none → a < c.2.1.length ∧ b < c.2.1.length
  | .order a b => c.2.2 = none → a < c.2.1.length ∧ b < c.2.1.length
  | .near a b _ => c.2.2 = none → a < c.2.1.length ∧ b < c.2.1.length
end Dm
-- text HmWants
set_option maxHeartbeats 1000000
namespace Dm
open PySem L2
end Dm
-- text HmSpace
set_option maxHeartbeats 1000000
namespace Dm
open PySem L2
/-! ### other spacings of a place -/
end Dm
-- text HmDraw
set_option maxHeartbeats 1000000
namespace Dm
open PySem L2
/-! ### programs drawn with any list of minutes -/
section
variable {S : Sto} {p n r : Nat} {row : List Kd} {nz : Nat}
theorem draw_stepN_does {ws : List Str} {ms : List Int} {a c : Int} {Q : D → Sto → Prop} (hp : Bag p (n + 10) S) (hz : 0 < nz ∧ nz ≤ 2) (hr : S[r]? = some (.lst (row.map Kd.d))) (hrp : r ≠ p) (hm : .mom ∈ row) (hl : row.length ≤ 60)
    (ne : ws ≠ []) (wl : ws.length ≤ 60) (hw : ∀ w, w ∈ ws → NW row a 1 c w) (ml : 0 < ms.length ∧ ms.length ≤ 100) (hms : ∀ m, m ∈ ms → -100000 ≤ m ∧ m ≤ 100000)
    (q : ∀ t S', Bag p n S' → GoB p S S' → PGood nz row a 1 c t → Q t.d S') : (m_law_draw_step [.cell p, .int nz, .cell r, .lst (ws.map D.str), .lst (ms.map D.int)] S).Does Q := by
  have wp : 0 < ws.length := List.length_pos_iff.mpr ne
  refine does_def rfl ?_
  refine seq_cut (fun ρ S' => ∃ w, ρ = [some (.cell p), some (.int nz), some (.cell r), some (.lst (ws.map D.str)), some (.lst (ms.map D.int)), some (.str w), none, none] ∧ Bag p (n + 9) S' ∧ GoB p S S' ∧ NW row a 1 c w) (fun M hM => ?_) ?_
  · simp
    refine pick2_does (n := n + 9) hp (by omega) (by omega) fun v S1 b1 g1 r0 r1 => ?_
    obtain ⟨x, hx, e⟩ := atI_memL (l := ws.map D.str) r0 (by simpa using r1)
    obtain ⟨w, hw1, rfl⟩ := List.mem_map.mp hx
    simp [e]
    exact hM _ _ ⟨w, rfl, b1, g1, hw w hw1⟩
  rintro ρ S1 ⟨w, rfl, b1, g1, nw⟩
  clear hw wp wl ne
  refine seq_cut (fun ρ S' => ρ = [some (.cell p), some (.int nz), some (.cell r), some (.lst (ws.map D.str)), some (.lst (ms.map D.int)), some (.str w), some (.cell S1.length), none] ∧ S' = S1 ++ [.dic kdW]) (fun M hM => ?_) ?_
  · simp [kdW_eq, kdW_m]
    exact ⟨by decide, hM _ _ ⟨rfl, rfl⟩⟩
  rintro ρ _ ⟨rfl, rfl⟩
  have e2 : dicOf (S1 ++ [.dic kdW]) (.cell S1.length) = some kdW := dic_new
  have b2 := b1.push (.dic kdW)
  have g2 : GoB p S (S1 ++ [.dic kdW]) := g1.trans (GoB.push _)
  have hr2 := g2.get hr hrp
  generalize S1 ++ [.dic kdW] = S2 at e2 b2 g2 hr2
  have place : ∀ {S3 : Sto} {Q2 : D → Sto → Prop}, Bag p (n + 7) S3 → (∀ (v : Nat) S4, v < nz → Bag p (n + 6) S4 → GoB p S3 S4 → Q2 (.int v) S4) → (m_law_pick_v2 [.cell p, .int nz] S3).Does Q2 := by
    intro S3 Q2 b3 h
    refine pick2_does (n := n + 6) b3 (by omega) (by omega) fun v S4 b4 g4 r0 r1 => ?_
    have ev : v = ((v.toNat : Nat) : Int) := by omega
    rw [ev]
    exact h v.toNat S4 (by omega) b4 g4
  have spt : ∀ (ks : List Kd) (N : Nat) {S3 : Sto} {Q2 : D → Sto → Prop}, Bag p (N + 2) S3 → GoB p S S3 → (∃ k, k ∈ row ∧ k ∈ ks) → (∀ (i : Nat) k S', Bag p N S' → GoB p S3 S' → row[i]? = some k → k ∈ ks → Q2 (.int i) S') → (m_law_draw_spot [.cell p, .cell r, .lst (ks.map Kd.d)] S3).Does Q2 := fun ks N _ _ b3 g3 hk q => draw_spot_does (n := N) b3 (g3.get hr hrp) hrp hk hl q
  have sp7 : ∀ (w : Str) (ks : List Kd), valD kdW (.inr w) = some (.lst (ks.map Kd.d)) ∨ (valD kdW (.inr w) = none ∧ ks = [.mom]) → (∃ k, k ∈ row ∧ k ∈ ks) → ∀ (Rest : MS) {EO : EXO} {N B C : Rho → Sto → Prop} {R : D → Sto → Prop}, (∀ (i : Nat) k S3, Bag p (n + 7) S3 → GoB p S S3 → row[i]? = some k → k ∈ ks → (Rest [some (.cell p), some (.int nz), some (.cell r), some (.lst (ws.map D.str)), some (.lst (ms.map D.int)), some (.str w), some (.cell S1.length), some (.int i)] S3).DoesE EO N R B C) →
      (mSeq (mAsg 7 (mCall m_law_draw_spot (mCons (mVar 0) (mCons (mVar 2) (mCons (mGet2 (mVar 6) (mVar 5) (mFz (mLst (mCons (mK (.str "moment")) mNil)))) mNil))))) Rest [some (.cell p), some (.int nz), some (.cell r), some (.lst (ws.map D.str)), some (.lst (ms.map D.int)), some (.str w), some (.cell S1.length), none] S2).DoesE EO N R B C := by
    intro w ks hv hk Rest EO N B C R h
    have hd : (valD kdW (.inr w)).getD (.lst [.str "moment"]) = .lst (ks.map Kd.d) := by
      rcases hv with hv | ⟨hv, rfl⟩ <;> rw [hv] <;> rfl
    simp [e2, hd]
    exact Res.Does.toE <| spt ks (n + 7) (S3 := S2) b2 g2 hk fun i k S3 b3 g3 hi hk => h i k S3 b3 (g2.trans g3) hi hk
  rcases nw with rfl | ⟨rfl, h1⟩ | ⟨rfl, h1, h2⟩ | ⟨ha, nw⟩
  · refine sp7 _ [.mom, .rdg] (.inl rfl) ⟨.mom, hm, by simp⟩ _ fun i k S3 b3 g3 hi hk => ?_
    simp
    refine pick2_does (n := n + 6) b3 (by omega) (by omega) fun v S4 b4 g4 r0 r1 => ?_
    obtain ⟨x, hx, e⟩ := atI_memL (l := ms.map D.int) r0 (by rw [List.length_map]; omega)
    obtain ⟨m, hm1, rfl⟩ := List.mem_map.mp hx
    simp [e]
    refine q (.add i m) S4 (b4.mono (by omega)) (g3.trans g4) ⟨⟨?_, hms m hm1⟩, fun h => (nomatch h), fun h => (nomatch h), fun h => (nomatch h)⟩
    simp at hk
    rcases hk with rfl | rfl
    · exact .inl hi
    · exact .inr hi
  · refine sp7 _ [.mom] (.inr ⟨rfl, rfl⟩) ⟨.mom, hm, by simp⟩ _ fun i k S3 b3 g3 hi hk => ?_
    simp at hk
    subst hk
    simp (decide := true)
    refine spt [.spn] (n + 5) (S3 := S3) b3 g3 ⟨.spn, h1, by simp⟩ fun j k S4 b4 g4 hj hk => ?_
    simp at hk
    subst hk
    exact q (.plus i j) S4 (b4.mono (by omega)) (g3.trans g4) ⟨⟨hi, hj⟩, fun h => (nomatch h), fun h => (nomatch h), fun h => (nomatch h)⟩
  · refine sp7 _ [.rdg] (.inl rfl) ⟨.rdg, h2, by simp⟩ _ fun i k S3 b3 g3 hi hk => ?_
    simp at hk
    subst hk
    simp (decide := true)
    refine spt [.spn] (n + 5) (S3 := S3) b3 g3 ⟨.spn, h1, by simp⟩ fun j k S4 b4 g4 hj hk => ?_
    simp at hk
    subst hk
    exact q (.less i j) S4 (b4.mono (by omega)) (g3.trans g4) ⟨⟨hi, hj⟩, fun h => (nomatch h), fun h => (nomatch h), fun h => (nomatch h)⟩
  rcases nw with rfl | rfl | ⟨rfl, hc⟩ | ⟨rfl, hb, h2⟩
  · refine sp7 _ [.mom] (.inr ⟨rfl, rfl⟩) ⟨.mom, hm, by simp⟩ _ fun i k S3 b3 g3 hi hk => ?_
    simp at hk
    subst hk
    simp (decide := true)
    refine place b3 fun v S4 hv b4 g4 => ?_
    exact q (.read i v) S4 (b4.mono (by omega)) (g3.trans g4) ⟨⟨hi, hv⟩, fun _ => ha, fun h => (nomatch h), fun h => (nomatch h)⟩
  · refine sp7 _ [.mom] (.inr ⟨rfl, rfl⟩) ⟨.mom, hm, by simp⟩ _ fun i k S3 b3 g3 hi hk => ?_
    simp at hk
    subst hk
    simp (decide := true)
    refine place b3 fun v S4 hv b4 g4 => ?_
    exact q (.offset i v) S4 (b4.mono (by omega)) (g3.trans g4) ⟨⟨hi, hv⟩, fun _ => ha, fun h => (nomatch h), fun h => (nomatch h)⟩
  · refine sp7 _ [.mom] (.inr ⟨rfl, rfl⟩) ⟨.mom, hm, by simp⟩ _ fun i k S3 b3 g3 hi hk => ?_
    simp at hk
    subst hk
    simp (decide := true)
    refine place b3 fun v S4 hv b4 g4 => ?_
    exact q (.edition i v) S4 (b4.mono (by omega)) (g3.trans g4) ⟨⟨hi, hv⟩, fun _ => ha, fun h => (nomatch h), fun _ => hc⟩
  · refine sp7 _ [.rdg] (.inl rfl) ⟨.rdg, h2, by simp⟩ _ fun i k S3 b3 g3 hi hk => ?_
    simp at hk
    subst hk
    simp (decide := true)
    refine place b3 fun v S4 hv b4 g4 => ?_
    refine rule2_does (n := n + 4) b4 fun f g S5 b5 g5 hf hg => ?_
    simp
    exact q (.find i v f g) S5 (b5.mono (by omega)) (g3.trans (g4.trans g5)) ⟨⟨hi, hv, hf, hg⟩, fun _ => ha, fun _ => hb, fun h => (nomatch h)⟩
end
section
variable {S : Sto} {p n r : Nat} {nz : Nat}
theorem draw_taleN_does {ts0 : List Stp} {ms : List Int} {size left : Int} {ed : Bool} {Q : D → Sto → Prop} (hp : Bag p (n + 10 * (size - ts0.length).toNat) S) (hz : 0 < nz ∧ nz ≤ 2) (h0 : ProgFrom nz [.mom] ts0) (hs : size ≤ 8) (h8 : ts0.length ≤ 8) (he0 : cnt Stp.isEd ts0 ≤ 1)
    (ml : 0 < ms.length ∧ ms.length ≤ 100) (hms : ∀ m, m ∈ ms → -100000 ≤ m ∧ m ≤ 100000) (sl : -60 ≤ size)
    (q : ∀ ts S', Bag p n S' → GoB p S S' → ProgFrom nz [.mom] (ts0 ++ ts) → ts.length = (size - ts0.length).toNat → (cnt Stp.isConv ts ≤ left ∨ cnt Stp.isConv ts = 0) → cnt Stp.isEd (ts0 ++ ts) ≤ 1 → (ed = false → cnt Stp.isEd ts = 0) → Q (progD (ts0 ++ ts)) S') :
    (m_law_draw_tale [.cell p, .int nz, .int size, .int left, .bl ed, .lst (ms.map D.int), progD ts0] S).Does Q := by
  have pl := hp.lt
  refine does_def rfl ?_
  refine seq_cut (fun ρ S' => ρ = [some (.cell p), some (.int nz), some (.int size), some (.int left), some (.bl ed), some (.lst (ms.map D.int)), some (progD ts0), some (.cell S.length), none, none, none] ∧ S' = S ++ [.lst (ts0.map Stp.d)]) (fun M hM => ?_) ?_
  · simp [progD]
    exact hM _ _ ⟨rfl, rfl⟩
  rintro ρ _ ⟨rfl, rfl⟩
  have b1 := hp.push (Cell.lst (ts0.map Stp.d))
  have g1 : GoB p S (S ++ [Cell.lst (ts0.map Stp.d)]) := GoB.push _
  have c1 : (S ++ [Cell.lst (ts0.map Stp.d)])[S.length]? = some (.lst (ts0.map Stp.d)) := by simp
  have l1 : (S ++ [Cell.lst (ts0.map Stp.d)]).length = S.length + 1 := by simp
  generalize hT : S.length = T at *
  generalize S ++ [Cell.lst (ts0.map Stp.d)] = S1 at b1 g1 c1 l1
  refine seq_cut (fun ρ S' => ρ = [some (.cell p), some (.int nz), some (.int size), some (.int left), some (.bl ed), some (.lst (ms.map D.int)), some (progD ts0), some (.cell T), some (.cell (T + 1)), none, none] ∧ Bag p (n + 10 * (size - ts0.length).toNat) S' ∧ GoB p S S' ∧ S'[T]? = some (.lst (ts0.map Stp.d)) ∧ S'[T + 1]? = some (.lst ((kindsFrom [.mom] ts0).map Kd.d))) (fun M hM => ?_) ?_
  · simp
    refine kinds_in_does h0 (by omega) fun S2 g2 l2 e2 => ?_
    rw [l1] at e2
    rw [l1]
    exact hM _ _ ⟨rfl, b1.growT g2, g1.trans g2.gobT, g2.get c1, e2⟩
  rintro ρ S2 ⟨rfl, b2, g2, c2, d2⟩
  clear b1 g1 c1 l1
  refine seq_cut (fun ρ S' => ∃ (ts : List Stp) (x3 x9 x10 : Option D), ρ = [some (.cell p), some (.int nz), some (.int size), x3, some (.bl ed), some (.lst (ms.map D.int)), some (progD ts0), some (.cell T), some (.cell (T + 1)), x9, x10] ∧ Bag p n S' ∧ GoB p S S' ∧ S'[T]? = some (.lst ((ts0 ++ ts).map Stp.d)) ∧ ProgFrom nz [.mom] (ts0 ++ ts) ∧ ts.length = (size - ts0.length).toNat ∧ (cnt Stp.isConv ts ≤ left ∨ cnt Stp.isConv ts = 0) ∧ cnt Stp.isEd (ts0 ++ ts) ≤ 1 ∧ (ed = false → cnt Stp.isEd ts = 0)) (fun M hM => ?_) ?_
  · simp [progD]
    refine ⟨by omega, ?_⟩
    refine forL_cut (fun ds ρ S' => ∃ (ts : List Stp) (x9 x10 : Option D), ρ = [some (.cell p), some (.int nz), some (.int size), some (.int (left - cnt Stp.isConv ts)), some (.bl ed), some (.lst (ms.map D.int)), some (progD ts0), some (.cell T), some (.cell (T + 1)), x9, x10] ∧ Bag p (n + 10 * ds.length) S' ∧ GoB p S S' ∧ S'[T]? = some (.lst ((ts0 ++ ts).map Stp.d)) ∧ S'[T + 1]? = some (.lst ((kindsFrom [.mom] (ts0 ++ ts)).map Kd.d)) ∧ ProgFrom nz [.mom] (ts0 ++ ts) ∧ ts.length + ds.length = (size - ts0.length).toNat ∧ (cnt Stp.isConv ts ≤ left ∨ cnt Stp.isConv ts = 0) ∧ cnt Stp.isEd (ts0 ++ ts) ≤ 1 ∧ (ed = false → cnt Stp.isEd ts = 0)) _
      ⟨[], none, none, by simp [cnt_nil, progD], by rw [rngD_length]; exact b2.mono (by omega), g2, by simpa using c2, by simpa using d2, by simpa using h0, by rw [rngD_length]; simp, .inr cnt_nil, by simpa using he0, fun _ => cnt_nil⟩ ?_ ?_
    · rintro e ds ρ S3 ⟨ts, x9, x10, rfl, b3, g3, c3, d3, hp3, hl3, hc3, he3, hf3⟩
      refine ⟨_, rfl, fun M2 hM2 => ?_⟩
      simp at hl3 b3
      have hk := kindsFrom_length [.mom] (ts0 ++ ts)
      simp at hk
      refine seq_cut (fun ρ S' => ∃ t, ρ = [some (.cell p), some (.int nz), some (.int size), some (.int (left - cnt Stp.isConv ts)), some (.bl ed), some (.lst (ms.map D.int)), some (progD ts0), some (.cell T), some (.cell (T + 1)), some e, some (Stp.d t)] ∧ Bag p (n + 10 * ds.length) S' ∧ GoB p S3 S' ∧ PGood nz (kindsFrom [.mom] (ts0 ++ ts)) (left - cnt Stp.isConv ts) 1 (if ed = true ∧ (ts0 ++ ts).filter Stp.isEd = [] then 1 else 0) t) (fun M hM => ?_) ?_
      · simp
        refine words_open_does d3 c3 (progFrom_memT hp3) fun ws ne wl hw => ?_
        exact draw_stepN_does (n := n + 10 * ds.length) (b3.mono (by omega)) hz d3 (by omega) (kindsFrom_mem List.mem_cons_self) (by omega) ne wl hw ml hms fun t S4 b4 g4 pg => hM _ _ ⟨t, rfl, b4, g4, pg⟩
      rintro ρ S4 ⟨t, rfl, b4, g4, pg⟩
      refine seq_cut (fun ρ S' => S4 = S' ∧ ρ = [some (.cell p), some (.int nz), some (.int size), some (.int (left - cnt Stp.isConv (ts ++ [t]))), some (.bl ed), some (.lst (ms.map D.int)), some (progD ts0), some (.cell T), some (.cell (T + 1)), some e, some (Stp.d t)]) (fun M hM => ?_) ?_
      · obtain ⟨w, hw1, hw2⟩ := gInConv (S := S4) (t := t)
        simp [hw1, hw2]
        have := hM _ _ ⟨rfl, rfl⟩
        rw [cnt_snoc] at this
        have e : left - cnt Stp.isConv ts - (if t.isConv = true then 1 else 0) = left - (cnt Stp.isConv ts + bI t.isConv) := by unfold bI; omega
        rw [e]
        exact this
      rintro ρ _ ⟨rfl, rfl⟩
      have c4 := g4.get c3 (by omega)
      have d4 := g4.get d3 (by omega)
      refine seq_cut (fun ρ S' => ρ = [some (.cell p), some (.int nz), some (.int size), some (.int (left - cnt Stp.isConv (ts ++ [t]))), some (.bl ed), some (.lst (ms.map D.int)), some (progD ts0), some (.cell T), some (.cell (T + 1)), some e, some (Stp.d t)] ∧ Bag p (n + 10 * ds.length) S' ∧ GoB p S S' ∧ S'[T]? = some (.lst ((ts0 ++ ts).map Stp.d)) ∧ S'[T + 1]? = some (.lst ((kindsFrom [.mom] (ts0 ++ ts ++ [t])).map Kd.d))) (fun M hM => ?_) ?_
      · simp
        refine ⟨⟨_, d4⟩, ?_⟩
        refine sort_behind_does d4 pg.ok fun c => ?_
        have g5 : GoB p S (S4 ++ [c]) := g3.trans (g4.trans (GoB.push c))
        have c5 := (GoB.push (p := p) c).get c4 (show T ≠ p by omega)
        have d5 := (GoB.push (p := p) c).get d4 (show T + 1 ≠ p by omega)
        have hlt := (List.getElem?_eq_some_iff.mp d5).1
        refine ⟨_, d5, by simp; omega, hM _ _ ⟨rfl, (b4.push c).set (by omega) _, g5.setNew (by omega) _, ?_, ?_⟩⟩
        · rw [List.getElem?_set_ne (by omega)]; exact c5
        · rw [List.getElem?_set_self hlt, kindsFrom_snoc, List.map_append] <;> rfl
      rintro ρ S5 ⟨rfl, b5, g5, c5, d5⟩
      have hlt := (List.getElem?_eq_some_iff.mp c5).1
      simp [c5]
      refine ⟨by omega, hM2 _ _ ⟨ts ++ [t], _, _, rfl, b5.set (by omega) _, g5.setNew (by omega) _, ?_, ?_, ?_, by simp; omega, ?_, ?_, ?_⟩⟩
      · rw [List.getElem?_set_self hlt]
        simp
      · rw [List.getElem?_set_ne (by omega), ← List.append_assoc]; exact d5
      · rw [← List.append_assoc]
        exact progFrom_snoc hp3 pg.ok
      · rw [cnt_snoc]
        have := pg.conv
        unfold bI
        split
        · have := this (by assumption); omega
        · omega
      · rw [← List.append_assoc, cnt_snoc]
        have := pg.ed
        unfold bI
        split
        · have := this (by assumption)
          split at this
          · rename_i h
            have z : cnt Stp.isEd (ts0 ++ ts) = 0 := by unfold cnt; rw [h.2]; rfl
            omega
          · omega
        · omega
      · intro he
        have := pg.ed
        rw [if_neg (by rw [he]; simp)] at this
        rw [cnt_snoc, hf3 he]
        unfold bI
        split
        · have := this (by assumption); omega
        · rfl
    · rintro ρ S3 ⟨ts, x9, x10, rfl, b3, g3, c3, d3, hp3, hl3, hc3, he3, hf3⟩
      exact hM _ _ ⟨ts, _, _, _, rfl, b3.mono (by omega), g3, c3, hp3, by simpa using hl3, hc3, he3, hf3⟩
  rintro ρ S3 ⟨ts, x3, x9, x10, rfl, b3, g3, c3, hp3, hl3, hc3, he3, hf3⟩
  simp [gTuple_cell c3]
  rw [← List.map_append]
  exact q ts _ b3 g3 hp3 hl3 hc3 he3 hf3
end
end Dm
-- text HmSm1
set_option maxHeartbeats 1000000
namespace Dm
open PySem L2
/-! ### runs in two tables of each place, and the cases that they are -/
/-- what was looked at holds in the tables -/
def LH (A B : Nat → Tb) (lk : List Lk) : Prop := ∀ x, x ∈ lk → ∃ p : Nat, x.1 = (p : Int) ∧ ((x.2.1 = 0 ∧ (A p).of x.2.2.1 = x.2.2.2) ∨ (x.2.1 = 1 ∧ (B p).of x.2.2.1 = x.2.2.2))
section
variable {zs : Zs} {ts : List Stp} {A B : Nat → Tb} {lk b : List Lk} {vs : List Int} {p k : Nat} {m o : Int} {now : Nat → Option Int} {t : Stp} {row : List Kd} {c : Case} {ms : List Int}
theorem LH.less {add : List Lk} (h : LH A B (lk ++ add)) : LH A B lk := fun x hx => h x (List.mem_append_left _ hx)
end
end Dm
-- text HmSm2
set_option maxHeartbeats 1000000
namespace Dm
open PySem L2
end Dm
-- text HmFr1
namespace Dm
open PySem L2
/-! ### cases that begin with given looks -/
end Dm
-- text HmFr2
set_option maxHeartbeats 1000000
namespace Dm
open PySem L2
section
variable {S : Sto} {zs : Zs} {m o : Int} {lk b lk0 : List Lk} {p k L w : Nat} {ts t1 t2 : List Stp} {vs : List Int} {ms : List Int} {c : Case} {now : Nat → Option Int}
/-! ### how many, how great -/
/-! ### without editions there is no edition to come to -/
/-! ### two ends that are unlike -/
def lastV (vs : List Int) : Int := vs.getLastD 0
end
end Dm
-- text HmFr3
set_option maxHeartbeats 1000000
namespace Dm
open PySem L2
end Dm
-- text HmSm3
set_option maxHeartbeats 1000000
namespace Dm
open PySem L2
/-! ### rows of offsets at the moments of a stretch, and tables -/
def rowsF (os : List Int) (s : Int) : Nat → List (List Int × Int)
  | 0 => os.map fun o => ([o], 0 - s)
  | n + 1 => (rowsF os s n).flatMap fun x => (x.1 ++ [lastV x.1], x.2) :: (if s ≤ ((n + 1 : Nat) : Int) - x.2 then (os.filter fun o => !(o == lastV x.1)).map fun o => (x.1 ++ [o], ((n + 1 : Nat) : Int)) else [])
end Dm
-- text HmSm4
set_option maxHeartbeats 1000000
namespace Dm
open PySem L2
section
variable {S : Sto} {os : List Int} {s low : Int} {n k : Nat} {T : Tb}
def rwD (x : List Int × Int) : D := .tup [.lst (x.1.map .int), .int x.2]
def RwAt (S : Sto) (os : List Int) (s : Int) (k : Nat) (d : D) : Prop := d = .lst ((rowsF os s k).map rwD) ∨ ∃ c, d = .cell c ∧ S[c]? = some (.lst ((rowsF os s k).map rwD))
theorem RwAt.seq {d : D} (h : RwAt S os s k d) : seqOf S d = some ((rowsF os s k).map rwD) := by
  rcases h with rfl | ⟨c, rfl, h⟩
  · rfl
  · exact seqOf_cell h
end
end Dm
-- text HmSm5
namespace Dm
open PySem L2
section
variable {S : Sto} {zs : Zs} {ts : List Stp} {p n : Nat}
/-! ### the reach of a program, walked -/
def f4 (t : Stp) (x : Int × Int) : Int × Int := match t with
  | .add _ m => (x.1 + m, x.2 + m)
  | _ => x
def f5 (t : Stp) (x : Int × Int) : Int × Int := match t with
  | .offset _ _ => (0, 0)
  | _ => x
def f6 (top : Int) (t : Stp) (x : Int × Int) : Int × Int := match t with
  | .find _ _ _ _ => (x.1 - top, x.2)
  | .less _ _ => (x.1 - top, x.2)
  | _ => x
def f7 (top : Int) (t : Stp) (x : Int × Int) : Int × Int := match t with
  | .read _ _ => (x.1, x.2 + top)
  | .plus _ _ => (x.1, x.2 + top)
  | .offset _ _ => (x.1, x.2 + top)
  | _ => x
end
end Dm
-- text HmSm6
namespace Dm
open PySem L2
end Dm
-- text HmSm7
namespace Dm
open PySem L2
end Dm
-- text HmSm8
namespace Dm
open PySem L2
section
variable {S : Sto} {zs : Zs} {n k : Nat}
/-! ### the pairs of rows -/
abbrev RwP := List (List Int) × List (List Int)
def rwL (r : List Int) : D := .lst (r.map .int)
def prR (x : RwP) : D := .tup [.lst (x.1.map rwL), .lst (x.2.map rwL)]
def PrAt (S : Sto) (ps : List RwP) (d : D) : Prop := d = .lst (ps.map prR) ∨ ∃ c, d = .cell c ∧ S[c]? = some (.lst (ps.map prR))
theorem PrAt.seq {ps : List RwP} {d : D} (h : PrAt S ps d) : seqOf S d = some (ps.map prR) := by
  rcases h with rfl | ⟨c, rfl, h⟩
  · rfl
  · exact seqOf_cell h
theorem PrAt.len {ps : List RwP} {d : D} (h : PrAt S ps d) : gLen S [d] = some (.int (ps.length : Nat)) := by
  rcases h with rfl | ⟨c, rfl, h⟩
  · simp
  · rw [gLen_cell h, List.length_map]
end
end Dm
-- text HmSm9
namespace Dm
open PySem L2
end Dm
-- text HmSm10
namespace Dm
open PySem L2
end Dm
-- text HmSm11
namespace Dm
open PySem L2
end Dm
-- text HmSm12
namespace Dm
open PySem L2
end Dm
-- text HmSm13
set_option maxHeartbeats 1000000
namespace Dm
open PySem L2
section
variable {S : Sto} {zs : Zs} {ts : List Stp} {p n k : Nat}
/-! ### small zones drawn -/
theorem ix_four {a b c d : D} {r : Int} (h0 : 0 ≤ r) (h1 : r < 4) : ∃ x, gIx S (.lst [a, b, c, d]) (.int r) = some x ∧ (x = a ∨ x = b ∨ x = c ∨ x = d) := by
  have : r = 0 ∨ r = 1 ∨ r = 2 ∨ r = 3 := by omega
  rcases this with rfl | rfl | rfl | rfl <;> refine ⟨_, rfl, ?_⟩ <;> simp
end
end Dm
-- text HmSm14
set_option maxHeartbeats 1000000
namespace Dm
open PySem L2
end Dm
-- text M_k42
set_option maxHeartbeats 1000000
namespace Dm
open PySem L2
section
variable {S : Sto} {zs : Zs} {ts : List Stp} {p n k a b : Nat} {w : Wsh}
theorem ix_seven {a b c d e f g : D} {r : Int} (h0 : 0 ≤ r) (h1 : r < 7) : ∃ x, gIx S (.lst [a, b, c, d, e, f, g]) (.int r) = some x ∧ (x = a ∨ x = b ∨ x = c ∨ x = d ∨ x = e ∨ x = f ∨ x = g) := by
  have : r = 0 ∨ r = 1 ∨ r = 2 ∨ r = 3 ∨ r = 4 ∨ r = 5 ∨ r = 6 := by omega
  rcases this with rfl | rfl | rfl | rfl | rfl | rfl | rfl <;> refine ⟨_, rfl, ?_⟩ <;> simp
theorem draw_want_does {Q : D → Sto → Prop} (hp : Bag p (n + 6) S) (hl : ts.length ≤ 60) (q : ∀ (w : Wsh) S', Bag p n S' → GoB p S S' → w.OK (kindsFrom [.mom] ts) → Q w.d S') : (m_law_draw_want [.cell p, .lst (hoursD ts)] S).Does Q := by
  obtain ⟨l1, l2⟩ := hoursD_len (ts := ts) hl
  refine does_def rfl ?_
  refine seq_cut (fun ρ S' => ∃ x : Str, (x = "found" ∨ x = "same" ∨ x = "order" ∨ x = "near") ∧ ρ = [some (.cell p), some (.lst (hoursD ts)), some (.str x), none, none] ∧ Bag p (n + 5) S' ∧ GoB p S S') (fun M hM => ?_) ?_
  · simp
    refine pick2_does (n := n + 5) hp (by decide) (by decide) fun r S1 b1 g1 r0 r1 => ?_
    obtain ⟨x, e, hx⟩ := ix_four (S := S1) (a := .str "found") (b := .str "same") (c := .str "order") (d := .str "near") r0 r1
    simp [e]
    rcases hx with rfl | rfl | rfl | rfl
    · exact hM _ _ ⟨_, .inl rfl, rfl, b1, g1⟩
    · exact hM _ _ ⟨_, .inr (.inl rfl), rfl, b1, g1⟩
    · exact hM _ _ ⟨_, .inr (.inr (.inl rfl)), rfl, b1, g1⟩
    · exact hM _ _ ⟨_, .inr (.inr (.inr rfl)), rfl, b1, g1⟩
  rintro ρ S1 ⟨x, hx, rfl, b1, g1⟩
  refine seq_cut (fun ρ S' => S1 = S' ∧ x ≠ "found" ∧ ρ = [some (.cell p), some (.lst (hoursD ts)), some (.str x), none, none]) (fun M hM => ?_) ?_
  · rcases hx with rfl | rfl | rfl | rfl
    · have := q .found S1 (b1.mono (by omega)) g1 trivial
      simpa (decide := true) [Wsh.d] using this
    · have := hM _ _ ⟨rfl, by decide, rfl⟩
      simpa (decide := true) using this
    · have := hM _ _ ⟨rfl, by decide, rfl⟩
      simpa (decide := true) using this
    · have := hM _ _ ⟨rfl, by decide, rfl⟩
      simpa (decide := true) using this
  rintro ρ _ ⟨rfl, hne, rfl⟩
  refine seq_cut (fun ρ S' => ∃ i j : Nat, HourI (kindsFrom [.mom] ts) i ∧ HourI (kindsFrom [.mom] ts) j ∧ ρ = [some (.cell p), some (.lst (hoursD ts)), some (.str x), some (.tup [.str x, .int (i : Nat), .int (j : Nat)]), none] ∧ Bag p (n + 3) S' ∧ GoB p S S') (fun M hM => ?_) ?_
  · simp
    refine pick_hour (n := n + 4) b1 hl fun v i S2 b2 g2 hi ai => ?_
    simp [ai]
    refine pick_hour (n := n + 3) b2 hl fun v' j S3 b3 g3 hj aj => ?_
    simp [aj]
    exact hM _ _ ⟨i, j, hi, hj, rfl, b3, g1.trans (g2.trans g3)⟩
  rintro ρ S2 ⟨i, j, hi, hj, rfl, b2, g2⟩
  refine seq_cut (fun ρ S' => S2 = S' ∧ x = "near" ∧ ρ = [some (.cell p), some (.lst (hoursD ts)), some (.str x), some (.tup [.str x, .int (i : Nat), .int (j : Nat)]), none]) (fun M hM => ?_) ?_
  · rcases hx with rfl | rfl | rfl | rfl
    · exact absurd rfl hne
    · have := q (.same i j) S2 (b2.mono (by omega)) g2 ⟨hi, hj⟩
      simpa (decide := true) [Wsh.d] using this
    · have := q (.order i j) S2 (b2.mono (by omega)) g2 ⟨hi, hj⟩
      simpa (decide := true) [Wsh.d] using this
    · have := hM _ _ ⟨rfl, rfl, rfl⟩
      simpa (decide := true) using this
  rintro ρ _ ⟨rfl, rfl, rfl⟩
  simp
  refine pick2_does (n := n + 2) b2 (by decide) (by decide) fun u S3 b3 g3 u0 u1 => ?_
  refine pick2_does (n := n + 1) b3 (by decide) (by decide) fun v S4 b4 g4 v0 v1 => ?_
  refine pick2_does (n := n) b4 (by decide) (by decide) fun r S5 b5 g5 r0 r1 => ?_
  have fin : ∀ w : Int, 0 ≤ w → w ≤ 1000000 → Q (.tup [.str "near", .int (i : Nat), .int (j : Nat), .int w]) S5 := fun w h0 h1 => q (.near i j w) S5 b5 (g2.trans (g3.trans (g4.trans g5))) ⟨hi, hj, h0, h1⟩
  obtain ⟨x, e, hx⟩ := ix_seven (S := S5) (a := .int 0) (b := .int 1) (c := .int 1000000) (d := .int 60) (e := .int u) (f := .int v) (g := .int 1801) r0 r1
  simp [e]
  rcases hx with rfl | rfl | rfl | rfl | rfl | rfl | rfl
  · exact fin 0 (by omega) (by omega)
  · exact fin 1 (by omega) (by omega)
  · exact fin 1000000 (by omega) (by omega)
  · exact fin 60 (by omega) (by omega)
  · exact fin u (by omega) (by omega)
  · exact fin v (by omega) (by omega)
  · exact fin 1801 (by omega) (by omega)
end
end Dm
-- text HmMs1
set_option maxHeartbeats 1000000
namespace Dm
open PySem L2
/-! ### a step drawn (k73 to k77) -/
end Dm
-- text HmMs2
set_option maxHeartbeats 1000000
namespace Dm
open PySem L2
end Dm
-- text M_k30
namespace Dm
open PySem L2
end Dm
-- text HmMs3
set_option maxHeartbeats 1000000
namespace Dm
open PySem L2
/-! ### a program drawn (k73 to k77) -/
end Dm
-- text HmUp1
set_option maxHeartbeats 1000000
namespace Dm
open PySem L2
/-! ### all offsets moved by a number (k78; plain) -/
def kb (b : Int) (k : Kd) : Int := if k = .mom then 0 else b
end Dm
-- text HmMs4
set_option maxHeartbeats 1000000
namespace Dm
open PySem L2
/-! ### a run caught (k73 to k77) -/
/-- what a run is told as -/
def FinS (S : Sto) (d : D) : Fin → Prop
  | .done vs => vs.length ≤ 9 ∧ ∃ n, d = .tup [.str "values", .cell n] ∧ S[n]? = some (.lst (vs.map .int))
  | .refused _ k => d = .tup [.str "refused", .int k]
  | .unsuited => d = .tup [.str "unsuited", .bl true]
section
variable {S : Sto} {zs : Zs} {tb later : List Tb} {ts : List Stp} {p : Nat} {os : List Int} {s : Int}
theorem FinS.eqv {d e : D} {f : Fin} (h : FinS S d f) (h' : FinS S e f) : Eqv S 29 d e := by
  cases f with
  | done vs =>
    obtain ⟨hl, n, rfl, h⟩ := h
    obtain ⟨_, n', rfl, h'⟩ := h'
    refine .tup rfl (by simp) ?_
    intro i d e hd he
    match i with
    | 0 => cases hd; cases he; exact .str
    | 1 =>
      cases hd; cases he
      refine .lst (ds := vs.map .int) (es := vs.map .int) ?_ ?_ rfl (by simp; omega) ?_
      · simp [lstOf, h]
      · simp [lstOf, h']
      · intro j d e hd he
        rw [hd] at he
        cases he
        rw [List.getElem?_map] at hd
        cases e0 : vs[j]? with
        | none => rw [e0] at hd; cases hd
        | some v => rw [e0] at hd; cases hd; exact .int
    | i + 2 => cases hd
  | refused vs k =>
    subst h h'
    refine .tup rfl (by simp) ?_
    intro i d e hd he
    match i with
    | 0 => cases hd; cases he; exact .str
    | 1 => cases hd; cases he; exact .int
    | i + 2 => cases hd
  | unsuited =>
    subst h h'
    refine .tup rfl (by simp) ?_
    intro i d e hd he
    match i with
    | 0 => cases hd; cases he; exact .str
    | 1 => cases hd; cases he; exact .bl
    | i + 2 => cases hd
/-! ### tables unlike ahead of a moment -/
/-! ### tables drawn near a start -/
end
end Dm
-- text HmMs5
set_option maxHeartbeats 1000000
namespace Dm
open PySem L2
/-! ### a run step by step (k77) -/
end Dm
-- text HmUp2
set_option maxHeartbeats 1000000
namespace Dm
open PySem L2
end Dm
-- text HmUp3
set_option maxHeartbeats 1000000
namespace Dm
open PySem L2
end Dm
-- text HmTx1
set_option maxHeartbeats 1000000
namespace Dm
open PySem L2
/-! ### programs and wishes as texts -/
def strP : D → Str
  | .int i => toString i
  | .str x => x
  | _ => ""
def PartOK (d : D) : Prop := (∃ i : Int, d = .int i ∧ i.natAbs < 100000000000000) ∨ ∃ x : Str, d = .str x ∧ x.length ≤ 20
def partsD : D → List D
  | .tup ds => ds
  | _ => []
def wishTx (w : Wsh) : Str := Txt.join " " ((partsD w.d).map strP)
section
variable {S : Sto} {zs : Zs} {ts : List Stp} {t : Stp} {w : Wsh} {ds : List D} {d : D} {row : List Kd} {n p nz : Nat}
theorem strP_len (h : PartOK d) : (strP d).length ≤ 20 := by
  rcases h with ⟨i, rfl, hi⟩ | ⟨x, rfl, hx⟩
  · have := int_short hi
    have e : PyData.shown (.int i) = (toString i : Str) := by simp [PyData.shown]
    rw [e] at this
    show (toString i : Str).length ≤ 20
    omega
  · exact hx
theorem strS_of (h : PartOK d) : gStrS S [d] = some (.str (strP d)) := by
  rcases h with ⟨i, rfl, hi⟩ | ⟨x, rfl, hx⟩
  · have h1 : i.natAbs < 2 ^ 60 := by omega
    have := log2_le h1
    rw [gStrS_int (by omega)]; rfl
  · rfl
theorem sum_len {ys : List Str} {m : Nat} (h : ∀ y, y ∈ ys → y.length ≤ m) : (ys.map (·.length)).sum ≤ ys.length * m := by
  induction ys with
  | nil => simp
  | cons y ys ih =>
    have h1 := h y (by simp)
    have h2 := ih fun x hx => h x (List.mem_cons_of_mem _ hx)
    rw [List.map_cons, List.sum_cons, List.length_cons, Nat.succ_mul]
    omega
theorem join_fit {a : Str} {ys : List Str} {m k : Nat} (h : ∀ y, y ∈ ys → y.length ≤ m) (hk : ys.length ≤ k) (hm : k * m + k * a.length ≤ 16777216) : joinFit a ys := by
  have h1 := sum_len h
  have h2 : ys.length * m ≤ k * m := Nat.mul_le_mul_right _ hk
  have h3 : ys.length * a.length ≤ k * a.length := Nat.mul_le_mul_right _ hk
  unfold joinFit
  omega
theorem join_len {a : Str} {ys : List Str} {m k : Nat} (h : ∀ y, y ∈ ys → y.length ≤ m) (hk : ys.length ≤ k) : (Txt.join a ys).length ≤ k * m + k * a.length := by
  have h0 := StrLaws.join_length_le a ys
  have h1 := sum_len h
  have h2 : ys.length * m ≤ k * m := Nat.mul_le_mul_right _ hk
  have h3 : ys.length * a.length ≤ k * a.length := Nat.mul_le_mul_right _ hk
  show (PySem.Builtin.Str.glued a ys).length ≤ _
  rw [StrLaws.glued_eq_join]
  omega
theorem sub_list (hd : ∀ d, d ∈ ds → PartOK d) : ∃ ps : List {d // PartOK d}, ds = ps.map Subtype.val := ⟨ds.attachWith PartOK hd, by simp⟩
theorem kd_ix {i : Nat} {k : Kd} (h : row[i]? = some k) (hl : row.length ≤ 60) : i < 60 := by
  have := (List.getElem?_eq_some_iff.mp h).1
  omega
theorem nat_part {i : Nat} (h : i < 100) : PartOK (.int (i : Int)) := .inl ⟨_, rfl, by omega⟩
theorem str_part {x : Str} (h : x.length ≤ 20) : PartOK (.str x) := .inr ⟨_, rfl, h⟩
theorem hour_ix {a : Nat} (h : HourI row a) (hl : row.length ≤ 60) : a < 60 := by
  obtain ⟨k, hk, _⟩ := h
  exact kd_ix hk hl
theorem wsh_parts (ok : w.OK row) (hl : row.length ≤ 60) : ∃ ds, w.d = .tup ds ∧ ds.length ≤ 10 ∧ ∀ d, d ∈ ds → PartOK d := by
  cases w with
  | found =>
    refine ⟨_, rfl, (show 1 ≤ 10 by decide), fun d hd => ?_⟩
    simp at hd
    subst hd
    exact str_part (by decide)
  | same a b =>
    have h1 := hour_ix ok.1 hl
    have h2 := hour_ix ok.2 hl
    refine ⟨_, rfl, (show 3 ≤ 10 by decide), fun d hd => ?_⟩
    simp at hd
    rcases hd with rfl | rfl | rfl
    · exact str_part (by decide)
    · exact nat_part (by omega)
    · exact nat_part (by omega)
  | order a b =>
    have h1 := hour_ix ok.1 hl
    have h2 := hour_ix ok.2 hl
    refine ⟨_, rfl, (show 3 ≤ 10 by decide), fun d hd => ?_⟩
    simp at hd
    rcases hd with rfl | rfl | rfl
    · exact str_part (by decide)
    · exact nat_part (by omega)
    · exact nat_part (by omega)
  | near a b x =>
    have h1 := hour_ix ok.1 hl
    have h2 := hour_ix ok.2.1 hl
    have h3 := ok.2.2
    refine ⟨_, rfl, (show 4 ≤ 10 by decide), fun d hd => ?_⟩
    simp at hd
    rcases hd with rfl | rfl | rfl | rfl
    · exact str_part (by decide)
    · exact nat_part (by omega)
    · exact nat_part (by omega)
    · exact .inl ⟨_, rfl, by omega⟩
end
end Dm
-- text HmTx2
set_option maxHeartbeats 1000000
namespace Dm
open PySem L2 PySem.Builtin PySem.Builtin.Str PySem.StrLaws
/-! ### split is join turned back -/
def chs (x : Str) : List Nat := x.cps.toList
theorem chs_len (x : Str) : (chs x).length = x.length := by simp [chs, Str.length]
theorem chs_inj {x y : Str} (h : chs x = chs y) : x = y := Str.ext' (Array.toList_inj.mp h)
def sepS (c : Nat) : Str := ⟨#[c]⟩
def hitB (x : Str) (c i : Nat) : Bool := decide ((chs x)[i]? = some c)
theorem occ_run (x : Str) (c : Nat) : ∀ (m a : Nat) (F : Array Nat) (fr : Nat), a + m ≤ x.length + 1 → fr ≤ a → F.size ≤ a →
    (forIn (List.range' a m) (F, fr) (occBody x (sepS c) x.length (x.length + 1))).run.fst.toList = F.toList ++ (List.range' a m).filter (hitB x c)
  | 0, a, F, fr, _, _, _ => by
    show F.toList = F.toList ++ []
    rw [List.append_nil]
  | m + 1, a, F, fr, h1, h2, h3 => by
    rw [List.range'_succ, List.forIn_cons, List.filter_cons]
    unfold occBody
    have e1 : (sepS c).length = 1 := rfl
    by_cases hc : (chs x)[a]? = some c
    · have hl : a < x.length := by rw [← chs_len]; exact (List.getElem?_eq_some_iff.mp hc).1
      have hs : subAt x (sepS c) a = true := ((subAt_one x c a).mpr hc).2
      rw [if_pos ⟨⟨⟨by show F.size < x.length + 1; omega, h2⟩, by rw [e1]; omega⟩, hs⟩]
      have hb : hitB x c a = true := decide_eq_true hc
      rw [if_pos hb]
      show (forIn (List.range' (a + 1) m) (F.push a, a + (sepS c).length) (occBody x (sepS c) x.length (x.length + 1))).run.fst.toList = _
      rw [occ_run x c m (a + 1) _ _ (by omega) (by rw [e1]; omega) (by rw [Array.size_push]; omega)]
      simp
    · rw [if_neg (fun q => hc ((subAt_one x c a).mp ⟨q.1.2, q.2⟩))]
      have hb : ¬ hitB x c a = true := fun q => hc (of_decide_eq_true q)
      rw [if_neg hb]
      show (forIn (List.range' (a + 1) m) (F, fr) (occBody x (sepS c) x.length (x.length + 1))).run.fst.toList = _
      exact occ_run x c m (a + 1) F fr (by omega) (by omega) (by omega)
theorem occ_filter (x : Str) (c : Nat) : occurrences x (sepS c) 0 x.length (x.length + 1) = (List.range' 0 (x.length + 1)).filter (hitB x c) := by
  rw [occ_eq]
  have := occ_run x c (x.length + 1) 0 #[] 0 (by omega) (by omega) (by simp)
  simpa using this
theorem sub_no {x : Str} {c a b : Nat} (h : ∀ i, a ≤ i → i < b → (chs x)[i]? ≠ some c) : c ∉ chs (strSub x a b) := by
  intro hm
  unfold chs at hm
  rw [strSub_toList] at hm
  obtain ⟨j, hj⟩ := List.mem_iff_getElem?.mp hm
  rw [List.getElem?_take] at hj
  split at hj
  · next hlt =>
    rw [List.getElem?_drop] at hj
    exact h (a + j) (by omega) (by omega) hj
  · cases hj
theorem parts_no (x : Str) (c : Nat) : ∀ (m a b : Nat), a + m = x.length + 1 → b ≤ a → (∀ i, b ≤ i → i < a → (chs x)[i]? ≠ some c) → ∀ p ∈ partsFrom x 1 b ((List.range' a m).filter (hitB x c)), c ∉ chs p
  | 0, a, b, h1, h2, h3, p, hp => by
    have hp : p ∈ [strSub x b x.length] := hp
    rw [List.mem_singleton.mp hp]
    exact sub_no fun i hi1 hi2 => h3 i hi1 (by omega)
  | m + 1, a, b, h1, h2, h3, p, hp => by
    rw [List.range'_succ, List.filter_cons] at hp
    by_cases hc : (chs x)[a]? = some c
    · have hb : hitB x c a = true := decide_eq_true hc
      rw [if_pos hb] at hp
      rcases List.mem_cons.mp hp with rfl | hp
      · exact sub_no h3
      · exact parts_no x c m (a + 1) (a + 1) (by omega) (Nat.le_refl _) (fun i hi1 hi2 => by omega) p hp
    · have hb : ¬ hitB x c a = true := fun q => hc (of_decide_eq_true q)
      rw [if_neg hb] at hp
      refine parts_no x c m (a + 1) b (by omega) (by omega) (fun i hi1 hi2 => ?_) p hp
      by_cases e : i = a
      · rw [e]; exact hc
      · exact h3 i hi1 (by omega)
theorem split_no (x : Str) {c : Nat} (hc : c < 256) : (∀ p ∈ Txt.split x (sepS c), c ∉ chs p) ∧ Txt.split x (sepS c) ≠ [] := by
  unfold Txt.split
  have e1 : (sepS c).length = 1 := rfl
  have k1 : PySem.Builtin.Str.strKind (sepS c) = 1 := by
    unfold PySem.Builtin.Str.strKind
    rw [if_pos]
    simp [sepS, hc]
  have k2 : 1 ≤ PySem.Builtin.Str.strKind x := by
    unfold PySem.Builtin.Str.strKind
    split
    · exact Nat.le_refl _
    · split <;> omega
  split
  · next h =>
    rw [Bool.or_eq_true, decide_eq_true_eq, decide_eq_true_eq] at h
    refine ⟨fun p hp => ?_, by simp⟩
    rw [List.mem_singleton.mp hp]
    have hl : x.length = 0 := by omega
    have : chs x = [] := List.length_eq_zero_iff.mp (by rw [chs_len]; exact hl)
    rw [this]; simp
  · split
    · next h =>
      refine ⟨fun p hp => ?_, by simp⟩
      rw [List.mem_singleton.mp hp]
      rw [occ_filter] at h
      intro hm
      obtain ⟨i, hi⟩ := List.mem_iff_getElem?.mp hm
      have hil := (List.getElem?_eq_some_iff.mp hi).1
      rw [chs_len] at hil
      have hmem : i ∈ (List.range' 0 (x.length + 1)).filter (hitB x c) := List.mem_filter.mpr ⟨List.mem_range'.mpr ⟨i, by omega, by omega⟩, decide_eq_true hi⟩
      rw [List.isEmpty_iff.mp h] at hmem
      exact nomatch hmem
    · rw [partsBetween_eq, occ_filter, e1]
      refine ⟨parts_no x c _ 0 0 (by omega) (Nat.le_refl _) (fun i _ h => by omega), ?_⟩
      obtain ⟨p, r, e⟩ := partsFrom_ne x 1 0 ((List.range' 0 (x.length + 1)).filter (hitB x c))
      rw [e]; simp
/-- joined signs -/
def jl (c : Nat) : List (List Nat) → List Nat
  | [] => []
  | [p] => p
  | p :: q :: r => p ++ c :: jl c (q :: r)
theorem join_jl (c : Nat) : ∀ ps : List Str, chs (Str.join (sepS c) ps) = jl c (ps.map chs)
  | [] => rfl
  | [p] => rfl
  | p :: q :: r => by
    have ih := join_jl c (q :: r)
    show chs (p ++ sepS c ++ Str.join (sepS c) (q :: r)) = chs p ++ c :: jl c ((q :: r).map chs)
    rw [← ih]
    unfold chs
    simp only [Str.cps_append, Array.toList_append]
    show p.cps.toList ++ [c] ++ _ = _
    rw [List.append_assoc]; rfl
theorem first_cut {c : Nat} : ∀ {p w A B : List Nat}, p ++ c :: A = w ++ c :: B → c ∉ p → c ∉ w → p = w ∧ A = B
  | [], [], A, B, h, _, _ => ⟨rfl, by simpa using h⟩
  | [], b :: w, A, B, h, _, hw => by
    simp at h
    exact absurd (List.mem_cons.mpr (.inl h.1)) hw
  | a :: p, [], A, B, h, hp, _ => by
    simp at h
    exact absurd (List.mem_cons.mpr (.inl h.1.symm)) hp
  | a :: p, b :: w, A, B, h, hp, hw => by
    simp at h
    obtain ⟨e1, e2⟩ := first_cut h.2 (fun z => hp (List.mem_cons_of_mem _ z)) fun z => hw (List.mem_cons_of_mem _ z)
    exact ⟨by rw [h.1, e1], e2⟩
theorem jl_inj {c : Nat} : ∀ {ps ws : List (List Nat)}, ps ≠ [] → ws ≠ [] → (∀ p ∈ ps, c ∉ p) → (∀ w ∈ ws, c ∉ w) → jl c ps = jl c ws → ps = ws
  | [], _, h, _, _, _, _ => absurd rfl h
  | _, [], _, h, _, _, _ => absurd rfl h
  | [p], [w], _, _, _, _, h => by
    have : p = w := h
    rw [this]
  | [p], w :: w2 :: r, _, _, hp, _, h => by
    have h : p = w ++ c :: jl c (w2 :: r) := h
    exact absurd (by rw [h]; simp) (hp p (by simp))
  | p :: p2 :: r, [w], _, _, _, hw, h => by
    have h : p ++ c :: jl c (p2 :: r) = w := h
    exact absurd (by rw [← h]; simp) (hw w (by simp))
  | p :: p2 :: r, w :: w2 :: s, _, _, hp, hw, h => by
    have h : p ++ c :: jl c (p2 :: r) = w ++ c :: jl c (w2 :: s) := h
    obtain ⟨e1, e2⟩ := first_cut h (hp p (by simp)) (hw w (by simp))
    rw [e1, jl_inj (by simp) (by simp) (fun q hq => hp q (List.mem_cons_of_mem _ hq)) (fun q hq => hw q (List.mem_cons_of_mem _ hq)) e2]
theorem txt_join (a : Str) (ys : List Str) : Txt.join a ys = Str.join a ys := glued_eq_join a ys
theorem split_join {c : Nat} (hc : c < 256) {ws : List Str} (hne : ws ≠ []) (hw : ∀ w ∈ ws, c ∉ chs w) : Txt.split (Txt.join (sepS c) ws) (sepS c) = ws := by
  obtain ⟨h1, h2⟩ := split_no (Txt.join (sepS c) ws) hc
  have h3 := join_split (Txt.join (sepS c) ws) (sepS c)
  have h4 : jl c ((Txt.split (Txt.join (sepS c) ws) (sepS c)).map chs) = jl c (ws.map chs) := by
    rw [← join_jl, ← join_jl, h3, txt_join]
  have h5 := jl_inj (by simpa using h2) (by simpa using hne) (fun p hp => by
    obtain ⟨q, hq, rfl⟩ := List.mem_map.mp hp
    exact h1 q hq) (fun p hp => by
    obtain ⟨q, hq, rfl⟩ := List.mem_map.mp hp
    exact hw q hq) h4
  refine List.map_inj_right (f := chs) (fun x y h => chs_inj h) |>.mp h5
end Dm
-- text HmTx3
set_option maxHeartbeats 1000000
namespace Dm
open PySem L2 PySem.Builtin PySem.Builtin.Str PySem.StrLaws
open PySem.W.KIN (signs_num num_reads val_back)
open PySem.NumText
/-! ### numbers as texts, read -/
def digs (m : Nat) : List Nat := (Nat.toDigits 10 m).map Char.toNat
theorem digs_all (m : Nat) : AllDigits (digs m) := by
  intro c hc
  obtain ⟨ch, hch, e⟩ := List.mem_map.mp hc
  have r := PyProof.Rows.digit_range (Nat.isDigit_of_mem_toDigits (by decide) (by decide) hch)
  rw [← e]
  exact r
theorem digs_lt {m : Nat} (h : m < 10) : digs m = [48 + m] := by
  unfold digs
  rw [Nat.toDigits_of_lt_base h]
  show [(Nat.digitChar m).toNat] = _
  have : ∀ d : Nat, d < 10 → (Nat.digitChar d).toNat = 48 + d := by decide
  rw [this m h]
theorem digs_step {m : Nat} (h : ¬ m < 10) : digs m = digs (m / 10) ++ digs (m % 10) := by
  have hm : m % 10 < 10 := Nat.mod_lt m (by decide)
  have t : Nat.toDigits 10 (m / 10) ++ Nat.toDigits 10 (m % 10) = Nat.toDigits 10 (10 * (m / 10) + m % 10) := Nat.toDigits_append_toDigits (by decide) (by omega) hm
  rw [Nat.div_add_mod] at t
  unfold digs
  rw [← t, List.map_append]
theorem digs_ne (m : Nat) : digs m ≠ [] := by
  by_cases h : m < 10
  · rw [digs_lt h]; simp
  · have hm : m % 10 < 10 := Nat.mod_lt m (by decide)
    rw [digs_step h, digs_lt hm]; simp
theorem digs_head : ∀ m : Nat, 1 ≤ m → ∃ c r, digs m = c :: r ∧ c ≠ 48 := by
  intro m
  induction m using Nat.strongRecOn with
  | _ m ih =>
    intro h1
    by_cases h : m < 10
    · exact ⟨48 + m, [], digs_lt h, by omega⟩
    · obtain ⟨c, r, e, hc⟩ := ih (m / 10) (by omega) (by omega)
      rw [digs_step h, e]
      exact ⟨c, r ++ digs (m % 10), rfl, hc⟩
theorem digs_len : ∀ (k m : Nat), m < 10 ^ (k + 1) → (digs m).length ≤ k + 1
  | 0, m, h => by rw [digs_lt (by simpa using h)]; simp
  | k + 1, m, h => by
    by_cases h10 : m < 10
    · rw [digs_lt h10]; simp
    · have hm : m % 10 < 10 := Nat.mod_lt m (by decide)
      have hd : m / 10 < 10 ^ (k + 1) := by
        rw [Nat.pow_succ] at h
        exact Nat.div_lt_of_lt_mul (by omega)
      have ih := digs_len k (m / 10) hd
      rw [digs_step h10, digs_lt hm, List.length_append]
      simp
      omega
theorem chs_nat (m : Nat) : chs (toString ((m : Nat) : Int) : Str) = digs m := signs_num m
theorem chs_neg (m : Nat) : chs (toString (-(((m + 1 : Nat) : Int))) : Str) = 45 :: digs (m + 1) := by
  unfold chs
  have e : toString (-(((m + 1 : Nat) : Int))) = "-" ++ Nat.repr (m + 1) := rfl
  show (PySem.Str.ofString (toString (-(((m + 1 : Nat) : Int))))).cps.toList = _
  rw [e, PyProof.Rows.signs_ofString, String.toList_append, List.map_append, Nat.toList_repr]
  rfl
theorem isdig_of {x : Str} {m : Nat} (h : chs x = digs m) : Txt.isdigit x = true := by
  have hd : ∀ c, c ∈ List.range' 48 10 → Unicode.isDigit c = true := by decide +kernel
  unfold Txt.isdigit
  have hl : 0 < x.length := by
    rw [← chs_len, h]
    exact List.length_pos_iff.mpr (digs_ne m)
  rw [Bool.and_eq_true, decide_eq_true_eq]
  refine ⟨hl, ?_⟩
  rw [← Array.all_toList, List.all_eq_true]
  intro c hc
  have hc2 : c ∈ digs m := by rw [← h]; exact hc
  have := digs_all m c hc2
  exact hd c (List.mem_range'.mpr ⟨c - 48, by omega, by omega⟩)
section
variable {S : Sto}
theorem str_ne {x y : Str} (h : chs x ≠ chs y) : (x == y) = false := by
  have : x ≠ y := fun e => h (by rw [e])
  simpa using this
theorem str_ix {x : Str} {c : Nat} {r : List Nat} (h : chs x = c :: r) (hl : x.length ≤ 16777216) : gIx S (.str x) (.int 0) = some (.str (sepS c)) := by
  show (if x.length ≤ 16777216 then (atI x.cps.toList 0).map fun c => D.str ⟨#[c]⟩ else none) = _
  rw [if_pos hl]
  have : x.cps.toList = c :: r := h
  rw [this, atI_zero]; rfl
theorem number_ok {i : Int} (hi : i.natAbs < 10000000) : m_number_of [.str (toString i : Str), .int 7] S = .ok (.int i) S := by
  have zr : chs ("0" : Str) = [48] := by decide +kernel
  have mz : chs ("-0" : Str) = [45, 48] := by decide +kernel
  have sep : ("-" : Str) = sepS 45 := by decide +kernel
  -- digits y of the number m, x the word
  have main : ∀ (x y : Str) (m : Nat), m = i.natAbs → chs y = digs m → Txt.removeprefix x (sepS 45) = y → x.length ≤ 640 → (x == ("-0" : Str)) = false → intText? x = some i → m_number_of [.str x, .int 7] S = .ok (.int i) S := by
    intro x y m hm hy hr hlx hx0 hit
    have hly : y.length ≤ 7 := by
      rw [← chs_len, hy]
      exact digs_len 6 m (by omega)
    have hd := isdig_of hy
    refine pure_of fun Q q => ?_
    refine does_def rfl ?_
    refine seq_cut (fun ρ S' => S = S' ∧ ρ = [some (.str x), some (.int 7), some (.str y)]) (fun M hM => ?_) ?_
    · have h16 : x.length ≤ sizeLine := by rw [sizeLine_eq]; omega
      simp [sep, hr, h16]
      exact hM _ _ ⟨rfl, rfl⟩
    rintro ρ _ ⟨rfl, rfl⟩
    have gd : gIsDig S (.str y) = some (.bl true) := by simp [gIsDig, hd]
    have gl : gLen S [.str y] = some (.int y.length) := by simp [gLen]; omega
    refine seq_cut (fun ρ S' => S = S' ∧ ρ = [some (.str x), some (.int 7), some (.str y)]) (fun M hM => ?_) ?_
    · have : ¬ ((y.length : Int) > 7) := by omega
      simp [gd, gl, hx0, this]
      exact hM _ _ ⟨rfl, rfl⟩
    rintro ρ _ ⟨rfl, rfl⟩
    have gi : gIntS S [.str x] = some (.int i) := by
      show (if x.length ≤ 640 then (intText? x).map D.int else none) = _
      rw [if_pos hlx, hit]; rfl
    refine seq_cut (fun ρ S' => S = S' ∧ ρ = [some (.str x), some (.int 7), some (.str y)]) (fun M hM => ?_) ?_
    · obtain ⟨c, r, e⟩ : ∃ c r, digs m = c :: r := by
        cases e : digs m with
        | nil => exact absurd e (digs_ne m)
        | cons c r => exact ⟨c, r, rfl⟩
      have ix := str_ix (S := S) (hy.trans e) (by omega)
      have zs : ("0" : Str) = sepS 48 := by decide +kernel
      by_cases h0 : m = 0
      · have ey : y = "0" := chs_inj (by rw [hy, h0, zr]; exact digs_lt (by decide))
        have ix0 : gIx S (.str "0") (.int 0) = some (.str ("0" : Str)) := by
          rw [zs]
          exact str_ix (c := 48) (r := []) rfl (by decide)
        subst ey
        simp [ix0]
        exact hM _ _ ⟨rfl, rfl⟩
      · obtain ⟨c', r', e', hc⟩ := digs_head m (by omega)
        rw [e] at e'
        cases e'
        have hne : (sepS c == ("0" : Str)) = false := str_ne (by rw [zr]; intro h; exact hc (by simpa [chs, sepS] using h))
        have hne' : ¬ (sepS c = ("0" : Str)) := by simpa using hne
        simp [ix, hne']
        exact hM _ _ ⟨rfl, rfl⟩
    rintro ρ _ ⟨rfl, rfl⟩
    simp [gi]
    exact q
  by_cases h0 : 0 ≤ i
  · obtain ⟨m, rfl⟩ := Int.eq_ofNat_of_zero_le h0
    have hm : m < 10000000 := by omega
    have hc := chs_nat m
    have hl : (toString ((m : Nat) : Int) : Str).length ≤ 7 := by
      rw [← chs_len, hc]
      exact digs_len 6 m (by omega)
    have n45 : ∀ c ∈ digs m, c ≠ 45 := fun c h => by have := digs_all m c h; omega
    refine main _ (toString ((m : Nat) : Int) : Str) m (by omega) hc ?_ (by omega) ?_ (num_reads (by omega) (by omega))
    · unfold Txt.removeprefix
      have : ¬ subAt (toString ((m : Nat) : Int) : Str) (sepS 45) 0 = true := by
        intro h
        obtain ⟨c, r, e⟩ : ∃ c r, digs m = c :: r := by
          cases e : digs m with
          | nil => exact absurd e (digs_ne m)
          | cons c r => exact ⟨c, r, rfl⟩
        have h2 := (subAt_one (toString ((m : Nat) : Int) : Str) 45 0).mp ⟨by
          show 0 + 1 ≤ _
          rw [← chs_len, hc, e]
          simp, h⟩
        have h3 : (chs (toString ((m : Nat) : Int) : Str))[0]? = some 45 := h2
        rw [hc, e] at h3
        simp at h3
        exact n45 c (by rw [e]; simp) h3
      rw [if_neg this]; rfl
    · refine str_ne ?_
      rw [hc, mz]
      intro e
      exact n45 45 (by rw [e]; simp) rfl
  · obtain ⟨m, rfl⟩ : ∃ m : Nat, i = -(((m + 1 : Nat) : Int)) := ⟨i.natAbs - 1, by omega⟩
    have hm : m + 1 < 10000000 := by omega
    have hc := chs_neg m
    have hl8 : (toString (-(((m + 1 : Nat) : Int))) : Str).length ≤ 8 := by
      rw [← chs_len, hc, List.length_cons]
      have := digs_len 6 (m + 1) (by omega)
      omega
    generalize (toString (-(((m + 1 : Nat) : Int))) : Str) = x at hc hl8 ⊢
    have hlx : x.length = (digs (m + 1)).length + 1 := by rw [← chs_len, hc, List.length_cons]
    refine main x (strSub x 1 x.length) (m + 1) (by omega) ?_ ?_ (by omega) ?_ ?_
    · unfold chs at hc ⊢
      rw [strSub_toList, hc, List.drop_one, List.tail_cons]
      exact List.take_of_length_le (by omega)
    · unfold Txt.removeprefix
      have : subAt x (sepS 45) 0 = true := ((subAt_one x 45 0).mpr (by
        show (chs x)[0]? = some 45
        rw [hc]; rfl)).2
      rw [if_pos this]
      show (if (x.length - 1 == x.length) = true then x else strSub x 1 x.length) = _
      rw [if_neg (by simp; omega)]
    · refine str_ne ?_
      rw [hc, mz]
      intro e
      obtain ⟨c, r, e2, hc2⟩ := digs_head (m + 1) (by omega)
      rw [e2] at e
      simp at e
      exact hc2 e.1
    · have := intText_neg (x := x) (cs := digs (m + 1)) hc (digs_all _) (digs_ne _) (by omega)
      rw [this]
      have hv : digitsVal (digs (m + 1)) = m + 1 := val_back (m + 1)
      rw [hv]
end
end Dm
-- text HmPro1
namespace Dm
open PySem L2
/-- what can stand for a part of a step -/
inductive Pt where
  | knd (k : Kd) | pl | mn | pt | fo | ga
def Pt.s : Pt → Str
  | .knd k => k.s
  | .pl => "place"
  | .mn => "minutes"
  | .pt => "point"
  | .fo => "fold"
  | .ga => "gap"
def foB (s : Str) : Bool := ("early" : Str) == s || (("late" : Str) == s || ("refuse" : Str) == s)
def gaB (s : Str) : Bool := ("ahead" : Str) == s || (("behind" : Str) == s || ("refuse" : Str) == s)
def ptB (nz : Nat) (row : List Kd) : Pt → D → Bool
  | .knd k, .int i => decide (0 ≤ i) && decide (row[i.toNat]? = some k)
  | .pl, .int i => decide (0 ≤ i) && decide (i < nz)
  | .mn, .int i => decide (-100000 ≤ i) && decide (i ≤ 100000)
  | .pt, .int i => decide (0 ≤ i) && (decide (row[i.toNat]? = some .mom) || decide (row[i.toNat]? = some .rdg))
  | .fo, .str s => foB s
  | .ga, .str s => gaB s
  | _, _ => false
section
variable {S : Sto} {zs : List D} {n m nz : Nat} {row : List Kd} {d v : D}
theorem row_look {i : Int} (hn : S[n]? = some (.lst (row.map Kd.d))) (h0 : 0 ≤ i) (h1 : i < row.length) : ∃ k, row[i.toNat]? = some k ∧ gIx S (.cell n) (.int i) = some (.str k.s) := by
  have h : i.toNat < row.length := by omega
  refine ⟨row[i.toNat], List.getElem?_eq_getElem h, ?_⟩
  rw [gIx_cell hn, atI_of h0 (by rw [List.length_map]; exact h1)]
  simp [h, Kd.d]
theorem part_odd {p : Pt} (hn : S[n]? = some (.lst (row.map Kd.d))) (hv : OddD v) : m_is_part [.tup zs, .cell n, .str p.s, v] S = .ok (.bl (ptB zs.length row p v)) S := by
  refine pure_of fun Q q => ?_
  have hl : gLen S [.cell n] = some (.int row.length) := by rw [gLen_cell hn, List.length_map]
  refine does_def rfl ?_
  cases p with
  | fo =>
    cases hv with
    | str s =>
      simp (decide := true) [Pt.s, isTn, gIn, eqF]
      exact q
    | _ => simp (decide := true) [Pt.s, isTn]; exact q
  | ga =>
    cases hv with
    | str s =>
      simp (decide := true) [Pt.s, isTn, gIn, eqF]
      exact q
    | _ => simp (decide := true) [Pt.s, isTn]; exact q
  | pl =>
    simp (decide := true) [Pt.s, is_integer_odd hv]
    cases hv with
    | int i =>
      have e3 : ptB zs.length row .pl (.int i) = (decide (0 ≤ i) && decide (i < zs.length)) := rfl
      rw [e3] at q
      simp [isI]
      by_cases h0 : 0 ≤ i
      · simp [h0] at q ⊢
        exact q
      · simp [h0] at q ⊢
        exact q
    | _ => simp [isI]; exact q
  | mn =>
    simp (decide := true) [Pt.s, is_integer_odd hv]
    cases hv with
    | int i =>
      have e3 : ptB zs.length row .mn (.int i) = (decide (-100000 ≤ i) && decide (i ≤ 100000)) := rfl
      rw [e3] at q
      simp [isI]
      by_cases h0 : -100000 ≤ i
      · simp [h0] at q ⊢
        exact q
      · simp [h0] at q ⊢
        exact q
    | _ => simp [isI]; exact q
  | pt =>
    simp (decide := true) [Pt.s, is_integer_odd hv]
    cases hv with
    | int i =>
      simp [isI, hl]
      by_cases h0 : 0 ≤ i
      · by_cases h1 : i < row.length
        · obtain ⟨k, e1, e2⟩ := row_look hn h0 h1
          have e3 : ptB zs.length row .pt (.int i) = (decide (0 ≤ i) && (decide (row[i.toNat]? = some .mom) || decide (row[i.toNat]? = some .rdg))) := rfl
          rw [e3, e1, decide_eq_true h0] at q
          simp [h0, h1, e2]
          cases k <;> (simp (decide := true) [Kd.s]; exact q)
        · have e1 : row[i.toNat]? = none := List.getElem?_eq_none (by omega)
          have e3 : ptB zs.length row .pt (.int i) = (decide (0 ≤ i) && (decide (row[i.toNat]? = some .mom) || decide (row[i.toNat]? = some .rdg))) := rfl
          rw [e3, e1, decide_eq_true h0] at q
          simp [h0, h1]
          exact q
      · have e3 : ptB zs.length row .pt (.int i) = (decide (0 ≤ i) && (decide (row[i.toNat]? = some .mom) || decide (row[i.toNat]? = some .rdg))) := rfl
        rw [e3, decide_eq_false h0] at q
        simp [h0]
        exact q
    | _ => simp [isI]; exact q
  | knd k0 =>
    have hs : ¬ (k0.s = "fold") ∧ ¬ (k0.s = "gap") ∧ ¬ (k0.s = "place") ∧ ¬ (k0.s = "minutes") ∧ ¬ (k0.s = "point") := by cases k0 <;> decide
    obtain ⟨a1, a2, a3, a4, a5⟩ := hs
    simp [Pt.s, is_integer_odd hv, a1, a2, a3, a4, a5]
    cases hv with
    | int i =>
      simp [isI, hl]
      have e3 : ptB zs.length row (.knd k0) (.int i) = (decide (0 ≤ i) && decide (row[i.toNat]? = some k0)) := rfl
      rw [e3] at q
      by_cases h0 : 0 ≤ i
      · by_cases h1 : i < row.length
        · obtain ⟨k, e1, e2⟩ := row_look hn h0 h1
          rw [e1, decide_eq_true h0] at q
          simp [h0, h1, e2]
          cases k <;> cases k0 <;> (simp (decide := true) [Kd.s]; exact q)
        · have e1 : row[i.toNat]? = none := List.getElem?_eq_none (by omega)
          rw [e1, decide_eq_true h0] at q
          simp [h0, h1]
          exact q
      · rw [decide_eq_false h0] at q
        simp [h0]
        exact q
    | _ => simp [isI]; exact q
end
end Dm
-- text HmPro2
namespace Dm
open PySem L2
section
variable {S : Sto} {nz n : Nat} {row : List Kd} {d : D}
theorem ptB_int {p : Pt} {v : D} (h : ptB nz row p v = true) : (∃ s, v = .str s ∧ (p = .fo ∧ foB s = true ∨ p = .ga ∧ gaB s = true)) ∨ ∃ i : Nat, (v = .int i ∧ ((∃ k, p = .knd k ∧ row[i]? = some k) ∨ (p = .pl ∧ i < nz) ∨ (p = .pt ∧ (row[i]? = some .mom ∨ row[i]? = some .rdg)))) ∨ (∃ m : Int, v = .int m ∧ p = .mn ∧ -100000 ≤ m ∧ m ≤ 100000) := by
  cases p with
  | fo => cases v <;> first | (cases h; done) | exact .inl ⟨_, rfl, .inl ⟨rfl, h⟩⟩
  | ga => cases v <;> first | (cases h; done) | exact .inl ⟨_, rfl, .inr ⟨rfl, h⟩⟩
  | mn =>
    cases v with
    | int i =>
      have h : (decide (-100000 ≤ i) && decide (i ≤ 100000)) = true := h
      simp at h
      exact .inr ⟨0, .inr ⟨i, rfl, rfl, h.1, h.2⟩⟩
    | _ => cases h
  | pl =>
    cases v with
    | int i =>
      have h : (decide (0 ≤ i) && decide (i < nz)) = true := h
      simp at h
      exact .inr ⟨i.toNat, .inl ⟨by congr 1; omega, .inr (.inl ⟨rfl, by omega⟩)⟩⟩
    | _ => cases h
  | pt =>
    cases v with
    | int i =>
      have h : (decide (0 ≤ i) && (decide (row[i.toNat]? = some .mom) || decide (row[i.toNat]? = some .rdg))) = true := h
      simp at h
      exact .inr ⟨i.toNat, .inl ⟨by congr 1; omega, .inr (.inr ⟨rfl, h.2⟩)⟩⟩
    | _ => cases h
  | knd k =>
    cases v with
    | int i =>
      have h : (decide (0 ≤ i) && decide (row[i.toNat]? = some k)) = true := h
      simp at h
      exact .inr ⟨i.toNat, .inl ⟨by congr 1; omega, .inl ⟨k, rfl, h.2⟩⟩⟩
    | _ => cases h
theorem foB_rule {s : Str} (h : foB s = true) : RuleF s := by
  unfold foB at h
  simp at h
  rcases h with h | h | h
  · exact .inl h.symm
  · exact .inr (.inl h.symm)
  · exact .inr (.inr h.symm)
theorem gaB_rule {s : Str} (h : gaB s = true) : RuleG s := by
  unfold gaB at h
  simp at h
  rcases h with h | h | h
  · exact .inl h.symm
  · exact .inr (.inl h.symm)
  · exact .inr (.inr h.symm)
theorem pt_of {v : D} (h : ptB nz row .pt v = true) : ∃ i : Nat, v = .int i ∧ (row[i]? = some .mom ∨ row[i]? = some .rdg) := by
  rcases ptB_int h with ⟨s, _, h | h⟩ | ⟨i, ⟨rfl, h | h | h⟩ | ⟨m, _, h, _⟩⟩
  · cases h.1
  · cases h.1
  · obtain ⟨k', e, h⟩ := h
    cases e
  · cases h.1
  · exact ⟨i, rfl, h.2⟩
  · cases h
end
end Dm
-- text HmTx4
set_option maxHeartbeats 1000000
namespace Dm
open PySem L2 PySem.Builtin PySem.Builtin.Str PySem.StrLaws
open PySem.W.KIN (signs_num num_reads val_back)
open PySem.NumText
/-! ### number_of at any word of common signs -/
def AscW (w : Str) : Prop := ∀ c ∈ chs w, c < 128
def bodyN (l : List Nat) : List Nat := if l.head? = some 45 then l.tail else l
def GoodN (l : List Nat) : Prop := AllDigits (bodyN l) ∧ bodyN l ≠ [] ∧ l ≠ [45, 48] ∧ ((bodyN l).head? = some 48 → bodyN l = [48])
theorem digitsVal_snoc {l : List Nat} {c : Nat} : digitsVal (l ++ [c]) = digitsVal l * 10 + (c - 48) := by
  unfold digitsVal
  rw [List.foldl_append]; rfl
theorem digs_back : ∀ (n : Nat) (cs : List Nat), cs.length = n → AllDigits cs → cs ≠ [] → (cs.head? = some 48 → cs = [48]) → digs (digitsVal cs) = cs := by
  intro n
  induction n with
  | zero => intro cs hl _ hne; exact absurd (List.length_eq_zero_iff.mp hl) hne
  | succ n ih =>
    intro cs hl ha hne h48
    rcases List.eq_nil_or_concat cs with rfl | ⟨l, c, rfl⟩
    · exact absurd rfl hne
    rw [List.concat_eq_append] at *
    have hc : 48 ≤ c ∧ c ≤ 57 := ha c (by simp)
    rw [digitsVal_snoc]
    by_cases h0 : l = []
    · subst h0
      have : digitsVal [] * 10 + (c - 48) = c - 48 := by simp [digitsVal]
      rw [this, digs_lt (by omega)]
      have : 48 + (c - 48) = c := by omega
      rw [this]; rfl
    · have hh : (l ++ [c]).head? = l.head? := by
        cases l with
        | nil => exact absurd rfl h0
        | cons a l => rfl
      have h1 : l.head? ≠ some 48 := by
        intro e
        have := h48 (by rw [hh]; exact e)
        cases l with
        | nil => exact absurd rfl h0
        | cons a l => simp at this
      have e := ih l (by simpa using hl) (fun d hd => ha d (by simp [hd])) h0 (fun e => absurd e h1)
      have hv : 1 ≤ digitsVal l := by
        rcases Nat.eq_zero_or_pos (digitsVal l) with q | q
        · rw [q, digs_lt (by decide)] at e
          rw [← e] at h1
          exact absurd rfl h1
        · exact q
      rw [digs_step (by omega)]
      have d1 : (digitsVal l * 10 + (c - 48)) / 10 = digitsVal l := by omega
      have d2 : (digitsVal l * 10 + (c - 48)) % 10 = c - 48 := by omega
      rw [d1, d2, e, digs_lt (by omega)]
      have : 48 + (c - 48) = c := by omega
      rw [this]
theorem digs_bd : ∀ m : Nat, m < 10 ^ (digs m).length := by
  intro m
  induction m using Nat.strongRecOn with
  | _ m ih =>
    by_cases h : m < 10
    · rw [digs_lt h]; simpa using h
    · have hm : m % 10 < 10 := Nat.mod_lt m (by decide)
      have := ih (m / 10) (by omega)
      rw [digs_step h, digs_lt hm, List.length_append]
      show m < 10 ^ ((digs (m / 10)).length + 1)
      rw [Nat.pow_succ]
      omega
theorem digs_inj {m n : Nat} (h : digs m = digs n) : m = n := by
  have h1 : digitsVal (digs m) = m := val_back m
  have h2 : digitsVal (digs n) = n := val_back n
  rw [← h1, ← h2, h]
theorem int_nat (i : Int) : (∃ m : Nat, i = (m : Int)) ∨ ∃ m : Nat, i = -(((m + 1 : Nat) : Int)) := by
  by_cases h0 : 0 ≤ i
  · exact .inl ⟨i.toNat, by omega⟩
  · exact .inr ⟨i.natAbs - 1, by omega⟩
theorem no45 (m : Nat) : (45 : Nat) ∉ digs m := fun h => by have := digs_all m 45 h; omega
theorem chs_int (i : Int) : bodyN (chs (toString i : Str)) = digs i.natAbs ∧ ((0 ≤ i ∧ chs (toString i : Str) = digs i.natAbs) ∨ (i < 0 ∧ chs (toString i : Str) = 45 :: digs i.natAbs)) := by
  rcases int_nat i with ⟨m, rfl⟩ | ⟨m, rfl⟩
  · have e : ((m : Int)).natAbs = m := by omega
    rw [e, chs_nat]
    refine ⟨?_, .inl ⟨by omega, rfl⟩⟩
    unfold bodyN
    rw [if_neg]
    intro h
    cases q : digs m with
    | nil => exact digs_ne m q
    | cons c r =>
      rw [q] at h
      have : c = 45 := by simpa using h
      exact no45 m (by rw [q, this]; simp)
  · have e : (-(((m + 1 : Nat) : Int))).natAbs = m + 1 := by omega
    rw [e, chs_neg]
    exact ⟨rfl, .inr ⟨by omega, rfl⟩⟩
theorem int_str_inj {i j : Int} (h : (toString i : Str) = toString j) : i = j := by
  have hi := chs_int i
  have hj := chs_int j
  rw [h] at hi
  have e : i.natAbs = j.natAbs := digs_inj (hi.1.symm.trans hj.1)
  rcases hi.2 with ⟨a, b⟩ | ⟨a, b⟩ <;> rcases hj.2 with ⟨a', b'⟩ | ⟨a', b'⟩
  · omega
  · rw [b] at b'
    exact absurd (by rw [b']; simp) (no45 i.natAbs)
  · rw [b'] at b
    exact absurd (by rw [b]; simp) (no45 j.natAbs)
  · omega
theorem good_num {w : Str} (h : GoodN (chs w)) : ∃ i : Int, w = (toString i : Str) ∧ i.natAbs < 10 ^ (bodyN (chs w)).length := by
  obtain ⟨h1, h2, h3, h4⟩ := h
  have e := digs_back _ _ rfl h1 h2 h4
  have bd := digs_bd (digitsVal (bodyN (chs w)))
  rw [e] at bd
  by_cases hc : (chs w).head? = some 45
  · have eb : chs w = 45 :: bodyN (chs w) := by
      unfold bodyN
      rw [if_pos hc]
      cases q : chs w with
      | nil => rw [q] at hc; exact nomatch hc
      | cons c r =>
        rw [q] at hc
        have : c = 45 := by simpa using hc
        rw [this]; rfl
    obtain ⟨m, hm⟩ : ∃ m, digitsVal (bodyN (chs w)) = m + 1 := by
      cases q : digitsVal (bodyN (chs w)) with
      | zero =>
        rw [q, digs_lt (by decide)] at e
        rw [← e] at eb
        exact absurd eb h3
      | succ m => exact ⟨m, rfl⟩
    refine ⟨-(((m + 1 : Nat) : Int)), chs_inj ?_, ?_⟩
    · rw [chs_neg, ← hm, e]; exact eb
    · rw [hm] at bd
      have : (-(((m + 1 : Nat) : Int))).natAbs = m + 1 := by omega
      rw [this]; exact bd
  · have eb : bodyN (chs w) = chs w := by unfold bodyN; rw [if_neg hc]
    refine ⟨((digitsVal (bodyN (chs w)) : Nat) : Int), chs_inj ?_, by simpa using bd⟩
    rw [chs_nat, e, eb]
theorem num_good (i : Int) : GoodN (chs (toString i : Str)) := by
  obtain ⟨h1, h2⟩ := chs_int i
  refine ⟨by rw [h1]; exact digs_all _, by rw [h1]; exact digs_ne _, ?_, fun h => ?_⟩
  · intro e
    rcases h2 with ⟨a, b⟩ | ⟨a, b⟩
    · rw [b] at e
      exact no45 i.natAbs (by rw [e]; simp)
    · rw [b] at e
      obtain ⟨c, r, e2, hc⟩ := digs_head i.natAbs (by omega)
      rw [e2] at e
      simp at e
      exact hc e.1
  · rw [h1] at h ⊢
    by_cases h0 : i.natAbs = 0
    · rw [h0, digs_lt (by decide)]
    · obtain ⟨c, r, e2, hc⟩ := digs_head i.natAbs (by omega)
      rw [e2] at h
      exact absurd (by simpa using h) hc
open Classical in
noncomputable def numF (k : Nat) (w : Str) : Option Int := if h : ∃ i : Int, w = (toString i : Str) ∧ i.natAbs < 10 ^ k then some h.choose else none
theorem numF_iff {k : Nat} {w : Str} {i : Int} : numF k w = some i ↔ w = (toString i : Str) ∧ i.natAbs < 10 ^ k := by
  unfold numF
  constructor
  · intro h
    split at h
    · next q =>
      cases h
      exact q.choose_spec
    · cases h
  · intro h
    rw [dif_pos ⟨i, h⟩]
    have q : ∃ i : Int, w = (toString i : Str) ∧ i.natAbs < 10 ^ k := ⟨i, h⟩
    have := q.choose_spec
    exact congrArg some (int_str_inj (this.1.symm.trans h.1))
theorem numF_int {k : Nat} {i : Int} (h : i.natAbs < 10 ^ k) : numF k (toString i : Str) = some i := numF_iff.mpr ⟨rfl, h⟩
theorem rmpre_body (w : Str) : chs (Txt.removeprefix w (sepS 45)) = bodyN (chs w) := by
  unfold Txt.removeprefix bodyN
  by_cases h : (chs w)[0]? = some 45
  · have hs : 0 + 1 ≤ w.length ∧ subAt w (sepS 45) 0 = true := ((subAt_one w 45 0).mpr h)
    rw [if_pos hs.2, if_pos (by rw [List.head?_eq_getElem?]; exact h)]
    have hl : 0 < w.length := hs.1
    show chs (if (w.length - 1 == w.length) = true then w else strSub w 1 w.length) = _
    rw [if_neg (by simp; omega)]
    unfold chs
    rw [strSub_toList, List.drop_one]
    have e : w.cps.toList.length = w.length := chs_len w
    exact List.take_of_length_le (by simp [e])
  · have : ¬ subAt w (sepS 45) 0 = true := by
      intro hs
      by_cases hl : 0 < w.length
      · exact h ((subAt_one w 45 0).mp ⟨hl, hs⟩)
      · have hl0 : w.cps.toList = [] := List.length_eq_zero_iff.mp (by show (chs w).length = 0; rw [chs_len]; omega)
        unfold subAt at hs
        have e0 : w.cps = #[] := Array.toList_inj.mp hl0
        simp [sepS, e0] at hs
    rw [if_neg this, if_neg (by rw [List.head?_eq_getElem?]; exact h)]; rfl
theorem isdig_asc {y : Str} (ha : ∀ c ∈ chs y, c < 128) (h : Txt.isdigit y = true) : AllDigits (chs y) ∧ chs y ≠ [] := by
  have hd : ∀ c, c < 128 → Unicode.isDigit c = true → 48 ≤ c ∧ c ≤ 57 := by decide +kernel
  unfold Txt.isdigit at h
  rw [Bool.and_eq_true, decide_eq_true_eq] at h
  refine ⟨fun c hc => hd c (ha c hc) ?_, fun e => ?_⟩
  · have h2 := h.2
    rw [← Array.all_toList, List.all_eq_true] at h2
    exact h2 c hc
  · have := chs_len y
    rw [e] at this
    have h1 := h.1
    simp at this
    omega
theorem body_mem {l : List Nat} {c : Nat} (h : c ∈ bodyN l) : c ∈ l := by
  unfold bodyN at h
  split at h
  · exact List.mem_of_mem_tail h
  · exact h
theorem body_len (l : List Nat) : (bodyN l).length ≤ l.length := by
  unfold bodyN
  split <;> simp
def numD : Option Int → D
  | some i => .int i
  | none => .non
section
variable {S : Sto}
theorem number_any {w : Str} (ha : AscW w) (hl : w.length ≤ 16777200) : m_number_of [.str w, .int 7] S = .ok (numD (numF 7 w)) S := by
  cases hn : numF 7 w with
  | some i =>
    obtain ⟨rfl, hi⟩ := numF_iff.mp hn
    exact number_ok hi
  | none =>
    have sep : ("-" : Str) = sepS 45 := by decide +kernel
    have zs : ("0" : Str) = sepS 48 := by decide +kernel
    have zr : chs ("0" : Str) = [48] := by decide +kernel
    have mz : chs ("-0" : Str) = [45, 48] := by decide +kernel
    refine pure_of fun Q q => ?_
    have hy := rmpre_body w
    generalize ey : Txt.removeprefix w (sepS 45) = y at hy
    have hly : y.length ≤ w.length := by
      rw [← chs_len, ← chs_len, hy]; exact body_len _
    refine does_def rfl ?_
    refine seq_cut (fun ρ S' => S = S' ∧ ρ = [some (.str w), some (.int 7), some (.str y)]) (fun M hM => ?_) ?_
    · have h16 : w.length ≤ sizeLine := by rw [sizeLine_eq]; omega
      simp [sep, ey, h16]
      exact hM _ _ ⟨rfl, rfl⟩
    rintro ρ _ ⟨rfl, rfl⟩
    have gl : gLen S [.str y] = some (.int y.length) := by simp [gLen]; omega
    cases hd : Txt.isdigit y with
    | false =>
      have gd : gIsDig S (.str y) = some (.bl false) := by simp [gIsDig, hd]
      simp [gd]
      exact q
    | true =>
      have gd : gIsDig S (.str y) = some (.bl true) := by simp [gIsDig, hd]
      obtain ⟨hda, hdn⟩ := isdig_asc (fun c hc => ha c (body_mem (by rw [← hy]; exact hc))) hd
      by_cases h7 : (y.length : Int) > 7
      · simp [gd, gl, h7]
        exact q
      by_cases h0 : w = ("-0" : Str)
      · simp [gd, gl, h7, h0]
        exact q
      refine seq_cut (fun ρ S' => S = S' ∧ ρ = [some (.str w), some (.int 7), some (.str y)]) (fun M hM => ?_) ?_
      · simp [gd, gl, h7, h0]
        exact hM _ _ ⟨rfl, rfl⟩
      rintro ρ _ ⟨rfl, rfl⟩
      obtain ⟨c, r, e⟩ : ∃ c r, chs y = c :: r := by
        cases e : chs y with
        | nil => exact absurd e hdn
        | cons c r => exact ⟨c, r, rfl⟩
      have ix := str_ix (S := S) e (by omega)
      by_cases hc : c = 48 ∧ y ≠ ("0" : Str)
      · obtain ⟨rfl, hz⟩ := hc
        rw [← zs] at ix
        simp [ix, hz]
        exact q
      · exfalso
        have g : GoodN (chs w) := by
          refine ⟨by rw [← hy]; exact hda, by rw [← hy]; exact hdn, fun e => h0 (chs_inj (by rw [e, mz])), fun h => ?_⟩
          rw [← hy, e] at h
          have hc48 : c = 48 := by simpa using h
          have : y = ("0" : Str) := Classical.byContradiction fun hz => hc ⟨hc48, hz⟩
          rw [← hy, this, zr]
        obtain ⟨i, e1, e2⟩ := good_num g
        have : numF 7 w = some i := numF_iff.mpr ⟨e1, Nat.lt_of_lt_of_le e2 (Nat.pow_le_pow_right (by decide) (by rw [← hy, chs_len]; omega))⟩
        rw [hn] at this
        exact nomatch this
end
end Dm
-- text HmPro3
namespace Dm
open PySem L2
section
variable {S : Sto} {nz n : Nat} {row : List Kd} {d : D}
theorem knd_int {k : Kd} {i : Int} : ptB nz row (.knd k) (.int i) = (decide (0 ≤ i) && decide (row[i.toNat]? = some k)) := rfl
theorem pl_int {i : Int} : ptB nz row .pl (.int i) = (decide (0 ≤ i) && decide (i < nz)) := rfl
theorem mn_int {i : Int} : ptB nz row .mn (.int i) = (decide (-100000 ≤ i) && decide (i ≤ 100000)) := rfl
theorem pt_int {i : Int} : ptB nz row .pt (.int i) = (decide (0 ≤ i) && (decide (row[i.toNat]? = some .mom) || decide (row[i.toNat]? = some .rdg))) := rfl
end
end Dm
-- text HmPro4
namespace Dm
open PySem L2
end Dm
-- text HmOdd5
namespace Dm
open PySem L2
end Dm
-- text HmOdd6
namespace Dm
open PySem L2
end Dm
-- text HmOdd7
namespace Dm
open PySem L2
end Dm
-- text HmPro5
namespace Dm
open PySem L2
/-! ### what is a program, data of any kind -/
end Dm
-- text HmTx5
set_option maxHeartbeats 1000000
namespace Dm
open PySem L2
/-! ### words that stand for the parts of a step or wish -/
inductive Sl where
  | p (q : Pt) | most
def Sl.s : Sl → Str
  | .p q => q.s
  | .most => "most"
def isTxt : Pt → Bool
  | .fo => true
  | .ga => true
  | _ => false
noncomputable def slotO : Sl → Str → Option D
  | .p q, w => if isTxt q = true then some (.str w) else (numF 7 w).map .int
  | .most, w => (numF 7 w).map .int
noncomputable def takesB (nz : Nat) (row : List Kd) (p : Sl) (w : Str) : Bool := match slotO p w with
  | none => false
  | some d => match p with
    | .p q => ptB nz row q d
    | .most => match d with
      | .int i => decide (0 ≤ i) && decide (i ≤ 1000000)
      | _ => false
def optS : Option D → D
  | some d => d
  | none => .non
section
variable {S : Sto} {zs : List D} {n a s nz : Nat} {row : List Kd} {w : Str} {p : Sl} {ts : List Stp}
theorem pt_ne {q : Pt} (h : isTxt q = false) : (q.s == ("fold" : Str)) = false ∧ (q.s == ("gap" : Str)) = false ∧ (q.s == ("most" : Str)) = false := by
  cases q with
  | knd k => cases k <;> exact ⟨by decide +kernel, by decide +kernel, by decide +kernel⟩
  | fo => exact nomatch h
  | ga => exact nomatch h
  | _ => exact ⟨by decide +kernel, by decide +kernel, by decide +kernel⟩
theorem slot_value_ok (ha : AscW w) (hl : w.length ≤ 16777200) : m_slot_value [.str p.s, .str w] S = .ok (optS (slotO p w)) S := by
  refine pure_of fun Q q => ?_
  refine does_def rfl ?_
  have num : optS ((numF 7 w).map .int) = numD (numF 7 w) := by cases numF 7 w <;> rfl
  have sm : (("most" : Str) == ("fold" : Str)) = false ∧ (("most" : Str) == ("gap" : Str)) = false := ⟨by decide +kernel, by decide +kernel⟩
  have sg : (("gap" : Str) == ("fold" : Str)) = false := by decide +kernel
  cases p with
  | most =>
    have e : slotO .most w = (numF 7 w).map .int := rfl
    rw [e, num] at q
    simp only [beq_eq_false_iff_ne, ne_eq] at sm
    simp [Sl.s, sm.1, sm.2, number_any ha hl]
    exact q
  | p u =>
    cases hu : isTxt u with
    | false =>
      have e : slotO (.p u) w = (numF 7 w).map .int := by show (if isTxt u = true then _ else _) = _; rw [hu]; rfl
      rw [e, num] at q
      obtain ⟨h1, h2, _⟩ := pt_ne hu
      simp only [beq_eq_false_iff_ne, ne_eq] at h1 h2
      simp [Sl.s, h1, h2, number_any ha hl]
      exact q
    | true =>
      have e : slotO (.p u) w = some (.str w) := by show (if isTxt u = true then _ else _) = _; rw [hu]; rfl
      rw [e] at q
      simp only [beq_eq_false_iff_ne, ne_eq] at sg
      cases u with
      | fo => simp [Sl.s, Pt.s]; exact q
      | ga => simp [Sl.s, Pt.s, sg]; exact q
      | _ => exact nomatch hu
theorem slot_takes_ok (ha : AscW w) (hl : w.length ≤ 16777200) (hn : S[n]? = some (.lst (row.map Kd.d))) : m_slot_takes [.tup zs, .cell n, .str p.s, .str w] S = .ok (.bl (takesB zs.length row p w)) S := by
  refine pure_of fun Q q => ?_
  refine does_def rfl ?_
  have sv := slot_value_ok (S := S) (p := p) ha hl
  unfold takesB at q
  cases e : slotO p w with
  | none =>
    rw [e] at sv q
    have sv : m_slot_value [.str p.s, .str w] S = .ok .non S := sv
    simp [sv]
    exact q
  | some d =>
    rw [e] at sv q
    have sv : m_slot_value [.str p.s, .str w] S = .ok d S := sv
    have hd : (∃ i, d = .int i) ∨ (d = .str w ∧ ∃ u, p = .p u ∧ isTxt u = true) := by
      cases p with
      | most =>
        have e : (numF 7 w).map D.int = some d := e
        cases q : numF 7 w with
        | none => rw [q] at e; exact nomatch e
        | some i => rw [q] at e; cases e; exact .inl ⟨i, rfl⟩
      | p u =>
        have e : (if isTxt u = true then some (.str w) else (numF 7 w).map .int) = some d := e
        by_cases hu : isTxt u = true
        · rw [if_pos hu] at e
          cases e
          exact .inr ⟨rfl, u, rfl, hu⟩
        · rw [if_neg hu] at e
          cases q : numF 7 w with
          | none => rw [q] at e; exact nomatch e
          | some i => rw [q] at e; cases e; exact .inl ⟨i, rfl⟩
    have hnn : isNon d = false := by
      rcases hd with ⟨i, rfl⟩ | ⟨rfl, _⟩ <;> rfl
    have odd : OddD d := by
      rcases hd with ⟨i, rfl⟩ | ⟨rfl, _⟩
      · exact .int i
      · exact .str w
    cases p with
    | most =>
      rcases hd with ⟨i, rfl⟩ | ⟨_, u, hu, _⟩
      · have q : Q (.bl (decide (0 ≤ i) && decide (i ≤ 1000000))) S := q
        by_cases h0 : 0 ≤ i <;> by_cases h1 : i ≤ 1000000 <;> simp [h0, h1] at q
        all_goals
          have sv : m_slot_value [.str ("most" : Str), .str w] S = .ok (.int i) S := sv
          simp [sv, hnn, Sl.s, h0, h1]
          exact q
      · exact nomatch hu
    | p u =>
      have q : Q (.bl (ptB zs.length row u d)) S := q
      have nm : ¬ (u.s = ("most" : Str)) := by
        intro h
        cases u with
        | knd k => cases k <;> exact absurd h (by decide +kernel)
        | _ => exact absurd h (by decide +kernel)
      have pd := part_odd (zs := zs) (p := u) hn odd
      simp [Sl.s] at sv
      simp [Sl.s, sv, hnn, nm, pd]
      exact q
def wsD (ws : List Str) : D := .lst (ws.map .str)
theorem word_at_ok {ws : List Str} {k : Nat} (hl : ws.length ≤ 16777216) (h : ws[k]? = some w) : m_word_at [wsD ws, .int k] S = .ok (.str w) S := by
  refine pure_of fun Q q => ?_
  refine does_def rfl ?_
  have hk := (List.getElem?_eq_some_iff.mp h).1
  have gl : gLen S [wsD ws] = some (.int ws.length) := by simp [wsD]
  have ix : gIx S (wsD ws) (.int k) = some (.str w) := by
    rw [wsD, gIx_lst, atI_of (by omega) (by rw [List.length_map]; omega)]
    simp [h]
  have hn : ¬ ((ws.length : Int) ≤ k) := by omega
  simp [gl, ix, hn]
  exact q
theorem word_at_no {ws : List Str} {k : Nat} {E : EX} {Q : D → Sto → Prop} (h : ws.length ≤ k) (q : E "InvalidWords" [("place", .int ws.length)] S) : (m_word_at [wsD ws, .int k] S).DoesE E Q := by
  refine does_def rfl ?_
  have gl : gLen S [wsD ws] = some (.int ws.length) := by simp [wsD]
  have hn : ((ws.length : Int) ≤ k) := by omega
  simp [gl, hn]
  exact q
def slD (sl : List Sl) : D := .tup (sl.map fun p => .str p.s)
noncomputable def slR (nz : Nat) (row : List Kd) (ws : List Str) : List Sl → Nat → List D → Except Nat (List D)
  | [], _, ds => .ok ds
  | p :: r, k, ds => match ws[k + 1]? with
    | none => .error ws.length
    | some w => if takesB nz row p w = true then slR nz row ws r (k + 1) (ds ++ [optS (slotO p w)]) else .error (k + 1)
theorem slR_none {ws : List Str} {r : List Sl} {k : Nat} {ds : List D} (h : ws[k + 1]? = none) : slR nz row ws (p :: r) k ds = .error ws.length := by
  simp only [slR, h]
theorem slR_yes {ws : List Str} {r : List Sl} {k : Nat} {ds : List D} (h : ws[k + 1]? = some w) (ht : takesB nz row p w = true) : slR nz row ws (p :: r) k ds = slR nz row ws r (k + 1) (ds ++ [optS (slotO p w)]) := by
  simp only [slR, h, ht, if_true]
theorem slR_no {ws : List Str} {r : List Sl} {k : Nat} {ds : List D} (h : ws[k + 1]? = some w) (ht : takesB nz row p w = false) : slR nz row ws (p :: r) k ds = .error (k + 1) := by
  simp [slR, h, ht]
theorem read_slots_does {ws : List Str} {sl : List Sl} {k : Nat} {E : EX} {Q : D → Sto → Prop} (hws : ∀ w, w ∈ ws → AscW w ∧ w.length ≤ 16777200) (hl : ws.length ≤ 16777216) (hsl : sl.length ≤ 10) (hn : S[n]? = some (.lst (row.map Kd.d))) (h0 : ws[k]? = some w)
    (q : match slR zs.length row ws sl k [.str w] with
      | .ok ds => ∀ S', Grow S S' → Q (.tup ds) S'
      | .error j => ∀ S', Grow S S' → E "InvalidWords" [("place", .int j)] S') :
    (m_read_slots [.tup zs, .cell n, slD sl, wsD ws, .int k] S).DoesE E Q := by
  have ln := (List.getElem?_eq_some_iff.mp hn).1
  have hk := (List.getElem?_eq_some_iff.mp h0).1
  refine does_def rfl ?_
  have ix : gIx S (wsD ws) (.int k) = some (.str w) := by
    rw [wsD, gIx_lst, atI_of (by omega) (by rw [List.length_map]; omega)]
    simp [h0]
  refine seq_cut (fun ρ S' => ρ = [some (.tup zs), some (.cell n), some (slD sl), some (wsD ws), some (.int k), some (.cell S.length), none, none] ∧ S' = S ++ [.lst [.str w]]) (fun M hM => ?_) ?_
  · simp [ix]
    exact hM _ _ ⟨rfl, rfl⟩
  rintro ρ _ ⟨rfl, rfl⟩
  simp [slD]
  refine forL_cut (fun ds ρ S' => ∃ r k1 ac x6 x7, ds = (r : List Sl).map (fun p => D.str p.s) ∧ ρ = [some (.tup zs), some (.cell n), some (.tup (sl.map fun p => .str p.s)), some (wsD ws), some (.int ((k1 : Nat) : Int)), some (.cell S.length), x6, x7] ∧ S' = S ++ [.lst ac] ∧ ac.length + r.length ≤ 20 ∧ k1 < ws.length ∧ slR zs.length row ws r k1 ac = slR zs.length row ws sl k [.str w]) _
    ⟨sl, k, [.str w], none, none, rfl, rfl, rfl, by simp; omega, hk, rfl⟩ ?_ ?_
  · rintro d ds ρ S1 ⟨r, k1, ac, x6, x7, e, rfl, rfl, hal, hk, hr⟩
    cases r with
    | nil => cases e
    | cons p r =>
      simp at e
      obtain ⟨rfl, rfl⟩ := e
      refine ⟨_, rfl, fun M hM => ?_⟩
      have hn1 : (S ++ [.lst ac])[n]? = some (.lst (row.map Kd.d)) := by rw [List.getElem?_append_left ln]; exact hn
      rw [← hr] at q
      cases hw : ws[k1 + 1]? with
      | none =>
        rw [slR_none hw] at q
        have hge : ws.length ≤ k1 + 1 := List.getElem?_eq_none_iff.mp hw
        simp
        refine word_at_no (k := k1 + 1) hge ?_
        exact q _ ⟨_, rfl⟩
      | some w1 =>
        have mem := List.mem_of_getElem? hw
        obtain ⟨ha, hwl⟩ := hws w1 mem
        have wa := word_at_ok (S := S ++ [.lst ac]) (k := k1 + 1) hl hw
        have wa : m_word_at [wsD ws, .int ((k1 : Int) + 1)] (S ++ [.lst ac]) = .ok (.str w1) (S ++ [.lst ac]) := wa
        have st := slot_takes_ok (zs := zs) (p := p) ha hwl hn1
        have sv := slot_value_ok (S := S ++ [.lst ac]) (p := p) ha hwl
        cases ht : takesB zs.length row p w1 with
        | false =>
          rw [ht] at st
          rw [slR_no hw ht] at q
          simp [wa, st]
          exact q _ ⟨_, rfl⟩
        | true =>
          rw [ht] at st
          rw [slR_yes hw ht] at hr
          have hk1 := (List.getElem?_eq_some_iff.mp hw).1
          simp [wa, st, sv]
          refine ⟨by simp at hal; omega, hM _ _ ⟨r, k1 + 1, _, _, _, rfl, rfl, rfl, by simp at hal ⊢; omega, hk1, hr⟩⟩
  · rintro ρ S1 ⟨r, k1, ac, x6, x7, e, rfl, rfl, hal, hk, hr⟩
    cases r with
    | nil =>
      rw [← hr] at q
      simp at hal
      have gs : seqOf (S ++ [.lst ac]) (.cell S.length) = some ac := by simp [seqOf, lstOf]
      have gt : gTuple (S ++ [.lst ac]) [.cell S.length] = some (.tup ac) := by simp [gTuple, gs]
      simp [gt]
      exact q _ ⟨_, rfl⟩
    | cons p r => cases e
end
end Dm
-- text HmTx6
set_option maxHeartbeats 1000000
namespace Dm
open PySem L2
/-! ### programs read -/
def slOK (nz : Nat) (row : List Kd) : Sl → D → Bool
  | .p q, d => ptB nz row q d
  | .most, .int i => decide (0 ≤ i) && decide (i ≤ 1000000)
  | .most, _ => false
section
variable {S : Sto} {zs : List D} {n a s nz : Nat} {row : List Kd} {w : Str} {p : Sl} {ts : List Stp} {ws : List Str}
theorem takes_ok (h : takesB nz row p w = true) : slOK nz row p (optS (slotO p w)) = true := by
  unfold takesB at h
  cases e : slotO p w with
  | none => rw [e] at h; exact nomatch h
  | some d =>
    rw [e] at h
    cases p with
    | p q => exact h
    | most =>
      cases d with
      | int i => exact h
      | _ => exact nomatch h
theorem slR_ok : ∀ {sl : List Sl} {k : Nat} {ac ds : List D}, k < ws.length → slR nz row ws sl k ac = .ok ds → ∃ r, ds = ac ++ r ∧ r.length = sl.length ∧ (sl.zip r).all (fun x => slOK nz row x.1 x.2) = true ∧ k + sl.length < ws.length
  | [], k, ac, ds, hk, h => by
    cases h
    exact ⟨[], by simp, rfl, rfl, by simpa using hk⟩
  | p :: sl, k, ac, ds, hk, h => by
    cases hw : ws[k + 1]? with
    | none => rw [slR_none hw] at h; exact nomatch h
    | some w =>
      cases ht : takesB nz row p w with
      | false => rw [slR_no hw ht] at h; exact nomatch h
      | true =>
        rw [slR_yes hw ht] at h
        obtain ⟨r, e, h1, h2, h3⟩ := slR_ok (List.getElem?_eq_some_iff.mp hw).1 h
        refine ⟨optS (slotO p w) :: r, by rw [e]; simp, by simp [h1], ?_, by simp at h3 ⊢; omega⟩
        rw [List.zip_cons_cons, List.all_cons, h2, takes_ok ht]; rfl
end
end Dm
-- text HmTx7
set_option maxHeartbeats 1000000
namespace Dm
open PySem L2 PySem.Builtin PySem.Builtin.Str PySem.StrLaws
/-! ### read_program at any words -/
structure WsOK (ws : List Str) : Prop where
  ne : ws ≠ []
  each : ∀ w, w ∈ ws → AscW w ∧ w.length ≤ 16777200
  few : ws.length ≤ 16777216
theorem jl_mem (c : Nat) : ∀ {ps : List (List Nat)} {p : List Nat} {x : Nat}, p ∈ ps → x ∈ p → x ∈ jl c ps
  | [], _, _, h, _ => nomatch h
  | [q], p, x, h, hx => by rw [List.mem_singleton.mp h] at hx; exact hx
  | q :: r :: ps, p, x, h, hx => by
    show x ∈ q ++ c :: jl c (r :: ps)
    rcases List.mem_cons.mp h with rfl | h
    · exact List.mem_append_left _ hx
    · exact List.mem_append_right _ (List.mem_cons_of_mem _ (jl_mem c h hx))
theorem jl_len (c : Nat) : ∀ {ps : List (List Nat)} {p : List Nat}, p ∈ ps → p.length ≤ (jl c ps).length
  | [], _, h => nomatch h
  | [q], p, h => by rw [List.mem_singleton.mp h]; exact Nat.le_refl _
  | q :: r :: ps, p, h => by
    show p.length ≤ (q ++ c :: jl c (r :: ps)).length
    rw [List.length_append, List.length_cons]
    rcases List.mem_cons.mp h with rfl | h
    · omega
    · have := jl_len c h
      omega
theorem jl_few (c : Nat) : ∀ ps : List (List Nat), ps.length ≤ (jl c ps).length + 1
  | [] => by simp
  | [q] => by simp
  | q :: r :: ps => by
    have := jl_few c (r :: ps)
    show _ ≤ (q ++ c :: jl c (r :: ps)).length + 1
    simp only [List.length_append, List.length_cons] at this ⊢
    omega
theorem split_ok {x : Str} (ha : AscW x) (hl : x.length ≤ 16777200) : WsOK (Txt.split x (sepS 32)) := by
  have h1 := split_no x (c := 32) (by decide)
  have e : jl 32 ((Txt.split x (sepS 32)).map chs) = chs x := by rw [← join_jl, join_split]
  have el : (jl 32 ((Txt.split x (sepS 32)).map chs)).length = x.length := by rw [e, chs_len]
  refine ⟨h1.2, fun w hw => ⟨fun c hc => ha c ?_, ?_⟩, ?_⟩
  · rw [← e]
    exact jl_mem 32 (List.mem_map.mpr ⟨w, hw, rfl⟩) hc
  · have := jl_len 32 (List.mem_map.mpr ⟨w, hw, rfl⟩ : chs w ∈ (Txt.split x (sepS 32)).map chs)
    rw [el, chs_len] at this
    omega
  · have := jl_few 32 ((Txt.split x (sepS 32)).map chs)
    rw [el, List.length_map] at this
    omega
end Dm
-- text HmTx8
set_option maxHeartbeats 1000000
namespace Dm
open PySem L2 PySem.Builtin PySem.Builtin.Str PySem.StrLaws
/-! ### the words of a program, read back -/
def Stp.w : Stp → Str
  | .read _ _ => "read"
  | .find _ _ _ _ => "find"
  | .offset _ _ => "offset"
  | .edition _ _ => "edition"
  | .plus _ _ => "plus"
  | .less _ _ => "less"
  | .add _ _ => "add"
def Stp.args : Stp → List D
  | .read i p => [.int i, .int p]
  | .find i p f g => [.int i, .int p, .str f, .str g]
  | .offset i p => [.int i, .int p]
  | .edition i p => [.int i, .int p]
  | .plus i j => [.int i, .int j]
  | .less i j => [.int i, .int j]
  | .add i m => [.int i, .int m]
theorem Stp.d_eq (t : Stp) : t.d = .tup (.str t.w :: t.args) := by cases t <;> rfl
def Wd (w : Str) : Prop := (∀ c ∈ chs w, c < 128) ∧ 32 ∉ chs w
theorem chs_app (a b : Str) : chs (a ++ b) = chs a ++ chs b := by
  unfold chs
  simp only [Str.cps_append, Array.toList_append]
theorem wd_lit {w : Str} (h : (chs w).all (fun c => decide (c < 128) && !decide (c = 32)) = true) : Wd w := by
  rw [List.all_eq_true] at h
  refine ⟨fun c hc => ?_, fun hc => ?_⟩
  · have := h c hc
    simp at this
    exact this.1
  · have := h 32 hc
    simp at this
theorem wd_int (i : Int) : Wd (toString i : Str) := by
  have h := (chs_int i).2
  have hd : ∀ c ∈ chs (toString i : Str), c = 45 ∨ (48 ≤ c ∧ c ≤ 57) := by
    intro c hc
    rcases h with ⟨_, h⟩ | ⟨_, h⟩
    · rw [h] at hc
      exact .inr (digs_all _ c hc)
    · rw [h] at hc
      rcases List.mem_cons.mp hc with rfl | hc
      · exact .inl rfl
      · exact .inr (digs_all _ c hc)
  refine ⟨fun c hc => ?_, fun hc => ?_⟩
  · have := hd c hc; omega
  · have := hd 32 hc; omega
end Dm
-- text HmTx9
set_option maxHeartbeats 1000000
namespace Dm
open PySem L2 PySem.Builtin PySem.Builtin.Str PySem.StrLaws
/-! ### wishes read -/
def wishPs (w : Str) : Option (List Sl) :=
  if ("found" : Str) = w then some [] else if ("same" : Str) = w then some [.p .pt, .p .pt] else if ("order" : Str) = w then some [.p .pt, .p .pt]
  else if ("near" : Str) = w then some [.p .pt, .p .pt, .most] else none
abbrev tabW : List (Str × D) := [("found", (.tup [])), ("same", (.tup [(.str "point"), (.str "point")])), ("order", (.tup [(.str "point"), (.str "point")])), ("near", (.tup [(.str "point"), (.str "point"), (.str "most")]))]
theorem tabW_look (w : Str) : tbLook tabW w = (wishPs w).map slD := by
  unfold wishPs tabW
  simp only [tbLook]
  repeat' (first | rfl | split)
noncomputable def readW (nz : Nat) (row : List Kd) (ws : List Str) : Except Nat (List D) := match ws[0]? with
  | none => .error 0
  | some w => match wishPs w with
    | none => .error 0
    | some sl => match slR nz row ws sl 0 [.str w] with
      | .error j => .error j
      | .ok ds => if ds.length < ws.length then .error ds.length else .ok ds
theorem wishPs_len {w : Str} {sl : List Sl} (h : wishPs w = some sl) : sl.length ≤ 3 := by
  unfold wishPs at h
  split at h
  · cases h; decide
  · split at h
    · cases h; decide
    · split at h
      · cases h; decide
      · split at h
        · cases h; decide
        · cases h
/-! ### .. and back -/
def wWords (wh : Wsh) : List Str := (partsD wh.d).map strP
def Wsh.w : Wsh → Str
  | .found => "found"
  | .same _ _ => "same"
  | .order _ _ => "order"
  | .near _ _ _ => "near"
def Wsh.args : Wsh → List D
  | .found => []
  | .same a b => [.int a, .int b]
  | .order a b => [.int a, .int b]
  | .near a b m => [.int a, .int b, .int m]
section
variable {S S0 : Sto} {zs : Zs} {row : List Kd} {w : Str} {p : Sl} {t : Stp} {ts us : List Stp} {ws : List Str} {x : Str} {s nz : Nat} {wh : Wsh}
theorem read_wish_ws_does {E : EX} {Q : D → Sto → Prop} (z : ZsOK zs) (ok : ProgOK zs.length ts) (wk : WsOK ws) (hx : x.length ≤ 16777200) (hws : Txt.split x (sepS 32) = ws)
    (q : match readW zs.length (kindsFrom [.mom] ts) ws with
      | .ok ds => ∀ S', Grow S S' → Q (.tup ds) S'
      | .error j => ∀ S', Grow S S' → E "InvalidWords" [("place", .int j)] S') :
    (m_read_wish [zonesD zs, progD ts, .str x] S).DoesE E Q := by
  have sp : (" " : Str) = sepS 32 := by decide +kernel
  have hl8 := ok.len
  refine does_def rfl ?_
  refine seq_cut (fun ρ S' => ρ = [some (zonesD zs), some (progD ts), some (.str x), none, none] ∧ S = S') (fun M hM => ?_) ?_
  · simp [need_zones_ok z]
    exact hM _ _ ⟨rfl, rfl⟩
  rintro ρ _ ⟨rfl, rfl⟩
  refine seq_cut (fun ρ S' => ρ = [some (zonesD zs), some (progD ts), some (.str x), none, none] ∧ Grow S S') (fun M hM => ?_) ?_
  · simp
    refine Res.Does.toE (need_program_does z ok ?_)
    exact hM _ _ ⟨rfl, Grow.refl.push _⟩
  rintro ρ S1 ⟨rfl, g1⟩
  refine seq_cut (fun ρ S' => ρ = [some (zonesD zs), some (progD ts), some (.str x), some (wsD ws), none] ∧ S1 = S') (fun M hM => ?_) ?_
  · have h16 : x.length + 2 ≤ sizeLine := by rw [sizeLine_eq]; omega
    have e1 : ¬ ((sepS 32).length = 0) := by decide
    simp [sp, e1, h16, hws]
    exact hM _ _ ⟨rfl, rfl⟩
  rintro ρ _ ⟨rfl, rfl⟩
  obtain ⟨v, r, hv⟩ : ∃ v r, ws = v :: r := by
    cases e : ws with
    | nil => exact absurd e wk.ne
    | cons v r => exact ⟨v, r, rfl⟩
  have h0 : ws[0]? = some v := by rw [hv]; rfl
  have ix : gIx S1 (wsD ws) (.int 0) = some (.str v) := by
    rw [wsD, hv, List.map_cons, gIx_lst, atI_zero]
  have gl : ∀ S', gLen S' [wsD ws] = some (.int ws.length) := fun S' => by simp [wsD]
  have tl := tabW_look v
  simp only [tabW] at tl
  unfold readW at q
  rw [h0] at q
  simp only at q
  cases hsl : wishPs v with
  | none =>
    rw [hsl] at tl q
    simp only [Option.map_none] at tl
    have q : ∀ S', Grow S S' → E "InvalidWords" [("place", .int ((0 : Nat) : Int))] S' := q
    simp [ix, tl]
    exact q _ g1
  | some sl =>
    rw [hsl] at tl q
    simp only [Option.map_some] at tl q
    have hsl3 := wishPs_len hsl
    have hn : (S1 ++ [.lst ((kindsFrom [.mom] ts).map Kd.d)])[S1.length]? = some (.lst ((kindsFrom [.mom] ts).map Kd.d)) := by simp
    have lz : (zs.map fun z => zoneD z.1 z.2).length = zs.length := List.length_map _
    have rs := @read_slots_does (S1 ++ [.lst ((kindsFrom [.mom] ts).map Kd.d)]) (zs.map fun z => zoneD z.1 z.2) S1.length (kindsFrom [.mom] ts) v ws sl 0
    rw [lz] at rs
    have ix2 : gIx (S1 ++ [.lst ((kindsFrom [.mom] ts).map Kd.d)]) (wsD ws) (.int 0) = some (.str v) := by
      rw [wsD, hv, List.map_cons, gIx_lst, atI_zero]
    have g2 : Grow S (S1 ++ [.lst ((kindsFrom [.mom] ts).map Kd.d)]) := g1.push _
    cases hr : slR zs.length (kindsFrom [.mom] ts) ws sl 0 [.str v] with
    | error j =>
      rw [hr] at q
      have q : ∀ S', Grow S S' → E "InvalidWords" [("place", .int j)] S' := q
      simp [ix, tl]
      refine Res.Does.toE (kinds_of_does ok.steps (by omega) ?_)
      simp [ix2, tl]
      refine rs wk.each wk.few (by omega) hn h0 ?_
      rw [hr]
      exact fun S' g' => q _ (g2.trans g')
    | ok ds =>
      rw [hr] at q
      simp only at q
      refine seq_cut (fun ρ S' => ρ = [some (zonesD zs), some (progD ts), some (.str x), some (wsD ws), none] ∧ S1 = S') (fun M hM => ?_) ?_
      · simp [ix, tl]
        exact hM _ _ ⟨rfl, rfl⟩
      rintro ρ _ ⟨rfl, rfl⟩
      refine seq_cut (fun ρ S' => ρ = [some (zonesD zs), some (progD ts), some (.str x), some (wsD ws), some (.tup ds)] ∧ Grow S S') (fun M hM => ?_) ?_
      · simp
        refine Res.Does.toE (kinds_of_does ok.steps (by omega) ?_)
        simp [ix2, tl]
        refine rs wk.each wk.few (by omega) hn h0 ?_
        rw [hr]
        exact fun S' g' => hM _ _ ⟨rfl, g2.trans g'⟩
      rintro ρ S2 ⟨rfl, g3⟩
      by_cases hlt : ds.length < ws.length
      · rw [if_pos hlt] at q
        have q : ∀ S', Grow S S' → E "InvalidWords" [("place", .int ds.length)] S' := q
        have hlt' : ((ds.length : Int) < ws.length) := by omega
        simp [gl, hlt']
        exact q _ g3
      · rw [if_neg hlt] at q
        have q : ∀ S', Grow S S' → Q (.tup ds) S' := q
        have hlt' : ¬ ((ds.length : Int) < ws.length) := by omega
        simp [gl, hlt']
        exact q _ g3
theorem Wsh.d_eq (wh : Wsh) : wh.d = .tup (.str wh.w :: wh.args) := by cases wh <;> rfl
theorem wWords_eq (wh : Wsh) : wWords wh = wh.w :: wh.args.map strP := by unfold wWords; rw [wh.d_eq]; rfl
theorem wish_w_wd (wh : Wsh) : Wd wh.w := by
  cases wh with
  | found => exact (wd_lit (by decide +kernel) : Wd "found")
  | same a b => exact (wd_lit (by decide +kernel) : Wd "same")
  | order a b => exact (wd_lit (by decide +kernel) : Wd "order")
  | near a b m => exact (wd_lit (by decide +kernel) : Wd "near")
theorem wWords_ok (hw : wh.OK row) (hl : row.length ≤ 60) : WsOK (wWords wh) ∧ Txt.split (wishTx wh) (sepS 32) = wWords wh ∧ (wishTx wh).length ≤ 16777200 := by
  have w1 : ∀ w, w ∈ wWords wh → Wd w := by
    intro w h
    rw [wWords_eq] at h
    rcases List.mem_cons.mp h with rfl | h
    · exact wish_w_wd wh
    · obtain ⟨d, hd, rfl⟩ := List.mem_map.mp h
      cases wh <;> simp [Wsh.args] at hd
      · rcases hd with rfl | rfl <;> exact wd_int _
      · rcases hd with rfl | rfl <;> exact wd_int _
      · rcases hd with rfl | rfl | rfl <;> exact wd_int _
  obtain ⟨ds, e, h10, hp⟩ := wsh_parts hw hl
  have ew : wWords wh = ds.map strP := by unfold wWords; rw [e]; rfl
  have w2 : ∀ w, w ∈ wWords wh → w.length ≤ 20 := by
    intro w h
    rw [ew] at h
    obtain ⟨d, hd, rfl⟩ := List.mem_map.mp h
    exact strP_len (hp d hd)
  have ne : wWords wh ≠ [] := by rw [wWords_eq]; exact List.cons_ne_nil _ _
  have few : (wWords wh).length ≤ 10 := by rw [ew, List.length_map]; exact h10
  have sp : (" " : Str) = sepS 32 := by decide +kernel
  have et : wishTx wh = Txt.join " " (wWords wh) := rfl
  refine ⟨⟨ne, fun w h => ⟨(w1 w h).1, by have := w2 w h; omega⟩, by omega⟩, ?_, ?_⟩
  · rw [et, sp]
    exact split_join (by decide) ne fun w h => (w1 w h).2
  · have := join_len (a := " ") (m := 20) (k := 10) (ys := wWords wh) w2 few
    have h1 : (" " : Str).length = 1 := rfl
    rw [h1] at this
    rw [et]
    omega
end
end Dm
-- text M_k62
set_option maxHeartbeats 1000000
namespace Dm
open PySem L2
section
variable {S : Sto} {zs : Zs} {ts : List Stp} {t : Stp} {w : Wsh} {ds : List D} {d : D} {row : List Kd} {n p nz : Nat}
theorem long_tale_does {Q : D → Sto → Prop} (hp : Bag p (n + 200) S) (z : ZsOK zs) (q : ∀ ts S', Bag p n S' → GoB p S S' → ProgOK zs.length ts → Q (progD ts) S') : (m_law_long_tale [.cell p, zonesD zs, .int 8] S).Does Q := by
  have hz : 0 < zs.length ∧ zs.length ≤ 2 := by rcases z.len with h | h <;> omega
  refine does_def rfl ?_
  refine seq_cut (fun ρ S' => ∃ sz : Int, 0 ≤ sz ∧ sz ≤ 8 ∧ Bag p (n + 150) S' ∧ GoB p S S' ∧ ρ = [some (.cell p), some (zonesD zs), some (.int 8), some (.int sz), none]) (fun M hM => ?_) ?_
  · simp
    refine pick2_does (n := n + 199) hp (by decide) (by decide) fun r1 S1 b1 g1 a0 a1 => ?_
    try simp
    refine pick2_does (n := n + 198) b1 (by decide) (by decide) fun r2 S2 b2 g2 c0 c1 => ?_
    try simp
    refine pick2_does (n := n + 197) b2 (by decide) (by decide) fun r3 S3 b3 g3 d0 d1 => ?_
    have e : r3 = 0 ∨ r3 = 1 ∨ r3 = 2 ∨ r3 = 3 := by omega
    have b4 := b3.mono (m := n + 150) (by omega)
    have g4 := g1.trans (g2.trans g3)
    rcases e with e | e | e | e <;> subst e <;> simp [atI, ixN]
    · exact hM _ _ ⟨r1, by omega, by omega, b4, g4, rfl⟩
    · exact hM _ _ ⟨8, by omega, by omega, b4, g4, rfl⟩
    · exact hM _ _ ⟨r2, by omega, by omega, b4, g4, rfl⟩
    · exact hM _ _ ⟨8, by omega, by omega, b4, g4, rfl⟩
  rintro ρ S1 ⟨sz, s0, s8, b1, g1, rfl⟩
  refine seq_cut (fun ρ S' => ∃ ms : List Int, ms.length = 10 ∧ (∀ m, m ∈ ms → -100000 ≤ m ∧ m ≤ 100000) ∧ Bag p (n + 100) S' ∧ GoB p S S' ∧ ρ = [some (.cell p), some (zonesD zs), some (.int 8), some (.int sz), some (.lst (ms.map .int))]) (fun M hM => ?_) ?_
  · simp
    refine minutes8_does (n := n + 130) b1 z fun ms S2 b2 g2 hl hm => ?_
    have e : (ms.map D.int) ++ [D.int 100000, D.int (-100000)] = (ms ++ [100000, -100000]).map .int := by simp
    have hm2 : ∀ m, m ∈ ms ++ [100000, -100000] → -100000 ≤ m ∧ m ≤ 100000 := fun m h => by
      rcases List.mem_append.mp h with h | h
      · exact hm m h
      · simp at h
        rcases h with rfl | rfl <;> omega
    have f2 := hM _ S2 ⟨ms ++ [100000, -100000], by simp [hl], hm2, b2.mono (by omega), g1.trans g2, rfl⟩
    rw [← e] at f2
    simp [hl]
    simpa using f2
  rintro ρ S2 ⟨ms, hl, hm, b2, g2, rfl⟩
  have ln : ∀ S, gLen S [zonesD zs] = some (.int zs.length) := fun S => by simp [zonesD]
  simp [ln, lstOf]
  have := draw_taleN_does (n := n) (nz := zs.length) (ts0 := []) (ms := ms) (size := sz) (left := 8) (ed := true) (Q := Q) (b2.mono (by simp; omega)) hz trivial s8 (by decide) (by decide) ⟨by omega, by omega⟩ hm (by omega) fun ts S3 b3 g3 hp' h1 h2 h3 h4 => by
    simp only [List.nil_append] at hp' h3 ⊢
    refine q ts S3 b3 (g2.trans g3) ⟨by simp at h1; omega, hp', ?_⟩
    unfold cnt at h3
    omega
  exact this
end
end Dm
-- text M_k63
set_option maxHeartbeats 1000000
namespace Dm
open PySem L2
section
variable {S : Sto} {zs : Zs} {ts : List Stp} {t : Stp} {w : Wsh} {ds : List D} {d : D} {row : List Kd} {n p nz : Nat}
def PartR (d : D) : Prop := ∃ q, toPy d = some q ∧ RpB q 100 0
theorem partR_int {i : Int} (h : i.natAbs < 100000000000000) : PartR (.int i) := ⟨_, rfl, (rpB_int h).up (by omega) (Nat.le_refl _)⟩
theorem partR_str {x : Str} (h : (reprText x).length ≤ 100) : PartR (.str x) := ⟨_, rfl, by simp only [PyData.showable], by simp only [PyData.hasDict], by simp only [PyData.shown]; exact h, by simp only [PyData.depth]; omega⟩
theorem toPys_of : ∀ {ds : List D}, (∀ d, d ∈ ds → ∃ q, toPy d = some q ∧ RpB q n p) → ∃ qs, toPys ds = some qs ∧ (∀ q, q ∈ qs → RpB q n p) ∧ qs.length = ds.length
  | [], _ => ⟨[], rfl, fun _ h => (by cases h), rfl⟩
  | d :: ds, h => by
    obtain ⟨q, e, hq⟩ := h d (by simp)
    obtain ⟨qs, es, hqs, hl⟩ := toPys_of fun d hd => h d (List.mem_cons_of_mem _ hd)
    refine ⟨q :: qs, by simp [toPys, e, es], fun x hx => ?_, by simp [hl]⟩
    rcases List.mem_cons.mp hx with rfl | hx
    · exact hq
    · exact hqs x hx
theorem tupR {k m : Nat} (h : ∀ d, d ∈ ds → ∃ q, toPy d = some q ∧ RpB q n k) (hl : ds.length ≤ m) : ∃ q, toPy (.tup ds) = some q ∧ RpB q ((n + 2) * m + 3) (k + 1) := by
  obtain ⟨qs, e, hq, hlen⟩ := toPys_of h
  refine ⟨.tuple qs, ?_, rpB_tup hq (by omega)⟩
  simp only [toPy, e, Option.map_some]
theorem wsh_rp (hw : w.OK row) (hl : row.length ≤ 60) : ∃ x, ∀ S, gRepr S [w.d] = some (.str x) := by
  have ww : PartR (.str w.w) := by
    cases w with
    | found => exact (partR_str (by decide +kernel) : PartR (.str "found"))
    | same a b => exact (partR_str (by decide +kernel) : PartR (.str "same"))
    | order a b => exact (partR_str (by decide +kernel) : PartR (.str "order"))
    | near a b m => exact (partR_str (by decide +kernel) : PartR (.str "near"))
  have hi : ∀ {a : Nat}, HourI row a → PartR (.int a) := fun h => partR_int (by have := hour_ix h hl; omega)
  obtain ⟨q, e, hq⟩ := tupR (n := 100) (k := 0) (m := 5) (ds := .str w.w :: w.args) (fun d hd => by
    rcases List.mem_cons.mp hd with rfl | hd
    · exact ww
    · cases w with
      | found => exact nomatch hd
      | same a b =>
        simp [Wsh.args] at hd
        rcases hd with rfl | rfl
        · exact hi hw.1
        · exact hi hw.2
      | order a b =>
        simp [Wsh.args] at hd
        rcases hd with rfl | rfl
        · exact hi hw.1
        · exact hi hw.2
      | near a b m =>
        simp [Wsh.args] at hd
        have h3 := hw.2.2
        rcases hd with rfl | rfl | rfl
        · exact hi hw.1
        · exact hi hw.2.1
        · exact partR_int (by omega)) (by cases w <;> simp [Wsh.args])
  refine ⟨q.shown, fun S => ?_⟩
  rw [← w.d_eq] at e
  have e2 : toPyC S w.d = some q := pyC_of e
  have ro := RpB.ok hq (by omega) (by omega)
  simp only [gRepr, e2]
  rw [if_pos ro]
end
end Dm
-- text HmTy1
set_option maxHeartbeats 1000000
namespace Dm
open PySem L2 PySem.Builtin PySem.Builtin.Str PySem.StrLaws
open PySem.NumText
/-! ### the law's own reading of numbers -/
noncomputable def wrB (w : Str) (lo hi : Int) : Bool := match numF 13 w with
  | some i => decide (lo ≤ i) && decide (i ≤ hi)
  | none => false
theorem chs_cut (z : Str) (lo hi : Option Int) : chs (cutS z lo hi) = (((chs z).drop (HT.sIx z.length 0 lo)).take (HT.sIx z.length z.length hi - HT.sIx z.length 0 lo)) := rfl
theorem sIx_at {n d : Nat} {i : Int} (h0 : 0 ≤ i) (h : i ≤ n) : HT.sIx n d (some i) = i.toNat := by
  unfold HT.sIx
  simp only
  rw [if_neg (by omega)]
  omega
theorem cut_one (z : Str) : chs (cutS z none (some 1)) = (chs z).take 1 := by
  rw [chs_cut]
  have h0 : HT.sIx z.length 0 none = 0 := rfl
  rw [h0, List.drop_zero]
  by_cases h : z.length = 0
  · have : chs z = [] := List.length_eq_zero_iff.mp (by rw [chs_len]; exact h)
    rw [this]; simp
  · rw [sIx_at (by omega) (by omega)]; rfl
theorem cut_rest (z : Str) : chs (cutS z (some 1) none) = (chs z).drop 1 := by
  rw [chs_cut]
  have h0 : HT.sIx z.length z.length none = z.length := rfl
  rw [h0]
  by_cases h : z.length = 0
  · have : chs z = [] := List.length_eq_zero_iff.mp (by rw [chs_len]; exact h)
    rw [this]; simp
  · rw [sIx_at (by omega) (by omega)]
    exact List.take_of_length_le (by rw [List.length_drop, chs_len]; show _ ≤ z.length - 1; omega)
section
variable {S : Sto} {w : Str} {lo hi : Int}
theorem int_len {i : Int} {k : Nat} (h : i.natAbs < 10 ^ (k + 1)) : (bodyN (chs (toString i : Str))).length ≤ k + 1 ∧ (toString i : Str).length ≤ k + 2 := by
  obtain ⟨h1, h2⟩ := chs_int i
  have hd := digs_len k i.natAbs h
  refine ⟨by rw [h1]; exact hd, ?_⟩
  rw [← chs_len]
  rcases h2 with ⟨_, e⟩ | ⟨_, e⟩
  · rw [e]; omega
  · rw [e, List.length_cons]; omega
theorem intText_num {i : Int} (h : w = (toString i : Str)) (hl : w.length ≤ 4300) : intText? w = some i := by
  subst h
  rcases int_nat i with ⟨m, rfl⟩ | ⟨m, rfl⟩
  · have e : (toString ((m : Nat) : Int) : Str).cps.toList = digs m := chs_nat m
    have := intText_digits (x := (toString ((m : Nat) : Int) : Str)) (by rw [e]; exact digs_all m) (by rw [e]; exact digs_ne m) hl
    rw [this, e]
    have hv : digitsVal (digs m) = m := PySem.W.KIN.val_back m
    rw [hv]
  · have hc := chs_neg m
    have := intText_neg (x := (toString (-(((m + 1 : Nat) : Int))) : Str)) (cs := digs (m + 1)) hc (digs_all _) (digs_ne _) hl
    rw [this]
    have hv : digitsVal (digs (m + 1)) = m + 1 := PySem.W.KIN.val_back (m + 1)
    rw [hv]
theorem chr_ok {c : Nat} (h : c < 128) : PyData.strOk (chr1 c) = true := by
  have : ∀ c, c < 128 → PyData.strOk (chr1 c) = true := by decide +kernel
  exact this c h
theorem strs_lay : ∀ {ws : List Str}, (∀ w, w ∈ ws → PyData.strOk w = true) → ∃ qs, toPys (ws.map .str) = some qs ∧ PyData.canLayAll0 qs = true ∧ PyData.depthAll qs = 0 ∧ qs.length = ws.length
  | [], _ => ⟨[], rfl, rfl, by simp [PyData.depthAll], rfl⟩
  | w :: ws, h => by
    obtain ⟨qs, e, h1, h2, h3⟩ := strs_lay fun x hx => h x (List.mem_cons_of_mem _ hx)
    exact ⟨.str w :: qs, by simp [toPys, e, toPy], by simp [PyData.canLayAll0, h1, PyData.canLay0, h w (by simp)], by simp [PyData.depthAll, PyData.depth, h2], by simp [h3]⟩
theorem gNe_strs {ws : List Str} (h : ∀ w, w ∈ ws → PyData.strOk w = true) : gNe S (.lst (ws.map .str)) (.lst []) = some (.bl (!decide (ws = []))) := by
  obtain ⟨qs, es, k1, k2, k3⟩ := strs_lay h
  have e1 : toPyS S (.lst (ws.map .str)) = some (.list qs) := by simp only [toPyS, toPy, es]; rfl
  have e2 : toPyS S (.lst []) = some (.list []) := rfl
  have s2 : SeqAt.shaped (.list []) = true := by decide +kernel
  have s1 : SeqAt.shaped (.list qs) = true := by
    unfold SeqAt.shaped
    simp only [PyData.canLay0, k1, PyData.depth, Bool.true_and]
    exact decide_eq_true (by omega)
  have e3 : PyData.eqv (.list qs) (.list []) = decide (ws = []) := by
    cases ws with
    | nil =>
      cases qs with
      | nil => simp [PyData.eqv, PyData.eqvAll]
      | cons => cases k3
    | cons w ws =>
      cases qs with
      | nil => cases k3
      | cons a b => simp [PyData.eqv, PyData.eqvAll]
  unfold gNe eqD
  simp only [e1, e2]
  rw [if_pos ⟨s1, s2⟩, e3]; rfl
theorem writes_ok (ha : AscW w) (hl : w.length ≤ 16777200) : m_law_writes [.str w, .int lo, .int hi] S = .ok (.bl (wrB w lo hi)) S := by
  refine pure_of fun Q q => ?_
  have emp : chs ("" : Str) = [] := by decide +kernel
  have min1 : chs ("-" : Str) = [45] := by decide +kernel
  have zr : chs ("0" : Str) = [48] := by decide +kernel
  have zs : ("0" : Str) = sepS 48 := by decide +kernel
  have dgs : ∀ c, (c ∈ (("0123456789" : Str)).cps.toList) ↔ (48 ≤ c ∧ c ≤ 57) := by
    have : (("0123456789" : Str)).cps.toList = [48, 49, 50, 51, 52, 53, 54, 55, 56, 57] := by decide +kernel
    intro c
    rw [this]
    simp
    omega
  obtain ⟨y, hy, hyl⟩ : ∃ y, chs y = bodyN (chs w) ∧ y = (if (cutS w none (some 1) == ("-" : Str)) = true then cutS w (some 1) none else w) := by
    by_cases hc : (chs w).head? = some 45
    · have : (cutS w none (some 1) == ("-" : Str)) = true := by
        rw [beq_iff_eq]
        apply chs_inj
        rw [cut_one, min1]
        cases e : chs w with
        | nil => rw [e] at hc; exact nomatch hc
        | cons a b =>
          rw [e] at hc
          have : a = 45 := by simpa using hc
          rw [this]; rfl
      refine ⟨cutS w (some 1) none, ?_, by rw [if_pos this]⟩
      rw [cut_rest]
      unfold bodyN
      rw [if_pos hc, List.drop_one]
    · have : (cutS w none (some 1) == ("-" : Str)) = false := by
        refine str_ne ?_
        rw [cut_one, min1]
        intro e
        cases e2 : chs w with
        | nil => rw [e2] at e; exact nomatch e
        | cons a b =>
          rw [e2] at e hc
          simp at e
          exact hc (by rw [e]; rfl)
      refine ⟨w, ?_, by rw [if_neg (by rw [this]; decide)]⟩
      unfold bodyN
      rw [if_neg hc]
  have hylen : y.length ≤ w.length := by
    rw [← chs_len, ← chs_len, hy]; exact body_len _
  refine does_def rfl ?_
  refine seq_cut (fun ρ S' => S = S' ∧ ρ = [some (.str w), some (.int lo), some (.int hi), some (.str y), none]) (fun M hM => ?_) ?_
  · have hl16 : w.length ≤ 16777216 := by omega
    by_cases hb : cutS w none (some 1) = ("-" : Str)
    · have hyl : y = cutS w (some 1) none := by rw [hyl, if_pos (by simpa using hb)]
      simp [hl16, hb, ← hyl]
      exact hM _ _ ⟨rfl, rfl⟩
    · have hyl : y = w := by rw [hyl, if_neg (by simpa using hb)]
      simp [hl16, hb]
      rw [← hyl]
      exact hM _ _ ⟨rfl, by rw [hyl]⟩
  rintro ρ _ ⟨rfl, rfl⟩
  have gl : gLen S [.str y] = some (.int y.length) := by simp [gLen]; omega
  by_cases h0 : y = ("" : Str)
  · have hn : numF 13 w = none := by
      cases e : numF 13 w with
      | none => rfl
      | some i =>
        have := numF_iff.mp e
        have g := num_good i
        rw [← this.1] at g
        exact absurd (by rw [← hy, h0, emp]) g.2.1
    have : wrB w lo hi = false := by unfold wrB; rw [hn]
    rw [this] at q
    simp [h0]
    exact q
  have yne : chs y ≠ [] := fun e => h0 (chs_inj (by rw [e, emp]))
  by_cases h13 : (13 : Int) < y.length
  · have hn : numF 13 w = none := by
      cases e : numF 13 w with
      | none => rfl
      | some i =>
        have := numF_iff.mp e
        have g := (int_len (k := 12) this.2).1
        rw [← this.1, ← hy, chs_len] at g
        omega
    have : wrB w lo hi = false := by unfold wrB; rw [hn]
    rw [this] at q
    simp [h0, gl, h13]
    exact q
  have comp : ∀ (k : Bool → Prop), k (decide (∃ c ∈ chs y, ¬ (48 ≤ c ∧ c ≤ 57))) → OptQ (gNe S (.lst ((((chs y).map fun c => c).filter fun c => !decide (c ∈ (("0123456789" : Str)).cps.toList)).map fun c => D.str (chr1 c))) (.lst [])) (BlQ (fun b _ => k b) · S) := by
    intro k hk
    have e1 : (((chs y).map fun c => c).filter fun c => !decide (c ∈ (("0123456789" : Str)).cps.toList)).map (fun c => D.str (chr1 c)) = ((((chs y).map fun c => c).filter fun c => !decide (c ∈ (("0123456789" : Str)).cps.toList)).map chr1).map .str := by rw [List.map_map]; rfl
    rw [e1, gNe_strs (fun x hx => by
      obtain ⟨c, hc, rfl⟩ := List.mem_map.mp hx
      have := (List.mem_filter.mp hc).1
      simp at this
      exact chr_ok (ha c (body_mem (by rw [← hy]; exact this))))]
    have e2 : (!decide (((((chs y).map fun c => c).filter fun c => !decide (c ∈ (("0123456789" : Str)).cps.toList)).map chr1) = [])) = decide (∃ c ∈ chs y, ¬ (48 ≤ c ∧ c ≤ 57)) := by
      rw [Bool.eq_iff_iff]
      simp only [Bool.not_eq_true', decide_eq_false_iff_not, decide_eq_true_eq, List.map_eq_nil_iff, List.filter_eq_nil_iff, List.map_id']
      constructor
      · intro h
        exact Classical.byContradiction fun h2 => h fun c hc h3 => by
          simp only [Bool.not_eq_true', decide_eq_false_iff_not, dgs] at h3
          exact h2 ⟨c, hc, h3⟩
      · rintro ⟨c, hc, h2⟩ h
        exact h c hc (by simp only [Bool.not_eq_true', decide_eq_false_iff_not, dgs]; exact h2)
    rw [e2]
    exact hk
  have hcut : ∀ (b : Bool), b = decide (∃ c ∈ chs y, ¬ (48 ≤ c ∧ c ≤ 57)) → ∀ (K : Bool → Sto → Prop), K b S → LcQ (tgN 4) (mOp (gInC true) (mVar 4) (mK (D.str (Str.ofString "0123456789")))) (mVar 4)
      (wipeD [some (D.str w), some (D.int lo), some (D.int hi), some (D.str y), none] [4]) (chrsD y) S fun xs S1 => OptQ (gNe S1 (D.lst xs) (D.lst [])) fun z => BlQ K z S1 := by
    intro b hb K q
    have e : chrsD y = (chs y).map fun c => D.str (chr1 c) := rfl
    rw [e]
    refine lcQ_filter (as := chs y) (i := fun c => D.str (chr1 c)) (fun c => !decide (c ∈ (("0123456789" : Str)).cps.toList)) (fun c => D.str (chr1 c)) (fun c hc => ⟨_, rfl, fun Q q => ?_, fun Q _ q => ?_⟩) ?_
    · simp [gInC, chr1, wipeD]
      simpa using q
    · simp [wipeD]
      exact q
    · have := comp (fun b => K b S) (by rw [← hb]; exact q)
      simp only [List.map_id'] at this
      cases e : gNe S (.lst (((chs y).filter fun c => !decide (c ∈ (("0123456789" : Str)).cps.toList)).map fun c => D.str (chr1 c))) (.lst []) with
      | none => rw [e] at this; exact this.elim
      | some d =>
        rw [e] at this
        cases d with
        | bl b => exact this
        | _ => exact this.elim
  by_cases hdg : ∃ c ∈ chs y, ¬ (48 ≤ c ∧ c ≤ 57)
  · have hn : numF 13 w = none := by
      cases e : numF 13 w with
      | none => rfl
      | some i =>
        have := numF_iff.mp e
        have g := num_good i
        rw [← this.1] at g
        obtain ⟨c, hc, hc2⟩ := hdg
        exact absurd (g.1 c (by rw [← hy]; exact hc)) hc2
    have : wrB w lo hi = false := by unfold wrB; rw [hn]
    rw [this] at q
    simp [h0, gl, h13]
    refine ⟨by omega, hcut true (by simpa using hdg) _ ?_⟩
    simp
    exact q
  refine seq_cut (fun ρ S' => S = S' ∧ ρ = [some (.str w), some (.int lo), some (.int hi), some (.str y), none]) (fun M hM => ?_) ?_
  · simp [h0, gl, h13]
    refine ⟨by omega, hcut false (by simpa using hdg) _ ?_⟩
    simp
    exact hM _ _ ⟨rfl, rfl⟩
  rintro ρ _ ⟨rfl, rfl⟩
  have hdg2 : AllDigits (chs y) := fun c hc => Classical.byContradiction fun h => hdg ⟨c, hc, h⟩
  obtain ⟨c, r, e⟩ : ∃ c r, chs y = c :: r := by
    cases e : chs y with
    | nil => exact absurd e yne
    | cons c r => exact ⟨c, r, rfl⟩
  have ix := str_ix (S := S) e (by omega)
  by_cases hz : c = 48 ∧ w ≠ ("0" : Str)
  · have hn : numF 13 w = none := by
      cases e2 : numF 13 w with
      | none => rfl
      | some i =>
        have := numF_iff.mp e2
        have g := num_good i
        rw [← this.1] at g
        have h48 := g.2.2.2 (by rw [← hy, e, hz.1]; rfl)
        exfalso
        have ci := chs_int i
        rw [← this.1, h48] at ci
        rcases ci.2 with ⟨_, h⟩ | ⟨_, h⟩
        · exact hz.2 (chs_inj (by rw [h, ← ci.1, zr]))
        · exact g.2.2.1 (by rw [h, ← ci.1])
    have : wrB w lo hi = false := by unfold wrB; rw [hn]
    rw [this] at q
    rw [hz.1, ← zs] at ix
    simp [ix, hz.2]
    exact q
  refine seq_cut (fun ρ S' => S = S' ∧ ρ = [some (.str w), some (.int lo), some (.int hi), some (.str y), none]) (fun M hM => ?_) ?_
  · by_cases hc : c = 48
    · have hw : w = ("0" : Str) := Classical.byContradiction fun h => hz ⟨hc, h⟩
      rw [hc, ← zs] at ix
      simp [ix, hw]
      exact hM _ _ ⟨rfl, by rw [hw]⟩
    · have hne : ¬ (sepS c = ("0" : Str)) := by
        intro h
        rw [zs] at h
        exact hc (by simpa [sepS] using h)
      simp [ix, hne]
      exact hM _ _ ⟨rfl, rfl⟩
  rintro ρ _ ⟨rfl, rfl⟩
  have g : GoodN (chs w) := by
    refine ⟨by rw [← hy]; exact hdg2, by rw [← hy]; exact yne, fun h => ?_, fun h => ?_⟩
    · have hb : bodyN (chs w) = [48] := by rw [h]; rfl
      rw [← hy, e] at hb
      injection hb with hb _
      refine hz ⟨hb, fun h2 => ?_⟩
      rw [h2, zr] at h
      exact nomatch h
    · rw [← hy, e] at h
      have hc48 : c = 48 := by simpa using h
      have hw : w = ("0" : Str) := Classical.byContradiction fun h => hz ⟨hc48, h⟩
      rw [hw, zr]; rfl
  obtain ⟨i, e1, e2⟩ := good_num g
  have hi13 : i.natAbs < 10 ^ 13 := Nat.lt_of_lt_of_le e2 (Nat.pow_le_pow_right (by decide) (by rw [← hy, chs_len]; omega))
  have hn : numF 13 w = some i := numF_iff.mpr ⟨e1, hi13⟩
  have gi : gIntS S [.str w] = some (.int i) := by
    have hl2 := (int_len (k := 12) hi13).2
    rw [← e1] at hl2
    show (if w.length ≤ 640 then (intText? w).map D.int else none) = _
    rw [if_pos (by omega), intText_num e1 (by omega)]; rfl
  unfold wrB at q
  rw [hn] at q
  by_cases c1 : lo ≤ i <;> by_cases c2 : i ≤ hi <;> simp [c1, c2] at q
  all_goals
    simp [gi, c1, c2]
    exact q
/-- the value that a word stands for -/
noncomputable def valW (w : Str) : D := match numF 13 w with
  | some i => if -100000 ≤ i ∧ i ≤ 1000000 then .int i else .str w
  | none => .str w
theorem value_ok (ha : AscW w) (hl : w.length ≤ 16777200) : m_law_value_of [.str w] S = .ok (valW w) S := by
  refine pure_of fun Q q => ?_
  refine does_def rfl ?_
  have hw := writes_ok (S := S) (lo := -100000) (hi := 1000000) ha hl
  unfold valW at q
  cases hn : numF 13 w with
  | none =>
    rw [hn] at q
    have e : wrB w (-100000) 1000000 = false := by unfold wrB; rw [hn]
    rw [e] at hw
    simp [hw]
    exact q
  | some i =>
    rw [hn] at q
    simp only at q
    obtain ⟨e1, hi13⟩ := numF_iff.mp hn
    have gi : gIntS S [.str w] = some (.int i) := by
      have hl2 := (int_len (k := 12) hi13).2
      rw [← e1] at hl2
      show (if w.length ≤ 640 then (intText? w).map D.int else none) = _
      rw [if_pos (by omega), intText_num e1 (by omega)]; rfl
    by_cases c : -100000 ≤ i ∧ i ≤ 1000000
    · have e : wrB w (-100000) 1000000 = true := by unfold wrB; rw [hn]; simp [c]
      rw [if_pos c] at q
      rw [e] at hw
      simp [hw, gi]
      exact q
    · have e : wrB w (-100000) 1000000 = false := by unfold wrB; rw [hn]; simpa using c
      rw [if_neg c] at q
      rw [e] at hw
      simp [hw]
      exact q
end
end Dm
-- text HmTy2
set_option maxHeartbeats 1000000
namespace Dm
open PySem L2 PySem.Builtin PySem.Builtin.Str PySem.StrLaws
open PySem.NumText
/-! ### the words that can stand, as the law lists them -/
def kS (k : Nat) : Str := (toString (k : Int) : Str)
def hoursW (row : List Kd) (ks : List Kd) : List Str := ((List.range row.length).filter fun k => decide (row.getD k .mom ∈ ks)).map kS
theorem mem_hours {row ks : List Kd} {v : Str} : v ∈ hoursW row ks ↔ ∃ k kd, row[k]? = some kd ∧ kd ∈ ks ∧ v = kS k := by
  unfold hoursW
  simp only [List.mem_map, List.mem_filter, List.mem_range, decide_eq_true_eq]
  constructor
  · rintro ⟨k, ⟨h1, h2⟩, rfl⟩
    refine ⟨k, _, List.getElem?_eq_getElem h1, ?_, rfl⟩
    rw [List.getD_eq_getElem?_getD, List.getElem?_eq_getElem h1] at h2
    exact h2
  · rintro ⟨k, kd, h1, h2, rfl⟩
    refine ⟨k, ⟨(List.getElem?_eq_some_iff.mp h1).1, ?_⟩, rfl⟩
    rw [List.getD_eq_getElem?_getD, h1]
    exact h2
def lwS (nz : Nat) (row : List Kd) : Pt → Option (List Str)
  | .mn => none
  | .pl => some ((["0", "1"] : List Str).take nz)
  | .fo => some ["early", "late", "refuse"]
  | .ga => some ["ahead", "behind", "refuse"]
  | .pt => some (hoursW row [.mom, .rdg])
  | .knd k => some (hoursW row [k])
section
variable {S : Sto} {row ks : List Kd} {nz n r : Nat} {w v : Str} {p : Pt} {ps : List Pt} {d : D}
theorem gIn_strs {neg : Bool} {ws : List Str} : gIn neg S (.str v) (.lst (ws.map .str)) = some (.bl (if neg then !decide (v ∈ ws) else decide (v ∈ ws))) := by
  unfold gIn
  have hs : seqOf S (.lst (ws.map .str)) = some (ws.map .str) := rfl
  rw [hs]
  have h1 : (ws.map D.str).all flatD = true := by rw [List.all_eq_true]; intro d hd; obtain ⟨k, _, rfl⟩ := List.mem_map.mp hd; rfl
  simp only [h1, and_true]
  have hf : flatD (.str v) = true := rfl
  rw [if_pos hf]
  have e : ((ws.map D.str).any fun x => eqF x (.str v)) = decide (v ∈ ws) := by
    rw [Bool.eq_iff_iff, List.any_eq_true, decide_eq_true_eq]
    constructor
    · rintro ⟨d, hd, e⟩
      obtain ⟨j, hj, rfl⟩ := List.mem_map.mp hd
      have e : (j == v) = true := e
      rw [beq_iff_eq] at e
      rw [← e]; exact hj
    · intro h
      exact ⟨.str v, List.mem_map.mpr ⟨v, h, rfl⟩, by show (v == v) = true; simp⟩
  rw [e]
theorem rng_map : rngD 0 n = (List.range n).map fun k => D.int ((k : Nat) : Int) := by
  unfold rngD
  simp
/-- the list of the indexes whose kinds are wanted, as texts -/
theorem hours_lc {mt : ME} {ρ : Rho} {Q : List D → Sto → Prop} (hl : row.length ≤ 60)
    (ht : ∀ k kd, row[k]? = some kd → ∀ Q : D → Sto → Prop, Q (.bl (decide (kd ∈ ks))) S → (mt (ρ.set 5 (some (.int ((k : Nat) : Int)))) S).Does Q) (h5 : 5 < ρ.length) (q : Q ((hoursW row ks).map .str) S) :
    LcQ (tgN 5) mt (mCallB gStrI (mCons (mVar 5) mNil)) ρ (rngD 0 row.length) S Q := by
  rw [rng_map]
  refine lcQ_filter (as := List.range row.length) (i := fun k => D.int ((k : Nat) : Int)) (fun k => decide (row.getD k .mom ∈ ks)) (fun k => .str (kS k)) (fun k hk => ⟨_, rfl, fun Q q => ?_, fun Q _ q => ?_⟩) ?_
  · have hk := List.mem_range.mp hk
    have e := List.getElem?_eq_getElem hk
    refine ht k _ e Q ?_
    rw [List.getD_eq_getElem?_getD, e] at q
    exact q
  · have hk := List.mem_range.mp hk
    have e : (ρ.set 5 (some (D.int (k : Int))))[5]? = some (some (D.int (k : Int))) := by
      rw [List.getElem?_set_self h5]
    have hb : k.log2 < 1920 := by
      have h1 : k < 2 ^ 60 := by omega
      have := log2_le h1
      omega
    simp [e, gStrI, hb]
    exact q
  · have e : ((List.range row.length).filter fun k => decide (row.getD k .mom ∈ ks)).map (fun k => D.str (kS k)) = (hoursW row ks).map .str := by
      unfold hoursW
      rw [List.map_map]; rfl
    rw [e]
    exact q
/-- a word can stand for a part: by the law, by the program -/
theorem num_text {t : Str} (c : Nat) (hc : c ∈ bodyN (chs t)) (h : ¬ (48 ≤ c ∧ c ≤ 57)) (k : Nat) : numF k t = none := by
  cases e : numF k t with
  | none => rfl
  | some i =>
    have := numF_iff.mp e
    have g := num_good i
    rw [← this.1] at g
    exact absurd (g.1 c hc) h
theorem valW_txt {t : Str} (h : numF 13 t = none) : valW t = .str t := by unfold valW; rw [h]
theorem valW_int {i : Int} (h : -100000 ≤ i ∧ i ≤ 1000000) : valW (toString i : Str) = .int i := by
  have e : numF 13 (toString i : Str) = some i := numF_int (by omega)
  unfold valW
  rw [e]
  simp only
  rw [if_pos h]
theorem words_val {t : Str} (h : foB t = true ∨ gaB t = true) : valW t = .str t := by
  have e : ∀ x : Str, x = "early" ∨ x = "late" ∨ x = "refuse" ∨ x = "ahead" ∨ x = "behind" → numF 13 x = none := by
    rintro x (rfl | rfl | rfl | rfl | rfl)
    · exact num_text 97 (by decide +kernel) (by decide) 13
    · exact num_text 97 (by decide +kernel) (by decide) 13
    · exact num_text 102 (by decide +kernel) (by decide) 13
    · exact num_text 97 (by decide +kernel) (by decide) 13
    · exact num_text 98 (by decide +kernel) (by decide) 13
  refine valW_txt (e t ?_)
  rcases h with h | h
  · rcases foB_rule h with rfl | rfl | rfl
    · exact .inl rfl
    · exact .inr (.inl rfl)
    · exact .inr (.inr (.inl rfl))
  · rcases gaB_rule h with rfl | rfl | rfl
    · exact .inr (.inr (.inr (.inl rfl)))
    · exact .inr (.inr (.inr (.inr rfl)))
    · exact .inr (.inr (.inl rfl))
theorem takes_num (hq : isTxt p = false) : takesB nz row (.p p) v = true ↔ ∃ i : Int, v = (toString i : Str) ∧ i.natAbs < 10 ^ 7 ∧ ptB nz row p (.int i) = true := by
  have e : slotO (.p p) v = (numF 7 v).map .int := by show (if isTxt p = true then _ else _) = _; rw [hq]; rfl
  unfold takesB
  rw [e]
  constructor
  · intro h
    cases e2 : numF 7 v with
    | none => rw [e2] at h; exact nomatch h
    | some i =>
      rw [e2] at h
      have := numF_iff.mp e2
      exact ⟨i, this.1, this.2, h⟩
  · rintro ⟨i, h1, h2, h3⟩
    rw [numF_iff.mpr ⟨h1, h2⟩]
    exact h3
theorem takes_val (hn : nz ≤ 2) (hl : row.length ≤ 60) (h : takesB nz row (.p p) v = true) : valW v = optS (slotO (.p p) v) := by
  cases hq : isTxt p with
  | true =>
    have e : slotO (.p p) v = some (.str v) := by show (if isTxt p = true then _ else _) = _; rw [hq]; rfl
    rw [e]
    unfold takesB at h
    rw [e] at h
    cases p with
    | fo => exact words_val (.inl h)
    | ga => exact words_val (.inr h)
    | _ => exact nomatch hq
  | false =>
    obtain ⟨i, rfl, h2, h3⟩ := (takes_num hq).mp h
    have e : slotO (.p p) (toString i : Str) = some (.int i) := by
      show (if isTxt p = true then _ else _) = _
      rw [hq]
      show (numF 7 (toString i : Str)).map D.int = _
      rw [numF_int h2]; rfl
    rw [e, valW_int]
    · rfl
    · rcases ptB_int h3 with ⟨s, hs, _⟩ | ⟨j, ⟨hj, hh⟩ | ⟨m, hm, _, h4⟩⟩
      · exact nomatch hs
      · have hj : i = (j : Int) := by injection hj
        have lt : ∀ {k : Kd}, row[j]? = some k → j < 60 := fun h => by
          have := (List.getElem?_eq_some_iff.mp h).1
          omega
        rcases hh with ⟨k, _, hk⟩ | ⟨_, hk⟩ | ⟨_, hk⟩
        · have := lt hk; omega
        · omega
        · rcases hk with hk | hk
          · have := lt hk; omega
          · have := lt hk; omega
      · have hm : i = m := by injection hm
        omega
theorem law_takes (hz : nz = 1 ∨ nz = 2) (hl : row.length ≤ 60) : (match lwS nz row p with
    | none => wrB v (-100000) 100000
    | some l => decide (v ∈ l)) = takesB nz row (.p p) v := by
  have big : ∀ {k : Nat} {kd : Kd}, row[k]? = some kd → ((k : Int)).natAbs < 10 ^ 7 := fun h => by
    have := (List.getElem?_eq_some_iff.mp h).1
    omega
  rw [Bool.eq_iff_iff]
  cases p with
  | mn =>
    rw [takes_num rfl]
    show wrB v (-100000) 100000 = true ↔ _
    unfold wrB
    constructor
    · intro h
      cases e : numF 13 v with
      | none => rw [e] at h; exact nomatch h
      | some i =>
        rw [e] at h
        simp at h
        exact ⟨i, (numF_iff.mp e).1, by omega, by rw [mn_int]; simp [h]⟩
    · rintro ⟨i, h1, h2, h3⟩
      rw [mn_int] at h3
      rw [numF_iff.mpr ⟨h1, by omega⟩]
      exact h3
  | pl =>
    rw [takes_num rfl]
    show decide (v ∈ (["0", "1"] : List Str).take nz) = true ↔ _
    have e0 : ("0" : Str) = (toString (0 : Int) : Str) := by decide +kernel
    have e1 : ("1" : Str) = (toString (1 : Int) : Str) := by decide +kernel
    rw [decide_eq_true_eq]
    constructor
    · intro h
      rcases hz with rfl | rfl
      · have : v = ("0" : Str) := by simpa using h
        exact ⟨0, by rw [this, e0], by decide, by rw [pl_int]; decide⟩
      · have : v = ("0" : Str) ∨ v = ("1" : Str) := by simpa using h
        rcases this with h | h
        · exact ⟨0, by rw [h, e0], by decide, by rw [pl_int]; decide⟩
        · exact ⟨1, by rw [h, e1], by decide, by rw [pl_int]; decide⟩
    · rintro ⟨i, h1, h2, h3⟩
      rw [pl_int] at h3
      simp at h3
      rcases hz with rfl | rfl
      · have : i = 0 := by omega
        subst this
        rw [h1, ← e0]; simp
      · have : i = 0 ∨ i = 1 := by omega
        rcases this with rfl | rfl
        · rw [h1, ← e0]; simp
        · rw [h1, ← e1]; simp
  | fo =>
    have e : takesB nz row (.p .fo) v = foB v := rfl
    rw [e]
    show decide (v ∈ (["early", "late", "refuse"] : List Str)) = true ↔ _
    rw [decide_eq_true_eq]
    have e2 : foB v = decide (v = "early" ∨ v = "late" ∨ v = "refuse") := by
      unfold foB
      rw [Bool.eq_iff_iff, decide_eq_true_eq, Bool.or_eq_true, Bool.or_eq_true, beq_iff_eq, beq_iff_eq, beq_iff_eq]
      constructor
      · rintro (h | h | h)
        · exact .inl h.symm
        · exact .inr (.inl h.symm)
        · exact .inr (.inr h.symm)
      · rintro (h | h | h)
        · exact .inl h.symm
        · exact .inr (.inl h.symm)
        · exact .inr (.inr h.symm)
    rw [e2, decide_eq_true_eq, List.mem_cons, List.mem_cons, List.mem_singleton]
  | ga =>
    have e : takesB nz row (.p .ga) v = gaB v := rfl
    rw [e]
    show decide (v ∈ (["ahead", "behind", "refuse"] : List Str)) = true ↔ _
    rw [decide_eq_true_eq]
    have e2 : gaB v = decide (v = "ahead" ∨ v = "behind" ∨ v = "refuse") := by
      unfold gaB
      rw [Bool.eq_iff_iff, decide_eq_true_eq, Bool.or_eq_true, Bool.or_eq_true, beq_iff_eq, beq_iff_eq, beq_iff_eq]
      constructor
      · rintro (h | h | h)
        · exact .inl h.symm
        · exact .inr (.inl h.symm)
        · exact .inr (.inr h.symm)
      · rintro (h | h | h)
        · exact .inl h.symm
        · exact .inr (.inl h.symm)
        · exact .inr (.inr h.symm)
    rw [e2, decide_eq_true_eq, List.mem_cons, List.mem_cons, List.mem_singleton]
  | pt =>
    rw [takes_num rfl]
    show decide (v ∈ hoursW row [.mom, .rdg]) = true ↔ _
    rw [decide_eq_true_eq, mem_hours]
    constructor
    · rintro ⟨k, kd, h1, h2, rfl⟩
      refine ⟨k, rfl, big h1, ?_⟩
      rw [pt_int]
      have : ((k : Int)).toNat = k := by omega
      rw [this, h1]
      simp at h2
      rcases h2 with rfl | rfl <;> simp
    · rintro ⟨i, h1, h2, h3⟩
      rw [pt_int] at h3
      simp at h3
      obtain ⟨h0, h3⟩ := h3
      have e : ((i.toNat : Nat) : Int) = i := by omega
      rcases h3 with h3 | h3
      · exact ⟨i.toNat, _, h3, by simp, by rw [h1, kS, e]⟩
      · exact ⟨i.toNat, _, h3, by simp, by rw [h1, kS, e]⟩
  | knd k0 =>
    rw [takes_num rfl]
    show decide (v ∈ hoursW row [k0]) = true ↔ _
    rw [decide_eq_true_eq, mem_hours]
    constructor
    · rintro ⟨k, kd, h1, h2, rfl⟩
      refine ⟨k, rfl, big h1, ?_⟩
      rw [knd_int]
      have : ((k : Int)).toNat = k := by omega
      rw [this, h1]
      simp at h2
      simp [h2]
    · rintro ⟨i, h1, h2, h3⟩
      rw [knd_int] at h3
      simp at h3
      obtain ⟨h0, h3⟩ := h3
      have e : ((i.toNat : Nat) : Int) = i := by omega
      exact ⟨i.toNat, _, h3, by simp, by rw [h1, kS, e]⟩
end
end Dm
-- text HmTy3
set_option maxHeartbeats 1000000
namespace Dm
open PySem L2 PySem.Builtin PySem.Builtin.Str PySem.StrLaws
/-! ### the words that can begin a step, as the law lists them -/
end Dm
-- text HmTy4
set_option maxHeartbeats 1000000
namespace Dm
open PySem L2 PySem.Builtin PySem.Builtin.Str PySem.StrLaws
/-! ### programs read by the law -/
def exD (f : List D → D) : Except Nat (List D) → D
  | .ok ds => f ds
  | .error j => .int j
end Dm
-- text HmTy5
set_option maxHeartbeats 1000000
namespace Dm
open PySem L2 PySem.Builtin PySem.Builtin.Str PySem.StrLaws
/-! ### .. and compared with the program's reading -/
section
variable {S : Sto} {row ks : List Kd} {nz n r : Nat} {w v : Str} {p : Pt} {ps : List Pt} {d : D} {ds : List D} {t : Stp} {ts us : List Stp} {ws : List Str} {zs : Zs}
theorem slR_err : ∀ {sl : List Sl} {k j : Nat} {ac : List D}, k < ws.length → slR nz row ws sl k ac = .error j → j ≤ ws.length
  | [], k, j, ac, hk, h => nomatch h
  | p :: sl, k, j, ac, hk, h => by
    cases hw : ws[k + 1]? with
    | none =>
      rw [slR_none hw] at h
      cases h
      exact Nat.le_refl _
    | some w =>
      have hl := (List.getElem?_eq_some_iff.mp hw).1
      cases ht : takesB nz row p w with
      | false =>
        rw [slR_no hw ht] at h
        cases h
        omega
      | true =>
        rw [slR_yes hw ht] at h
        exact slR_err hl h
end
end Dm
-- text HmTy6
set_option maxHeartbeats 1000000
namespace Dm
open PySem L2 PySem.Builtin PySem.Builtin.Str PySem.StrLaws
/-! ### what is asked about words -/
/-- a list of texts of common signs, at most n of them, each at most l long -/
structure TxOK (n l : Nat) (ws : List Str) : Prop where
  few : ws.length ≤ n
  each : ∀ w, w ∈ ws → AscW w ∧ w.length ≤ l
section
variable {S : Sto} {nz n l : Nat} {w v : Str} {d : D} {ds : List D} {t : Stp} {ts us : List Stp} {ws : List Str} {zs : Zs}
theorem jl_sub (c : Nat) : ∀ {ps : List (List Nat)} {x : Nat}, x ∈ jl c ps → x = c ∨ ∃ p ∈ ps, x ∈ p
  | [], _, h => nomatch h
  | [q], x, h => .inr ⟨q, by simp, h⟩
  | q :: r :: ps, x, h => by
    have h : x ∈ q ++ c :: jl c (r :: ps) := h
    rcases List.mem_append.mp h with h | h
    · exact .inr ⟨q, by simp, h⟩
    · rcases List.mem_cons.mp h with rfl | h
      · exact .inl rfl
      · rcases jl_sub c h with h | ⟨p, hp, hx⟩
        · exact .inl h
        · exact .inr ⟨p, List.mem_cons_of_mem _ hp, hx⟩
theorem join_asc (h : TxOK n l ws) : AscW (Txt.join " " ws) := by
  have sp : (" " : Str) = sepS 32 := by decide +kernel
  intro c hc
  rw [txt_join, sp, join_jl] at hc
  rcases jl_sub 32 hc with rfl | ⟨p, hp, hx⟩
  · decide
  · obtain ⟨w, hw, rfl⟩ := List.mem_map.mp hp
    exact (h.each w hw).1 c hx
theorem join_short (h : TxOK n l ws) (hb : n * l + n ≤ 16777200) : (Txt.join " " ws).length ≤ 16777200 ∧ joinFit " " ws := by
  have h1 := join_len (a := " ") (m := l) (k := n) (ys := ws) (fun w hw => (h.each w hw).2) h.few
  have e : (" " : Str).length = 1 := rfl
  rw [e] at h1
  refine ⟨by omega, join_fit (m := l) (k := n) (fun w hw => (h.each w hw).2) h.few (by rw [e]; omega)⟩
theorem told_repr {j : Nat} (hj : j ≤ 16777216) : ∃ x, ∀ S, gRepr S [.tup [.int j, .bl true, .bl false, .bl false]] = some (.str x) := by
  have hb : ∀ b : Bool, ∃ q, toPy (.bl b) = some q ∧ RpB q 100 0 := fun b => by
    cases b
    · exact ⟨_, rfl, by decide +kernel, by decide +kernel, by simp only [PyData.shown]; decide +kernel, by simp only [PyData.depth]; omega⟩
    · exact ⟨_, rfl, by decide +kernel, by decide +kernel, by simp only [PyData.shown]; decide +kernel, by simp only [PyData.depth]; omega⟩
  obtain ⟨q, e, hq⟩ := tupR (n := 100) (k := 0) (m := 5) (ds := [.int j, .bl true, .bl false, .bl false]) (fun d hd => by
    simp at hd
    rcases hd with rfl | rfl | rfl
    · exact ⟨_, rfl, (rpB_int (by omega)).up (by omega) (Nat.le_refl _)⟩
    · exact hb true
    · exact hb false) (by simp)
  refine ⟨q.shown, fun S => ?_⟩
  have e2 : toPyC S (.tup [.int j, .bl true, .bl false, .bl false]) = some q := pyC_of e
  have ro := RpB.ok hq (by omega) (by omega)
  simp only [gRepr, e2]
  rw [if_pos ro]
end
end Dm
-- text HmTy7
set_option maxHeartbeats 1000000
namespace Dm
open PySem L2 PySem.Builtin PySem.Builtin.Str PySem.StrLaws
/-! ### drawn words -/
def odd1 : List Str := [("" : Str), ("-" : Str), ("0" : Str), ("1" : Str), ("2" : Str), ("7" : Str), ("8" : Str), ("-0" : Str), ("00" : Str), ("07" : Str), ("-1" : Str)]
def odd2 : List Str := [("+1" : Str), ("100000" : Str), ("100001" : Str), ("-100000" : Str), ("-100001" : Str), ("x" : Str)]
def odd3 : List Str := [("read" : Str), ("find" : Str), ("offset" : Str), ("edition" : Str), ("plus" : Str), ("less" : Str)]
def odd4 : List Str := [("add" : Str), ("then" : Str), ("early" : Str), ("late" : Str), ("refuse" : Str), ("ahead" : Str)]
def odd5 : List Str := [("behind" : Str), ("found" : Str), ("same" : Str), ("order" : Str), ("near" : Str), ("1000000" : Str)]
def odd6 : List Str := [("1000001" : Str), ("Read" : Str), ("0_1" : Str), ("1.0" : Str), ("of" : Str), ("try" : Str)]
def odd7 : List Str := [("\n" : Str), ("0\n" : Str), ("--1" : Str), ("9999999999999" : Str), ("then then" : Str), ("thenthen" : Str), repS "a" 300, repS "1" 1500, (" " : Str)]
def oddL : List Str := (((((odd1 ++ odd2) ++ odd3) ++ odd4) ++ odd5) ++ odd6) ++ odd7
section
variable {S : Sto} {p nz n l k : Nat} {w v : Str} {d : D} {ds : List D} {t : Stp} {ts us : List Stp} {ws : List Str} {zs : Zs}
theorem oddL_ok : ∀ w, w ∈ oddL → AscW w ∧ w.length ≤ 1500 := by
  have : (oddL.all fun w => (chs w).all (fun c => decide (c < 128)) && decide (w.length ≤ 1500)) = true := by decide +kernel
  intro w hw
  have h := List.all_eq_true.mp this w hw
  rw [Bool.and_eq_true, List.all_eq_true, decide_eq_true_eq] at h
  exact ⟨fun c hc => by simpa using h.1 c hc, h.2⟩
theorem odd_word_does {Q : D → Sto → Prop} (hp : Bag p (n + 1) S) (q : ∀ w S', AscW w → w.length ≤ 1500 → Bag p n S' → GoB p S S' → Q (.str w) S') : (m_law_odd_word [.cell p] S).Does Q := by
  have m1 : ∀ S, gMulS S (.str "a") (.int 300) = some (.str (repS "a" 300)) := fun _ => rfl
  have m2 : ∀ S, gMulS S (.str "1") (.int 1500) = some (.str (repS "1" 1500)) := fun _ => rfl
  refine does_def rfl ?_
  refine seq_cut (fun ρ S' => ρ = [some (.cell p), some (.lst (odd1.map .str))] ∧ S = S') (fun M hM => ?_) ?_
  · simp [m1, m2]
    exact hM _ _ ⟨rfl, rfl⟩
  rintro ρ _ ⟨rfl, rfl⟩
  refine seq_cut (fun ρ S' => ρ = [some (.cell p), some (.lst ((odd1 ++ odd2).map .str))] ∧ S = S') (fun M hM => ?_) ?_
  · simp [m1, m2, odd1]
    exact hM _ _ ⟨rfl, rfl⟩
  rintro ρ _ ⟨rfl, rfl⟩
  refine seq_cut (fun ρ S' => ρ = [some (.cell p), some (.lst (((odd1 ++ odd2) ++ odd3).map .str))] ∧ S = S') (fun M hM => ?_) ?_
  · simp [m1, m2, odd1, odd2]
    exact hM _ _ ⟨rfl, rfl⟩
  rintro ρ _ ⟨rfl, rfl⟩
  refine seq_cut (fun ρ S' => ρ = [some (.cell p), some (.lst ((((odd1 ++ odd2) ++ odd3) ++ odd4).map .str))] ∧ S = S') (fun M hM => ?_) ?_
  · simp [m1, m2, odd1, odd2, odd3]
    exact hM _ _ ⟨rfl, rfl⟩
  rintro ρ _ ⟨rfl, rfl⟩
  refine seq_cut (fun ρ S' => ρ = [some (.cell p), some (.lst (((((odd1 ++ odd2) ++ odd3) ++ odd4) ++ odd5).map .str))] ∧ S = S') (fun M hM => ?_) ?_
  · simp [m1, m2, odd1, odd2, odd3, odd4]
    exact hM _ _ ⟨rfl, rfl⟩
  rintro ρ _ ⟨rfl, rfl⟩
  refine seq_cut (fun ρ S' => ρ = [some (.cell p), some (.lst ((((((odd1 ++ odd2) ++ odd3) ++ odd4) ++ odd5) ++ odd6).map .str))] ∧ S = S') (fun M hM => ?_) ?_
  · simp [m1, m2, odd1, odd2, odd3, odd4, odd5]
    exact hM _ _ ⟨rfl, rfl⟩
  rintro ρ _ ⟨rfl, rfl⟩
  refine seq_cut (fun ρ S' => ρ = [some (.cell p), some (.lst (((((((odd1 ++ odd2) ++ odd3) ++ odd4) ++ odd5) ++ odd6) ++ odd7).map .str))] ∧ S = S') (fun M hM => ?_) ?_
  · simp [m1, m2, odd1, odd2, odd3, odd4, odd5, odd6]
    exact hM _ _ ⟨rfl, rfl⟩
  rintro ρ _ ⟨rfl, rfl⟩
  have e0 : (((((odd1 ++ odd2) ++ odd3) ++ odd4) ++ odd5) ++ odd6) ++ odd7 = oddL := rfl
  rw [e0]
  have hl : oddL.length = 50 := by decide
  have gl : gLen S [.lst (oddL.map .str)] = some (.int 50) := by simp [hl]
  simp [hl, -List.map_append]
  refine pick2_does hp (by decide) (by decide) fun r S1 b1 g1 r0 r1 => ?_
  obtain ⟨w, hw⟩ : ∃ w, oddL[r.toNat]? = some w := ⟨_, List.getElem?_eq_getElem (by omega)⟩
  have hm := oddL_ok w (List.mem_of_getElem? hw)
  have ix : atI (oddL.map D.str) r = some (.str w) := by
    rw [atI_of r0 (by rw [List.length_map, hl]; omega), List.getElem?_map, hw]; rfl
  simp [ix]
  exact q w S1 hm.1 hm.2 b1 g1
theorem cutS_sub {z : Str} {lo hi : Option Int} : (∀ c, c ∈ chs (cutS z lo hi) → c ∈ chs z) ∧ (cutS z lo hi).length ≤ z.length := by
  constructor
  · intro c hc
    rw [chs_cut] at hc
    exact List.mem_of_mem_drop (List.mem_of_mem_take hc)
  · rw [← chs_len, ← chs_len, chs_cut, List.length_take, List.length_drop]
    omega
theorem cutS_asc {z : Str} {lo hi : Option Int} (h : AscW z) : AscW (cutS z lo hi) := fun c hc => h c (cutS_sub.1 c hc)
theorem app_asc {a b : Str} (h1 : AscW a) (h2 : AscW b) : AscW (a ++ b) := by
  intro c hc
  rw [chs_app] at hc
  rcases List.mem_append.mp hc with h | h
  · exact h1 c h
  · exact h2 c h
theorem app_len (a b : Str) : (a ++ b).length = a.length + b.length := by
  rw [← chs_len, chs_app, List.length_append, chs_len, chs_len]
theorem cut_ws {lo hi : Option Int} : ∃ vs : List Str, cutD (ws.map D.str) lo hi = vs.map .str ∧ (∀ v, v ∈ vs → v ∈ ws) ∧ vs.length ≤ ws.length := by
  refine ⟨(ws.drop (HT.sIx ws.length 0 lo)).take (HT.sIx ws.length ws.length hi - HT.sIx ws.length 0 lo), ?_, fun v hv => List.mem_of_mem_drop (List.mem_of_mem_take hv), ?_⟩
  · unfold cutD
    rw [List.length_map, List.map_take, List.map_drop]
  · rw [List.length_take, List.length_drop]; omega
theorem bent_word_does {Q : D → Sto → Prop} (ha : AscW w) (hl : w.length ≤ 1000000) (hp : Bag p (n + 3) S) (q : ∀ v S', AscW v → v.length ≤ 3 * w.length + 1 → Bag p n S' → GoB p S S' → Q (.str v) S') : (m_law_bent_word [.cell p, .str w] S).Does Q := by
  refine does_def rfl ?_
  refine seq_cut (fun ρ S' => ∃ x, AscW x ∧ x.length ≤ 1 ∧ Bag p (n + 2) S' ∧ GoB p S S' ∧ ρ = [some (.cell p), some (.str w), some (.str x), none, none]) (fun M hM => ?_) ?_
  · simp
    refine pick2_does hp (by decide) (by decide) fun r S1 b1 g1 r0 r1 => ?_
    have sg : ∀ x, x ∈ ([("0" : Str), "1", "-", "_", "+", ".", "a", "d", "\n", " ", "9", "E", "\"", "~"] : List Str) → AscW x ∧ x.length ≤ 1 := by
      have : ((([("0" : Str), "1", "-", "_", "+", ".", "a", "d", "\n", " ", "9", "E", "\"", "~"] : List Str)).all fun w => (chs w).all (fun c => decide (c < 128)) && decide (w.length ≤ 1)) = true := by decide +kernel
      intro w hw
      have h := List.all_eq_true.mp this w hw
      rw [Bool.and_eq_true, List.all_eq_true, decide_eq_true_eq] at h
      exact ⟨fun c hc => by simpa using h.1 c hc, h.2⟩
    obtain ⟨x, hx⟩ : ∃ x, ([("0" : Str), "1", "-", "_", "+", ".", "a", "d", "\n", " ", "9", "E", "\"", "~"] : List Str)[r.toNat]? = some x := ⟨_, List.getElem?_eq_getElem (by simp; omega)⟩
    have hm := sg x (List.mem_of_getElem? hx)
    have ix : atI (([("0" : Str), "1", "-", "_", "+", ".", "a", "d", "\n", " ", "9", "E", "\"", "~"] : List Str).map D.str) r = some (.str x) := by
      rw [atI_of r0 (by simp; omega), List.getElem?_map, hx]; rfl
    simp only [List.map_cons, List.map_nil] at ix
    simp [ix]
    exact hM _ _ ⟨x, hm.1, hm.2, b1, g1, rfl⟩
  rintro ρ S1 ⟨x, xa, xl, b1, g1, rfl⟩
  have gl : ∀ S', gLen S' [.str w] = some (.int w.length) := fun S' => by simp [gLen]; omega
  refine seq_cut (fun ρ S' => ∃ way at_ : Int, 0 ≤ way ∧ way < 4 ∧ 0 ≤ at_ ∧ at_ ≤ w.length ∧ Bag p n S' ∧ GoB p S S' ∧ ρ = [some (.cell p), some (.str w), some (.str x), some (.int way), some (.int at_)]) (fun M hM => ?_) ?_
  · simp
    refine pick2_does b1 (by decide) (by decide) fun r S2 b2 g2 r0 r1 => ?_
    simp [gl]
    refine pick2_does b2 (by omega) (by omega) fun r' S3 b3 g3 s0 s1 => ?_
    exact hM _ _ ⟨r, r', r0, r1, s0, by omega, b3, g1.trans (g2.trans g3), rfl⟩
  rintro ρ S2 ⟨way, at_, w0, w4, a0, al, b2, g2, rfl⟩
  have hw16 : w.length ≤ 16777216 := by omega
  have c1 : ∀ lo hi, (cutS w lo hi).length ≤ w.length := fun lo hi => cutS_sub.2
  have f3 : ∀ a b c : Str, AscW a → AscW b → AscW c → a.length ≤ w.length → b.length ≤ w.length + 1 → c.length ≤ w.length → a.length + b.length ≤ 16777216 ∧ (a ++ b).length + c.length ≤ 16777216 ∧ Q (.str (a ++ b ++ c)) S2 := by
    intro a b c h1 h2 h3 l1 l2 l3
    refine ⟨by omega, by rw [app_len]; omega, q _ S2 (app_asc (app_asc h1 h2) h3) (by rw [app_len, app_len]; omega) b2 g2⟩
  by_cases h2 : way < 2
  · obtain ⟨q1, q2, q3⟩ := f3 (cutS w none (some at_)) x (cutS w (some (at_ + way)) none) (cutS_asc ha) xa (cutS_asc ha) (c1 _ _) (by omega) (c1 _ _)
    simp [h2, hw16, q1, q2]
    exact q3
  · by_cases h3 : way = 2
    · have q1 := c1 none (some at_)
      have q2 := c1 (some (at_ + 1)) none
      have q12 : (cutS w none (some at_)).length + (cutS w (some (at_ + 1)) none).length ≤ 16777216 := by omega
      simp [h3, hw16, q12]
      exact q _ S2 (app_asc (cutS_asc ha) (cutS_asc ha)) (by rw [app_len]; omega) b2 g2
    · obtain ⟨q1, q2, q3⟩ := f3 (cutS w none (some at_)) (cutS w (some at_) (some (at_ + 1))) (cutS w (some at_) none) (cutS_asc ha) (cutS_asc ha) (cutS_asc ha) (c1 _ _) (by have := c1 (some at_) (some (at_ + 1)); omega) (c1 _ _)
      simp [h2, h3, hw16, q1, q2]
      exact q3
theorem tx_app {n1 n2 : Nat} {a b : List Str} (h1 : TxOK n1 l a) (h2 : TxOK n2 l b) : TxOK (n1 + n2) l (a ++ b) := by
  refine ⟨by rw [List.length_append]; have := h1.few; have := h2.few; omega, fun w hw => ?_⟩
  rcases List.mem_append.mp hw with h | h
  · exact h1.each w h
  · exact h2.each w h
theorem TxOK.up {n' l' : Nat} (h : TxOK n l ws) (hn : n ≤ n') (hl : l ≤ l') : TxOK n' l' ws := ⟨by have := h.few; omega, fun w hw => ⟨(h.each w hw).1, by have := (h.each w hw).2; omega⟩⟩
theorem tx_cut (h : TxOK n l ws) (lo hi : Option Int) : ∃ vs : List Str, cutD (ws.map D.str) lo hi = vs.map .str ∧ TxOK n l vs := by
  obtain ⟨vs, e, h1, h2⟩ := cut_ws (ws := ws) (lo := lo) (hi := hi)
  exact ⟨vs, e, by have := h.few; omega, fun w hw => h.each w (h1 w hw)⟩
theorem tx_rev (h : TxOK n l ws) : TxOK n l ws.reverse := ⟨by have := h.few; simpa using this, fun w hw => h.each w (by simpa using hw)⟩
theorem changed_does {Q : D → Sto → Prop} (h : TxOK n l ws) (hn : n ≤ 1000) (hl : 1500 ≤ l ∧ l ≤ 1000000) (hp : Bag p (k + 6) S) (q : ∀ vs S', TxOK (3 * n + 1) (3 * l + 1) vs → Bag p k S' → GoB p S S' → Q (wsD vs) S') : (m_law_changed [.cell p, wsD ws] S).Does Q := by
  have hfew := h.few
  have gl : ∀ S', gLen S' [wsD ws] = some (.int ws.length) := fun S' => by simp [wsD]
  refine does_def rfl ?_
  refine seq_cut (fun ρ S' => ∃ x, AscW x ∧ x.length ≤ 1500 ∧ Bag p (k + 5) S' ∧ GoB p S S' ∧ ρ = [some (.cell p), some (wsD ws), some (wsD [x]), none, none]) (fun M hM => ?_) ?_
  · simp
    refine odd_word_does (n := k + 5) hp fun w S1 wa wl b1 g1 => ?_
    exact hM _ _ ⟨w, wa, wl, b1, g1, rfl⟩
  rintro ρ S1 ⟨x, xa, xl, b1, g1, rfl⟩
  have hx : TxOK 1 l [x] := ⟨by simp, fun w hw => by rw [List.mem_singleton.mp hw]; exact ⟨xa, by omega⟩⟩
  refine seq_cut (fun ρ S' => ∃ way at_ : Int, 0 ≤ way ∧ way < 10 ∧ 0 ≤ at_ ∧ at_ ≤ ws.length ∧ Bag p (k + 3) S' ∧ GoB p S S' ∧ ρ = [some (.cell p), some (wsD ws), some (wsD [x]), some (.int way), some (.int at_)]) (fun M hM => ?_) ?_
  · simp
    refine pick2_does b1 (by decide) (by decide) fun r S2 b2 g2 r0 r1 => ?_
    simp [gl]
    refine pick2_does b2 (by omega) (by omega) fun r' S3 b3 g3 s0 s1 => ?_
    exact hM _ _ ⟨r, r', r0, r1, s0, by omega, b3, g1.trans (g2.trans g3), rfl⟩
  rintro ρ S2 ⟨way, at_, w0, w4, a0, al, b2, g2, rfl⟩
  have fin : ∀ vs S', TxOK (3 * n + 1) (3 * l + 1) vs → Bag p k S' → GoB p S S' → Q (.lst (vs.map .str)) S' := q
  have b2' := b2.mono (m := k) (by omega)
  have three : ∀ a b c : List Str, TxOK n l a → TxOK (n + 1) (3 * l + 1) b → TxOK n l c → ∀ S', Bag p k S' → GoB p S S' → a.length + b.length ≤ 16777216 ∧ a.length + b.length + c.length ≤ 16777216 ∧ Q (.lst ((a.map D.str ++ b.map D.str) ++ c.map D.str)) S' := by
    intro a b c h1 h2 h3 S' bb gg
    have l1 := h1.few
    have l2 := h2.few
    have l3 := h3.few
    refine ⟨by omega, by omega, ?_⟩
    have := fin (a ++ b ++ c) S' ((tx_app (tx_app (h1.up (Nat.le_refl _) (by omega)) h2) (h3.up (Nat.le_refl _) (by omega))).up (by omega) (Nat.le_refl _)) bb gg
    simpa using this
  have lw : ∀ (vs : List Str) (S' : Sto), lstOf S' (wsD vs) = some (vs.map .str) := fun _ _ => rfl
  obtain ⟨a1, e1, t1⟩ := tx_cut h none (some at_)
  obtain ⟨a2, e2, t2⟩ := tx_cut h (some at_) none
  obtain ⟨a3, e3, t3⟩ := tx_cut h (some (at_ + 1)) none
  obtain ⟨a4, e4, t4⟩ := tx_cut h (some (at_ + 2)) none
  obtain ⟨a5, e5, t5⟩ := tx_cut h (some at_) (some (at_ + 1))
  obtain ⟨a6, e6, t6⟩ := tx_cut h (some at_) (some (at_ + 2))
  have hx' : TxOK (n + 1) (3 * l + 1) [x] := hx.up (by omega) (by omega)
  have i1 : ∀ S', gInt1 S' [.bl true] = some (.int 1) := fun _ => rfl
  have i0 : ∀ S', gInt1 S' [.bl false] = some (.int 0) := fun _ => rfl
  by_cases c3 : way < 3
  · by_cases c0 : 0 < way
    · obtain ⟨q1, q2, q3⟩ := three a1 [x] a3 t1 hx' t3 S2 b2' g2
      simp [c3, c0, lw, e1, e3, i1]
      simp at q1 q2 q3
      exact ⟨by omega, by omega, q3⟩
    · obtain ⟨q1, q2, q3⟩ := three a1 [x] a2 t1 hx' t2 S2 b2' g2
      simp [c3, c0, lw, e1, e2, i0]
      simp at q1 q2 q3
      exact ⟨by omega, by omega, q3⟩
  by_cases c4 : way = 3
  · obtain ⟨q1, q2, q3⟩ := three a1 [] a3 t1 ⟨by simp, fun _ hh => nomatch hh⟩ t3 S2 b2' g2
    simp [c4, lw, e1, e3]
    simp at q1 q2 q3
    exact ⟨by omega, q3⟩
  by_cases c5 : way = 4
  · obtain ⟨q1, q2, q3⟩ := three a1 a5 a2 t1 (t5.up (by omega) (by omega)) t2 S2 b2' g2
    simp [c5, lw, e1, e5, e2]
    simp at q1 q2 q3
    exact ⟨by omega, by omega, q3⟩
  by_cases c6 : way = 5
  · obtain ⟨q1, q2, q3⟩ := three a1 [] [] t1 ⟨by simp, fun _ hh => nomatch hh⟩ ⟨by simp, fun _ hh => nomatch hh⟩ S2 b2' g2
    simp [c6, lw, e1]
    simp at q3
    exact q3
  by_cases c7 : way = 6 ∨ at_ = ws.length
  · obtain ⟨q1, q2, q3⟩ := three ws [x] [] h hx' ⟨by simp, fun _ hh => nomatch hh⟩ S2 b2' g2
    simp at q1 q2 q3
    rcases c7 with c7 | c7
    · simp [c7, lw, gl]
      exact ⟨by omega, q3⟩
    · simp [c3, c4, c5, c6, c7, lw, gl]
      exact ⟨by omega, q3⟩
  have c7a : ¬ way = 6 := fun hh => c7 (.inl hh)
  have c7b : ¬ at_ = ws.length := fun hh => c7 (.inr hh)
  by_cases c8 : way = 7
  · obtain ⟨q1, q2, q3⟩ := three a1 a6.reverse a4 t1 ((tx_rev t6).up (by omega) (by omega)) t4 S2 b2' g2
    have lw2 : ∀ (vs : List D) (S' : Sto), lstOf S' (.lst vs) = some vs := fun _ _ => rfl
    simp [c8, c7b, lw, lw2, e1, e6, e4, gl]
    simp at q1 q2 q3
    exact ⟨by omega, by omega, by simpa using q3⟩
  · obtain ⟨w, hw⟩ : ∃ w, ws[at_.toNat]? = some w := ⟨_, List.getElem?_eq_getElem (by omega)⟩
    obtain ⟨wa, wl⟩ := h.each w (List.mem_of_getElem? hw)
    have ix : gIx S2 (wsD ws) (.int at_) = some (.str w) := by
      rw [wsD, gIx_lst, atI_of a0 (by rw [List.length_map]; omega), List.getElem?_map, hw]; rfl
    simp [c3, c4, c5, c6, c7a, c7b, c8, lw, e1, gl, ix]
    refine bent_word_does (n := k) wa (by omega) b2 fun v S3 va vl b3 g3 => ?_
    obtain ⟨q1, q2, q3⟩ := three a1 [v] a3 t1 ⟨by simp, fun w hh => by rw [List.mem_singleton.mp hh]; exact ⟨va, by omega⟩⟩ t3 S3 b3 (g2.trans g3)
    simp at q1 q2 q3
    simp [lw, e3]
    exact ⟨by omega, by omega, q3⟩
end
end Dm
-- text HmTy8
set_option maxHeartbeats 1000000
namespace Dm
open PySem L2 PySem.Builtin PySem.Builtin.Str PySem.StrLaws
/-! ### words drawn one by one -/
section
variable {S : Sto} {p nz n l k r : Nat} {w v : Str} {d : D} {ds : List D} {t : Stp} {ts us : List Stp} {ws : List Str} {zs : Zs} {row : List Kd}
theorem kS_ok {i : Nat} (h : i < 100) : AscW (kS i) ∧ (kS i).length ≤ 20 := by
  have h1 := (wd_int (i : Int)).1
  have h2 := (int_len (i := (i : Int)) (k := 6) (by omega)).2
  exact ⟨h1, by unfold kS; omega⟩
end
end Dm
-- text HmTy9
set_option maxHeartbeats 1000000
namespace Dm
open PySem L2 PySem.Builtin PySem.Builtin.Str PySem.StrLaws
end Dm
-- text HmTz1
set_option maxHeartbeats 1000000
namespace Dm
open PySem L2 PySem.Builtin PySem.Builtin.Str PySem.StrLaws
/-! ### wishes read by the law -/
def kdZ : List (Key × D) := [(.inr "found", .int 1), (.inr "same", .int 3), (.inr "order", .int 3), (.inr "near", .int 4)]
theorem kdZ_eq : keysD [(D.str (Str.ofString "found"), D.int 1), (D.str (Str.ofString "same"), D.int 3), (D.str (Str.ofString "order"), D.int 3), (D.str (Str.ofString "near"), D.int 4)] = some kdZ := rfl
theorem kdZ_m : mergeD [] kdZ = kdZ := rfl
section
variable {S : Sto} {p nz n l k r : Nat} {w v : Str} {d : D} {ds : List D} {t : Stp} {ts us : List Stp} {ws : List Str} {zs : Zs} {row : List Kd} {sl : List Sl}
theorem kdZ_get : valD kdZ (.inr w) = (wishPs w).map fun sl => D.int ((sl.length + 1 : Nat) : Int) := by
  unfold wishPs
  by_cases h1 : ("found" : Str) = w
  · subst h1; simp (decide := true) [valD, kdZ]
  · by_cases h2 : ("same" : Str) = w
    · subst h2; simp (decide := true) [valD, kdZ]
    · by_cases h3 : ("order" : Str) = w
      · subst h3; simp (decide := true) [valD, kdZ]
      · by_cases h4 : ("near" : Str) = w
        · subst h4; simp (decide := true) [valD, kdZ]
        · rw [if_neg h1, if_neg h2, if_neg h3, if_neg h4]
          simp [valD, kdZ, h1, h2, h3, h4]
theorem sl_kind (h : wishPs w = some sl) {s : Sl} (hs : sl[k]? = some s) : (k < 2 ∧ s = .p .pt) ∨ (k = 2 ∧ s = .most) := by
  have two : ∀ s, ([.p .pt, .p .pt] : List Sl)[k]? = some s → k < 2 ∧ s = .p .pt := by
    intro s h
    match k, h with
    | 0, h => cases h; exact ⟨by omega, rfl⟩
    | 1, h => cases h; exact ⟨by omega, rfl⟩
  unfold wishPs at h
  split at h
  · cases h; exact nomatch hs
  · split at h
    · cases h; exact .inl (two s hs)
    · split at h
      · cases h; exact .inl (two s hs)
      · split at h
        · cases h
          match k, hs with
          | 0, h => cases h; exact .inl ⟨by omega, rfl⟩
          | 1, h => cases h; exact .inl ⟨by omega, rfl⟩
          | 2, h => cases h; exact .inr ⟨rfl, rfl⟩
        · cases h
theorem takes_most : takesB nz row .most v = (match numF 7 v with
    | none => false
    | some i => decide (0 ≤ i) && decide (i ≤ 1000000)) := by
  have e : slotO .most v = (numF 7 v).map .int := rfl
  unfold takesB
  rw [e]
  cases numF 7 v <;> rfl
theorem most_takes : wrB v 0 1000000 = takesB nz row .most v := by
  rw [takes_most, Bool.eq_iff_iff]
  unfold wrB
  constructor
  · intro h
    cases e : numF 13 v with
    | none => rw [e] at h; exact nomatch h
    | some i =>
      rw [e] at h
      simp at h
      rw [numF_iff.mpr ⟨(numF_iff.mp e).1, by omega⟩]
      simp [h]
  · intro h
    cases e : numF 7 v with
    | none => rw [e] at h; exact nomatch h
    | some i =>
      rw [e] at h
      simp at h
      rw [numF_iff.mpr ⟨(numF_iff.mp e).1, by omega⟩]
      simp [h]
theorem most_val (h : takesB nz row .most v = true) : valW v = optS (slotO .most v) := by
  rw [takes_most] at h
  cases e : numF 7 v with
  | none => rw [e] at h; exact nomatch h
  | some i =>
    rw [e] at h
    simp at h
    have e2 : slotO .most v = some (.int i) := by show (numF 7 v).map D.int = _; rw [e]; rfl
    rw [e2, (numF_iff.mp e).1, valW_int (by omega)]; rfl
theorem wish_val (h : wishPs w = some sl) : valW w = .str w := by
  have e : ∀ x : Str, x = "found" ∨ x = "same" ∨ x = "order" ∨ x = "near" → numF 13 x = none := by
    rintro x (rfl | rfl | rfl | rfl)
    · exact num_text 102 (by decide +kernel) (by decide) 13
    · exact num_text 115 (by decide +kernel) (by decide) 13
    · exact num_text 111 (by decide +kernel) (by decide) 13
    · exact num_text 110 (by decide +kernel) (by decide) 13
  refine valW_txt (e w ?_)
  unfold wishPs at h
  by_cases h1 : ("found" : Str) = w
  · exact .inl h1.symm
  by_cases h2 : ("same" : Str) = w
  · exact .inr (.inl h2.symm)
  by_cases h3 : ("order" : Str) = w
  · exact .inr (.inr (.inl h3.symm))
  by_cases h4 : ("near" : Str) = w
  · exact .inr (.inr (.inr h4.symm))
  rw [if_neg h1, if_neg h2, if_neg h3, if_neg h4] at h
  exact nomatch h
theorem wish_read_does {Q : D → Sto → Prop} (hz : nz = 1 ∨ nz = 2) (hl : row.length ≤ 60) (hn : S[r]? = some (.lst (row.map Kd.d))) (wk : WsOK ws)
    (q : ∀ S', Grow S S' → Q (exD .tup (readW nz row ws)) S') : (m_law_wish_read [.cell r, wsD ws] S).Does Q := by
  have hn2 : nz ≤ 2 := by omega
  have hfew := wk.few
  have gl : ∀ S', gLen S' [wsD ws] = some (.int ws.length) := fun S' => by simp [wsD]
  have ix : ∀ (S' : Sto) (k : Nat) (w : Str), ws[k]? = some w → gIx S' (wsD ws) (.int k) = some (.str w) := fun S' k w h => by
    have hkl := (List.getElem?_eq_some_iff.mp h).1
    rw [wsD, gIx_lst, atI_of (by omega) (by rw [List.length_map]; omega)]
    simp [h]
  have glr : gLen S [.cell r] = some (.int row.length) := by rw [gLen_cell hn, List.length_map]
  have ixk : ∀ k kd, row[k]? = some kd → gIx S (.cell r) (.int ((k : Nat) : Int)) = some (.str kd.s) := fun k kd h => (row_at hn h).1
  have kd1 : ∀ (k j : Kd), (Kd.s k == Kd.s j) = decide (k = j) := fun k j => by cases k <;> cases j <;> decide +kernel
  obtain ⟨w, rr, hv⟩ : ∃ v r, ws = v :: r := by
    cases e : ws with
    | nil => exact absurd e wk.ne
    | cons v r => exact ⟨v, r, rfl⟩
  have h0 : ws[0]? = some w := by rw [hv]; rfl
  have l5 : kdZ.length ≤ 15 := by decide
  refine does_def rfl ?_
  refine seq_cut (fun ρ S' => ρ = [some (.cell r), some (wsD ws), some (wsD (hoursW row [.mom, .rdg])), none, none, none, none] ∧ S = S') (fun M hM => ?_) ?_
  · simp [glr, wipeD]
    refine ⟨by omega, ?_⟩
    refine hours_lc (ks := [.mom, .rdg]) hl (fun k kd hk Q q => ?_) (by simp) ?_
    · have e := kd1 kd .spn
      have e2 : (kd.s == ("span" : Str)) = decide (kd = .spn) := e
      simp [ixk k kd hk, e2]
      have e3 : (!decide (kd = .spn)) = decide (kd ∈ [Kd.mom, Kd.rdg]) := by cases kd <;> decide
      rw [e3]
      exact q
    · exact hM _ _ ⟨rfl, rfl⟩
  rintro ρ _ ⟨rfl, rfl⟩
  refine seq_cut (fun ρ S' => ρ = [some (.cell r), some (wsD ws), some (wsD (hoursW row [.mom, .rdg])), some (.cell S.length), none, none, none] ∧ S' = S ++ [.dic kdZ]) (fun M hM => ?_) ?_
  · simp [kdZ_eq, kdZ_m, l5]
    exact hM _ _ ⟨rfl, rfl⟩
  rintro ρ _ ⟨rfl, rfl⟩
  have g1 : Grow S (S ++ [.dic kdZ]) := Grow.refl.push _
  have cz : (S ++ [Cell.dic kdZ])[S.length]? = some (.dic kdZ) := by simp
  generalize S ++ [.dic kdZ] = S1 at g1 cz
  have gin : gDIn true S1 (.str w) (.cell S.length) = some (.bl (!(wishPs w).isSome)) := by
    unfold gDIn
    rw [dicOf_cell cz]
    simp [keyD, kdZ_get]
  have gix : gDIx S1 (.cell S.length) (.str w) = (wishPs w).map fun sl => D.int ((sl.length + 1 : Nat) : Int) := by
    rw [gDIx_cell cz]
    simp [keyD, kdZ_get]
  have ix0 := ix S1 0 w h0
  have ix0 : gIx S1 (wsD ws) (.int 0) = some (.str w) := ix0
  unfold readW at q
  rw [h0] at q
  simp only at q
  cases hps : wishPs w with
  | none =>
    rw [hps] at gin q
    have q : Q (.int 0) S1 := q _ g1
    simp [ix0, gin]
    exact q
  | some sl =>
    rw [hps] at gin gix q
    simp only at q
    simp only [Option.map_some] at gix
    have hsl3 := wishPs_len hps
    generalize hc : S.length = c at cz gin gix
    refine seq_cut (fun ρ S' => ρ = [some (.cell r), some (wsD ws), some (wsD (hoursW row [.mom, .rdg])), some (.cell c), none, none, none] ∧ S1 = S') (fun M hM => ?_) ?_
    · simp [ix0, gin]
      exact hM _ _ ⟨rfl, rfl⟩
    rintro ρ _ ⟨rfl, rfl⟩
    refine seq_cut (fun ρ S' => ∃ (k : Nat) (x4 : Option D), k = sl.length ∧ k < ws.length ∧ slR nz row ws sl 0 [.str w] = .ok ((ws.take (k + 1)).map valW) ∧ S1 = S' ∧ ρ = [some (.cell r), some (wsD ws), some (wsD (hoursW row [.mom, .rdg])), some (.cell c), x4, none, none]) (fun M hM => ?_) ?_
    · rw [does_for]
      simp [ix0, gix]
      refine ⟨by omega, ?_⟩
      refine forL_cut (fun ds ρ S' => ∃ (k : Nat) (us : List Sl) (x4 : Option D), ds = rngD ((k + 1 : Nat) : Int) us.length ∧ us = sl.drop k ∧ k ≤ sl.length ∧ k < ws.length ∧ slR nz row ws us k ((ws.take (k + 1)).map valW) = slR nz row ws sl 0 [.str w] ∧ S1 = S' ∧ ρ = [some (.cell r), some (wsD ws), some (wsD (hoursW row [.mom, .rdg])), some (.cell c), x4, none, none]) _
        ⟨0, sl, none, rfl, rfl, Nat.zero_le _, by rw [hv]; simp, by rw [hv]; simp [wish_val hps], rfl, rfl⟩ ?_ ?_
      · rintro y ds ρ _ ⟨k, us, x4, e, hus, hk1, hk2, hr, rfl, rfl⟩
        cases us with
        | nil => cases e
        | cons s us =>
          rw [List.length_cons, rngD_cons] at e
          injection e with e1 e2
          subst e1
          refine ⟨_, rfl, fun M2 hM2 => ?_⟩
          have hsk : sl[k]? = some s := by
            have : (sl.drop k)[0]? = some s := by rw [← hus]; rfl
            rw [List.getElem?_drop] at this
            exact this
          have hus2 : us = sl.drop (k + 1) := by
            rw [← List.drop_drop, ← hus]; rfl
          have hk3 := (List.getElem?_eq_some_iff.mp hsk).1
          cases hw1 : ws[k + 1]? with
          | none =>
            have hge : ws.length ≤ k + 1 := List.getElem?_eq_none_iff.mp hw1
            have e : k + 1 = ws.length := by omega
            rw [slR_none hw1] at hr
            rw [← hr] at q
            have q : Q (.int ws.length) S1 := q _ g1
            rw [e]
            simp [gl]
            exact q
          | some v =>
            have hk4 := (List.getElem?_eq_some_iff.mp hw1).1
            have hne1 : ¬ ((k + 1 : Nat) : Int) = ws.length := by omega
            have ixv := ix S1 (k + 1) v hw1
            obtain ⟨hva, hvl⟩ := wk.each v (List.mem_of_getElem? hw1)
            have etk : ws.take (k + 1 + 1) = ws.take (k + 1) ++ [v] := by
              rw [List.take_succ, hw1]; rfl
            refine seq_cut (fun ρ S' => ρ = [some (.cell r), some (wsD ws), some (wsD (hoursW row [.mom, .rdg])), some (.cell c), some (.int ((k + 1 : Nat) : Int)), none, none] ∧ S1 = S') (fun M3 hM3 => ?_) ?_
            · generalize hk9 : ((k + 1 : Nat) : Int) = kk at hne1
              simp [gl, hne1]
              exact hM3 _ _ ⟨by rw [hk9], rfl⟩
            rintro ρ _ ⟨rfl, rfl⟩
            have next : takesB nz row s v = true → valW v = optS (slotO s v) → M2 [some (.cell r), some (wsD ws), some (wsD (hoursW row [.mom, .rdg])), some (.cell c), some (.int ((k + 1 : Nat) : Int)), none, none] S1 := by
              intro ht hval
              rw [slR_yes hw1 ht] at hr
              exact hM2 _ _ ⟨k + 1, us, _, by rw [e2]; simp, hus2, by omega, hk4, by rw [etk, List.map_append, List.map_singleton, hval]; exact hr, rfl, rfl⟩
            have stop : takesB nz row s v = false → Q (.int ((k + 1 : Nat) : Int)) S1 := by
              intro ht
              rw [slR_no hw1 ht] at hr
              rw [← hr] at q
              exact q _ g1
            have gn := gIn_strs (S := S1) (neg := true) (v := v) (ws := hoursW row [.mom, .rdg])
            have gn : gIn true S1 (.str v) (wsD (hoursW row [.mom, .rdg])) = some (.bl (!decide (v ∈ hoursW row [.mom, .rdg]))) := gn
            rcases sl_kind hps hsk with ⟨hk5, rfl⟩ | ⟨hk5, rfl⟩
            · have lt := law_takes (p := .pt) (v := v) hz hl
              have lt : decide (v ∈ hoursW row [.mom, .rdg]) = takesB nz row (.p .pt) v := lt
              rw [lt] at gn
              have c3 : ((k + 1 : Nat) : Int) < 3 := by omega
              have c4 : ¬ ((k + 1 : Nat) : Int) = 3 := by omega
              cases ht : takesB nz row (.p .pt) v with
              | true =>
                rw [ht] at gn
                have nx := next ht (takes_val hn2 hl ht)
                generalize hk9 : ((k + 1 : Nat) : Int) = kk at c3 c4 ixv nx
                simp [c3, c4, ixv, gn]
                exact nx
              | false =>
                rw [ht] at gn
                have nx := stop ht
                generalize hk9 : ((k + 1 : Nat) : Int) = kk at c3 c4 ixv nx
                simp [c3, c4, ixv, gn]
                exact nx
            · have wo := writes_ok (S := S1) (lo := 0) (hi := 1000000) hva hvl
              rw [most_takes (nz := nz) (row := row)] at wo
              subst hk5
              have ixv : gIx S1 (wsD ws) (.int 3) = some (.str v) := ixv
              cases ht : takesB nz row .most v with
              | true =>
                rw [ht] at wo
                have nx := next ht (most_val ht)
                simp [ixv, wo]
                exact nx
              | false =>
                rw [ht] at wo
                have nx := stop ht
                simp [ixv, wo]
                exact nx
      · rintro ρ _ ⟨k, us, x4, e, hus, hk1, hk2, hr, rfl, rfl⟩
        cases us with
        | cons s us => rw [List.length_cons, rngD_cons] at e; cases e
        | nil =>
          have hk : k = sl.length := by
            have := congrArg List.length hus
            simp at this
            omega
          exact hM _ _ ⟨k, _, hk, hk2, hr.symm, rfl, rfl⟩
    rintro ρ _ ⟨k, x4, hk, hk2, hr, rfl, rfl⟩
    rw [hr] at q
    simp only [List.length_map, List.length_take] at q
    have e : min (k + 1) ws.length = k + 1 := by omega
    rw [e] at q
    rw [← hk] at gix
    by_cases hlt : k + 1 < ws.length
    · rw [if_pos hlt] at q
      have q : Q (.int ((k + 1 : Nat) : Int)) S1 := q _ g1
      have hlt' : ((k + 1 : Nat) : Int) < ws.length := by omega
      generalize hk9 : ((k + 1 : Nat) : Int) = kk at hlt' gix q
      simp [gl, ix0, gix, hlt']
      exact q
    · rw [if_neg hlt] at q
      have q : Q (.tup ((ws.take (k + 1)).map valW)) S1 := q _ g1
      have etk : ws.take (k + 1) = ws := List.take_of_length_le (by omega)
      rw [etk] at q
      have hlt' : ¬ ((k + 1 : Nat) : Int) < ws.length := by omega
      refine seq_cut (fun ρ S' => ρ = [some (.cell r), some (wsD ws), some (wsD (hoursW row [.mom, .rdg])), some (.cell c), x4, none, none] ∧ S1 = S') (fun M hM => ?_) ?_
      · generalize hk9 : ((k + 1 : Nat) : Int) = kk at hlt' gix
        simp [gl, ix0, gix, hlt']
        exact hM _ _ ⟨rfl, rfl⟩
      rintro ρ _ ⟨rfl, rfl⟩
      have hsq : seqOf S1 (wsD ws) = some (ws.map .str) := rfl
      simp [wipeD, hsq]
      rw [wsD, lcAQ_fix (.inr rfl) (by simp)]
      refine lcQ_filter (as := ws) (i := .str) (fun _ => true) valW (fun x hx => ⟨_, rfl, fun Q q => ?_, fun Q _ q => ?_⟩) ?_
      · simp
        exact q
      · obtain ⟨xa, xl⟩ := wk.each x hx
        simp [value_ok xa xl]
        exact q
      · rw [List.filter_eq_self.mpr (fun _ _ => rfl)]
        exact q
end
end Dm
-- text M_k65
set_option maxHeartbeats 1000000
namespace Dm
open PySem L2 PySem.Builtin PySem.Builtin.Str PySem.StrLaws
section
variable {S : Sto} {p nz n l k r : Nat} {w v : Str} {d : D} {ds : List D} {t : Stp} {ts us : List Stp} {ws : List Str} {zs : Zs} {row : List Kd} {sl : List Sl} {wh : Wsh}
theorem readW_wsh (hl : row.length ≤ 60) (h : readW nz row ws = .ok ds) : ∃ wh : Wsh, wh.OK row ∧ .tup ds = wh.d := by
  unfold readW at h
  cases h0 : ws[0]? with
  | none => rw [h0] at h; exact nomatch h
  | some w =>
    rw [h0] at h
    simp only at h
    cases hps : wishPs w with
    | none => rw [hps] at h; exact nomatch h
    | some sl =>
      rw [hps] at h
      simp only at h
      cases hr : slR nz row ws sl 0 [.str w] with
      | error j => rw [hr] at h; exact nomatch h
      | ok es =>
        rw [hr] at h
        simp only at h
        have e : es = ds := by
          split at h
          · exact nomatch h
          · cases h; rfl
        subst e
        obtain ⟨rs, e, h1, h2, h3⟩ := slR_ok (List.getElem?_eq_some_iff.mp h0).1 hr
        have hour : ∀ v, slOK nz row (.p .pt) v = true → ∃ a : Nat, v = .int a ∧ HourI row a := by
          intro v hv
          obtain ⟨i, rfl, hi⟩ := pt_of (nz := nz) (row := row) hv
          rcases hi with hi | hi
          · exact ⟨i, rfl, _, hi, by decide⟩
          · exact ⟨i, rfl, _, hi, by decide⟩
        have two : ∀ rs : List D, rs.length = 2 → (([.p .pt, .p .pt] : List Sl).zip rs).all (fun x => slOK nz row x.1 x.2) = true → ∃ a b : Nat, rs = [.int a, .int b] ∧ HourI row a ∧ HourI row b := by
          intro rs hl h
          match rs, hl, h with
          | [x, y], _, h =>
            simp at h
            obtain ⟨a, rfl, ha⟩ := hour x h.1
            obtain ⟨b, rfl, hb⟩ := hour y h.2
            exact ⟨a, b, rfl, ha, hb⟩
        by_cases c1 : ("found" : Str) = w
        · unfold wishPs at hps
          rw [if_pos c1] at hps
          cases hps
          have : rs = [] := List.length_eq_zero_iff.mp (by simpa using h1)
          refine ⟨.found, trivial, ?_⟩
          rw [e, this, ← c1]; rfl
        by_cases c2 : ("same" : Str) = w
        · unfold wishPs at hps
          rw [if_neg c1, if_pos c2] at hps
          cases hps
          obtain ⟨a, b, er, ha, hb⟩ := two rs (by simpa using h1) h2
          refine ⟨.same a b, ⟨ha, hb⟩, ?_⟩
          rw [e, er, ← c2]; rfl
        by_cases c3 : ("order" : Str) = w
        · unfold wishPs at hps
          rw [if_neg c1, if_neg c2, if_pos c3] at hps
          cases hps
          obtain ⟨a, b, er, ha, hb⟩ := two rs (by simpa using h1) h2
          refine ⟨.order a b, ⟨ha, hb⟩, ?_⟩
          rw [e, er, ← c3]; rfl
        by_cases c4 : ("near" : Str) = w
        · unfold wishPs at hps
          rw [if_neg c1, if_neg c2, if_neg c3, if_pos c4] at hps
          cases hps
          match rs, h1, h2, e with
          | [x, y, z], _, h2, e =>
            simp at h2
            obtain ⟨a, rfl, ha⟩ := hour x h2.1
            obtain ⟨b, rfl, hb⟩ := hour y h2.2.1
            have hz := h2.2.2
            cases z with
            | int i =>
              have hz : (decide (0 ≤ i) && decide (i ≤ 1000000)) = true := hz
              simp at hz
              refine ⟨.near a b i, ⟨ha, hb, hz⟩, ?_⟩
              rw [e, ← c4]; rfl
            | _ => exact nomatch hz
        · unfold wishPs at hps
          rw [if_neg c1, if_neg c2, if_neg c3, if_neg c4] at hps
          exact nomatch hps
theorem readW_err {j : Nat} (h : readW nz row ws = .error j) : j ≤ ws.length := by
  unfold readW at h
  cases h0 : ws[0]? with
  | none => rw [h0] at h; cases h; omega
  | some w =>
    rw [h0] at h
    simp only at h
    cases hps : wishPs w with
    | none => rw [hps] at h; cases h; omega
    | some sl =>
      rw [hps] at h
      simp only at h
      cases hr : slR nz row ws sl 0 [.str w] with
      | error i =>
        rw [hr] at h
        cases h
        exact slR_err (List.getElem?_eq_some_iff.mp h0).1 hr
      | ok es =>
        rw [hr] at h
        simp only at h
        split at h
        · cases h; omega
        · exact nomatch h
theorem asked5_does {Q : D → Sto → Prop} (z : ZsOK zs) (ok : ProgOK zs.length ts) (h : TxOK n l ws) (hb : n * l + n ≤ 16777200) (q : ∀ S', Grow S S' → Q (.bl true) S') : (m_law_asked_v5 [zonesD zs, progD ts, wsD ws] S).Does Q := by
  have sp : (" " : Str) = sepS 32 := by decide +kernel
  obtain ⟨hx, hfit⟩ := join_short h hb
  have hasc := join_asc h
  have wk := split_ok hasc hx
  have hzz : zs.length = 1 ∨ zs.length = 2 := z.len
  have hn2 : zs.length ≤ 2 := by omega
  have hl8 := ok.len
  have hrow : (kindsFrom [.mom] ts).length ≤ 60 := by rw [kindsFrom_length]; simp; omega
  have hsq : ∀ S', seqOf S' (wsD ws) = some (ws.map .str) := fun S' => rfl
  generalize hX : Txt.join " " ws = x at hx hasc wk
  refine does_def rfl ?_
  refine seq_cut (fun ρ S' => ρ = [some (zonesD zs), some (progD ts), some (wsD ws), some (.str x), none, none, none, none] ∧ S = S') (fun M hM => ?_) ?_
  · simp [hsq, hfit, hX]
    exact hM _ _ ⟨rfl, rfl⟩
  rintro ρ _ ⟨rfl, rfl⟩
  refine seq_cut (fun ρ S' => ρ = [some (zonesD zs), some (progD ts), some (wsD ws), some (.str x), some (exD .tup (readW zs.length (kindsFrom [.mom] ts) (Txt.split x (sepS 32)))), none, none, none] ∧ Grow S S') (fun M hM => ?_) ?_
  · have h16 : x.length + 2 ≤ sizeLine := by rw [sizeLine_eq]; omega
    have e1 : ¬ ((sepS 32).length = 0) := by decide
    simp
    refine kinds_in_does ok.steps (by omega) fun S1 g1 l1 c1 => ?_
    simp [sp, e1, h16]
    refine wish_read_does hzz hrow c1 wk fun S2 g2 => ?_
    exact hM _ _ ⟨rfl, g1.trans g2⟩
  rintro ρ S1 ⟨rfl, g1⟩
  refine seq_cut (fun ρ S' => ρ = [some (zonesD zs), some (progD ts), some (wsD ws), some (.str x), some (exD .tup (readW zs.length (kindsFrom [.mom] ts) (Txt.split x (sepS 32)))), some .non, none, none] ∧ S1 = S') (fun M hM => ?_) ?_
  · simp
    exact hM _ _ ⟨rfl, rfl⟩
  rintro ρ _ ⟨rfl, rfl⟩
  refine seq_cut (fun ρ S' => ρ = [some (zonesD zs), some (progD ts), some (wsD ws), some (.str x), some (exD .tup (readW zs.length (kindsFrom [.mom] ts) (Txt.split x (sepS 32)))), some .non, some .non, none] ∧ S1 = S') (fun M hM => ?_) ?_
  · simp
    exact hM _ _ ⟨rfl, rfl⟩
  rintro ρ _ ⟨rfl, rfl⟩
  cases hr : readW zs.length (kindsFrom [.mom] ts) (Txt.split x (sepS 32)) with
  | ok us =>
    obtain ⟨wh, hwh, ewh⟩ := readW_wsh hrow hr
    obtain ⟨y, hy⟩ := wsh_rp hwh hrow
    rw [← ewh] at hy
    refine seq_cut (fun ρ S' => ρ = [some (zonesD zs), some (progD ts), some (wsD ws), some (.str x), some (.tup us), some .non, some (.tup us), none] ∧ Grow S S') (fun M hM => ?_) ?_
    · simp
      refine read_wish_ws_does z ok wk hx rfl ?_
      rw [hr]
      intro S2 g2
      exact hM _ _ ⟨rfl, g1.trans g2⟩
    rintro ρ S2 ⟨rfl, g2⟩
    have it : tyOf S2 (.tup us) = some .tup := rfl
    simp (decide := true) [isTn, it, hy]
    exact q _ g2
  | error j =>
    have hj := readW_err hr
    have hfew := wk.few
    obtain ⟨y, hy⟩ := told_repr (j := j) (by omega)
    refine seq_cut (fun ρ S' => ∃ x6, ρ = [some (zonesD zs), some (progD ts), some (wsD ws), some (.str x), some (.int j), some (.tup [.int j, .bl true, .bl false, .bl false]), some .non, x6] ∧ Grow S S') (fun M hM => ?_) ?_
    · simp
      refine read_wish_ws_does z ok wk hx rfl ?_
      rw [hr]
      intro S2 g2
      refine ⟨[("place", (j : Int))], rfl, by simp, ?_⟩
      have h1 : xSub "InvalidWords" "InvalidWords" = true := by decide +kernel
      have h2 : xSub "InvalidWords" "HourError" = true := by decide +kernel
      have h3 : xSub "InvalidWords" "InvalidWish" = false := by decide +kernel
      have h4 : xSub "InvalidWords" "InvalidCommand" = false := by decide +kernel
      simp [h1, setI, clearI]
      simp [gIsX, h2, h3, h4]
      exact hM _ _ ⟨none, rfl, g1.trans g2⟩
    rintro ρ S2 ⟨x6, rfl, g2⟩
    simp (decide := true) [isTn, tyOf]
    simp [hy]
    exact q _ g2
def nnN : Nat → Nat
  | 0 => 10
  | j + 1 => 3 * nnN j + 1
def llN : Nat → Nat
  | 0 => 1500
  | j + 1 => 3 * llN j + 1
theorem bounds (h : k < 3) : nnN k * llN k + nnN k ≤ 16777200 ∧ nnN k ≤ 1000 ∧ 1500 ≤ llN k ∧ llN k ≤ 1000000 := by
  have : k = 0 ∨ k = 1 ∨ k = 2 := by omega
  rcases this with rfl | rfl | rfl <;> decide
theorem wish_words (hw : wh.OK row) (hl : row.length ≤ 60) : TxOK 10 1500 (wWords wh) := by
  obtain ⟨h1, _, _⟩ := wWords_ok hw hl
  obtain ⟨ds, e, h10, hp⟩ := wsh_parts hw hl
  have ew : wWords wh = ds.map strP := by unfold wWords; rw [e]; rfl
  refine ⟨by rw [ew, List.length_map]; exact h10, fun v hv => ⟨(h1.each v hv).1, ?_⟩⟩
  rw [ew] at hv
  obtain ⟨d, hd, rfl⟩ := List.mem_map.mp hv
  have := strP_len (hp d hd)
  omega
theorem right_k65 (b0 : Bag p 9223372036854775808 S) : (m_law_right_v24 [.cell p] S).Does fun d _ => d = .bl true := by
  refine does_def rfl ?_
  refine seq_cut (fun ρ S' => ∃ zs, ZsOK zs ∧ Bag p 100000 S' ∧ ρ = [some (.cell p), some (zonesD zs), none, none, none, none, none, none]) (fun M hM => ?_) ?_
  · simp
    refine pick2_does (n := 200000) (b0.mono (by omega)) (by decide) (by decide) fun r S1 b1 g1 r0 r1 => ?_
    have e : r = 0 ∨ r = 1 := by omega
    rcases e with rfl | rfl
    · simp
      have := draw_fields_does (n := 100000) (many := 1) (most := 3) (Q := fun d S' => M [some (.cell p), some d, none, none, none, none, none, none] S') (.inl rfl) (by decide) (b1.mono (by omega)) fun zs S2 b2 g2 z hl h3 => hM _ _ ⟨zs, z, b2, rfl⟩
      simpa using this
    · simp
      have := draw_fields_does (n := 100000) (many := 2) (most := 3) (Q := fun d S' => M [some (.cell p), some d, none, none, none, none, none, none] S') (.inr rfl) (by decide) (b1.mono (by omega)) fun zs S2 b2 g2 z hl h3 => hM _ _ ⟨zs, z, b2, rfl⟩
      simpa using this
  rintro ρ S1 ⟨zs, z, b1, rfl⟩
  have hz : zs.length = 1 ∨ zs.length = 2 := z.len
  have hn : zs.length ≤ 2 := by omega
  refine seq_cut (fun ρ S' => ∃ ts, ProgOK zs.length ts ∧ Bag p 90000 S' ∧ ρ = [some (.cell p), some (zonesD zs), some (progD ts), none, none, none, none, none]) (fun M hM => ?_) ?_
  · simp
    exact long_tale_does (n := 90000) (b1.mono (by omega)) z fun ts S2 b2 g2 ok => hM _ _ ⟨ts, ok, b2, rfl⟩
  rintro ρ S2 ⟨ts, ok, b2, rfl⟩
  have hl := ok.len
  have hrow : (kindsFrom [.mom] ts).length ≤ 60 := by rw [kindsFrom_length]; simp; omega
  refine seq_cut (fun ρ S' => Bag p 20000 S' ∧ ∃ x3 x4 x5 x6 x7, ρ = [some (.cell p), some (zonesD zs), some (progD ts), x3, x4, x5, x6, x7]) (fun M hM => ?_) ?_
  · rw [does_for]
    simp
    refine forL_cut (fun ds ρ S' => ∃ (k j : Nat) (x3 x4 x5 x6 x7 : Option D), ds = rngD (k : Int) j ∧ k + j = 8 ∧ Bag p (20000 + 1000 * j) S' ∧ ρ = [some (.cell p), some (zonesD zs), some (progD ts), x3, x4, x5, x6, x7]) _
      ⟨0, 8, _, _, _, _, _, rfl, rfl, b2.mono (by omega), rfl⟩ ?_ ?_
    · rintro y ds ρ S6 ⟨k, j, x3, x4, x5, x6, x7, e, hk, b6, rfl⟩
      cases j with
      | zero => cases e
      | succ j =>
        rw [rngD_cons] at e
        injection e with e1 e2
        subst e1
        refine ⟨_, rfl, fun M2 hM2 => ?_⟩
        refine seq_cut (fun ρ S' => ∃ ws x7, TxOK 10 1500 ws ∧ Bag p (20000 + 1000 * j + 500) S' ∧ ρ = [some (.cell p), some (zonesD zs), some (progD ts), some (.int (k : Int)), some (wsD ws), x5, x6, x7]) (fun M hM => ?_) ?_
        · simp
          refine hours_in_does ok.steps (by omega) fun S7 g7 => ?_
          refine draw_want_does (n := 20000 + 1000 * j + 500) ((b6.growT g7).mono (by omega)) (by omega) fun w S8 b8 g8 hw => ?_
          obtain ⟨qs, eq, h3, h4⟩ := wsh_parts hw hrow
          have tw := wish_words hw hrow
          have ew : wWords w = qs.map strP := by unfold wWords; rw [eq]; rfl
          obtain ⟨ps, rfl⟩ := sub_list h4
          rw [eq]
          simp [wipeD]
          try rw [lcAQ_fix (.inl rfl) (by simp)]
          refine lcQ_filter (as := ps) (i := Subtype.val) (fun _ => true) (fun d => .str (strP d.val)) (fun d hd' => ⟨_, rfl, fun Q q => ?_, fun Q _ q => ?_⟩) ?_
          · simp
            exact q
          · simp [strS_of d.property]
            exact q
          · rw [List.filter_eq_self.mpr (fun _ _ => rfl)]
            have e0 : (ps.map fun d => D.str (strP d.val)) = (wWords w).map .str := by rw [ew, List.map_map, List.map_map]; rfl
            rw [e0]
            exact hM _ _ ⟨_, _, tw, b8, rfl⟩
        rintro ρ S7 ⟨ws, x7, tw, b7, rfl⟩
        rw [does_for]
        simp
        refine forL_cut (fun ds ρ S' => ∃ (i m : Nat) (vs : List Str) (y5 : Option D), ds = rngD (i : Int) m ∧ i + m = 3 ∧ TxOK (nnN i) (llN i) vs ∧ Bag p (20000 + 1000 * j + 100 * m) S' ∧ ρ = [some (.cell p), some (zonesD zs), some (progD ts), some (.int (k : Int)), some (wsD vs), y5, x6, x7]) _
          ⟨0, 3, ws, _, rfl, rfl, tw, b7.mono (by omega), rfl⟩ ?_ ?_
        · rintro y ds ρ S8 ⟨i, m, vs, y5, e, hi, tv, b8, rfl⟩
          cases m with
          | zero => cases e
          | succ m =>
            rw [rngD_cons] at e
            injection e with e1 e3
            subst e1
            refine ⟨_, rfl, fun M3 hM3 => ?_⟩
            obtain ⟨w1, w2, w3, w4⟩ := bounds (k := i) (by omega)
            refine seq_cut (fun ρ S' => Bag p (20000 + 1000 * j + 100 * m + 100) S' ∧ ρ = [some (.cell p), some (zonesD zs), some (progD ts), some (.int (k : Int)), some (wsD vs), some (.int (i : Int)), x6, x7]) (fun M hM => ?_) ?_
            · simp
              refine asked5_does z ok tv w1 fun S9 g9 => ?_
              simp
              exact hM _ _ ⟨(b8.growT g9).mono (by omega), rfl⟩
            rintro ρ S9 ⟨b9, rfl⟩
            simp
            refine changed_does (k := 20000 + 1000 * j + 100 * m) tv w2 ⟨w3, w4⟩ (b9.mono (by omega)) fun us S10 tu b10 g10 => ?_
            exact hM3 _ _ ⟨i + 1, m, us, _, by rw [e3]; simp, by omega, tu, b10, rfl⟩
        · rintro ρ S8 ⟨i, m, vs, y5, e, hi, tv, b8, rfl⟩
          exact hM2 _ _ ⟨k + 1, j, _, _, _, _, _, by rw [e2]; simp, by omega, b8.mono (by omega), rfl⟩
    · rintro ρ S6 ⟨k, j, x3, x4, x5, x6, x7, e, hk, b6, rfl⟩
      exact hM _ _ ⟨b6.mono (by omega), _, _, _, _, _, rfl⟩
  rintro ρ S3 ⟨b3, x3, x4, x5, x6, x7, rfl⟩
  have lit : ∀ l : List Str, l.length ≤ 4 → (l.all fun w => (chs w).all (fun c => decide (c < 128)) && decide (w.length ≤ 1500)) = true → TxOK 4 1500 l := by
    intro l hl h
    refine ⟨hl, fun v hv => ?_⟩
    have h := List.all_eq_true.mp h v hv
    rw [Bool.and_eq_true, List.all_eq_true, decide_eq_true_eq] at h
    exact ⟨fun c hc => by simpa using h.1 c hc, h.2⟩
  have ln : ∀ S, gLen S [progD ts] = some (.int ts.length) := fun S => by simp [progD]
  refine seq_cut (fun ρ S' => Bag p 20000 S' ∧ ∃ x6, ρ = [some (.cell p), some (zonesD zs), some (progD ts), x3, x4, x5, x6, x7]) (fun M hM => ?_) ?_
  · rw [does_for]
    simp [ln]
    refine ⟨⟨by omega, by omega⟩, ?_⟩
    refine forL_cut (fun ds ρ S' => ∃ (k j : Nat) (x6 : Option D), ds = rngD (k : Int) j ∧ k + j = ts.length + 2 ∧ Bag p 20000 S' ∧ ρ = [some (.cell p), some (zonesD zs), some (progD ts), x3, x4, x5, x6, x7]) _
      ⟨0, ts.length + 2, _, rfl, by omega, b3, rfl⟩ ?_ ?_
    · rintro y ds ρ S6 ⟨k, j, x6, e, hk, b6, rfl⟩
      cases j with
      | zero => cases e
      | succ j =>
        rw [rngD_cons] at e
        injection e with e1 e2
        subst e1
        refine ⟨_, rfl, fun M2 hM2 => ?_⟩
        have ks := kS_ok (i := k) (by omega)
        have gs : ∀ S', gStrS S' [.int (k : Int)] = some (.str (kS k)) := fun S' => strS_of (d := .int (k : Int)) (.inl ⟨_, rfl, by omega⟩)
        have t1 : TxOK 4 1500 (["same", kS k, "0"] : List Str) := by
          refine ⟨by simp, fun v hv => ?_⟩
          simp at hv
          rcases hv with rfl | rfl | rfl
          · exact (lit ["same"] (by simp) (by decide +kernel)).each _ (by simp)
          · exact ⟨ks.1, by have := ks.2; omega⟩
          · exact (lit ["0"] (by simp) (by decide +kernel)).each _ (by simp)
        have t2 : TxOK 4 1500 (["near", "0", kS k, "5"] : List Str) := by
          refine ⟨by simp, fun v hv => ?_⟩
          simp at hv
          rcases hv with rfl | rfl | rfl | rfl
          · exact (lit ["near"] (by simp) (by decide +kernel)).each _ (by simp)
          · exact (lit ["0"] (by simp) (by decide +kernel)).each _ (by simp)
          · exact ⟨ks.1, by have := ks.2; omega⟩
          · exact (lit ["5"] (by simp) (by decide +kernel)).each _ (by simp)
        refine seq_cut (fun ρ S' => Bag p 20000 S' ∧ ρ = [some (.cell p), some (zonesD zs), some (progD ts), x3, x4, x5, some (.int (k : Int)), x7]) (fun M hM => ?_) ?_
        · simp [gs]
          refine asked5_does (ws := ["same", kS k, "0"]) z ok t1 (by decide) fun S7 g7 => ?_
          simp
          exact hM _ _ ⟨b6.growT g7, rfl⟩
        rintro ρ S7 ⟨b7, rfl⟩
        simp [gs]
        refine asked5_does (ws := ["near", "0", kS k, "5"]) z ok t2 (by decide) fun S8 g8 => ?_
        simp
        exact hM2 _ _ ⟨k + 1, j, _, by rw [e2]; simp, by omega, b7.growT g8, rfl⟩
    · rintro ρ S6 ⟨k, j, x6, e, hk, b6, rfl⟩
      exact hM _ _ ⟨b6, _, rfl⟩
  rintro ρ S4 ⟨b4, x6, rfl⟩
  simp
  refine odd_word_does (n := 10000) (b4.mono (by omega)) fun x S5 xa xl b5 g5 => ?_
  have hx : TxOK 1 1500 [x] := ⟨by simp, fun w hw => by rw [List.mem_singleton.mp hw]; exact ⟨xa, xl⟩⟩
  refine asked5_does (ws := [x]) z ok hx (by decide) fun S6 g6 => ?_
  simp
  refine asked5_does (ws := [""]) z ok (lit [""] (by simp) (by decide +kernel)) (by decide) fun S7 g7 => ?_
  rfl
end
theorem law_k65_words_of_no_wish_true : LawTrue m_law_k65_words_of_no_wish := law_loop2 fun _ _ b => right_k65 b
end Dm
-- text E_k65
open PySem PySem.W PyProof.Rows in
set_option maxRecDepth 100000 in
set_option maxHeartbeats 0 in
theorem PySem.Challenge.cw_hoursmeant_k65_words_of_no_wish_holds : PySem.Challenge.rw_hoursmeant_k65_words_of_no_wish.Holds := by
  w_on; o_law; k_head; (case hw => w_witness2)
  k_fill
  refine V.walk (l := PySem.Challenge.rw_hoursmeant_k65_words_of_no_wish) rfl rfl (fun w h Y => PySem.W.kIn_of Y) ?F
  case F =>
    intro w mg fa h KX G hmg
    refine' V.all_mk Dm.law_k65_words_of_no_wish_true KX G hmg ?a0 ?l0 ?c0 ?k0 ?a1 ?l1 ?c1 ?k1 ?a2 ?l2 ?c2 ?k2 ?a3 ?l3 ?c3 ?k3 ?a4 ?l4 ?c4 ?k4 ?a5 ?l5 ?c5 ?k5 ?a6 ?l6 ?c6 ?k6 ?a7 ?l7 ?c7 ?k7 ?a8 ?l8 ?c8 ?k8 ?a9 ?l9 ?c9 ?k9 ?a10 ?l10 ?c10 ?k10 ?a11 ?l11 ?c11 ?k11 ?a12 ?l12 ?c12 ?k12 ?a13 ?l13 ?c13 ?k13 ?a14 ?l14 ?c14 ?k14 ?a15 ?l15 ?c15 ?k15 ?a16 ?l16 ?c16 ?k16 ?a17 ?l17 ?c17 ?k17 ?a18 ?l18 ?c18 ?k18 ?a19 ?l19 ?c19 ?k19 ?a20 ?l20 ?c20 ?k20 ?a21 ?l21 ?c21 ?k21 ?a22 ?l22 ?c22 ?k22 ?a23 ?l23 ?c23 ?k23 ?a24 ?l24 ?c24 ?k24 ?a25 ?l25 ?c25 ?k25 ?a26 ?l26 ?c26 ?k26 ?a27 ?l27 ?c27 ?k27 ?a28 ?l28 ?c28 ?k28 ?a29 ?l29 ?c29 ?k29 ?a30 ?l30 ?c30 ?k30 ?a31 ?l31 ?c31 ?k31 ?a32 ?l32 ?c32 ?k32 ?a33 ?l33 ?c33 ?k33 ?a34 ?l34 ?c34 ?k34 ?a35 ?l35 ?c35 ?k35 ?a36 ?l36 ?c36 ?k36 ?a37 ?l37 ?c37 ?k37 ?a38 ?l38 ?c38 ?k38 ?a39 ?l39 ?c39 ?k39 ?a40 ?l40 ?c40 ?k40 ?a41 ?l41 ?c41 ?k41 ?z0 ?z1 ?z2 ?z3 ?z4 ?z5 ?z6 ?z7 ?z8 ?z9 ?z10 ?z11 ?z12 ?v0 ?q0_1 ?v1 ?q1_1 ?v2 ?tb2 ?hs2_0 ?hs2_1 ?hs2_2 ?hs2_3 ?hs2_4 ?hs2_5 ?lw2 ?v3 ?v4 ?v5 ?v6 ?v7 ?v8 ?v9 ?tb9 ?hs9_0 ?hs9_1 ?hs9_2 ?hs9_3 ?hs9_4 ?hs9_5 ?hs9_6 ?lw9 ?q9_1 ?q9_4 ?q9_9 ?q9_12 ?q9_15 ?q9_18 ?q9_21 ?v10 ?tb10 ?hs10_0 ?hs10_1 ?hs10_2 ?hs10_3 ?lw10 ?q10_1 ?q10_2 ?q10_5 ?q10_8 ?xa0 ?xq0 ?xk0 ?xb0 ?xt0 ?xa1 ?xq1 ?xk1 ?xb1 ?xt1 ?xa2 ?xf0 ?xf1 ?xf2 ?xf3 ?xf4 ?xa3 ?xf5 ?xf6 ?xf7 ?xf8 ?xf9 ?xf10 ?xf11 ?xf12 ?xf13 ?xf14 ?xf15 ?xf16 ?xf17 ?xf18 ?xf19 ?xf20 ?xf21 ?xf22 ?xf23 ?xf24 ?xa4 ?xf25 ?xf26 ?xf27 ?xf28 ?xf29 ?xf30 ?xa5 ?xf31 ?xf32 ?xf33 ?xf34 ?xf35 ?xf36 ?xf37 ?xf38 ?xf39 ?xf40 ?xf41 ?xf42 ?xf43 ?xf44 ?xf45 ?xf46 ?xf47 ?xf48 ?xf49 ?xf50 ?xf51 ?xf52 ?xf53 ?xf54 ?xf55 ?xf56 ?xf57 ?xf58 ?xL2 ?rb2 ?xf59 ?xf60 ?lI2 ?cI2 ?xf61 ?xf62 ?xf63 ?xf64 ?xf65 ?xf66
    (case a0 => k_is)
    (case l0 => k_is)
    (case c0 => k_is)
    (case k0 => k_is)
    (case a1 => k_is)
    (case l1 => k_is)
    (case c1 => k_is)
    (case k1 => k_is)
    (case a2 => k_is)
    (case l2 => k_is)
    (case c2 => k_is)
    (case k2 => k_is)
    (case a3 => k_is)
    (case l3 => k_is)
    (case c3 => k_is)
    (case k3 => k_is)
    (case a4 => k_is)
    (case l4 => k_is)
    (case c4 => k_is)
    (case k4 => k_is)
    (case a5 => k_is)
    (case l5 => k_is)
    (case c5 => k_is)
    (case k5 => k_is)
    (case a6 => k_is)
    (case l6 => k_is)
    (case c6 => k_is)
    (case k6 => k_is)
    (case a7 => k_is)
    (case l7 => k_is)
    (case c7 => k_is)
    (case k7 => k_is)
    (case a8 => k_is)
    (case l8 => k_is)
    (case c8 => k_is)
    (case k8 => k_is)
    (case a9 => k_is)
    (case l9 => k_is)
    (case c9 => k_is)
    (case k9 => k_is)
    (case a10 => k_is)
    (case l10 => k_is)
    (case c10 => k_is)
    (case k10 => k_is)
    (case a11 => k_is)
    (case l11 => k_is)
    (case c11 => k_is)
    (case k11 => k_is)
    (case a12 => k_is)
    (case l12 => k_is)
    (case c12 => k_is)
    (case k12 => k_is)
    (case a13 => k_is)
    (case l13 => k_is)
    (case c13 => k_is)
    (case k13 => k_is)
    (case a14 => k_is)
    (case l14 => k_is)
    (case c14 => k_is)
    (case k14 => k_is)
    (case a15 => k_is)
    (case l15 => k_is)
    (case c15 => k_is)
    (case k15 => k_is)
    (case a16 => k_is)
    (case l16 => k_is)
    (case c16 => k_is)
    (case k16 => k_is)
    (case a17 => k_is)
    (case l17 => k_is)
    (case c17 => k_is)
    (case k17 => k_is)
    (case a18 => k_is)
    (case l18 => k_is)
    (case c18 => k_is)
    (case k18 => k_is)
    (case a19 => k_is)
    (case l19 => k_is)
    (case c19 => k_is)
    (case k19 => k_is)
    (case a20 => k_is)
    (case l20 => k_is)
    (case c20 => k_is)
    (case k20 => k_is)
    (case a21 => k_is)
    (case l21 => k_is)
    (case c21 => k_is)
    (case k21 => k_is)
    (case a22 => k_is)
    (case l22 => k_is)
    (case c22 => k_is)
    (case k22 => k_is)
    (case a23 => k_is)
    (case l23 => k_is)
    (case c23 => k_is)
    (case k23 => k_is)
    (case a24 => k_is)
    (case l24 => k_is)
    (case c24 => k_is)
    (case k24 => k_is)
    (case a25 => k_is)
    (case l25 => k_is)
    (case c25 => k_is)
    (case k25 => k_is)
    (case a26 => k_is)
    (case l26 => k_is)
    (case c26 => k_is)
    (case k26 => k_is)
    (case a27 => k_is)
    (case l27 => k_is)
    (case c27 => k_is)
    (case k27 => k_is)
    (case a28 => k_is)
    (case l28 => k_is)
    (case c28 => k_is)
    (case k28 => k_is)
    (case a29 => k_is)
    (case l29 => k_is)
    (case c29 => k_is)
    (case k29 => k_is)
    (case a30 => k_is)
    (case l30 => k_is)
    (case c30 => k_is)
    (case k30 => k_is)
    (case a31 => k_is)
    (case l31 => k_is)
    (case c31 => k_is)
    (case k31 => k_is)
    (case a32 => k_is)
    (case l32 => k_is)
    (case c32 => k_is)
    (case k32 => k_is)
    (case a33 => k_is)
    (case l33 => k_is)
    (case c33 => k_is)
    (case k33 => k_is)
    (case a34 => k_is)
    (case l34 => k_is)
    (case c34 => k_is)
    (case k34 => k_is)
    (case a35 => k_is)
    (case l35 => k_is)
    (case c35 => k_is)
    (case k35 => k_is)
    (case a36 => k_is)
    (case l36 => k_is)
    (case c36 => k_is)
    (case k36 => k_is)
    (case a37 => k_is)
    (case l37 => k_is)
    (case c37 => k_is)
    (case k37 => k_is)
    (case a38 => k_is)
    (case l38 => k_is)
    (case c38 => k_is)
    (case k38 => k_is)
    (case a39 => k_is)
    (case l39 => k_is)
    (case c39 => k_is)
    (case k39 => k_is)
    (case a40 => k_is)
    (case l40 => k_is)
    (case c40 => k_is)
    (case k40 => k_is)
    (case a41 => k_is)
    (case l41 => k_is)
    (case c41 => k_is)
    (case k41 => k_is)
    (case z0 => k_is)
    (case z1 => k_is)
    (case z2 => k_is)
    (case z3 => k_is)
    (case z4 => k_is)
    (case z5 => k_is)
    (case z6 => k_is)
    (case z7 => k_is)
    (case z8 => k_is)
    (case z9 => k_is)
    (case z10 => k_is)
    (case z11 => k_is)
    (case z12 => k_is)
    (case v0 => k_is)
    (case q0_1 => k_is)
    (case v1 => k_is)
    (case q1_1 => k_is)
    (case v2 => k_is)
    (case tb2 => k_is)
    (case hs2_0 => rfl)
    (case hs2_1 => rfl)
    (case hs2_2 => rfl)
    (case hs2_3 => rfl)
    (case hs2_4 => rfl)
    (case hs2_5 => rfl)
    (case lw2 => rfl)
    (case v3 => k_is)
    (case v4 => k_is)
    (case v5 => k_is)
    (case v6 => k_is)
    (case v7 => k_is)
    (case v8 => k_is)
    (case v9 => k_is)
    (case tb9 => k_is)
    (case hs9_0 => rfl)
    (case hs9_1 => rfl)
    (case hs9_2 => rfl)
    (case hs9_3 => rfl)
    (case hs9_4 => rfl)
    (case hs9_5 => rfl)
    (case hs9_6 => rfl)
    (case lw9 => rfl)
    (case q9_1 => k_is)
    (case q9_4 => k_is)
    (case q9_9 => k_is)
    (case q9_12 => k_is)
    (case q9_15 => k_is)
    (case q9_18 => k_is)
    (case q9_21 => k_is)
    (case v10 => k_is)
    (case tb10 => k_is)
    (case hs10_0 => rfl)
    (case hs10_1 => rfl)
    (case hs10_2 => rfl)
    (case hs10_3 => rfl)
    (case lw10 => rfl)
    (case q10_1 => k_is)
    (case q10_2 => k_is)
    (case q10_5 => k_is)
    (case q10_8 => k_is)
    (case xa0 => k_is)
    (case xq0 => k_exc)
    (case xk0 => k_is)
    (case xb0 => k_is)
    (case xt0 => k_is)
    (case xa1 => k_is)
    (case xq1 => k_exc)
    (case xk1 => k_is)
    (case xb1 => k_is)
    (case xt1 => k_is)
    (case xa2 => k_is)
    (case xf0 => k_is)
    (case xf1 => k_is)
    (case xf2 => k_is)
    (case xf3 => k_is)
    (case xf4 => k_is)
    (case xa3 => k_is)
    (case xf5 => k_is)
    (case xf6 => k_is)
    (case xf7 => k_is)
    (case xf8 => k_is)
    (case xf9 => k_is)
    (case xf10 => k_is)
    (case xf11 => k_is)
    (case xf12 => k_is)
    (case xf13 => k_is)
    (case xf14 => k_is)
    (case xf15 => k_is)
    (case xf16 => k_is)
    (case xf17 => k_is)
    (case xf18 => k_is)
    (case xf19 => k_is)
    (case xf20 => k_is)
    (case xf21 => k_is)
    (case xf22 => k_is)
    (case xf23 => k_is)
    (case xf24 => k_is)
    (case xa4 => k_is)
    (case xf25 => k_is)
    (case xf26 => k_is)
    (case xf27 => k_is)
    (case xf28 => k_is)
    (case xf29 => k_is)
    (case xf30 => k_is)
    (case xa5 => k_is)
    (case xf31 => k_is)
    (case xf32 => k_is)
    (case xf33 => k_is)
    (case xf34 => k_is)
    (case xf35 => k_is)
    (case xf36 => k_is)
    (case xf37 => k_is)
    (case xf38 => k_is)
    (case xf39 => k_is)
    (case xf40 => k_is)
    (case xf41 => k_is)
    (case xf42 => k_is)
    (case xf43 => k_is)
    (case xf44 => k_is)
    (case xf45 => k_is)
    (case xf46 => k_is)
    (case xf47 => k_is)
    (case xf48 => k_is)
    (case xf49 => k_is)
    (case xf50 => k_is)
    (case xf51 => k_is)
    (case xf52 => k_is)
    (case xf53 => k_is)
    (case xf54 => k_is)
    (case xf55 => k_is)
    (case xf56 => k_is)
    (case xf57 => k_is)
    (case xf58 => k_is)
    (case xL2 => k_is)
    (case rb2 => first | rfl | decide +kernel)
    (case xf59 => k_is)
    (case xf60 => k_is)
    (case lI2 => k_is)
    (case cI2 => k_is)
    (case xf61 => k_is)
    (case xf62 => k_is)
    (case xf63 => k_is)
    (case xf64 => k_is)
    (case xf65 => k_is)
    (case xf66 => k_is)
