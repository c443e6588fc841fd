import PyProof.Rows.All
import Wide.All
import OpenK.AllK
import Wide.FinOn
import HandS.ForMost
import HandS.ForExc
import HandS.Wide
import HandS.IsInst
import HandS.Flow
import HandS.CallSlots
import HandS.ExcIs
import HandS.Strs
import HandS.TupAny
import HandS.TupMul
import KE.GoesEnum
import HandS.Conv
import HandS.Deep
import HandS.ExcField
import HandS.Style
import HandS.Ends
import HandS.SortRule
import HandS.SortInts
import HandS.Dict
import HandS.DictComp
import HandS.Defaults
import HandS.MakeKwOnly
import HandS.TryOnly
import HandS.SetFor
import PyProof.P3In
import HandS.More
import PyProof.ReprRoads
import HandS.TryMany
import HandS.ExcInit
import HandS.ClsMeth
import HandS.ExcValue
import HandS.LawCells
import HandS.JoinGen
import HandS.GenList
import KE.SortData
import HandS.Text
import HandS.StrMore
import HandS.RaiseMore
import HandS.Steps
import HandS.Iter
import PyProof.StrOps2
import PyProof.Rows.StrMul
import HandS.Property
import HandS.Small
import KE.KFromBytes
import KE.KOpsOwn
import HandS.ExcSuper
import HandS.FStr
import HandS.Star
import PySem.Challenge.RW_hoursmeant_k29_cases_of_a_find
import PyProof.ReprLen
import PyProof.FitsInt
set_option Elab.async false
set_option linter.all false
set_option maxRecDepth 100000
set_option maxHeartbeats 4000000
-- text DmCore
/-! Plain data in place of the heap: values D, a store of cells, programs as Lean functions of both. -/
namespace Dm
open PySem L2
open PySem.W (Frag)
inductive D where
  | non | bl (b : Bool) | int (i : Int) | str (x : Str)
  | tup (xs : List D) | lst (xs : List D)
  | cell (n : Nat) | glo (x : Str)
  | exn (c : Str) (fs : List (Str × Int))
inductive Cell where
  | lst (xs : List D)
  | obj (c : Str) (fs : List (Str × D))
  | exc (c : Str) (fs : List (Str × D))
  | dic (kvs : List (Key × D))
  | set (xs : List Int)
abbrev Sto := List Cell
inductive Res (α : Type) where
  | ok (a : α) (S : Sto)
  | exc (c : Str) (fs : List (Str × D)) (S : Sto)
  | bad
def Res.bind {α β : Type} (r : Res α) (f : α → Sto → Res β) : Res β := match r with
  | .ok a S => f a S
  | .exc c fs S => .exc c fs S
  | .bad => .bad
abbrev Rho := List (Option D)
abbrev ME := Rho → Sto → Res D
abbrev MA := Rho → Sto → Res (List D)
inductive Out where
  | nx (ρ : Rho) (S : Sto) | rt (d : D) (S : Sto) | bk (ρ : Rho) (S : Sto) | ct (ρ : Rho) (S : Sto)
  | exc (c : Str) (fs : List (Str × D)) (ρ : Rho) (S : Sto) | bad
abbrev MS := Rho → Sto → Out
/-! ### what stands for what -/
def KT (K : Frag) (a : Addr) (xs : List V) : Prop := ∃ (o : Obj) (its : Array Value) (n : Nat), K.lookup a = some o ∧ o.cls = .type "tuple" ∧ o.dict = none ∧ o.data = .seq its n ∧ its.size ≤ sizeLine ∧ Vals xs its.toList
def KL (K : Frag) (a : Addr) (xs : List V) : Prop := ∃ (o : Obj) (its : Array Value) (n : Nat), K.lookup a = some o ∧ o.cls = .type "list" ∧ o.dict = none ∧ o.data = .seq its n ∧ its.size ≤ sizeLine ∧ Vals xs its.toList
/-- what is fixed: the written part, the module's names, the addresses of lists that are being made -/
structure Fx where
  K : Frag
  mg : Str → Option Value
  ξ : List Addr
  w : World
abbrev fx (X : Cx) (ξ : List Addr) : Fx := ⟨X.K, X.mg, ξ, X.w⟩
/-- a tuple whose object is known to have no dict -/
def RdT (H : Hp) (a : Addr) (xs : List V) : Prop := ∃ o : Obj, o.dict = none ∧ H a = some (.frz o (.tup xs))
def FzT (F : Fx) (μ : List Addr) (H : Hp) (a : Addr) (xs : List V) : Prop := (RdT H a xs ∧ a ∉ μ ∧ a ∉ F.ξ) ∨ KT F.K a xs
def FzL (F : Fx) (μ : List Addr) (H : Hp) (a : Addr) (xs : List V) : Prop := (Rd H a (.lst xs) ∧ a ∉ μ ∧ a ∉ F.ξ) ∨ KL F.K a xs
theorem FzT.sq {F : Fx} {μ : List Addr} {H : Hp} {a : Addr} {xs : List V} (h : FzT F μ H a xs) : SqT F.K H a xs := h.imp (fun z => let ⟨o, _, e⟩ := z.1; .inr ⟨o, e⟩) (fun ⟨o, its, n, e1, e2, _, e3⟩ => ⟨o, its, n, e1, e2, e3⟩)
theorem FzL.sq {F : Fx} {μ : List Addr} {H : Hp} {a : Addr} {xs : List V} (h : FzL F μ H a xs) : SqL F.K H a xs := h.imp (·.1) id
/-- at a: an exception that was raised once, of the class cls, its dict -/
def ExV (cls : Value) (d : Option Addr) (a : Addr) : HO := .ext fun h => ∃ (oe : Obj) (vs : Array Value), h.get? a = some oe ∧ Zc cls d oe ∧ oe.data = .fields vs
def intFs (ns : List (Str × Int)) : List (Str × V) := ns.map fun p => (p.1, .int p.2)
/-- an own error class: isinstance asks its instances rightly, they are of no plain type -/
def PlX (K : Frag) (cls : Value) : Prop := ∃ D : Addr, cls = .ref D ∧ ExcC K D ∧ ∀ x : String, x ∈ ["tuple", "list", "int", "str", "bool", "dict"] → PySem.W.kitOne K (.ref D) (.type x) = some false
structure ClsK (K : Frag) (mg : Str → Option Value) (c : Str) (cls : Value) : Prop where
  mg : mg c = some cls
  pl : PlX K cls
/-- an exception as a value; without fields: its fields are not known -/
def FzX (F : Fx) (μ : List Addr) (H : Hp) (a : Addr) (c : Str) (ns : List (Str × Int)) : Prop := ∃ cls dd, ClsK F.K F.mg c cls ∧ (H a = some (ExV cls dd a) ∧ a ∉ μ ∧ a ∉ F.ξ) ∧ ((ns = [] ∧ dd = none) ∨ ∃ d fs, dd = some d ∧ H d = some (.xd fs) ∧ (ns = [] ∨ fs = intFs ns) ∧ d ∉ μ ∧ d ∉ F.ξ)
/-- an own class whose instances hold a state: isinstance asks them rightly, they are of no plain type -/
structure PlO (K : Frag) (C : Addr) : Prop where
  cl : Cls K C
  ha : PySem.W.findIn K (.ref C) "__class__" = some (some (.builtin "object.__class__"))
  hn : PySem.W.specialIn K (.builtin "object.__class__") "__get__" = some (some (.builtin "getset_descriptor.__get__"))
  tk : PySem.W.takesIn K (.builtin "object.__class__") = some true
  hm : PySem.W.mroIn K C (.type "object") = some true
  no : ∀ x : String, x ∈ ["tuple", "list", "int", "str", "bool", "dict"] → PySem.W.kitOne K (.ref C) (.type x) = some false
mutual
inductive RD (F : Fx) (μ : List Addr) (H : Hp) : V → D → Prop
  | non : RD F μ H .non .non
  | bl (b : Bool) : RD F μ H (.bl b) (.bl b)
  | int (i : Int) : RD F μ H (.int i) (.int i)
  | str (x : Str) : RD F μ H (.str x) (.str x)
  | tup {a : Addr} {xs : List V} {ds : List D} : FzT F μ H a xs → RDs F μ H xs ds → RD F μ H (.ref a) (.tup ds)
  | lst {a : Addr} {xs : List V} {ds : List D} : FzL F μ H a xs → RDs F μ H xs ds → RD F μ H (.ref a) (.lst ds)
  | cell {a : Addr} {n : Nat} : μ[n]? = some a → RD F μ H (.ref a) (.cell n)
  | glo {a : Addr} {x : Str} : F.mg x = some (.ref a) → RD F μ H (.ref a) (.glo x)
  | exn {a : Addr} {c : Str} {ns : List (Str × Int)} : FzX F μ H a c ns → RD F μ H (.ref a) (.exn c ns)
inductive RDs (F : Fx) (μ : List Addr) (H : Hp) : List V → List D → Prop
  | nil : RDs F μ H [] []
  | cons {v : V} {vs : List V} {d : D} {ds : List D} : RD F μ H v d → RDs F μ H vs ds → RDs F μ H (v :: vs) (d :: ds)
end
/-- what has gone on: new cells behind the old ones, all but the cells is as it was -/
structure Up (μ : List Addr) (H : Hp) (μ' : List Addr) (H' : Hp) : Prop where
  pre : ∃ ν, μ' = μ ++ ν
  new : ∀ a, a ∈ μ' → a ∉ μ → H a = none
  keep : ∀ a o, H a = some o → a ∉ μ → H' a = some o
section
variable {F : Fx} {μ μ' μ1 μ2 : List Addr} {H H' H1 H2 : Hp}
theorem Up.refl : Up μ H μ H := ⟨⟨[], (List.append_nil _).symm⟩, fun _ h n => absurd h n, fun _ _ h _ => h⟩
theorem Up.notin (u : Up μ H μ' H') {a : Addr} {o : HO} (h : H a = some o) (n : a ∉ μ) : a ∉ μ' := fun z => by
  have q := u.new a z n
  rw [h] at q; cases q
theorem Up.trans (u : Up μ H μ1 H1) (v : Up μ1 H1 μ2 H2) : Up μ H μ2 H2 := by
  obtain ⟨ν, e⟩ := u.pre
  obtain ⟨ν', e'⟩ := v.pre
  refine ⟨⟨ν ++ ν', by rw [e', e, List.append_assoc]⟩, fun a h n => ?_, fun a o h n => v.keep a o (u.keep a o h n) (u.notin h n)⟩
  by_cases h1 : a ∈ μ1
  · exact u.new a h1 n
  · have q := v.new a h h1
    cases z : H a with
    | none => rfl
    | some o =>
      rw [u.keep a o z n] at q; cases q
theorem Up.back (u : Up μ H μ' H') {p : Addr} (h : H' p = none) (n : p ∉ μ := by assumption) : H p = none := by
  cases z : H p with
  | none => rfl
  | some o =>
    rw [u.keep p o z n] at h; cases h
theorem Up.mem (u : Up μ H μ' H') {a : Addr} (h : a ∈ μ) : a ∈ μ' := by
  obtain ⟨ν, e⟩ := u.pre
  rw [e]
  exact List.mem_append_left _ h
theorem Up.get (u : Up μ H μ' H') {n : Nat} {a : Addr} (h : μ[n]? = some a) : μ'[n]? = some a := by
  obtain ⟨ν, e⟩ := u.pre
  rw [e, List.getElem?_append_left (List.getElem?_eq_some_iff.mp h).1]
  exact h
theorem FzT.up (u : Up μ H μ' H') {a : Addr} {xs : List V} (h : FzT F μ H a xs) : FzT F μ' H' a xs := by
  rcases h with ⟨⟨o, d, h⟩, n, nx⟩ | h
  · exact .inl ⟨⟨o, d, u.keep _ _ h n⟩, u.notin h n, nx⟩
  · exact .inr h
theorem FzL.up (u : Up μ H μ' H') {a : Addr} {xs : List V} (h : FzL F μ H a xs) : FzL F μ' H' a xs := by
  rcases h with ⟨h, n, nx⟩ | h
  · rcases h with h | ⟨o, h⟩
    · exact .inl ⟨.inl (u.keep _ _ h n), u.notin h n, nx⟩
    · exact .inl ⟨.inr ⟨o, u.keep _ _ h n⟩, u.notin h n, nx⟩
  · exact .inr h
theorem FzX.up (u : Up μ H μ' H') {a : Addr} {c : Str} {ns : List (Str × Int)} (h : FzX F μ H a c ns) : FzX F μ' H' a c ns := by
  obtain ⟨cls, dd, e, ⟨h1, h2, h3⟩, h4⟩ := h
  refine ⟨cls, dd, e, ⟨u.keep _ _ h1 h2, u.notin h1 h2, h3⟩, h4.imp id ?_⟩
  rintro ⟨d, fs, e2, h5, hf, h6, h7⟩
  exact ⟨d, fs, e2, u.keep _ _ h5 h6, hf, u.notin h5 h6, h7⟩
mutual
theorem RD.up (u : Up μ H μ' H') : ∀ {v : V} (d : D), RD F μ H v d → RD F μ' H' v d
  | _, .non, h => by cases h; exact .non
  | _, .bl b, h => by cases h; exact .bl b
  | _, .int i, h => by cases h; exact .int i
  | _, .str x, h => by cases h; exact .str x
  | _, .tup ds, h => by
    cases h with
    | tup f r => exact .tup (f.up u) (RDs.up u ds r)
  | _, .lst ds, h => by
    cases h with
    | lst f r => exact .lst (f.up u) (RDs.up u ds r)
  | _, .cell n, h => by
    cases h with
    | cell e => exact .cell (u.get e)
  | _, .glo x, h => by
    cases h with
    | glo e => exact .glo e
  | _, .exn c ns, h => by
    cases h with
    | exn f => exact .exn (f.up u)
theorem RDs.up (u : Up μ H μ' H') : ∀ {vs : List V} (ds : List D), RDs F μ H vs ds → RDs F μ' H' vs ds
  | _, [], h => by cases h; exact .nil
  | _, d :: ds, h => by
    cases h with
    | cons a b => exact .cons (RD.up u d a) (RDs.up u ds b)
end
theorem RDs.length : ∀ {vs : List V} {ds : List D}, RDs F μ H vs ds → vs.length = ds.length
  | _, [], h => by cases h; rfl
  | _, d :: ds, h => by
    cases h with
    | cons a b => rw [List.length_cons, List.length_cons, RDs.length b]
theorem RDs.get : ∀ {vs : List V} {ds : List D}, RDs F μ H vs ds → ∀ {i : Nat} {d : D}, ds[i]? = some d → ∃ v, vs[i]? = some v ∧ RD F μ H v d
  | _, [], _, i, d, e => by simp at e
  | _, d0 :: ds, h, 0, d, e => by
    cases h with
    | cons a b =>
      simp at e; subst e
      exact ⟨_, rfl, a⟩
  | _, d0 :: ds, h, i + 1, d, e => by
    cases h with
    | cons a b =>
      obtain ⟨v, h1, h2⟩ := RDs.get b (i := i) (d := d) (by simpa using e)
      exact ⟨v, by simpa using h1, h2⟩
theorem RDs.append : ∀ {vs ws : List V} {ds es : List D}, RDs F μ H vs ds → RDs F μ H ws es → RDs F μ H (vs ++ ws) (ds ++ es)
  | _, _, [], _, h, k => by cases h; exact k
  | _, _, d :: ds, _, h, k => by
    cases h with
    | cons a b => exact .cons a (RDs.append b k)
theorem RDs.take : ∀ {vs : List V} {ds : List D} (n : Nat), RDs F μ H vs ds → RDs F μ H (vs.take n) (ds.take n)
  | _, _, 0, _ => .nil
  | _, [], _ + 1, h => by cases h; exact .nil
  | _, d :: ds, n + 1, h => by
    cases h with
    | cons a b => exact .cons a (RDs.take n b)
theorem RDs.drop : ∀ {vs : List V} {ds : List D} (n : Nat), RDs F μ H vs ds → RDs F μ H (vs.drop n) (ds.drop n)
  | _, _, 0, h => h
  | _, [], _ + 1, h => by cases h; exact .nil
  | _, d :: ds, n + 1, h => by
    cases h with
    | cons a b => exact RDs.drop n b
theorem RDs.reverse : ∀ {vs : List V} {ds : List D}, RDs F μ H vs ds → RDs F μ H vs.reverse ds.reverse
  | _, [], h => by cases h; exact .nil
  | _, d :: ds, h => by
    cases h with
    | cons a b =>
      rw [List.reverse_cons, List.reverse_cons]
      exact RDs.append (RDs.reverse b) (.cons a .nil)
theorem RDs.set : ∀ {vs : List V} {ds : List D} (n : Nat) {v : V} {d : D}, RDs F μ H vs ds → RD F μ H v d → RDs F μ H (vs.set n v) (ds.set n d)
  | _, [], n, _, _, h, _ => by cases h; exact .nil
  | _, d0 :: ds, 0, _, _, h, k => by
    cases h with
    | cons a b => exact .cons k b
  | _, d0 :: ds, n + 1, _, _, h, k => by
    cases h with
    | cons a b => exact .cons a (RDs.set n b k)
end
/-- fields by name -/
def FsR (F : Fx) (μ : List Addr) (H : Hp) (vfs : List (Str × V)) (fs : List (Str × D)) : Prop := Paired (fun p q => p.1 = q.1 ∧ RD F μ H p.2 q.2) vfs fs
def KvR (F : Fx) (μ : List Addr) (H : Hp) (vk : List (Key × V)) (kvs : List (Key × D)) : Prop := Paired (fun p q => p.1 = q.1 ∧ RD F μ H p.2 q.2) vk kvs
theorem FsR.up {F : Fx} {μ μ' : List Addr} {H H' : Hp} (u : Up μ H μ' H') {vfs : List (Str × V)} {fs : List (Str × D)} (h : FsR F μ H vfs fs) : FsR F μ' H' vfs fs :=
  Paired.mapP h fun _ _ z => ⟨z.1, z.2.up u⟩
theorem KvR.up {F : Fx} {μ μ' : List Addr} {H H' : Hp} (u : Up μ H μ' H') {vfs : List (Key × V)} {fs : List (Key × D)} (h : KvR F μ H vfs fs) : KvR F μ' H' vfs fs :=
  Paired.mapP h fun _ _ z => ⟨z.1, z.2.up u⟩
/-- a cell at its address -/
def CellOk (F : Fx) (μ : List Addr) (H : Hp) (a : Addr) : Cell → Prop
  | .lst ds => ∃ xs, H a = some (.lst xs) ∧ RDs F μ H xs ds
  | .obj c fs => ∃ C dx vfs, H a = some (.ins C dx vfs) ∧ F.mg c = some (.ref C) ∧ FsR F μ H vfs fs ∧ PlO F.K C
  | .dic kvs => ∃ vk, H a = some (.dK vk) ∧ KvR F μ H vk kvs
  | .exc _ _ => False
  | .set ns => ns.Nodup ∧ H a = some (SetO F.w a (fun j => decide (j ∈ ns)) ns.length)
structure RS (F : Fx) (μ : List Addr) (H : Hp) (S : Sto) : Prop where
  len : μ.length = S.length
  nd : μ.Nodup
  at_ : ∀ (n : Nat) (a : Addr) (c : Cell), μ[n]? = some a → S[n]? = some c → CellOk F μ H a c
  xi : ∀ a, a ∈ F.ξ → a ∉ μ ∧ ∃ o, H a = some o
/-- the slots -/
structure RG (F : Fx) (μ : List Addr) (H : Hp) (σ : St) (ρ : Rho) : Prop where
  len : σ.length = ρ.length
  at_ : ∀ (i : Nat) (d : D), ρ[i]? = some (some d) → ∃ v, σ[i]? = some (some v) ∧ RD F μ H v d
/-- an exception in the air -/
def XR (F : Fx) (μ : List Addr) (H : Hp) (cls : Value) (dd : Option Addr) (c : Str) (fs : List (Str × D)) : Prop :=
  F.mg c = some cls ∧ ((fs = [] ∧ dd = none) ∨ ∃ d vfs, dd = some d ∧ H d = some (.xd vfs) ∧ d ∉ μ ∧ d ∉ F.ξ ∧ FsR F μ H vfs fs)
section
variable {F : Fx} {μ μ' μ1 : List Addr} {H H' H1 : Hp} {S S' S1 : Sto} {σ : St} {ρ : Rho}
theorem RG.up (u : Up μ H μ' H') (g : RG F μ H σ ρ) : RG F μ' H' σ ρ := ⟨g.len, fun i d e => by
  obtain ⟨v, h, r⟩ := g.at_ i d e
  exact ⟨v, h, r.up u⟩⟩
theorem RG.set {v : V} {d : D} (i : Nat) (g : RG F μ H σ ρ) (r : RD F μ H v d) : RG F μ H (σ.set i (some v)) (ρ.set i (some d)) := ⟨by rw [List.length_set, List.length_set, g.len], fun j d' e => by
  by_cases hj : i = j
  · subst hj
    by_cases hl : i < ρ.length
    · rw [List.getElem?_set_self hl] at e; cases e
      exact ⟨v, List.getElem?_set_self (by rw [g.len]; exact hl), r⟩
    · rw [List.getElem?_eq_none (by simpa using hl)] at e; cases e
  · rw [List.getElem?_set_ne hj] at e
    obtain ⟨w, h, r'⟩ := g.at_ j d' e
    exact ⟨w, by rw [List.getElem?_set_ne hj]; exact h, r'⟩⟩
theorem RG.forget {σ' : St} (i : Nat) (g : RG F μ H σ ρ) : RG F μ H (σ.set i none) (ρ.set i none) := ⟨by rw [List.length_set, List.length_set, g.len], fun j d' e => by
  by_cases hj : i = j
  · subst hj
    by_cases hl : i < ρ.length
    · rw [List.getElem?_set_self hl] at e; cases e
    · rw [List.getElem?_eq_none (by simpa using hl)] at e; cases e
  · rw [List.getElem?_set_ne hj] at e
    obtain ⟨w, h, r'⟩ := g.at_ j d' e
    exact ⟨w, by rw [List.getElem?_set_ne hj]; exact h, r'⟩⟩
/-- a new object beside the cells -/
theorem Up.fresh {p : Addr} {o : HO} (h : H p = none) : Up μ H μ (upd H p o) := ⟨⟨[], (List.append_nil _).symm⟩, fun _ h n => absurd h n, fun a u e _ => by rw [upd_ne (ne_of_none e h)]; exact e⟩
theorem CellOk.up (u : Up μ H μ' H') {a : Addr} {c : Cell} (e : H' a = H a) (h : CellOk F μ H a c) : CellOk F μ' H' a c := by
  cases c with
  | lst ds =>
    obtain ⟨xs, h1, h2⟩ := h
    exact ⟨xs, e.trans h1, h2.up u⟩
  | obj c fs =>
    obtain ⟨C, dx, vfs, h1, h2, h3⟩ := h
    exact ⟨C, dx, vfs, e.trans h1, h2, h3.1.up u, h3.2⟩
  | dic kvs =>
    obtain ⟨vk, h1, h2⟩ := h
    exact ⟨vk, e.trans h1, h2.up u⟩
  | exc _ _ => exact h.elim
  | set ns => exact ⟨h.1, e.trans h.2⟩
theorem CellOk.hasO {a : Addr} {c : Cell} (h : CellOk F μ H a c) : ∃ o, H a = some o := by
  cases c with
  | lst ds =>
    obtain ⟨xs, h1, h2⟩ := h
    exact ⟨_, h1⟩
  | obj c fs =>
    obtain ⟨C, dx, vfs, h1, _⟩ := h
    exact ⟨_, h1⟩
  | dic kvs =>
    obtain ⟨vk, h1, h2⟩ := h
    exact ⟨_, h1⟩
  | exc _ _ => exact h.elim
  | set ns => exact ⟨_, h.2⟩
theorem RS.there (r : RS F μ H S) {n : Nat} {a : Addr} (h : μ[n]? = some a) : ∃ c, S[n]? = some c := by
  have hn := (List.getElem?_eq_some_iff.mp h).1
  rw [r.len] at hn
  exact ⟨S[n], List.getElem?_eq_getElem hn⟩
theorem RS.hasO (r : RS F μ H S) {a : Addr} (h : a ∈ μ) : ∃ o, H a = some o := by
  obtain ⟨n, e⟩ := List.getElem?_of_mem h
  obtain ⟨c, hc⟩ := r.there e
  exact (r.at_ n a c e hc).hasO
theorem RS.out (r : RS F μ H S) {p : Addr} (h : H p = none) : p ∉ μ := fun z => by
  obtain ⟨o, e⟩ := r.hasO z
  rw [h] at e; cases e
theorem RS.outX (r : RS F μ H S) {p : Addr} (h : H p = none) : p ∉ F.ξ := fun z => by
  obtain ⟨_, o, e⟩ := r.xi p z
  rw [h] at e; cases e
theorem RS.fresh (r : RS F μ H S) {p : Addr} {o : HO} (h : H p = none) : RS F μ (upd H p o) S := ⟨r.len, r.nd, fun n a c e1 e2 => by
  have q := r.at_ n a c e1 e2
  refine q.up (.fresh h) (upd_ne ?_)
  intro z
  subst z
  obtain ⟨o', e⟩ := q.hasO
  rw [h] at e; exact (nomatch e), fun a ha => ⟨(r.xi a ha).1, by
    obtain ⟨o', e⟩ := (r.xi a ha).2
    exact ⟨o', by rw [upd_ne (ne_of_none e h)]; exact e⟩⟩⟩
theorem alloc_at {p : Addr} : (μ ++ [p])[μ.length]? = some p := by rw [List.getElem?_append_right (Nat.le_refl _), Nat.sub_self]; rfl
/-- a cell is written -/
theorem Up.write {n : Nat} {a : Addr} {o : HO} (h : μ[n]? = some a) : Up μ H μ (upd H a o) := ⟨⟨[], (List.append_nil _).symm⟩, fun _ h n => absurd h n, fun b u e nb => by
  rw [upd_ne]
  · exact e
  · rintro rfl
    exact nb (List.mem_of_getElem? h)⟩
theorem RS.write (r : RS F μ H S) {n : Nat} {a : Addr} {o : HO} {c : Cell} (h : μ[n]? = some a) (hc : CellOk F μ (upd H a o) a c) : RS F μ (upd H a o) (S.set n c) := by
  refine ⟨by rw [List.length_set, r.len], r.nd, fun m b c' e1 e2 => ?_, fun b hb => ⟨(r.xi b hb).1, by
    obtain ⟨o', e⟩ := (r.xi b hb).2
    refine ⟨o', ?_⟩
    rw [upd_ne]
    · exact e
    · rintro rfl
      exact (r.xi b hb).1 (List.mem_of_getElem? h)⟩⟩
  by_cases hm : n = m
  · subst hm
    rw [h] at e1; cases e1
    have hl : n < S.length := by rw [← r.len]; exact (List.getElem?_eq_some_iff.mp h).1
    rw [List.getElem?_set_self hl] at e2; cases e2
    exact hc
  · rw [List.getElem?_set_ne hm] at e2
    refine (r.at_ m b c' e1 e2).up (.write h) (upd_ne ?_)
    rintro rfl
    have h1 := (List.getElem?_eq_some_iff.mp h)
    have h2 := (List.getElem?_eq_some_iff.mp e1)
    exact hm ((List.getElem_inj r.nd).mp (h1.2.trans h2.2.symm))
/-- a list that is being made: reserved, then let go -/
def Fx.hold (F : Fx) (p : Addr) : Fx := ⟨F.K, F.mg, p :: F.ξ, F.w⟩
theorem FzT.free {p a : Addr} {xs : List V} (h : FzT (F.hold p) μ H a xs) : FzT F μ H a xs := h.imp (fun z => ⟨z.1, z.2.1, fun q => z.2.2 (List.mem_cons_of_mem _ q)⟩) id
theorem FzL.free {p a : Addr} {xs : List V} (h : FzL (F.hold p) μ H a xs) : FzL F μ H a xs := h.imp (fun z => ⟨z.1, z.2.1, fun q => z.2.2 (List.mem_cons_of_mem _ q)⟩) id
theorem FzX.free {p a : Addr} {c : Str} {ns : List (Str × Int)} (h : FzX (F.hold p) μ H a c ns) : FzX F μ H a c ns := by
  obtain ⟨cls, dd, e, ⟨h1, h2, h3⟩, h4⟩ := h
  refine ⟨cls, dd, e, ⟨h1, h2, fun q => h3 (List.mem_cons_of_mem _ q)⟩, h4.imp id ?_⟩
  rintro ⟨d, fs, e2, h5, hf, h6, h7⟩
  exact ⟨d, fs, e2, h5, hf, h6, fun q => h7 (List.mem_cons_of_mem _ q)⟩
mutual
theorem RD.free {p : Addr} : ∀ {v : V} (d : D), RD (F.hold p) μ H v d → RD F μ H v d
  | _, .non, h => by cases h; exact .non
  | _, .bl b, h => by cases h; exact .bl b
  | _, .int i, h => by cases h; exact .int i
  | _, .str x, h => by cases h; exact .str x
  | _, .tup ds, h => by
    cases h with
    | tup f r => exact .tup f.free (RDs.free ds r)
  | _, .lst ds, h => by
    cases h with
    | lst f r => exact .lst f.free (RDs.free ds r)
  | _, .cell n, h => by
    cases h with
    | cell e => exact .cell e
  | _, .glo x, h => by
    cases h with
    | glo e => exact .glo e
  | _, .exn c ns, h => by
    cases h with
    | exn f => exact .exn f.free
theorem RDs.free {p : Addr} : ∀ {vs : List V} (ds : List D), RDs (F.hold p) μ H vs ds → RDs F μ H vs ds
  | _, [], h => by cases h; exact .nil
  | _, d :: ds, h => by
    cases h with
    | cons a b => exact .cons (RD.free d a) (RDs.free ds b)
end
/-- .. reserved at its making, .. written while it is reserved -/
theorem FzT.holds {p a : Addr} {o : HO} {xs : List V} (hp : H p = none) (h : FzT F μ H a xs) : FzT (F.hold p) μ (upd H p o) a xs := by
  rcases h with ⟨⟨o, d, h⟩, n, nx⟩ | h
  · have hne : a ≠ p := ne_of_none h hp
    exact .inl ⟨⟨o, d, by rw [upd_ne hne]; exact h⟩, n, fun q => (List.mem_cons.mp q).elim hne nx⟩
  · exact .inr h
theorem FzL.holds {p a : Addr} {o : HO} {xs : List V} (hp : H p = none) (h : FzL F μ H a xs) : FzL (F.hold p) μ (upd H p o) a xs := by
  rcases h with ⟨h, n, nx⟩ | h
  · have hne : a ≠ p := by
      rcases h with h | ⟨o, h⟩ <;> exact ne_of_none h hp
    refine .inl ⟨?_, n, fun q => (List.mem_cons.mp q).elim hne nx⟩
    rcases h with h | ⟨o, h⟩
    · exact .inl (by rw [upd_ne hne]; exact h)
    · exact .inr ⟨o, by rw [upd_ne hne]; exact h⟩
  · exact .inr h
theorem FzT.wr {p a : Addr} {o : HO} {xs : List V} (h : FzT (F.hold p) μ H a xs) : FzT (F.hold p) μ (upd H p o) a xs := by
  rcases h with ⟨⟨o, d, h⟩, n, nx⟩ | h
  · have hne : a ≠ p := fun z => nx (z ▸ List.mem_cons_self)
    exact .inl ⟨⟨o, d, by rw [upd_ne hne]; exact h⟩, n, nx⟩
  · exact .inr h
theorem FzL.wr {p a : Addr} {o : HO} {xs : List V} (h : FzL (F.hold p) μ H a xs) : FzL (F.hold p) μ (upd H p o) a xs := by
  rcases h with ⟨h, n, nx⟩ | h
  · have hne : a ≠ p := fun z => nx (z ▸ List.mem_cons_self)
    refine .inl ⟨?_, n, nx⟩
    rcases h with h | ⟨o, h⟩
    · exact .inl (by rw [upd_ne hne]; exact h)
    · exact .inr ⟨o, by rw [upd_ne hne]; exact h⟩
  · exact .inr h
theorem FzX.upHold {p a : Addr} {c : Str} {ns : List (Str × Int)} (u : Up μ H μ' H') (hp : H p = none) (h : FzX F μ H a c ns) : FzX (F.hold p) μ' H' a c ns := by
  obtain ⟨cls, dd, e, ⟨h1, h2, h3⟩, h4⟩ := h
  refine ⟨cls, dd, e, ⟨u.keep _ _ h1 h2, u.notin h1 h2, fun q => (List.mem_cons.mp q).elim (ne_of_none h1 hp) h3⟩, h4.imp id ?_⟩
  rintro ⟨d, fs, e2, h5, hf, h6, h7⟩
  exact ⟨d, fs, e2, u.keep _ _ h5 h6, hf, u.notin h5 h6, fun q => (List.mem_cons.mp q).elim (ne_of_none h5 hp) h7⟩
theorem FzX.holds {p a : Addr} {o : HO} {c : Str} {ns : List (Str × Int)} (hp : H p = none) (h : FzX F μ H a c ns) : FzX (F.hold p) μ (upd H p o) a c ns := by
  obtain ⟨cls, dd, e, ⟨h1, h2, h3⟩, h4⟩ := h
  refine ⟨cls, dd, e, ⟨by rw [upd_ne (ne_of_none h1 hp)]; exact h1, h2, fun q => (List.mem_cons.mp q).elim (ne_of_none h1 hp) h3⟩, h4.imp id ?_⟩
  rintro ⟨d, fs, e2, h5, hf, h6, h7⟩
  exact ⟨d, fs, e2, by rw [upd_ne (ne_of_none h5 hp)]; exact h5, hf, h6, fun q => (List.mem_cons.mp q).elim (ne_of_none h5 hp) h7⟩
theorem FzX.wr {p a : Addr} {o : HO} {c : Str} {ns : List (Str × Int)} (h : FzX (F.hold p) μ H a c ns) : FzX (F.hold p) μ (upd H p o) a c ns := by
  obtain ⟨cls, dd, e, ⟨h1, h2, h3⟩, h4⟩ := h
  have ne : ∀ {b : Addr}, b ∉ (F.hold p).ξ → b ≠ p := fun n z => n (by rw [z]; exact List.mem_cons_self)
  refine ⟨cls, dd, e, ⟨by rw [upd_ne (ne h3)]; exact h1, h2, h3⟩, h4.imp id ?_⟩
  rintro ⟨d, fs, e2, h5, hf, h6, h7⟩
  exact ⟨d, fs, e2, by rw [upd_ne (ne h7)]; exact h5, hf, h6, h7⟩
theorem FzX.asCell {p a : Addr} {c : Str} {ns : List (Str × Int)} (h : FzX (F.hold p) μ H a c ns) : FzX F (μ ++ [p]) H a c ns := by
  have no : ∀ {b : Addr}, b ∉ μ → b ∉ (F.hold p).ξ → b ∉ μ ++ [p] := fun h1 h2 q => (List.mem_append.mp q).elim h1 fun q => h2 (by rw [List.mem_singleton.mp q]; exact List.mem_cons_self)
  obtain ⟨cls, dd, e, ⟨h1, h2, h3⟩, h4⟩ := h
  refine ⟨cls, dd, e, ⟨h1, no h2 h3, fun q => h3 (List.mem_cons_of_mem _ q)⟩, h4.imp id ?_⟩
  rintro ⟨d, fs, e2, h5, hf, h6, h7⟩
  exact ⟨d, fs, e2, h5, hf, no h6 h7, fun q => h7 (List.mem_cons_of_mem _ q)⟩
/-- .. as a cell -/
theorem FzT.asCell {p a : Addr} {xs : List V} (h : FzT (F.hold p) μ H a xs) : FzT F (μ ++ [p]) H a xs :=
  h.imp (fun z => ⟨z.1, fun q => (List.mem_append.mp q).elim z.2.1 fun q => z.2.2 (by rw [List.mem_singleton.mp q]; exact List.mem_cons_self), fun q => z.2.2 (List.mem_cons_of_mem _ q)⟩) id
theorem FzL.asCell {p a : Addr} {xs : List V} (h : FzL (F.hold p) μ H a xs) : FzL F (μ ++ [p]) H a xs :=
  h.imp (fun z => ⟨z.1, fun q => (List.mem_append.mp q).elim z.2.1 fun q => z.2.2 (by rw [List.mem_singleton.mp q]; exact List.mem_cons_self), fun q => z.2.2 (List.mem_cons_of_mem _ q)⟩) id
theorem getl {n : Nat} {a p : Addr} (h : μ[n]? = some a) : (μ ++ [p])[n]? = some a := by
  rw [List.getElem?_append_left (List.getElem?_eq_some_iff.mp h).1]
  exact h
/-- a map of what stands for what -/
structure Mv (F : Fx) (μ : List Addr) (H : Hp) (F' : Fx) (μ' : List Addr) (H' : Hp) : Prop where
  t : ∀ {a : Addr} {xs : List V}, FzT F μ H a xs → FzT F' μ' H' a xs
  l : ∀ {a : Addr} {xs : List V}, FzL F μ H a xs → FzL F' μ' H' a xs
  c : ∀ {n : Nat} {a : Addr}, μ[n]? = some a → μ'[n]? = some a
  gw : (F'.mg, F'.w, F'.K) = (F.mg, F.w, F.K)
  x : ∀ {a : Addr} {c : Str} {ns : List (Str × Int)}, FzX F μ H a c ns → FzX F' μ' H' a c ns
theorem Mv.g {F F' : Fx} {μ μ' : List Addr} {H H' : Hp} (m : Mv F μ H F' μ' H') : F'.mg = F.mg := congrArg Prod.fst m.gw
theorem Mv.w {F F' : Fx} {μ μ' : List Addr} {H H' : Hp} (m : Mv F μ H F' μ' H') : F'.w = F.w := congrArg (·.2.1) m.gw
theorem Mv.k {F F' : Fx} {μ μ' : List Addr} {H H' : Hp} (m : Mv F μ H F' μ' H') : F'.K = F.K := congrArg (·.2.2) m.gw
mutual
theorem RD.mv {F' : Fx} (m : Mv F μ H F' μ' H') : ∀ {v : V} (d : D), RD F μ H v d → RD F' μ' H' v d
  | _, .non, h => by cases h; exact .non
  | _, .bl b, h => by cases h; exact .bl b
  | _, .int i, h => by cases h; exact .int i
  | _, .str x, h => by cases h; exact .str x
  | _, .tup ds, h => by
    cases h with
    | tup f r => exact .tup (m.t f) (RDs.mv m ds r)
  | _, .lst ds, h => by
    cases h with
    | lst f r => exact .lst (m.l f) (RDs.mv m ds r)
  | _, .cell n, h => by
    cases h with
    | cell e => exact .cell (m.c e)
  | _, .glo x, h => by
    cases h with
    | glo e => exact .glo (by rw [m.g]; exact e)
  | _, .exn c ns, h => by
    cases h with
    | exn f => exact .exn (m.x f)
theorem RDs.mv {F' : Fx} (m : Mv F μ H F' μ' H') : ∀ {vs : List V} (ds : List D), RDs F μ H vs ds → RDs F' μ' H' vs ds
  | _, [], h => by cases h; exact .nil
  | _, d :: ds, h => by
    cases h with
    | cons a b => exact .cons (RD.mv m d a) (RDs.mv m ds b)
end
theorem Mv.holds {p : Addr} {o : HO} (hp : H p = none) : Mv F μ H (F.hold p) μ (upd H p o) := ⟨fun h => h.holds hp, fun h => h.holds hp, fun h => h, rfl, fun h => h.holds hp⟩
theorem Mv.wr {p : Addr} {o : HO} : Mv (F.hold p) μ H (F.hold p) μ (upd H p o) := ⟨fun h => h.wr, fun h => h.wr, fun h => h, rfl, fun h => h.wr⟩
theorem Mv.asCell {p : Addr} : Mv (F.hold p) μ H F (μ ++ [p]) H := ⟨fun h => h.asCell, fun h => h.asCell, fun h => getl h, rfl, fun h => h.asCell⟩
theorem Mv.free {p : Addr} : Mv (F.hold p) μ H F μ H := ⟨fun h => h.free, fun h => h.free, fun h => h, rfl, fun h => h.free⟩
theorem CellOk.mv {F' : Fx} (m : Mv F μ H F' μ' H') {a : Addr} {c : Cell} (e : H' a = H a) (h : CellOk F μ H a c) : CellOk F' μ' H' a c := by
  cases c with
  | lst ds =>
    obtain ⟨xs, h1, h2⟩ := h
    exact ⟨xs, e.trans h1, h2.mv m⟩
  | obj c fs =>
    obtain ⟨C, dx, vfs, h1, h2, h3⟩ := h
    exact ⟨C, dx, vfs, e.trans h1, by rw [m.g]; exact h2, Paired.mapP h3.1 fun _ _ z => ⟨z.1, z.2.mv m⟩, by rw [m.k]; exact h3.2⟩
  | dic kvs =>
    obtain ⟨vk, h1, h2⟩ := h
    exact ⟨vk, e.trans h1, Paired.mapP h2 fun _ _ z => ⟨z.1, z.2.mv m⟩⟩
  | exc _ _ => exact h.elim
  | set ns => exact ⟨h.1, by rw [m.w]; exact e.trans h.2⟩
theorem RG.mv {F' : Fx} (m : Mv F μ H F' μ' H') (g : RG F μ H σ ρ) : RG F' μ' H' σ ρ := ⟨g.len, fun i d e => by
  obtain ⟨v, h, r⟩ := g.at_ i d e
  exact ⟨v, h, r.mv m⟩⟩
theorem RS.holds (r : RS F μ H S) {p : Addr} {o : HO} (hp : H p = none) : RS (F.hold p) μ (upd H p o) S := ⟨r.len, r.nd, fun n a c e1 e2 => by
  have q := r.at_ n a c e1 e2
  refine q.mv (.holds hp) (upd_ne ?_)
  rintro rfl
  obtain ⟨o', e⟩ := q.hasO
  rw [hp] at e; exact (nomatch e), fun a ha => by
  rcases List.mem_cons.mp ha with z | z
  · rw [z]; exact ⟨r.out hp, o, upd_same⟩
  · obtain ⟨h1, o', e⟩ := r.xi a z
    exact ⟨h1, o', by rw [upd_ne (ne_of_none e hp)]; exact e⟩⟩
theorem RS.wr {p : Addr} {o : HO} (r : RS (F.hold p) μ H S) : RS (F.hold p) μ (upd H p o) S := ⟨r.len, r.nd, fun n a c e1 e2 => by
  have q := r.at_ n a c e1 e2
  refine q.mv .wr (upd_ne fun z => ?_)
  rw [z] at e1
  exact (r.xi p List.mem_cons_self).1 (List.mem_of_getElem? e1), fun a ha => by
  obtain ⟨h1, o', e⟩ := r.xi a ha
  by_cases z : a = p
  · rw [z] at h1 ⊢; exact ⟨h1, o, upd_same⟩
  · exact ⟨h1, o', by rw [upd_ne z]; exact e⟩⟩
theorem RS.free {p : Addr} (r : RS (F.hold p) μ H S) : RS F μ H S := ⟨r.len, r.nd, fun n a c e1 e2 => (r.at_ n a c e1 e2).mv .free rfl, fun a ha => r.xi a (List.mem_cons_of_mem _ ha)⟩
theorem RS.asCell {p : Addr} {ds : List D} {xs : List V} (r : RS (F.hold p) μ H S) (hx : p ∉ F.ξ) (h : H p = some (.lst xs)) (q : RDs (F.hold p) μ H xs ds) : RS F (μ ++ [p]) H (S ++ [.lst ds]) := by
  have np := (r.xi p List.mem_cons_self).1
  refine ⟨by rw [List.length_append, List.length_append, r.len] <;> rfl, ?_, fun n a c' e1 e2 => ?_, fun a ha => ⟨fun z => ?_, (r.xi a (List.mem_cons_of_mem _ ha)).2⟩⟩
  · refine List.nodup_append.mpr ⟨r.nd, by simp, fun a ha b hb => ?_⟩
    rw [List.mem_singleton.mp hb]
    rintro rfl
    exact np ha
  · by_cases hn : n < μ.length
    · rw [List.getElem?_append_left hn] at e1
      rw [List.getElem?_append_left (by rw [← r.len]; exact hn)] at e2
      exact (r.at_ n a c' e1 e2).mv .asCell rfl
    · have hn' : n = μ.length := by
        have q := (List.getElem?_eq_some_iff.mp e1).1
        rw [List.length_append, List.length_singleton] at q
        omega
      subst hn'
      rw [List.getElem?_append_right (Nat.le_refl _), Nat.sub_self] at e1
      rw [List.getElem?_append_right (by rw [r.len]; exact Nat.le_refl _), r.len, Nat.sub_self] at e2
      cases e1; cases e2
      exact ⟨xs, h, q.mv .asCell⟩
  · rcases List.mem_append.mp z with z | z
    · exact (r.xi a (List.mem_cons_of_mem _ ha)).1 z
    · rw [List.mem_singleton.mp z] at ha
      exact hx ha
theorem XR.up (u : Up μ H μ' H') {cls : Value} {dd : Option Addr} {c : Str} {fs : List (Str × D)} (h : XR F μ H cls dd c fs) : XR F μ' H' cls dd c fs := by
  obtain ⟨h1, h2⟩ := h
  refine ⟨h1, h2.imp id ?_⟩
  rintro ⟨d, vfs, e, h3, h4, h6, h5⟩
  exact ⟨d, vfs, e, u.keep _ _ h3 h4, u.notin h3 h4, h6, h5.up u⟩
end
/-! ### what is wanted of a run -/
def WR {α β : Type} (F : Fx) (rel : List Addr → Hp → β → α → Prop) (r : Res α) (Q : β → Hp → Prop) (Wx : Value → Option Addr → Hp → Prop) (μ : List Addr) (H : Hp) : Prop := match r with
  | .ok d S' => ∀ v μ' H', Up μ H μ' H' → RS F μ' H' S' → rel μ' H' v d → Q v H'
  | .exc c fs S' => ∀ cls dd μ' H', Up μ H μ' H' → RS F μ' H' S' → XR F μ' H' cls dd c fs → Wx cls dd H'
  | .bad => False
abbrev WE' (F : Fx) := WR F (fun μ H v d => RD F μ H v d)
abbrev WA' (F : Fx) := WR F (fun μ H v d => RDs F μ H v d)
/-- a fresh list: reserved yet -/
def WL' (F : Fx) (r : Res (List D)) (Q : VK) (Wx : Value → Option Addr → Hp → Prop) (μ : List Addr) (H : Hp) : Prop := match r with
  | .ok ds S' => ∀ p xs μ' H', Up μ H μ' H' → H p = none → RS (F.hold p) μ' H' S' → RDs (F.hold p) μ' H' xs ds → H' p = some (.lst xs) → Q (.ref p) H'
  | .exc c fs S' => ∀ cls dd μ' H', Up μ H μ' H' → RS F μ' H' S' → XR F μ' H' cls dd c fs → Wx cls dd H'
  | .bad => False
/-- a truth value -/
def WT' (F : Fx) (r : Res D) (Q : Bool → Hp → Prop) (Wx : Value → Option Addr → Hp → Prop) (μ : List Addr) (H : Hp) : Prop := match r with
  | .ok (.bl b) S' => ∀ μ' H', Up μ H μ' H' → RS F μ' H' S' → Q b H'
  | .exc c fs S' => ∀ cls dd μ' H', Up μ H μ' H' → RS F μ' H' S' → XR F μ' H' cls dd c fs → Wx cls dd H'
  | _ => False
def WS' (F : Fx) (r : Out) (E : Ends) (W : WX) (μ : List Addr) (H : Hp) : Prop := match r with
  | .nx ρ S => ∀ σ μ' H', Up μ H μ' H' → RS F μ' H' S → RG F μ' H' σ ρ → E.nx σ H'
  | .rt d S => ∀ v μ' H', Up μ H μ' H' → RS F μ' H' S → RD F μ' H' v d → E.rt v H'
  | .bk ρ S => ∀ σ μ' H', Up μ H μ' H' → RS F μ' H' S → RG F μ' H' σ ρ → E.bk σ H'
  | .ct ρ S => ∀ σ μ' H', Up μ H μ' H' → RS F μ' H' S → RG F μ' H' σ ρ → E.ct σ H'
  | .exc c fs ρ S => ∀ cls dd σ μ' H', Up μ H μ' H' → RS F μ' H' S → RG F μ' H' σ ρ → XR F μ' H' cls dd c fs → W cls dd σ H'
  | .bad => False
section
variable {F : Fx} {α β γ δ : Type} {rel : List Addr → Hp → β → α → Prop} {rel' : List Addr → Hp → δ → γ → Prop} {μ μ1 : List Addr} {H H1 : Hp} {Q : β → Hp → Prop} {Wx : Value → Option Addr → Hp → Prop}
theorem WR.shift {r : Res α} (u : Up μ H μ1 H1) (h : WR F rel r Q Wx μ H) : WR F rel r Q Wx μ1 H1 := by
  cases r with
  | ok d S => exact fun v μ' H' u' => h v μ' H' (u.trans u')
  | exc c fs S => exact fun cls dd μ' H' u' => h cls dd μ' H' (u.trans u')
  | bad => exact h
theorem WS'.shift {r : Out} {E : Ends} {W : WX} (u : Up μ H μ1 H1) (h : WS' F r E W μ H) : WS' F r E W μ1 H1 := by
  cases r with
  | nx ρ S => exact fun σ μ' H' u' => h σ μ' H' (u.trans u')
  | rt d S => exact fun v μ' H' u' => h v μ' H' (u.trans u')
  | bk ρ S => exact fun σ μ' H' u' => h σ μ' H' (u.trans u')
  | ct ρ S => exact fun σ μ' H' u' => h σ μ' H' (u.trans u')
  | exc c fs ρ S => exact fun cls dd σ μ' H' u' => h cls dd σ μ' H' (u.trans u')
  | bad => exact h
/-- first r, then f -/
theorem WR.bind {r : Res γ} {f : γ → Sto → Res α} {Q1 : δ → Hp → Prop} (h : WR F rel (r.bind f) Q Wx μ H)
    (k : ∀ x S1 v μ1 H1, Up μ H μ1 H1 → RS F μ1 H1 S1 → rel' μ1 H1 v x → WR F rel (f x S1) Q Wx μ1 H1 → Q1 v H1) : WR F rel' r Q1 Wx μ H := by
  cases r with
  | ok x S1 => exact fun v μ1 H1 u1 s1 r1 => k x S1 v μ1 H1 u1 s1 r1 (WR.shift u1 h)
  | exc c fs S => exact h
  | bad => exact h
theorem WL'.shift {r : Res (List D)} {Q : VK} (u : Up μ H μ1 H1) (h : WL' F r Q Wx μ H) : WL' F r Q Wx μ1 H1 := by
  cases r with
  | ok d S =>
    intro p xs μ' H' u' hp s' r' e'
    have np : p ∉ μ := fun z => (s'.xi p List.mem_cons_self).1 (u'.mem (u.mem z))
    exact h p xs μ' H' (u.trans u') (u.back hp np) s' r' e'
  | exc c fs S => exact fun cls dd μ' H' u' => h cls dd μ' H' (u.trans u')
  | bad => exact h
theorem WL'.bind {r : Res γ} {f : γ → Sto → Res (List D)} {Q : VK} {Q1 : δ → Hp → Prop} (h : WL' F (r.bind f) Q Wx μ H)
    (k : ∀ x S1 v μ1 H1, Up μ H μ1 H1 → RS F μ1 H1 S1 → rel' μ1 H1 v x → WL' F (f x S1) Q Wx μ1 H1 → Q1 v H1) : WR F rel' r Q1 Wx μ H := by
  cases r with
  | ok x S1 => exact fun v μ1 H1 u1 s1 r1 => k x S1 v μ1 H1 u1 s1 r1 (WL'.shift u1 h)
  | exc c fs S => exact h
  | bad => exact h
theorem WT'.shift {r : Res D} {Q : Bool → Hp → Prop} (u : Up μ H μ1 H1) (h : WT' F r Q Wx μ H) : WT' F r Q Wx μ1 H1 := by
  cases r with
  | ok d S =>
    cases d with
    | bl b => exact fun μ' H' u' => h μ' H' (u.trans u')
    | _ => exact h
  | exc c fs S => exact fun cls dd μ' H' u' => h cls dd μ' H' (u.trans u')
  | bad => exact h
/-- first r, then f, whose answer is a truth value -/
theorem WT'.bind {r : Res γ} {f : γ → Sto → Res D} {Q : Bool → Hp → Prop} {Q1 : δ → Hp → Prop} (h : WT' F (r.bind f) Q Wx μ H)
    (k : ∀ x S1 v μ1 H1, Up μ H μ1 H1 → RS F μ1 H1 S1 → rel' μ1 H1 v x → WT' F (f x S1) Q Wx μ1 H1 → Q1 v H1) : WR F rel' r Q1 Wx μ H := by
  cases r with
  | ok x S1 => exact fun v μ1 H1 u1 s1 r1 => k x S1 v μ1 H1 u1 s1 r1 (WT'.shift u1 h)
  | exc c fs S => exact h
  | bad => exact h
/-- first a test, then f -/
theorem WR.bindT {r : Res D} {f : D → Sto → Res α} {Q1 : Bool → Hp → Prop} (h : WR F rel (r.bind f) Q Wx μ H) (hb : ∀ d S, (∀ b, d ≠ .bl b) → f d S = .bad)
    (k : ∀ b S1 μ1 H1, Up μ H μ1 H1 → RS F μ1 H1 S1 → WR F rel (f (.bl b) S1) Q Wx μ1 H1 → Q1 b H1) : WT' F r Q1 Wx μ H := by
  cases r with
  | ok d S =>
    have h : WR F rel (f d S) Q Wx μ H := h
    cases d with
    | bl b => exact fun μ1 H1 u1 s1 => k b S μ1 H1 u1 s1 (WR.shift u1 h)
    | _ =>
      rw [hb _ _ (by intro b e; cases e)] at h
      exact h
  | exc c fs S => exact h
  | bad => exact h
theorem WT'.bindT {r : Res D} {f : D → Sto → Res D} {Q Q1 : Bool → Hp → Prop} (h : WT' F (r.bind f) Q Wx μ H) (hb : ∀ d S, (∀ b, d ≠ .bl b) → f d S = .bad)
    (k : ∀ b S1 μ1 H1, Up μ H μ1 H1 → RS F μ1 H1 S1 → WT' F (f (.bl b) S1) Q Wx μ1 H1 → Q1 b H1) : WT' F r Q1 Wx μ H := by
  cases r with
  | ok d S =>
    have h : WT' F (f d S) Q Wx μ H := h
    cases d with
    | bl b => exact fun μ1 H1 u1 s1 => k b S μ1 H1 u1 s1 (WT'.shift u1 h)
    | _ =>
      rw [hb _ _ (by intro b e; cases e)] at h
      exact h
  | exc c fs S => exact h
  | bad => exact h
/-- as a value -/
theorem WT'.val {r : Res D} {Q : Bool → Hp → Prop} (h : WT' F r Q Wx μ H) : WE' F r (fun x H' => ∃ k, x = .bl k ∧ Q k H') Wx μ H := by
  cases r with
  | ok d S =>
    cases d with
    | bl b =>
      intro v μ' H' u' s' r'
      cases r'
      exact ⟨b, rfl, h μ' H' u' s'⟩
    | _ => exact h.elim
  | exc c fs S => exact h
  | bad => exact h
end
end Dm
-- text DmFz
/-! Tuples made at run time, kept with their object: it has no dict. -/
namespace Dm
open PySem L2 PySem.Spec PyProof.Rows
open PySem.W (Frag)
/-- a new tuple's wish -/
abbrev NwT (H : Hp) (Q : VK) (xs : List V) : Prop := ∀ (p : Addr) (o : Obj), H p = none → o.dict = none → Q (.ref p) (upd H p (.frz o (.tup xs)))
theorem RdT.new {H : Hp} {p : Addr} {o : Obj} {xs : List V} (d : o.dict = none) : RdT (upd H p (.frz o (.tup xs))) p xs := ⟨o, d, upd_same⟩
section
variable {X : Cx} {pins : List (Addr × Obj)} {σ : L2.St} {H : Hp} {s : Shared} {Q : VK} {h' : Heap} {xs : List V} {its : List Value}
theorem tup_laid {t' : Nat} (I : Inv X pins σ H s) (k : ∀ b u, s.heap.get? b = some u → h'.get? b = some u) {p : Addr} (hp : s.heap.objs.size ≤ p) {n : Nat} (e : h'.get? p = some { cls := .type "tuple", data := .seq its.toArray n }) (hz : xs.length ≤ sizeLine) (r : Vals xs its) (q : NwT H Q xs) : EP X pins σ Q (.ref p) { s with heap := h', toks := t' } :=
  ⟨.ref p, _, I.laid (t' := t') (o := .frz { cls := .type "tuple", data := .seq its.toArray n } (.tup xs)) k hp ⟨e, hz, its, r, ⟨_, e, rfl, n, rfl⟩⟩, rfl, q p _ (I.hok.fresh hp) rfl⟩
theorem tup_here (I : Inv X pins σ H s) (hz : xs.length ≤ sizeLine) (r : Vals xs its) (q : NwT H Q xs) : EP X pins σ Q (.ref s.heap.objs.size) { s with heap := s.heap.push { cls := .type "tuple", data := .seq its.toArray } } :=
  tup_laid (t' := s.toks) I (fun b u e => Heap.get?_push_of_some _ e) (Nat.le_refl _) (Heap.get?_push_size _ rfl) hz r q
end
section
variable {X : Cx} {es : List Expr} {t : TA} {pos : Pos}
def tTupF (t : TA) : TE := fun σ H Q => t σ H fun xs H1 => xs.length ≤ sizeLine ∧ NwT H1 Q xs
theorem pe_tupF {x1} (h : PA X es t) : PE X (.Tuple es x1 pos) (tTupF t) :=
  ⟨fun pins s σ H Q I hq => wpAny_Tuple_spliced (thn (h.run pos pins s σ H _ I hq) fun us s1 ⟨xs, H1, I1, r, z, q⟩ => ⟨by rw [← r.length]; exact z, tup_here I1 z r q⟩)⟩
def rCatF (K : Frag) : R2 := fun x y H Q => ∃ a b xs ys, x = .ref a ∧ y = .ref b ∧ SqT K H a xs ∧ SqT K H b ys ∧ xs.length + ys.length ≤ sizeLine ∧ (xs = [] → Q (.ref b) H) ∧ (xs ≠ [] → ys = [] → Q (.ref a) H) ∧ (xs ≠ [] → ys ≠ [] → NwT H Q (xs ++ ys))
theorem op_catF : OpR X (binaryOp .Add) (rCatF X.K) := by
  rintro pins s σ H x y v u Q I rx ry ⟨a, b, xs, ys, rfl, rfl, ha, hb, hz, q0, q1, q2⟩
  by_cases hc : xs = [] ∨ ys = []
  · refine op_catA pins s σ H _ _ v u Q I rx ry ⟨a, b, xs, ys, rfl, rfl, ha, hb, hz, q0, q1, fun h1 h2 => ?_⟩
    exact (hc.elim h1 h2).elim
  · have h1 : xs ≠ [] := fun z => hc (.inl z)
    have h2 : ys ≠ [] := fun z => hc (.inr z)
    cases rx; cases ry
    obtain ⟨i1, r1, p1, _⟩ := I.tuple ha
    obtain ⟨i2, r2, p2, _⟩ := I.tuple hb
    refine HT.cat_tup p1 p2 (fun z => h1 (r1.nil_iff.mp z)) (fun z => (h2 (r2.nil_iff.mp z)).elim) (fun _ => tup_here I ?_ (r1.append r2) (q2 h1 h2)) ?_
    · rw [List.length_append]
      exact hz
    · rw [← r1.length, ← r2.length]
      exact hz
def rSlF (K : Frag) : V → Option Int → Option Int → Hp → VK → Prop := fun x lo hi H Q => ∃ a xs, x = .ref a ∧ SqT K H a xs ∧
  (HT.sIx xs.length 0 lo = 0 ∧ HT.sIx xs.length xs.length hi = xs.length → Q (.ref a) H) ∧ (¬ (HT.sIx xs.length 0 lo = 0 ∧ HT.sIx xs.length xs.length hi = xs.length) → NwT H Q (cutV xs lo hi))
theorem sl_tupF : SlR X (rSlF X.K) := by
  rintro pins s σ H x v vl vu lo hi sl Q I rx hs pl pu ⟨a, xs, rfl, hx, q1, q2⟩
  by_cases hw : HT.sIx xs.length 0 lo = 0 ∧ HT.sIx xs.length xs.length hi = xs.length
  · exact sl_tupA pins s σ H _ v vl vu lo hi sl Q I rx hs pl pu ⟨a, xs, rfl, hx, q1, fun n => (n hw).elim⟩
  · cases rx
    obtain ⟨its, r, ht, hz⟩ := I.tuple hx
    have e : its.toArray.size = xs.length := by rw [List.size_toArray, r.length]
    refine ⟨"tuple", _, PyProof.Rows.slot_tuple_getitem.lookup, ht.typeIs, HT.getItem_tuple_cut ht hs pl pu (by rw [e]; exact hw) ?_ (by rw [e]; exact hz)⟩
    rw [e]
    exact tup_here I (Nat.le_trans (cutV_length xs lo hi) hz) ((r.drop _).take _) (q2 hw)
theorem call_tupF : CallR X (.type "tuple") (fun xs H Q => ∃ p ys, xs = [.ref p] ∧ ((SqL X.K H p ys ∧ NwT H Q ys) ∨ (SqT X.K H p ys ∧ Q (.ref p) H))) := by
  rintro pins s σ H xs us Q I r ⟨p, ys, rfl, h⟩
  rcases h with ⟨hq, q⟩ | ⟨hq, q⟩
  · obtain ⟨u, rfl, rx⟩ := vals1 r
    cases rx
    obtain ⟨its, r', pl, hz⟩ := I.list hq
    have hn := r'.length
    refine call_tuple_list pl.isList (fun h' kp => ?_) (by rw [List.size_toArray]; omega)
    have I1 := I.kept (t' := s.toks) kp
    exact tup_here (s := { s with heap := h' }) I1 hz r' q
  · exact call_tuple_of pins s σ H _ us Q I r ⟨p, ys, rfl, .inr ⟨hq, q⟩⟩
def rRepF (K : Frag) : R2 := fun x y H Q => ∃ l k xs, x = .ref l ∧ y = .int k ∧ SqT K H l xs ∧ xs ≠ [] ∧ 2 ≤ k ∧ k ≤ 1000 ∧ xs.length ≤ 1000 ∧ NwT H Q (List.replicate k.toNat xs).flatten
end
end Dm
-- text DmRules
namespace Dm
open PySem L2
open PySem.W (Frag)
structure DE (X : Cx) (W : WX) (e : Expr) (m : ME) : Prop where
  ex : ∃ te, PE X e te ∧ ∀ ξ μ σ H ρ S Q, RG (fx X ξ) μ H σ ρ → RS (fx X ξ) μ H S → WE' (fx X ξ) (m ρ S) Q (fun cls dd H' => W cls dd σ H') μ H → te σ H Q
structure DT (X : Cx) (W : WX) (e : Expr) (m : ME) : Prop where
  ex : ∃ te, PT X e te ∧ ∀ ξ μ σ H ρ S Q, RG (fx X ξ) μ H σ ρ → RS (fx X ξ) μ H S → WT' (fx X ξ) (m ρ S) Q (fun cls dd H' => W cls dd σ H') μ H → te σ H Q
structure DW (X : Cx) (W : WX) (e : Expr) (m : ME) : Prop where
  ex : ∃ te, PW X e te ∧ ∀ ξ μ σ H ρ S Q, RG (fx X ξ) μ H σ ρ → RS (fx X ξ) μ H S → WT' (fx X ξ) (m ρ S) Q (fun cls dd H' => W cls dd σ H') μ H → te σ H Q
structure DA (X : Cx) (W : WX) (es : List Expr) (m : MA) : Prop where
  ex : ∃ te, PA X es te ∧ ∀ ξ μ σ H ρ S Q, RG (fx X ξ) μ H σ ρ → RS (fx X ξ) μ H S → WA' (fx X ξ) (m ρ S) Q (fun cls dd H' => W cls dd σ H') μ H → te σ H Q
/-- a fresh list, its items -/
structure DL (X : Cx) (W : WX) (e : Expr) (m : MA) : Prop where
  ex : ∃ te, PE X e te ∧ ∀ ξ μ σ H ρ S Q, RG (fx X ξ) μ H σ ρ → RS (fx X ξ) μ H S →
    WL' (fx X ξ) (m ρ S) Q (fun cls dd H' => W cls dd σ H') μ H → te σ H Q
structure DS (X : Cx) (W : WX) (st : Stmt) (m : MS) : Prop where
  ex : ∃ ts, PS X st ts ∧ ∀ ξ μ σ H ρ S D, RG (fx X ξ) μ H σ ρ → RS (fx X ξ) μ H S → WS' (fx X ξ) (m ρ S) D W μ H → ts D σ H
structure DSs (X : Cx) (W : WX) (st : List Stmt) (m : MS) : Prop where
  ex : ∃ ts, PSs X st ts ∧ ∀ ξ μ σ H ρ S D, RG (fx X ξ) μ H σ ρ → RS (fx X ξ) μ H S → WS' (fx X ξ) (m ρ S) D W μ H → ts D σ H
/-! ### the words -/
def mVar (i : Nat) : ME := fun ρ S => match ρ[i]? with
  | some (some d) => .ok d S
  | _ => .bad
def mK (d : D) : ME := fun _ S => .ok d S
def mOp (g : Sto → D → D → Option D) (a b : ME) : ME := fun ρ S => (a ρ S).bind fun x S1 => (b ρ S1).bind fun y S2 => match g S2 x y with
  | some z => .ok z S2
  | none => .bad
def mUn (g : Sto → D → Option D) (a : ME) : ME := fun ρ S => (a ρ S).bind fun x S1 => match g S1 x with
  | some z => .ok z S1
  | none => .bad
def mAnd (a b : ME) : ME := fun ρ S => (a ρ S).bind fun x S1 => match x with
  | .bl true => b ρ S1
  | .bl false => .ok (.bl false) S1
  | _ => .bad
def mOr (a b : ME) : ME := fun ρ S => (a ρ S).bind fun x S1 => match x with
  | .bl true => .ok (.bl true) S1
  | .bl false => b ρ S1
  | _ => .bad
def mNot (a : ME) : ME := fun ρ S => (a ρ S).bind fun x S1 => match x with
  | .bl c => .ok (.bl (!c)) S1
  | _ => .bad
def mIf (c a b : ME) : ME := fun ρ S => (c ρ S).bind fun x S1 => match x with
  | .bl true => a ρ S1
  | .bl false => b ρ S1
  | _ => .bad
def mNil : MA := fun _ S => .ok [] S
def mCons (a : ME) (r : MA) : MA := fun ρ S => (a ρ S).bind fun x S1 => (r ρ S1).bind fun xs S2 => .ok (x :: xs) S2
def mTup (a : MA) : ME := fun ρ S => (a ρ S).bind fun xs S1 => if xs.length ≤ 16777216 then .ok (.tup xs) S1 else .bad
def mLst (a : MA) : MA := fun ρ S => (a ρ S).bind fun xs S1 => if xs.length ≤ 16777216 then .ok xs S1 else .bad
def mCall (f : List D → Sto → Res D) (a : MA) : ME := fun ρ S => (a ρ S).bind fun xs S1 => f xs S1
/-- a fresh list as plain data; as a cell -/
def mFz (a : MA) : ME := fun ρ S => (a ρ S).bind fun xs S1 => .ok (.lst xs) S1
def mNew (a : MA) : ME := fun ρ S => (a ρ S).bind fun xs S1 => .ok (.cell S1.length) (S1 ++ [.lst xs])
section
variable {X : Cx} {W : WX} {e a b c : Expr} {es : List Expr} {ma mb mc m : ME} {mr : MA} {pos : Pos}
/-- weakening by what a rule asks -/
theorem d_var (i : Nat) {x : Str} (hN : X.N[i]? = some x := by rfl) (hv : Vis X.env.scope x := by first | exact Or.inl rfl | exact Or.inr (Or.inl rfl) | exact Or.inr (Or.inr rfl)) (hd : (x == ("__debug__" : Str)) = false := by decide)
    (hcd : (x == ("__classdict__" : Str)) = false := by decide) : DE X W (.Name x pos) (mVar i) :=
  ⟨_, pe_var hN hv hd hcd, fun ξ μ σ H ρ S Q g s h => by
    unfold mVar at h
    cases e : ρ[i]? with
    | none => rw [e] at h; exact h.elim
    | some o =>
      cases o with
      | none => rw [e] at h; exact h.elim
      | some d =>
        rw [e] at h
        obtain ⟨v, hv, r⟩ := g.at_ i d e
        exact ⟨v, hv, h v μ H .refl s r⟩⟩
theorem d_k {te : TE} {v : V} {d : D} (hp : PE X e te) (ht : te = tC v) (hr : ∀ ξ μ H, RD (fx X ξ) μ H v d) : DE X W e (mK d) :=
  ⟨te, hp, fun ξ μ σ H ρ S Q g s h => by subst ht; exact h v μ H .refl s (hr ξ μ H)⟩
theorem d_int {i : Int} {j} : DE X W (.Constant (.int i) j pos) (mK (.int i)) := d_k pe_int rfl fun _ _ _ => .int i
theorem d_bl {i : Bool} {j} : DE X W (.Constant (.bool i) j pos) (mK (.bl i)) := d_k pe_bl rfl fun _ _ _ => .bl i
theorem d_non {j} : DE X W (.Constant .none j pos) (mK .non) := d_k pe_non rfl fun _ _ _ => .non
theorem d_str {i : Str} {j} : DE X W (.Constant (.str i) j pos) (mK (.str i)) := d_k pe_str rfl fun _ _ _ => .str i
/-- a constant of the module -/
def GlD (X : Cx) (x : Str) (d : D) : Prop := ∃ u v, X.mg x = some u ∧ RelV v u ∧ ∀ ξ μ H, RD (fx X ξ) μ H v d
theorem d_glob {x : Str} {d : D} (hg : Gl X x) (hm : GlD X x d) (hd : (x == ("__debug__" : Str)) = false := by decide) : DE X W (.Name x pos) (mK d) := by
  obtain ⟨u, v, h1, h2, h3⟩ := hm
  exact d_k (pe_glob hg h1 h2 hd) rfl h3
/-! operators -/
def OpD (X : Cx) (r : R2) (g : Sto → D → D → Option D) : Prop :=
  ∀ ξ μ H S x y v u z Q, RS (fx X ξ) μ H S → RD (fx X ξ) μ H v x → RD (fx X ξ) μ H u y → g S x y = some z → (∀ w μ' H', Up μ H μ' H' → RS (fx X ξ) μ' H' S → RD (fx X ξ) μ' H' w z → Q w H') → r v u H Q
theorem op2 {r : R2} {g : Sto → D → D → Option D} {ta tb : TE} {μ ξ : List Addr} {σ : St} {H : Hp} {ρ : Rho} {S : Sto} {Q : VK} (hd : OpD X r g)
    (ka : ∀ ξ μ σ H ρ S Q, RG (fx X ξ) μ H σ ρ → RS (fx X ξ) μ H S → WE' (fx X ξ) (ma ρ S) Q (fun cls dd H' => W cls dd σ H') μ H → ta σ H Q)
    (kb : ∀ ξ μ σ H ρ S Q, RG (fx X ξ) μ H σ ρ → RS (fx X ξ) μ H S → WE' (fx X ξ) (mb ρ S) Q (fun cls dd H' => W cls dd σ H') μ H → tb σ H Q)
    (g0 : RG (fx X ξ) μ H σ ρ) (s : RS (fx X ξ) μ H S) (h : WE' (fx X ξ) (mOp g ma mb ρ S) Q (fun cls dd H' => W cls dd σ H') μ H) : tOp r ta tb σ H Q := by
  refine ka ξ μ σ H ρ S _ g0 s (WR.bind h fun x S1 v μ1 H1 u1 s1 r1 h1 => ?_)
  refine kb ξ μ1 σ H1 ρ S1 _ (g0.up u1) s1 (WR.bind h1 fun y S2 v2 μ2 H2 u2 s2 r2 h2 => ?_)
  cases e : g S2 x y with
  | none => rw [e] at h2; exact h2.elim
  | some z =>
    rw [e] at h2
    exact hd ξ μ2 H2 S2 x y v v2 z Q s2 (r1.up u2) r2 e fun w μ' H' u' s' r' => h2 w μ' H' u' s' r'
theorem d_op {op : Operator} {r : R2} {g : Sto → D → D → Option D} (ho : OpR X (binaryOp op) r) (hd : OpD X r g) (ha : DE X W a ma) (hb : DE X W b mb) : DE X W (.BinOp a op b pos) (mOp g ma mb) := by
  obtain ⟨ta, pa, ka⟩ := ha
  obtain ⟨tb, pb, kb⟩ := hb
  exact ⟨_, pe_op ho pa pb, fun ξ μ σ H ρ S Q g0 s h => op2 (ξ := ξ) hd ka kb g0 s h⟩
theorem d_cmp {op : CmpOp} {r : R2} {g : Sto → D → D → Option D} (ho : OpR X (compareOp op) r) (hd : OpD X r g) (ha : DE X W a ma) (hb : DE X W b mb) (hm : behindInMarks op b = false := by first | exact nomark _ | rfl) : DE X W (.Compare a [op] [b] pos) (mOp g ma mb) := by
  obtain ⟨ta, pa, ka⟩ := ha
  obtain ⟨tb, pb, kb⟩ := hb
  exact ⟨_, pe_cmpR ho pa pb hm, fun ξ μ σ H ρ S Q g0 s h => op2 (ξ := ξ) hd ka kb g0 s h⟩
theorem dt_val (h : DE X W e m) (he : ∀ whole, isTrue e X.env whole = (do let v ← whole; standAt e.pos; holding [v] (truthy v)) := by intro _; rfl) : DT X W e m := by
  obtain ⟨te, p, k⟩ := h
  exact ⟨_, pt_val p he, fun ξ μ σ H ρ S Q g s h => k ξ μ σ H ρ S _ g s (WT'.val h)⟩
theorem dt_cmp {op : CmpOp} {r : R2} {g : Sto → D → D → Option D} (ho : OpR X (compareOp op) r) (hd : OpD X r g) (ha : DE X W a ma) (hb : DE X W b mb) (hm : behindInMarks op b = false := by first | exact nomark _ | rfl) : DT X W (.Compare a [op] [b] pos) (mOp g ma mb) := by
  obtain ⟨ta, pa, ka⟩ := ha
  obtain ⟨tb, pb, kb⟩ := hb
  exact ⟨_, pt_cmpR ho pa pb hm, fun ξ μ σ H ρ S Q g0 s h => op2 (ξ := ξ) hd ka kb g0 s (WT'.val h)⟩
theorem DT.w (h : DW X W e m) : DT X W e m := let ⟨t, p, k⟩ := h; ⟨t, p.pt, k⟩
theorem notb2 {α : Type} {k l : Sto → Res α} : ∀ (d : D) (S : Sto), (∀ b, d ≠ .bl b) → (match d with | .bl true => k S | .bl false => l S | _ => Res.bad) = Res.bad := fun d S h => by
  cases d with
  | bl b => exact absurd rfl (h b)
  | _ => rfl
theorem dw_and1 (ha : DT X W a ma) : DW X W (.BoolOp .And [a] pos) ma := let ⟨_, p, k⟩ := ha; ⟨_, pw_and1 p, k⟩
theorem dw_or1 (ha : DT X W a ma) : DW X W (.BoolOp .Or [a] pos) ma := let ⟨_, p, k⟩ := ha; ⟨_, pw_or1 p, k⟩
theorem dw_and {rest : List Expr} (ha : DT X W a ma) (hb : DW X W (.BoolOp .And (b :: rest) pos) mb) : DW X W (.BoolOp .And (a :: b :: rest) pos) (mAnd ma mb) := by
  obtain ⟨ta, pa, ka⟩ := ha
  obtain ⟨tb, pb, kb⟩ := hb
  refine ⟨_, pw_and pa pb, fun ξ μ σ H ρ S Q g s h => ?_⟩
  refine ka ξ μ σ H ρ S _ g s (WT'.bindT h (fun d S h => notb2 d S h) fun c S1 μ1 H1 u1 s1 h1 => ?_)
  cases c with
  | true => exact kb ξ μ1 σ H1 ρ S1 Q (g.up u1) s1 h1
  | false => exact h1 μ1 H1 .refl s1
theorem dw_or {rest : List Expr} (ha : DT X W a ma) (hb : DW X W (.BoolOp .Or (b :: rest) pos) mb) : DW X W (.BoolOp .Or (a :: b :: rest) pos) (mOr ma mb) := by
  obtain ⟨ta, pa, ka⟩ := ha
  obtain ⟨tb, pb, kb⟩ := hb
  refine ⟨_, pw_or pa pb, fun ξ μ σ H ρ S Q g s h => ?_⟩
  refine ka ξ μ σ H ρ S _ g s (WT'.bindT h (fun d S h => notb2 d S h) fun c S1 μ1 H1 u1 s1 h1 => ?_)
  cases c with
  | false => exact kb ξ μ1 σ H1 ρ S1 Q (g.up u1) s1 h1
  | true => exact h1 μ1 H1 .refl s1
theorem dt_not (ha : DT X W a ma) : DT X W (.UnaryOp .Not a pos) (mNot ma) := by
  obtain ⟨ta, pa, ka⟩ := ha
  refine ⟨_, pt_not pa, fun ξ μ σ H ρ S Q g s h => ?_⟩
  refine ka ξ μ σ H ρ S _ g s (WT'.bindT h (fun d S h => by cases d <;> first | rfl | exact absurd rfl (h _)) fun c S1 μ1 H1 u1 s1 h1 => ?_)
  exact h1 μ1 H1 .refl s1
/-- and, or, not as values -/
theorem d_one {op} (h : DE X W a m) : DE X W (.BoolOp op [a] pos) m := let ⟨_, p, k⟩ := h; ⟨_, pe_one p, k⟩
theorem WE'.boolv {r : Res D} {f : D → Sto → Res D} {Q Q1 : VK} {Wx : Value → Option Addr → Hp → Prop} {μ ξ : List Addr} {H : Hp} (h : WE' (fx X ξ) (r.bind f) Q Wx μ H) (hb : ∀ d S, (∀ b, d ≠ .bl b) → f d S = .bad)
    (k : ∀ b S1 μ1 H1, Up μ H μ1 H1 → RS (fx X ξ) μ1 H1 S1 → WE' (fx X ξ) (f (.bl b) S1) Q Wx μ1 H1 → Q1 (.bl b) H1) : WE' (fx X ξ) r Q1 Wx μ H := by
  refine WR.bind h fun x S1 v μ1 H1 u1 s1 r1 h1 => ?_
  cases r1 with
  | bl b => exact k b S1 μ1 H1 u1 s1 h1
  | _ =>
    rw [hb _ _ (by intro b e; cases e)] at h1
    exact h1.elim
theorem d_and {rest : List Expr} (ha : DE X W a ma) (hb : DE X W (.BoolOp .And (b :: rest) pos) mb) : DE X W (.BoolOp .And (a :: b :: rest) pos) (mAnd ma mb) := by
  obtain ⟨ta, pa, ka⟩ := ha
  obtain ⟨tb, pb, kb⟩ := hb
  refine ⟨_, pe_and pa pb, fun ξ μ σ H ρ S Q g s h => ?_⟩
  refine ka ξ μ σ H ρ S _ g s (WE'.boolv h (fun d S h => notb2 d S h) fun c S1 μ1 H1 u1 s1 h1 => ⟨c, rfl, ?_⟩)
  cases c with
  | true => exact kb ξ μ1 σ H1 ρ S1 Q (g.up u1) s1 h1
  | false => exact h1 _ μ1 H1 .refl s1 (.bl _)
theorem d_or {rest : List Expr} (ha : DE X W a ma) (hb : DE X W (.BoolOp .Or (b :: rest) pos) mb) : DE X W (.BoolOp .Or (a :: b :: rest) pos) (mOr ma mb) := by
  obtain ⟨ta, pa, ka⟩ := ha
  obtain ⟨tb, pb, kb⟩ := hb
  refine ⟨_, pe_or pa pb, fun ξ μ σ H ρ S Q g s h => ?_⟩
  refine ka ξ μ σ H ρ S _ g s (WE'.boolv h (fun d S h => notb2 d S h) fun c S1 μ1 H1 u1 s1 h1 => ⟨c, rfl, ?_⟩)
  cases c with
  | false => exact kb ξ μ1 σ H1 ρ S1 Q (g.up u1) s1 h1
  | true => exact h1 _ μ1 H1 .refl s1 (.bl _)
theorem d_not (ha : DE X W a ma) : DE X W (.UnaryOp .Not a pos) (mNot ma) := by
  obtain ⟨ta, pa, ka⟩ := ha
  refine ⟨_, pe_not pa, fun ξ μ σ H ρ S Q g s h => ?_⟩
  exact ka ξ μ σ H ρ S _ g s (WE'.boolv h (fun d S h => by cases d <;> first | rfl | exact absurd rfl (h _)) fun c S1 μ1 H1 u1 s1 h1 => ⟨c, rfl, h1 _ μ1 H1 .refl s1 (.bl _)⟩)
theorem d_ifExp (hc : DT X W c mc) (ha : DE X W a ma) (hb : DE X W b mb) : DE X W (.IfExp c a b pos) (mIf mc ma mb) := by
  obtain ⟨tc, pc, kc⟩ := hc
  obtain ⟨ta, pa, ka⟩ := ha
  obtain ⟨tb, pb, kb⟩ := hb
  refine ⟨_, pe_ifExp pc pa pb, fun ξ μ σ H ρ S Q g s h => ?_⟩
  refine kc ξ μ σ H ρ S _ g s (WR.bindT h (fun d S h => notb2 d S h) fun c S1 μ1 H1 u1 s1 h1 => ?_)
  cases c with
  | true => exact ka ξ μ1 σ H1 ρ S1 Q (g.up u1) s1 h1
  | false => exact kb ξ μ1 σ H1 ρ S1 Q (g.up u1) s1 h1
/-- one-place operators -/
def UnD (X : Cx) (r : V → Hp → VK → Prop) (g : Sto → D → Option D) : Prop :=
  ∀ ξ μ H S x v z Q, RS (fx X ξ) μ H S → RD (fx X ξ) μ H v x → g S x = some z → (∀ w μ' H', Up μ H μ' H' → RS (fx X ξ) μ' H' S → RD (fx X ξ) μ' H' w z → Q w H') → r v H Q
theorem d_un {op : UnaryOp} {r : V → Hp → VK → Prop} {g : Sto → D → Option D} (ho : UnR X (unaryOp op) r) (hd : UnD X r g) (ha : DE X W a ma) : DE X W (.UnaryOp op a pos) (mUn g ma) := by
  obtain ⟨ta, pa, ka⟩ := ha
  refine ⟨_, pe_un ho pa, fun ξ μ σ H ρ S Q g0 s h => ka ξ μ σ H ρ S _ g0 s (WR.bind h fun x S1 v μ1 H1 u1 s1 r1 h1 => ?_)⟩
  cases e : g S1 x with
  | none => rw [e] at h1; exact h1.elim
  | some z =>
    rw [e] at h1
    exact hd ξ μ1 H1 S1 x v z Q s1 r1 e h1
/-- arguments -/
theorem da_nil : DA X W [] mNil := ⟨_, pa_nil, fun ξ μ σ H ρ S Q g s h => h [] μ H .refl s .nil⟩
theorem da_cons (ha : DE X W e ma) (hr : DA X W es mr) (hs : starEach (e :: es) X.env = (false, eval e X.env) :: starEach es X.env := by rfl) : DA X W (e :: es) (mCons ma mr) := by
  obtain ⟨ta, pa, ka⟩ := ha
  obtain ⟨tr, pr, kr⟩ := hr
  refine ⟨_, pa_cons pa pr hs, fun ξ μ σ H ρ S Q g s h => ka ξ μ σ H ρ S _ g s (WR.bind h fun x S1 v μ1 H1 u1 s1 r1 h1 => ?_)⟩
  refine kr ξ μ1 σ H1 ρ S1 _ (g.up u1) s1 (WR.bind h1 fun xs S2 vs μ2 H2 u2 s2 r2 h2 => ?_)
  exact h2 _ μ2 H2 .refl s2 (.cons (r1.up u2) r2)
theorem d_tup {x1} (h : DA X W es mr) : DE X W (.Tuple es x1 pos) (mTup mr) := by
  obtain ⟨ta, pa, ka⟩ := h
  refine ⟨_, pe_tupF pa, fun ξ μ σ H ρ S Q g s h => ka ξ μ σ H ρ S _ g s (WR.bind h fun xs S1 vs μ1 H1 u1 s1 r1 h1 => ?_)⟩
  by_cases hz : xs.length ≤ 16777216
  · rw [if_pos hz] at h1
    refine ⟨by rw [r1.length, sizeLine_eq]; exact hz, fun p o hp ho => ?_⟩
    exact h1 _ μ1 _ (.fresh hp) (s1.fresh hp) (.tup (.inl ⟨.new ho, s1.out hp, s1.outX hp⟩) (r1.up (.fresh hp)))
  · rw [if_neg hz] at h1; exact h1.elim
theorem dl_lst (h : DA X W es mr) : DL X W (.List es pos) (mLst mr) := by
  obtain ⟨ta, pa, ka⟩ := h
  refine ⟨_, pe_lst pa, fun ξ μ σ H ρ S Q g s h => ka ξ μ σ H ρ S _ g s (WL'.bind h fun xs S1 vs μ1 H1 u1 s1 r1 h1 => ?_)⟩
  by_cases hz : xs.length ≤ 16777216
  · rw [if_pos hz] at h1
    exact ⟨by rw [r1.length, sizeLine_eq]; exact hz, fun p hp => h1 p vs μ1 _ (.fresh hp) hp (s1.holds hp) (r1.mv (.holds hp)) upd_same⟩
  · rw [if_neg hz] at h1; exact h1.elim
/-- a fresh list as data, as a cell -/
theorem d_fz (h : DL X W e mr) : DE X W e (mFz mr) := by
  obtain ⟨te, p, k⟩ := h
  refine ⟨_, p, fun ξ μ σ H ρ S Q g s h => k ξ μ σ H ρ S Q g s ?_⟩
  unfold mFz at h
  cases e : mr ρ S with
  | bad => rw [e] at h; exact h.elim
  | exc c fs S' => rw [e] at h; exact h
  | ok ds S' =>
    rw [e] at h
    intro q xs μ' H' u' hq s' r' e'
    exact h _ μ' H' u' s'.free (.lst (.inl ⟨.inl e', (s'.xi q List.mem_cons_self).1, s.outX hq⟩) (r'.mv .free))
theorem d_new (h : DL X W e mr) : DE X W e (mNew mr) := by
  obtain ⟨te, p, k⟩ := h
  refine ⟨_, p, fun ξ μ σ H ρ S Q g s h => k ξ μ σ H ρ S Q g s ?_⟩
  unfold mNew at h
  cases e : mr ρ S with
  | bad => rw [e] at h; exact h.elim
  | exc c fs S' => rw [e] at h; exact h
  | ok ds S' =>
    rw [e] at h
    intro q xs μ' H' u' hq s' r' e'
    have l : S'.length = μ'.length := s'.len.symm
    refine h (.ref q) (μ' ++ [q]) H' ⟨?_, fun a ha n => ?_, u'.keep⟩ (s'.asCell (s.outX hq) e' r') (.cell (by rw [l]; exact alloc_at))
    · obtain ⟨ν, z⟩ := u'.pre
      exact ⟨ν ++ [q], by rw [z, List.append_assoc]⟩
    · rcases List.mem_append.mp ha with z | z
      · exact u'.new a z n
      · rw [List.mem_singleton.mp z]; exact hq
end
end Dm
-- text DmOps
namespace Dm
open PySem L2
open PySem.W (Frag)
/-! ### the items of a tuple, a list -/
def lstOf (S : Sto) : D → Option (List D)
  | .lst ds => some ds
  | .cell n => match S[n]? with
    | some (.lst ds) => some ds
    | _ => none
  | _ => none
def seqOf (S : Sto) : D → Option (List D)
  | .tup ds => some ds
  | d => lstOf S d
section
variable {F : Fx} {μ : List Addr} {H : Hp} {S : Sto} {v : V} {d : D} {ds : List D}
theorem RD.lstS (s : RS F μ H S) (r : RD F μ H v d) (h : lstOf S d = some ds) : ∃ a xs, v = .ref a ∧ SqL F.K H a xs ∧ RDs F μ H xs ds := by
  cases r with
  | lst f r =>
    cases h
    exact ⟨_, _, rfl, f.sq, r⟩
  | @cell a n e =>
    simp only [lstOf] at h
    cases q : S[n]? with
    | none => rw [q] at h; exact nomatch h
    | some c =>
      rw [q] at h
      cases c with
      | lst es =>
        cases h
        obtain ⟨xs, h1, h2⟩ := s.at_ n a _ e q
        exact ⟨a, xs, rfl, SqL.of h1, h2⟩
      | _ => exact nomatch h
  | _ => exact nomatch h
theorem RD.seqS (s : RS F μ H S) (r : RD F μ H v d) (h : seqOf S d = some ds) : ∃ a xs, v = .ref a ∧ (SqL F.K H a xs ∨ SqT F.K H a xs) ∧ RDs F μ H xs ds := by
  cases r with
  | tup f r =>
    cases h
    exact ⟨_, _, rfl, .inr f.sq, r⟩
  | lst f r =>
    obtain ⟨a, xs, e, q, z⟩ := RD.lstS s (.lst f r) h
    exact ⟨a, xs, e, .inl q, z⟩
  | cell e =>
    obtain ⟨a, xs, e, q, z⟩ := RD.lstS s (.cell e) h
    exact ⟨a, xs, e, .inl q, z⟩
  | _ => exact nomatch h
theorem RDs.atI {vs : List V} {i : Int} (r : RDs F μ H vs ds) (h : atI ds i = some d) : ∃ v, L2.atI vs i = some v ∧ RD F μ H v d := by
  unfold L2.atI at h ⊢
  rw [r.length]
  cases e : ixN ds.length i with
  | none => rw [e] at h; exact nomatch h
  | some j =>
    rw [e] at h
    exact r.get h
end
/-! ### whole numbers -/
def gI (f : Int → Int → D) : Sto → D → D → Option D := fun _ x y => match x, y with
  | .int i, .int j => some (f i j)
  | _, _ => none
def gIC (C : Int → Int → Prop) [∀ i j, Decidable (C i j)] (f : Int → Int → D) : Sto → D → D → Option D := fun _ x y => match x, y with
  | .int i, .int j => if C i j then some (f i j) else none
  | _, _ => none
section
variable {X : Cx}
theorem opd_I0 {fv : Int → Int → V} {fd : Int → Int → D} (h : ∀ i j ξ μ H, RD (fx X ξ) μ H (fv i j) (fd i j)) : OpD X (rI0 fv) (gI fd) := by
  intro ξ μ H S x y v u z Q s rx ry e k
  cases rx with
  | int i =>
    cases ry with
    | int j =>
      cases e
      exact ⟨i, j, rfl, rfl, k _ μ H .refl s (h i j ξ μ H)⟩
    | _ => exact nomatch e
  | _ => exact nomatch e
theorem opd_I {C : Int → Int → Prop} [∀ i j, Decidable (C i j)] {fv : Int → Int → V} {fd : Int → Int → D} (h : ∀ i j ξ μ H, RD (fx X ξ) μ H (fv i j) (fd i j)) : OpD X (rI C fv) (gIC C fd) := by
  intro ξ μ H S x y v u z Q s rx ry e k
  cases rx with
  | int i =>
    cases ry with
    | int j =>
      unfold gIC at e
      by_cases c : C i j
      · simp only [if_pos c] at e
        cases e
        exact ⟨i, j, rfl, rfl, c, k _ μ H .refl s (h i j ξ μ H)⟩
      · simp only [if_neg c] at e
        exact nomatch e
    | _ => exact nomatch e
  | _ => exact nomatch e
theorem OpD.or {r r' : R2} {g g' : Sto → D → D → Option D} (h : OpD X r g) (h' : OpD X r' g') : OpD X (fun x y H Q => r x y H Q ∨ r' x y H Q) (fun S x y => (g S x y).or (g' S x y)) := by
  intro ξ μ H S x y v u z Q s rx ry e k
  have e : (g S x y).or (g' S x y) = some z := e
  cases q : g S x y with
  | some w =>
    rw [q] at e
    cases e
    exact .inl (h ξ μ H S x y v u _ Q s rx ry q k)
  | none =>
    rw [q] at e
    exact .inr (h' ξ μ H S x y v u z Q s rx ry e k)
abbrev gSub := gI fun i j => .int (i - j)
abbrev gLt := gI fun i j => .bl (decide (i < j))
abbrev gLe := gI fun i j => .bl (decide (i ≤ j))
abbrev gGt := gI fun i j => .bl (decide (j < i))
abbrev gGe := gI fun i j => .bl (decide (j ≤ i))
instance : ∀ i j, Decidable (CMulW i j) := fun i j => inferInstanceAs (Decidable (_ < _))
instance : ∀ i j, Decidable (CDivW i j) := fun i j => inferInstanceAs (Decidable (_ ∧ _))
instance : ∀ i j, Decidable (CPow i j) := fun i j => inferInstanceAs (Decidable (_ ∧ _ ∧ _))
abbrev gMul := gIC CMulW fun i j => .int (i * j)
abbrev gFdiv := gIC CDivW fun i j => .int (i / j)
abbrev gMod := gIC (fun _ j => 0 < j) fun i j => .int (i % j)
abbrev gPow := gIC CPow fun i j => .int (i ^ j.toNat)
theorem o_sub : OpD X (rI0 fun i j => .int (i - j)) gSub := opd_I0 fun _ _ _ _ _ => .int _
theorem o_lt : OpD X (rI0 fun i j => .bl (decide (i < j))) gLt := opd_I0 fun _ _ _ _ _ => .bl _
theorem o_le : OpD X (rI0 fun i j => .bl (decide (i ≤ j))) gLe := opd_I0 fun _ _ _ _ _ => .bl _
theorem o_gt : OpD X (rI0 fun i j => .bl (decide (j < i))) gGt := opd_I0 fun _ _ _ _ _ => .bl _
theorem o_ge : OpD X (rI0 fun i j => .bl (decide (j ≤ i))) gGe := opd_I0 fun _ _ _ _ _ => .bl _
theorem o_mul : OpD X (rI CMulW fun i j => .int (i * j)) gMul := opd_I fun _ _ _ _ _ => .int _
theorem o_fdiv : OpD X (rI CDivW fun i j => .int (i / j)) gFdiv := opd_I fun _ _ _ _ _ => .int _
theorem o_mod : OpD X (rI (fun _ j => 0 < j) fun i j => .int (i % j)) gMod := opd_I fun _ _ _ _ _ => .int _
theorem o_pow : OpD X (rI CPow fun i j => .int (i ^ j.toNat)) gPow := opd_I fun _ _ _ _ _ => .int _
/-- + of ints, of tuples -/
def gCatT : Sto → D → D → Option D := fun _ x y => match x, y with
  | .tup a, .tup b => if a.length + b.length ≤ 16777216 then some (.tup (a ++ b)) else none
  | _, _ => none
def gAdd : Sto → D → D → Option D := fun S x y => (gI (fun i j => .int (i + j)) S x y).or (gCatT S x y)
theorem o_catT : OpD X (rCatF X.K) gCatT := by
  intro ξ μ H S x y v u z Q s rx ry e k
  cases rx with
  | @tup a xs ds f r =>
    cases ry with
    | @tup b ys es f' r' =>
      unfold gCatT at e
      by_cases c : ds.length + es.length ≤ 16777216
      · simp only [if_pos c] at e
        cases e
        refine ⟨a, b, xs, ys, rfl, rfl, f.sq, f'.sq, by rw [r.length, r'.length, sizeLine_eq]; exact c, fun e => ?_, fun _ e => ?_, fun _ _ p o hp ho => ?_⟩
        · subst e
          have e' : ds = [] := List.eq_nil_of_length_eq_zero r.length.symm
          subst e'
          exact k _ μ H .refl s (.tup f' r')
        · subst e
          have e' : es = [] := List.eq_nil_of_length_eq_zero r'.length.symm
          subst e'
          rw [List.append_nil] at k
          exact k _ μ H .refl s (.tup f r)
        · exact k _ μ _ (.fresh hp) (s.fresh hp) (.tup (.inl ⟨.new ho, s.out hp, s.outX hp⟩) ((r.append r').up (.fresh hp)))
      · simp only [if_neg c] at e
        exact nomatch e
    | _ => exact nomatch e
  | _ => exact nomatch e
theorem op_addD : OpR X (binaryOp .Add) (fun x y H Q => rI0 (fun i j => .int (i + j)) x y H Q ∨ rCatF X.K x y H Q) := op_add.or op_catF
theorem o_add : OpD X (fun x y H Q => rI0 (fun i j => .int (i + j)) x y H Q ∨ rCatF X.K x y H Q) gAdd := (opd_I0 fun _ _ _ _ _ => .int _).or o_catT
/-- -i -/
def gNeg : Sto → D → Option D := fun _ x => match x with
  | .int i => some (.int (-i))
  | _ => none
theorem o_neg : UnD X (rU fun i => .int (-i)) gNeg := by
  intro ξ μ H S x v z Q s rx e k
  cases rx with
  | int i =>
    cases e
    exact ⟨i, rfl, k _ μ H .refl s (.int _)⟩
  | _ => exact nomatch e
/-! ### == -/
mutual
def toPy : D → Option PyData
  | .non => some .none
  | .bl b => some (.bool b)
  | .int i => some (.int i)
  | .str x => some (.str x)
  | .tup ds => (toPys ds).map .tuple
  | .lst ds => (toPys ds).map .list
  | .cell _ => none
  | .glo _ => none
  | .exn _ _ => none
def toPys : List D → Option (List PyData)
  | [] => some []
  | d :: ds => (toPy d).bind fun p => (toPys ds).map fun ps => p :: ps
end
/-- a cell's list, its items plain -/
def toPyS (S : Sto) (d : D) : Option PyData := match d with
  | .cell n => match S[n]? with
    | some (.lst ds) => (toPys ds).map .list
    | _ => none
  | d => toPy d
section
variable {F : Fx} {μ : List Addr} {H : Hp} {S : Sto}
mutual
theorem dp_of : ∀ {v : V} (d : D) {p : PyData}, RD F μ H v d → toPy d = some p → Dp F.K H v p
  | _, .non, p, r, e => by cases r; cases e; exact .non
  | _, .bl b, p, r, e => by cases r; cases e; exact .bl b
  | _, .int i, p, r, e => by cases r; cases e; exact .int i
  | _, .str x, p, r, e => by cases r; cases e; exact .str x
  | _, .tup ds, p, r, e => by
    cases r with
    | tup f r =>
      unfold toPy at e
      cases q : toPys ds with
      | none => rw [q] at e; exact nomatch e
      | some ps =>
        rw [q] at e; cases e
        exact .tup f.sq (dps_of ds r q)
  | _, .lst ds, p, r, e => by
    cases r with
    | lst f r =>
      unfold toPy at e
      cases q : toPys ds with
      | none => rw [q] at e; exact nomatch e
      | some ps =>
        rw [q] at e; cases e
        exact .lst f.sq (dps_of ds r q)
  | _, .cell _, p, r, e => nomatch e
  | _, .glo _, p, r, e => nomatch e
  | _, .exn _ _, p, r, e => nomatch e
theorem dps_of : ∀ {vs : List V} (ds : List D) {ps : List PyData}, RDs F μ H vs ds → toPys ds = some ps → DpAll F.K H vs ps
  | _, [], ps, r, e => by cases r; cases e; exact .nil
  | _, d :: ds, ps, r, e => by
    cases r with
    | cons a b =>
      unfold toPys at e
      cases q : toPy d with
      | none => rw [q] at e; exact nomatch e
      | some p =>
        rw [q] at e
        cases q' : toPys ds with
        | none => rw [q'] at e; exact nomatch e
        | some ps' =>
          rw [q'] at e; cases e
          exact .cons (dp_of d a q) (dps_of ds b q')
end
theorem dpS_of {v : V} {d : D} {p : PyData} (s : RS F μ H S) (r : RD F μ H v d) (e : toPyS S d = some p) : Dp F.K H v p := by
  cases d with
  | cell n =>
    unfold toPyS at e
    cases r with
    | @cell a _ ea =>
      cases q : S[n]? with
      | none => simp only [q] at e; exact nomatch e
      | some c =>
        simp only [q] at e
        cases c with
        | lst ds =>
          cases q' : toPys ds with
          | none => simp only [q'] at e; exact nomatch e
          | some ps =>
            simp only [q'] at e; cases e
            obtain ⟨xs, h1, h2⟩ := s.at_ n a _ ea q
            exact .lst (SqL.of h1) (dps_of ds h2 q')
        | _ => exact nomatch e
  | _ => exact dp_of _ r e
end
/-- == of two values; none: no rule -/
def eqD (S : Sto) (x y : D) : Option Bool := match x, y with
  | .int i, .int j => some (i == j)
  | .str i, .str j => some (i == j)
  | x, y => match toPyS S x, toPyS S y with
    | some p, some q => if SeqAt.shaped p = true ∧ SeqAt.shaped q = true then some (PyData.eqv p q) else none
    | _, _ => none
theorem eqD_cases {S : Sto} {x y : D} {b : Bool} (h : eqD S x y = some b) : (∃ i j, x = .int i ∧ y = .int j ∧ b = (i == j)) ∨ (∃ i j, x = .str i ∧ y = .str j ∧ b = (i == j)) ∨
    ∃ p q, toPyS S x = some p ∧ toPyS S y = some q ∧ SeqAt.shaped p = true ∧ SeqAt.shaped q = true ∧ b = PyData.eqv p q := by
  unfold eqD at h
  split at h
  · cases h; exact .inl ⟨_, _, rfl, rfl, rfl⟩
  · cases h; exact .inr (.inl ⟨_, _, rfl, rfl, rfl⟩)
  · split at h
    · rename_i p q hp hq
      split at h
      · rename_i hs
        cases h
        exact .inr (.inr ⟨p, q, hp, hq, hs.1, hs.2, rfl⟩)
      · exact nomatch h
    · exact nomatch h
def gEq : Sto → D → D → Option D := fun S x y => (eqD S x y).map .bl
def gNe : Sto → D → D → Option D := fun S x y => (eqD S x y).map fun b => .bl (!b)
def rEqA (K : Frag) : R2 := fun x y H Q => rEq x y H Q ∨ rEqD K x y H Q
def rNeA (K : Frag) : R2 := fun x y H Q => rNe x y H Q ∨ rNeD K x y H Q
theorem op_eqA (hu : X.A.units + 64 < cLine) : OpR X (compareOp .Eq) (rEqA X.K) := op_eq.or (op_eqD hu)
theorem op_neA (hu : X.A.units + 64 < cLine) : OpR X (compareOp .NotEq) (rNeA X.K) := op_ne.or (op_neD hu)
theorem o_eq : OpD X (rEqA X.K) gEq := by
  intro ξ μ H S x y v u z Q s rx ry e k
  unfold gEq at e
  cases q : eqD S x y with
  | none => rw [q] at e; exact nomatch e
  | some b =>
    rw [q] at e; cases e
    rcases eqD_cases q with ⟨i, j, rfl, rfl, rfl⟩ | ⟨i, j, rfl, rfl, rfl⟩ | ⟨p, q', h1, h2, h3, h4, rfl⟩
    · cases rx; cases ry
      exact .inl ⟨rfl, by rw [dec_int]; exact k _ μ H .refl s (.bl _)⟩
    · cases rx; cases ry
      exact .inl ⟨rfl, by rw [dec_str]; exact k _ μ H .refl s (.bl _)⟩
    · exact .inr ⟨p, q', dpS_of s rx h1, dpS_of s ry h2, h3, h4, k _ μ H .refl s (.bl _)⟩
theorem o_ne : OpD X (rNeA X.K) gNe := by
  intro ξ μ H S x y v u z Q s rx ry e k
  unfold gNe at e
  cases q : eqD S x y with
  | none => rw [q] at e; exact nomatch e
  | some b =>
    rw [q] at e; cases e
    rcases eqD_cases q with ⟨i, j, rfl, rfl, rfl⟩ | ⟨i, j, rfl, rfl, rfl⟩ | ⟨p, q', h1, h2, h3, h4, rfl⟩
    · cases rx; cases ry
      exact .inl ⟨rfl, by rw [dec_int]; exact k _ μ H .refl s (.bl _)⟩
    · cases rx; cases ry
      exact .inl ⟨rfl, by rw [dec_str]; exact k _ μ H .refl s (.bl _)⟩
    · exact .inr ⟨p, q', dpS_of s rx h1, dpS_of s ry h2, h3, h4, k _ μ H .refl s (.bl _)⟩
/-! ### in -/
def flatD : D → Bool
  | .non => true
  | .bl _ => true
  | .int _ => true
  | .str _ => true
  | _ => false
def eqF : D → D → Bool
  | .non, .non => true
  | .bl a, .bl b => a == b
  | .bl a, .int b => (if a then 1 else 0) == b
  | .int a, .bl b => a == (if b then 1 else 0)
  | .int a, .int b => a == b
  | .str a, .str b => a == b
  | _, _ => false
theorem flat_of {F : Fx} {μ : List Addr} {H : Hp} {v : V} {d : D} (r : RD F μ H v d) : flatV v = flatD d := by cases r <;> rfl
theorem eqF_of {F : Fx} {μ : List Addr} {H : Hp} {v u : V} {d e : D} (r : RD F μ H v d) (r' : RD F μ H u e) : eqV v u = eqF d e := by cases r <;> cases r' <;> rfl
theorem flats_of {F : Fx} {μ : List Addr} {H : Hp} : ∀ {vs : List V} {ds : List D}, RDs F μ H vs ds → vs.all flatV = ds.all flatD
  | _, [], r => by cases r; rfl
  | _, d :: ds, r => by
    cases r with
    | cons a b => rw [List.all_cons, List.all_cons, flat_of a, flats_of b]
theorem anyF_of {F : Fx} {μ : List Addr} {H : Hp} {u : V} {e : D} (r' : RD F μ H u e) : ∀ {vs : List V} {ds : List D}, RDs F μ H vs ds → inV u vs = ds.any (eqF · e)
  | _, [], r => by cases r; rfl
  | _, d :: ds, r => by
    cases r with
    | cons a b =>
      have q := anyF_of r' b
      unfold inV at q ⊢
      rw [List.any_cons, List.any_cons, eqF_of a r', q]
def gIn (neg : Bool) : Sto → D → D → Option D := fun S x y => match seqOf S y with
  | some ds => if flatD x = true ∧ ds.all flatD = true then some (.bl (if neg then !ds.any (eqF · x) else ds.any (eqF · x))) else none
  | none => none
theorem o_in {neg : Bool} : OpD X (rIn X.K neg) (gIn neg) := by
  intro ξ μ H S x y v u z Q s rx ry e k
  unfold gIn at e
  cases q : seqOf S y with
  | none => rw [q] at e; exact nomatch e
  | some ds =>
    rw [q] at e
    by_cases c : flatD x = true ∧ ds.all flatD = true
    · simp only [if_pos c] at e
      cases e
      obtain ⟨a, xs, rfl, h1, h2⟩ := RD.seqS s ry q
      refine ⟨a, xs, rfl, h1, by rw [flat_of rx]; exact c.1, by rw [flats_of h2]; exact c.2, ?_⟩
      rw [anyF_of rx h2]
      exact k _ μ H .refl s (.bl _)
    · simp only [if_neg c] at e
      exact nomatch e
/-! ### is None -/
def isNon : D → Bool
  | .non => true
  | _ => false
def gIsN (neg : Bool) : Sto → D → D → Option D := fun _ x y => match y with
  | .non => some (.bl (if neg then !isNon x else isNon x))
  | _ => none
theorem isNon_of {F : Fx} {μ : List Addr} {H : Hp} {v : V} {d : D} (r : RD F μ H v d) : decide (v = .non) = isNon d := by cases r <;> rfl
theorem o_isN : OpD X (fun x y H Q => y = .non ∧ Q (.bl (decide (x = .non))) H) (gIsN false) := by
  intro ξ μ H S x y v u z Q s rx ry e k
  cases ry with
  | non =>
    cases e
    exact ⟨rfl, by rw [isNon_of rx]; exact k _ μ H .refl s (.bl _)⟩
  | _ => exact nomatch e
theorem o_notN : OpD X (fun x y H Q => y = .non ∧ Q (.bl (!decide (x = .non))) H) (gIsN true) := by
  intro ξ μ H S x y v u z Q s rx ry e k
  cases ry with
  | non =>
    cases e
    exact ⟨rfl, by rw [isNon_of rx]; exact k _ μ H .refl s (.bl _)⟩
  | _ => exact nomatch e
end
/-! ### chains -/
def mChain (g g' : Sto → D → D → Option D) (a b c : ME) : ME := fun ρ S => (a ρ S).bind fun x S1 => (b ρ S1).bind fun y S2 => match g S2 x y with
  | some (.bl true) => (c ρ S2).bind fun z S3 => match g' S3 y z with
    | some w => .ok w S3
    | none => .bad
  | some (.bl false) => .ok (.bl false) S2
  | _ => .bad
section
variable {X : Cx} {W : WX} {e a b c : Expr} {es : List Expr} {ma mb mc m : ME} {mr : MA} {pos : Pos}
theorem chain2 {r r' : R2} {g g' : Sto → D → D → Option D} {ta tb tc : TE} {ξ μ : List Addr} {σ : St} {H : Hp} {ρ : Rho} {S : Sto} {Q : VK} (hd : OpD X r g) (hd' : OpD X r' g')
    (ka : ∀ ξ μ σ H ρ S Q, RG (fx X ξ) μ H σ ρ → RS (fx X ξ) μ H S → WE' (fx X ξ) (ma ρ S) Q (fun cls dd H' => W cls dd σ H') μ H → ta σ H Q)
    (kb : ∀ ξ μ σ H ρ S Q, RG (fx X ξ) μ H σ ρ → RS (fx X ξ) μ H S → WE' (fx X ξ) (mb ρ S) Q (fun cls dd H' => W cls dd σ H') μ H → tb σ H Q)
    (kc : ∀ ξ μ σ H ρ S Q, RG (fx X ξ) μ H σ ρ → RS (fx X ξ) μ H S → WE' (fx X ξ) (mc ρ S) Q (fun cls dd H' => W cls dd σ H') μ H → tc σ H Q)
    (g0 : RG (fx X ξ) μ H σ ρ) (s : RS (fx X ξ) μ H S) (h : WE' (fx X ξ) (mChain g g' ma mb mc ρ S) Q (fun cls dd H' => W cls dd σ H') μ H) : tChain r r' ta tb tc σ H Q := by
  refine ka ξ μ σ H ρ S _ g0 s (WR.bind h fun x S1 v μ1 H1 u1 s1 r1 h1 => ?_)
  refine kb ξ μ1 σ H1 ρ S1 _ (g0.up u1) s1 (WR.bind h1 fun y S2 v2 μ2 H2 u2 s2 r2 h2 => ?_)
  cases e : g S2 x y with
  | none => rw [e] at h2; exact h2.elim
  | some z =>
    rw [e] at h2
    refine hd ξ μ2 H2 S2 x y v v2 z _ s2 (r1.up u2) r2 e fun w μ' H' u' s' r' => ?_
    cases r' with
    | bl k =>
      refine ⟨k, rfl, ?_⟩
      cases k with
      | false => exact h2 _ μ' H' u' s' (.bl false)
      | true =>
        refine kc ξ μ' σ H' ρ S2 _ (g0.up (u1.trans (u2.trans u'))) s' (WR.bind (WR.shift u' h2) fun z S3 v3 μ3 H3 u3 s3 r3 h3 => ?_)
        cases e3 : g' S3 y z with
        | none => rw [e3] at h3; exact h3.elim
        | some w =>
          rw [e3] at h3
          exact hd' ξ μ3 H3 S3 y z v2 v3 w Q s3 (r2.up (u'.trans u3)) r3 e3 h3
    | _ => exact h2.elim
theorem d_chain {op op' : CmpOp} {r r' : R2} {g g' : Sto → D → D → Option D} (ho : OpR X (compareOp op) r) (ho' : OpR X (compareOp op') r') (hd : OpD X r g) (hd' : OpD X r' g') (ha : DE X W a ma) (hb : DE X W b mb) (hc : DE X W c mc)
    (hm : lastMarks [op, op'] [b, c] = false := by with_unfolding_all rfl) : DE X W (.Compare a [op, op'] [b, c] pos) (mChain g g' ma mb mc) := by
  obtain ⟨ta, pa, ka⟩ := ha
  obtain ⟨tb, pb, kb⟩ := hb
  obtain ⟨tc, pc, kc⟩ := hc
  exact ⟨_, pe_chain ho ho' pa pb pc hm, fun ξ μ σ H ρ S Q g0 s h => chain2 hd hd' ka kb kc g0 s h⟩
theorem dt_chain {op op' : CmpOp} {r r' : R2} {g g' : Sto → D → D → Option D} (ho : OpR X (compareOp op) r) (ho' : OpR X (compareOp op') r') (hd : OpD X r g) (hd' : OpD X r' g') (ha : DE X W a ma) (hb : DE X W b mb) (hc : DE X W c mc)
    (hm : lastMarks [op, op'] [b, c] = false := by with_unfolding_all rfl) : DT X W (.Compare a [op, op'] [b, c] pos) (mChain g g' ma mb mc) := by
  obtain ⟨ta, pa, ka⟩ := ha
  obtain ⟨tb, pb, kb⟩ := hb
  obtain ⟨tc, pc, kc⟩ := hc
  exact ⟨_, pt_chain ho ho' pa pb pc hm, fun ξ μ σ H ρ S Q g0 s h => chain2 hd hd' ka kb kc g0 s (WT'.val h)⟩
/-! ### subscripts -/
def gIx : Sto → D → D → Option D := fun S x i => match i with
  | .int k => match x with
    | .str z => if z.length ≤ 16777216 then (atI z.cps.toList k).map fun c => .str ⟨#[c]⟩ else none
    | x => (seqOf S x).bind fun ds => atI ds k
  | _ => none
theorem o_ix : OpD X (rIx X.K) gIx := by
  intro ξ μ H S x y v u z Q s rx ry e k
  unfold gIx at e
  cases ry with
  | int i =>
    have main : ∀ ds, seqOf S x = some ds → atI ds i = some z → rIx X.K v (.int i) H Q := fun ds h1 h2 => by
      obtain ⟨a, xs, rfl, h3, h4⟩ := RD.seqS s rx h1
      obtain ⟨w, h5, h6⟩ := h4.atI h2
      rcases h3 with h3 | h3
      · exact .inl ⟨a, xs, i, w, rfl, rfl, h3, h5, k w μ H .refl s h6⟩
      · exact .inr (.inl ⟨a, xs, i, w, rfl, rfl, h3, h5, k w μ H .refl s h6⟩)
    cases rx with
    | str z =>
      simp only at e
      by_cases c : z.length ≤ 16777216
      · rw [if_pos c] at e
        cases q : atI z.cps.toList i with
        | none => rw [q] at e; exact nomatch e
        | some w =>
          rw [q] at e; cases e
          exact .inr (.inr ⟨z, i, w, rfl, rfl, by rw [sizeLine_eq]; exact c, q, k _ μ H .refl s (.str _)⟩)
      · rw [if_neg c] at e; exact nomatch e
    | tup f r =>
      exact main _ rfl e
    | @lst _ _ ds f r => exact main ds rfl e
    | @cell a n ea =>
      simp only at e
      cases q : seqOf S (.cell n) with
      | none => rw [q] at e; exact nomatch e
      | some ds => rw [q] at e; exact main ds q e
    | _ => exact nomatch e
  | _ => exact nomatch e
theorem d_ix {r : R2} {g : Sto → D → D → Option D} (hr : IxR X r) (hd : OpD X r g) (ha : DE X W a ma) (hb : DE X W b mb) (hs : PlainIx b := by exact fun _ _ => rfl) : DE X W (.Subscript a b pos) (mOp g ma mb) := by
  obtain ⟨ta, pa, ka⟩ := ha
  obtain ⟨tb, pb, kb⟩ := hb
  exact ⟨_, pe_ix hr pa pb hs, fun ξ μ σ H ρ S Q g0 s h => op2 (ξ := ξ) hd ka kb g0 s h⟩
/-- slices -/
abbrev MO := Rho → Sto → Res (Option Int)
structure DO (X : Cx) (W : WX) (e : Option Expr) (m : MO) : Prop where
  ex : ∃ te, PO X e te ∧ ∀ ξ μ σ H ρ S Q, RG (fx X ξ) μ H σ ρ → RS (fx X ξ) μ H S → WR (fx X ξ) (fun _ _ (o : Option Int) o' => o = o') (m ρ S) Q (fun cls dd H' => W cls dd σ H') μ H → te σ H Q
def mPart (m : ME) : MO := fun ρ S => (m ρ S).bind fun x S1 => match x with
  | .int i => .ok (some i) S1
  | _ => .bad
def mNoPart : MO := fun _ S => .ok none S
theorem do_none : DO X W none mNoPart := ⟨_, po_none, fun ξ μ σ H ρ S Q g s h => h none μ H .refl s rfl⟩
theorem do_some (h : DE X W e m) : DO X W (some e) (mPart m) := by
  obtain ⟨te, p, k⟩ := h
  refine ⟨_, po_some p, fun ξ μ σ H ρ S Q g s h => k ξ μ σ H ρ S _ g s (WR.bind h fun x S1 v μ1 H1 u1 s1 r1 h1 => ?_)⟩
  cases r1 with
  | int i => exact ⟨i, rfl, h1 _ μ1 H1 .refl s1 rfl⟩
  | _ => exact h1.elim
def cutD (ds : List D) (lo hi : Option Int) : List D := (ds.drop (HT.sIx ds.length 0 lo)).take (HT.sIx ds.length ds.length hi - HT.sIx ds.length 0 lo)
theorem cut_of {F : Fx} {μ : List Addr} {H : Hp} {vs : List V} {ds : List D} {lo hi : Option Int} (r : RDs F μ H vs ds) : RDs F μ H (cutV vs lo hi) (cutD ds lo hi) := by
  unfold cutV cutD
  rw [r.length]
  exact (r.drop _).take _
def mSlT (a : ME) (lo hi : MO) : ME := fun ρ S => (a ρ S).bind fun x S1 => (lo ρ S1).bind fun l S2 => (hi ρ S2).bind fun h S3 => match x with
  | .tup ds => .ok (.tup (cutD ds l h)) S3
  | _ => .bad
def mSlL (a : ME) (lo hi : MO) : MA := fun ρ S => (a ρ S).bind fun x S1 => (lo ρ S1).bind fun l S2 => (hi ρ S2).bind fun h S3 => match lstOf S3 x with
  | some ds => .ok (cutD ds l h) S3
  | none => .bad
variable {lo hi : Option Expr} {ml mh : MO} {p2 : Pos}
theorem cut_whole {ds : List D} {lo hi : Option Int} (h : HT.sIx ds.length 0 lo = 0 ∧ HT.sIx ds.length ds.length hi = ds.length) : cutD ds lo hi = ds := by
  unfold cutD
  rw [h.1, h.2, List.drop_zero, Nat.sub_zero, List.take_length]
theorem d_slT (ha : DE X W a ma) (hl : DO X W lo ml) (hh : DO X W hi mh) : DE X W (.Subscript a (.Slice lo hi none p2) pos) (mSlT ma ml mh) := by
  obtain ⟨ta, pa, ka⟩ := ha
  obtain ⟨tl, pl, kl⟩ := hl
  obtain ⟨th, ph, kh⟩ := hh
  refine ⟨_, pe_slice sl_tupF pa pl ph, fun ξ μ σ H ρ S Q g s h => ka ξ μ σ H ρ S _ g s (WR.bind h fun x S1 v μ1 H1 u1 s1 r1 h1 => ?_)⟩
  refine kl ξ μ1 σ H1 ρ S1 _ (g.up u1) s1 (WR.bind h1 fun l S2 l' μ2 H2 u2 s2 r2 h2 => ?_)
  subst r2
  refine kh ξ μ2 σ H2 ρ S2 _ (g.up (u1.trans u2)) s2 (WR.bind h2 fun u S3 u' μ3 H3 u3 s3 r3 h3 => ?_)
  subst r3
  have rx := r1.up (u2.trans u3)
  cases rx with
  | @tup a xs ds f r =>
    refine ⟨a, xs, rfl, f.sq, fun hw => ?_, fun _ p o hp ho => ?_⟩
    · rw [r.length] at hw
      have e := cut_whole hw
      exact h3 _ μ3 H3 .refl s3 (by rw [e]; exact .tup f r)
    · exact h3 _ μ3 _ (.fresh hp) (s3.fresh hp) (.tup (.inl ⟨.new ho, s3.out hp, s3.outX hp⟩) ((cut_of r).up (.fresh hp)))
  | _ => exact h3.elim
theorem dl_slL (ha : DE X W a ma) (hl : DO X W lo ml) (hh : DO X W hi mh) : DL X W (.Subscript a (.Slice lo hi none p2) pos) (mSlL ma ml mh) := by
  obtain ⟨ta, pa, ka⟩ := ha
  obtain ⟨tl, pl, kl⟩ := hl
  obtain ⟨th, ph, kh⟩ := hh
  refine ⟨_, pe_slice sl_list pa pl ph, fun ξ μ σ H ρ S Q g s h => ka ξ μ σ H ρ S _ g s (WL'.bind h fun x S1 v μ1 H1 u1 s1 r1 h1 => ?_)⟩
  refine kl ξ μ1 σ H1 ρ S1 _ (g.up u1) s1 (WL'.bind h1 fun l S2 l' μ2 H2 u2 s2 r2 h2 => ?_)
  subst r2
  refine kh ξ μ2 σ H2 ρ S2 _ (g.up (u1.trans u2)) s2 (WL'.bind h2 fun u S3 u' μ3 H3 u3 s3 r3 h3 => ?_)
  subst r3
  have rx := r1.up (u2.trans u3)
  cases e : lstOf S3 x with
  | none => rw [e] at h3; exact h3.elim
  | some ds =>
    rw [e] at h3
    obtain ⟨a, xs, rfl, h4, h5⟩ := RD.lstS s3 rx e
    exact ⟨a, xs, rfl, h4, fun p hp => h3 p _ μ3 _ (.fresh hp) hp (s3.holds hp) ((cut_of h5).mv (.holds hp)) upd_same⟩
end
end Dm
-- text DmIsV
/-! isinstance of an exception that was made or raised once -/
namespace Dm
open PySem L2 PySem.Spec PyProof.Rows
open PySem.W (Frag)
/-! ### isinstance(e, X) -/
section
variable {prog : Program} {w : World} {A : Around} {E : Value → Shared → Prop} {s : Shared} {K : Frag} {x D : Addr} {ox : Obj} {od : Option Obj}
open PySem.W in
theorem findObj_dataO {C : Addr} {name : Str} {a g : Value} (hc : (clsIn K C).isSome = true) (ha : findIn K (.ref C) name = some (some a)) (hg : specialIn K a "__get__" = some (some g)) (ht : takesIn K a = some true) : findObj K C od name = some (.bind g a) := by
  obtain ⟨cd, hc⟩ := Option.isSome_iff_exists.mp hc
  unfold findObj
  rw [hc, Option.bind_some, ha, Option.bind_some]
  simp [hg, ht]
open PySem.W PySem.Calls in
theorem kin_classO {Q : Option Value → Shared → Prop} (hga : findIn K (.ref D) "__getattribute__" = some (some (.builtin "BaseException.__getattribute__"))) (hgt : findIn K (.ref D) "__getattr__" = some none) (hsub : subIn K (.ref D) (.type "BaseException") = some true)
    (hdct : hasDictIn K D = true) (ha : findIn K (.ref D) "__class__" = some (some (.builtin "object.__class__")))
    (hn : specialIn K (.builtin "object.__class__") "__get__" = some (some (.builtin "getset_descriptor.__get__"))) (htk : takesIn K (.builtin "object.__class__") = some true) (hm : mroIn K D (.type "object") = some true)
    (X : K.In s.heap) (I : InstAt s.heap x ox D od) (h : Q (some (.ref D)) { s with toks := s.toks + 1 }) : wpAny (model prog w) A (getAttr? (.ref x) "__class__") Q E s := by
  have hf : findObj K D od "__class__" = some (.bind (.builtin "getset_descriptor.__get__") (.builtin "object.__class__")) := findObj_dataO (by obtain ⟨cd, hc, _⟩ := any_some hdct; rw [hc]; rfl) ha hn htk
  obtain ⟨hp, g, d, t, os⟩ := s
  have L0 := I.type (M := model prog w)
  have L1 := looks_findIn (M := model prog w) X hga
  have L2 := looks_findIn (M := model prog w) X hgt
  have L3 := looks_find (M := model prog w) X I hf
  have sub : Looks (model prog w) hp (isInstance (.ref x) (.type "BaseException")) true := L0.andThen (looks_subIn X hsub)
  have hx0 : (false && onTheHeap (Value.builtin "BaseException.__getattribute__")) = false := rfl
  have hx2 : (Value.builtin "BaseException.__getattribute__" == Value.builtin "object.__getattribute__") = false := by decide +kernel
  have hx1 : (onTheHeap (Value.ref D) && Value.builtin "BaseException.__getattribute__" == Value.builtin "object.__getattribute__") = false := by rw [hx2]; rfl
  unfold getAttr? getAttrBy? getAttrBy
  refine wpAny_bind (wpAny_mkText (wpAny_bind (wpAny_attempt (wpAny_holding (wpAny_bind (L0.at (wpAny_bind (L1.at ?_))))))))
  show wpAny _ _ (if (onTheHeap (Value.ref D) && Value.builtin "BaseException.__getattribute__" == Value.builtin "object.__getattribute__") = true then _ else _) _ _ _
  rw [hx1, if_neg Bool.false_ne_true]
  unfold getAttrByItsOwn hookBefore
  refine wpAny_bind ?_
  rw [if_pos (show onTheHeap (Value.ref D) = true from rfl)]
  refine L2.at ?_
  refine wpAny_bind (wpAny_attempt (wpAny_holding ?_))
  unfold callGetattribute
  rw [hx0, if_neg Bool.false_ne_true]
  unfold boundAndCalled
  rw [PySem.F.excAttr_ValueError.ga.bind (.ref x)]
  refine wpAny_bind (wpAny_pure ?_)
  show wpAny _ _ (call (.builtin "BaseException.__getattribute__") [.ref x, .str "__class__" t]) _ _ _
  refine wpAny_call (codeAny_call_builtin PySem.F.excAttr_ValueError.ga.plain PySem.F.entry_bexc_ga ?_)
  refine @check_slot (model prog w) _ _ ⟨hp, g, d, t + 1, os⟩ "BaseException.__getattribute__" "BaseException" "__getattribute__" (.ref x) [.str "__class__" t] [] _ (by decide +kernel) (by decide +kernel) sub (PySem.F.args_bexc_ga (.ref x) (.str "__class__" t)) ?_
  unfold Builtin.«object.__getattribute__»
  refine wpAny_bind (wpAny_of_eq (a := ((Value.ref x : Value), [Value.str "__class__" t])) (by first | rfl | (simp only [slotArgs]; rfl)) ?_)
  refine wpAny_bind (wpAny_pure (wpAny_bind (L0.at (wpAny_bind (L3.at ?_)))))
  show wpAny _ _ (holding [Value.builtin "object.__class__"] (call (.builtin "getset_descriptor.__get__") [.builtin "object.__class__", .ref x, .ref D]) >>= ret) _ _ _
  refine wpAny_bind (wpAny_holding (wpAny_call (class_get (s := ⟨hp, g, d, t + 1, os⟩) (ox := ox) (od := od) X I hm ?_)))
  refine wpAny_pure ?_
  show wpAny _ _ (handedOut (.ref D)) _ _ _
  rw [handedOut_of (v := .ref D) rfl]
  first
    | exact wpAny_pure (wpAny_pure h)
    | exact wpAny_pure h
    | exact wpAny_pure (wpAny_bind (wpAny_pure (wpAny_pure h)))
open PySem.W in
theorem kitx_excO (C : ExcC K D) : KitX K (.ref x) (.ref D) (fun h => InstAt h x ox D od) where
  ty := fun _ _ _ I => I.type
  it := fun _ _ X _ => by
    obtain ⟨cdD, hcD, _⟩ := any_some C.hd
    unfold clsIn at hcD
    split at hcD
    · rename_i c' d' cd' sl' ho
      intro A' Q' E' s' k q
      unfold isType loadHead
      exact wpAny_bind (wpAny_loadPart (k _ _ (X _ _ ho)) (wpAny_pure q))
    · cases hcD
  ne := (handS_kitx_exc (x := x) (ox := ox) C.hg C.hk C.hs C.hd C.ha C.hn C.ht C.hm).ne
  ca := fun X I k => kin_classO C.hg C.hk C.hs C.hd C.ha C.hn C.ht C.hm X I k
end
/-- isinstance(e, c), e an exception that was raised once -/
def rIsV (K : Frag) : List V → Hp → VK → Prop := fun xs H Q => ∃ (a D : Addr) (dd : Option Addr) (c : V) (cv : Value) (b : Bool), xs = [.ref a, c] ∧ H a = some (ExV (.ref D) dd a) ∧ ExcC K D ∧ (dd = none ∨ ∃ d fs, dd = some d ∧ H d = some (.xd fs)) ∧
  (∀ u, RelV c u → u = cv) ∧ PySem.W.kitOne K (.ref D) cv = some b ∧ Q (.bl b) H
theorem call_isV {X : Cx} : CallR X (.builtin "isinstance") (rIsV X.K) := by
  intro pins s σ H xs us Q I r h
  obtain ⟨a, D, dd, c, cv, b, rfl, ea, C, ed, hcv, e, q⟩ := h
  cases r with
  | cons rx rr =>
    cases rr with
    | cons rt rr =>
      cases rr
      cases rx
      have ec := hcv _ rt
      subst ec
      have xa : ObjOk X.prog X.w H s.heap a (.ext fun h => ∃ (oe : Obj) (vs : Array Value), h.get? a = some oe ∧ Zc (.ref D) dd oe ∧ oe.data = .fields vs) := I.hok a _ ea
      obtain ⟨oe, vs, hget, hz, hv⟩ := xa.1
      have J : ∃ od, PySem.W.InstAt s.heap a oe D od := by
        rcases ed with rfl | ⟨d, fs, rfl, ed⟩
        · exact ⟨none, hget, hz.1, by unfold PySem.W.notCls; rw [hv] <;> rfl, by rw [hz.2]; trivial⟩
        · have hx : ObjOk X.prog X.w H s.heap d (.xd fs) := I.hok d _ ed
          obtain ⟨mA, hns, hr⟩ := hx
          obtain ⟨od, ho, hl⟩ := lookIn_ns hns
          exact ⟨some od, hget, hz.1, by unfold PySem.W.notCls; rw [hv] <;> rfl, by rw [hz.2]; exact ho⟩
      obtain ⟨od, J⟩ := J
      exact PySem.W.kia_one (kitx_excO C) I.kIn J e (fun z => nomatch z) fun tk => ⟨.bl b, H, I.kept (t' := tk) fun _ _ z => z, rfl, q⟩
theorem call_or {X : Cx} {f : Value} {r1 r2 : List V → Hp → VK → Prop} (h1 : CallR X f r1) (h2 : CallR X f r2) : CallR X f (fun xs H Q => r1 xs H Q ∨ r2 xs H Q) :=
  fun pins s σ H xs us Q I r h => h.elim (h1 pins s σ H xs us Q I r) (h2 pins s σ H xs us Q I r)
end Dm
-- text DmStm
namespace Dm
open PySem L2
open PySem.W (Frag)
/-! ### isinstance -/
inductive Tn where | non | bl | int | str | tup | lst | dic | exn
  deriving DecidableEq
def tnName : Tn → String
  | .non => "NoneType" | .bl => "bool" | .int => "int" | .str => "str" | .tup => "tuple" | .lst => "list" | .dic => "dict" | .exn => "BaseException"
def isTn : Tn → Tn → Bool
  | .bl, .int => true
  | a, b => decide (a = b)
theorem kit_tn (a b : Tn) (h : b ≠ .non) (h2 : b ≠ .exn) (h3 : a ≠ .exn) : kitB (tnName a) (tnName b) = some (isTn a b) := by
  cases b <;> first | exact absurd rfl h | exact absurd rfl h2 | (cases a <;> first | exact absurd rfl h3 | decide +kernel)
def tyOf (S : Sto) : D → Option Tn
  | .non => some .non
  | .bl _ => some .bl
  | .int _ => some .int
  | .str _ => some .str
  | .tup _ => some .tup
  | .lst _ => some .lst
  | .cell n => match S[n]? with
    | some (.lst _) => some .lst
    | some (.dic _) => some .dic
    | some (.obj _ _) => some .exn
    | _ => none
  | .glo _ => none
  | .exn _ _ => some .exn
theorem tyX_of {F : Fx} {μ : List Addr} {H : Hp} {S : Sto} {v : V} {d : D} {t : Tn} (s : RS F μ H S) (r : RD F μ H v d) (e : tyOf S d = some t) (ht : t ≠ .exn) : TyX F.K H v (.type (tnName t)) := by
  cases r with
  | non => cases e; exact .base .non
  | bl b => cases e; exact .base (.bl b)
  | int i => cases e; exact .base (.int i)
  | str x => cases e; exact .base (.str x)
  | tup f r =>
    cases e
    rcases f with ⟨⟨o, _, h⟩, _⟩ | ⟨o, its, n, h1, h2, _⟩
    · exact .fTuple h
    · exact .kTuple h1 h2
  | lst f r =>
    cases e
    rcases f with ⟨h | ⟨o, h⟩, _⟩ | ⟨o, its, n, h1, h2, _⟩
    · exact .base (.lst h)
    · exact .base (.frz h)
    · exact .kList h1 h2
  | @cell a n ea =>
    simp only [tyOf] at e
    cases q : S[n]? with
    | none => rw [q] at e; exact nomatch e
    | some c =>
      rw [q] at e
      cases c with
      | lst ds =>
        cases e
        obtain ⟨xs, h1, _⟩ := s.at_ n a _ ea q
        exact .base (.lst h1)
      | dic kvs =>
        cases e
        obtain ⟨xs, h1, _⟩ := s.at_ n a _ ea q
        exact .base (.dK h1)
      | obj c fs => cases e; exact absurd rfl ht
      | _ => exact nomatch e
  | glo _ => exact nomatch e
  | exn f => cases e; exact absurd rfl ht
theorem tyOf_exn {S : Sto} {d : D} (e : tyOf S d = some .exn) : (∃ c fs, d = .exn c fs) ∨ ∃ n c fs, d = .cell n ∧ S[n]? = some (.obj c fs) := by
  cases d with
  | exn c fs => exact .inl ⟨c, fs, rfl⟩
  | cell n =>
    simp only [tyOf] at e
    cases q : S[n]? with
    | none => rw [q] at e; exact nomatch e
    | some c =>
      rw [q] at e
      cases c with
      | obj c fs => exact .inr ⟨n, c, fs, rfl, q⟩
      | _ => cases e
  | _ => cases e
/-- an instance of an own class with a state: its type -/
theorem tyX_obj {F : Fx} {μ : List Addr} {H : Hp} {S : Sto} {v : V} {n : Nat} {c : Str} {fs : List (Str × D)} (s : RS F μ H S) (r : RD F μ H v (.cell n)) (e : S[n]? = some (.obj c fs)) : ∃ C : Addr, TyX F.K H v (.ref C) ∧ PlO F.K C := by
  cases r with
  | cell ea =>
    obtain ⟨C, dx, vfs, h1, h2, h3, p⟩ := s.at_ n _ _ ea e
    exact ⟨C, .base (.ins h1 p.cl p.ha p.hn p.tk p.hm), p⟩
theorem tn_plain {T : Tn} (h : T ≠ .non) (h2 : T ≠ .exn) : tnName T ∈ ["tuple", "list", "int", "str", "bool", "dict"] ∧ isTn .exn T = false := by
  cases T <;> first | exact absurd rfl h | exact absurd rfl h2 | exact ⟨by decide, rfl⟩
def mIsi (T : Tn) (m : ME) : ME := mUn (fun S d => (tyOf S d).map fun t => .bl (isTn t T)) m
def mIsiT (Ts : List Tn) (m : ME) : ME := mUn (fun S d => (tyOf S d).map fun t => .bl (Ts.any (isTn t ·))) m
section
variable {X : Cx} {W : WX} {e a b c : Expr} {es : List Expr} {ma mb mc m : ME} {mr : MA} {pos p p1 p2 p3 : Pos}
theorem d_isi (T : Tn) {x : Str} (h : DE X W e m) (hm : X.mg "isinstance" = none) (hx : X.mg x = none) (hv : bootBuiltins x = some (.type (tnName T)) := by decide +kernel) (hT : T ≠ .non := by decide) (hT2 : T ≠ .exn := by decide) (hg : Gl X "isinstance" := by rfl) (hgx : Gl X x := by rfl)
    (hn : x ≠ "__name__" := by decide) (hd : (x == ("__debug__" : Str)) = false := by decide)
    (he : starEach [e, .Name x p1] X.env = (false, eval e X.env) :: starEach [.Name x p1] X.env := by rfl) (hpl : (backTo pos (starEach [.Name x p1] X.env)).any (·.1) = false := by rfl)
    (hs2 : starEach [.Name x p1] X.env = (false, eval (.Name x p1) X.env) :: starEach [] X.env := by rfl) :
    DE X W (.Call (.Name "isinstance" p) [e, .Name x p1] [] pos) (mIsi T m) := by
  obtain ⟨te, pe, k⟩ := h
  refine ⟨_, pe_callB (call_or call_isi call_isV) hg hm (by decide +kernel) (pa_cons pe (pa_cons (pe_bltn (v := .ty (tnName T)) hgx hx hv rfl hn hd) pa_nil hs2) he) (he := he) (hpl := hpl), fun ξ μ σ H ρ S Q g s h => k ξ μ σ H ρ S _ g s (WR.bind h fun x S1 v μ1 H1 u1 s1 r1 h1 => ?_)⟩
  cases q : tyOf S1 x with
  | none => simp only [q] at h1; exact h1.elim
  | some t =>
    simp only [q] at h1
    by_cases hx : t = .exn
    · subst hx
      obtain ⟨p1, p2⟩ := tn_plain hT hT2
      rcases tyOf_exn q with ⟨c, ns, rfl⟩ | ⟨n, c, fs, rfl, en⟩
      rotate_left
      · obtain ⟨C, t, p⟩ := tyX_obj s1 r1 en
        refine .inl ⟨v, .ty (tnName T), _, _, _, rfl, .ty _, t, p.no _ p1, ?_⟩
        have h1 := h1 _ μ1 H1 .refl s1 (.bl _)
        rw [p2] at h1
        exact h1
      cases r1 with
      | @exn a _ _ z =>
        obtain ⟨cls, dd, ⟨z1, D, rfl, z5, z6⟩, ⟨z2, z3, z4⟩, z7⟩ := z
        refine .inr ⟨a, D, dd, .ty (tnName T), .type (tnName T), _, rfl, z2, z5, ?_, fun u hu => hu, z6 _ p1, ?_⟩
        · rcases z7 with ⟨_, rfl⟩ | ⟨d, fs, q1, q2, _⟩
          · exact .inl rfl
          · exact .inr ⟨d, _, q1, q2⟩
        · have h1 := h1 _ μ1 H1 .refl s1 (.bl _)
          rw [p2] at h1
          exact h1
    · exact .inl ⟨v, .ty (tnName T), _, _, _, rfl, .ty _, tyX_of s1 r1 q hx, kit_ty (kit_tn t T hT hT2 hx), h1 _ μ1 H1 .refl s1 (.bl _)⟩
/-! ### built-in functions and types called -/
def CallD (X : Cx) (r : List V → Hp → VK → Prop) (g : Sto → List D → Option D) : Prop :=
  ∀ ξ μ H S ds vs z Q, RS (fx X ξ) μ H S → RDs (fx X ξ) μ H vs ds → g S ds = some z → (∀ w μ' H', Up μ H μ' H' → RS (fx X ξ) μ' H' S → RD (fx X ξ) μ' H' w z → Q w H') → r vs H Q
/-- .. that give a fresh list -/
def CallDL (X : Cx) (r : List V → Hp → VK → Prop) (g : Sto → List D → Option (List D)) : Prop :=
  ∀ ξ μ H S ds vs zs Q, RS (fx X ξ) μ H S → RDs (fx X ξ) μ H vs ds → g S ds = some zs → (∀ p xs μ' H', Up μ H μ' H' → H p = none → RS ((fx X ξ).hold p) μ' H' S → RDs ((fx X ξ).hold p) μ' H' xs zs → H' p = some (.lst xs) → Q (.ref p) H') → r vs H Q
def mCallB (g : Sto → List D → Option D) (a : MA) : ME := fun ρ S => (a ρ S).bind fun xs S1 => match g S1 xs with
  | some z => .ok z S1
  | none => .bad
def mCallBL (g : Sto → List D → Option (List D)) (a : MA) : MA := fun ρ S => (a ρ S).bind fun xs S1 => match g S1 xs with
  | some z => .ok z S1
  | none => .bad
theorem d_callB {id : String} {x : Str} {r : List V → Hp → VK → Prop} {g : Sto → List D → Option D} (hc : CallR X (.builtin id) r) (hd : CallD X r g) (hm : X.mg x = none) (ha : DA X W (e :: es) mr) (hv : bootBuiltins x = some (.builtin id) := by decide +kernel) (hg : Gl X x := by rfl)
    (hn : x ≠ "__name__" := by decide) (hdb : (x == ("__debug__" : Str)) = false := by decide)
    (he : starEach (e :: es) X.env = (false, eval e X.env) :: starEach es X.env := by rfl) (hpl : (backTo pos (starEach es X.env)).any (·.1) = false := by rfl) : DE X W (.Call (.Name x p) (e :: es) [] pos) (mCallB g mr) := by
  obtain ⟨ta, pa, ka⟩ := ha
  refine ⟨_, pe_callB hc hg hm hv pa hn hdb he hpl, fun ξ μ σ H ρ S Q g0 s h => ka ξ μ σ H ρ S _ g0 s (WR.bind h fun xs S1 vs μ1 H1 u1 s1 r1 h1 => ?_)⟩
  cases q : g S1 xs with
  | none => rw [q] at h1; exact h1.elim
  | some z =>
    rw [q] at h1
    exact hd ξ μ1 H1 S1 xs vs z Q s1 r1 q h1
theorem d_callTy {T : String} {x : Str} {r : List V → Hp → VK → Prop} {g : Sto → List D → Option D} (hc : CallR X (.type T) r) (hd : CallD X r g) (hm : X.mg x = none) (ha : DA X W (e :: es) mr) (hv : bootBuiltins x = some (.type T) := by decide +kernel) (hg : Gl X x := by rfl)
    (hn : x ≠ "__name__" := by decide) (hdb : (x == ("__debug__" : Str)) = false := by decide)
    (he : starEach (e :: es) X.env = (false, eval e X.env) :: starEach es X.env := by rfl) (hpl : (backTo pos (starEach es X.env)).any (·.1) = false := by rfl) : DE X W (.Call (.Name x p) (e :: es) [] pos) (mCallB g mr) := by
  obtain ⟨ta, pa, ka⟩ := ha
  refine ⟨_, pe_callTy hc hg hm hv pa hn hdb he hpl, fun ξ μ σ H ρ S Q g0 s h => ka ξ μ σ H ρ S _ g0 s (WR.bind h fun xs S1 vs μ1 H1 u1 s1 r1 h1 => ?_)⟩
  cases q : g S1 xs with
  | none => rw [q] at h1; exact h1.elim
  | some z =>
    rw [q] at h1
    exact hd ξ μ1 H1 S1 xs vs z Q s1 r1 q h1
theorem dl_callB {id : String} {x : Str} {r : List V → Hp → VK → Prop} {g : Sto → List D → Option (List D)} (hc : CallR X (.builtin id) r) (hd : CallDL X r g) (hm : X.mg x = none) (ha : DA X W (e :: es) mr) (hv : bootBuiltins x = some (.builtin id) := by decide +kernel) (hg : Gl X x := by rfl)
    (hn : x ≠ "__name__" := by decide) (hdb : (x == ("__debug__" : Str)) = false := by decide)
    (he : starEach (e :: es) X.env = (false, eval e X.env) :: starEach es X.env := by rfl) (hpl : (backTo pos (starEach es X.env)).any (·.1) = false := by rfl) : DL X W (.Call (.Name x p) (e :: es) [] pos) (mCallBL g mr) := by
  obtain ⟨ta, pa, ka⟩ := ha
  refine ⟨_, pe_callB hc hg hm hv pa hn hdb he hpl, fun ξ μ σ H ρ S Q g0 s h => ka ξ μ σ H ρ S _ g0 s (WL'.bind h fun xs S1 vs μ1 H1 u1 s1 r1 h1 => ?_)⟩
  cases q : g S1 xs with
  | none => rw [q] at h1; exact h1.elim
  | some z =>
    rw [q] at h1
    exact hd ξ μ1 H1 S1 xs vs z Q s1 r1 q h1
def gLen : Sto → List D → Option D := fun S ds => match ds with
  | [.str z] => if z.length ≤ 16777216 then some (.int z.length) else none
  | [d] => (seqOf S d).map fun ds => .int ds.length
  | _ => none
theorem c_len : CallD X (fun xs H Q => ∃ x n, xs = [x] ∧ LenV X.K x H n ∧ Q (.int n) H) gLen := by
  intro ξ μ H S ds vs z Q s r e k
  unfold gLen at e
  cases r with
  | nil => exact nomatch e
  | @cons v vs d ds r rr =>
    cases rr with
    | cons _ _ => cases d <;> exact nomatch e
    | nil =>
      have main : ∀ es, seqOf S d = some es → D.int es.length = z → ∃ x n, [v] = [x] ∧ LenV X.K x H n ∧ Q (.int n) H := fun es h1 h2 => by
        obtain ⟨a, xs, rfl, h3, h4⟩ := RD.seqS s r h1
        refine ⟨.ref a, xs.length, rfl, h3.imp (fun z => ⟨xs, z, rfl⟩) fun z => ⟨xs, z, rfl⟩, ?_⟩
        rw [h4.length]
        subst h2
        exact k _ μ H .refl s (.int _)
      cases r with
      | str x =>
        simp only at e
        by_cases c : x.length ≤ 16777216
        · rw [if_pos c] at e; cases e
          exact ⟨_, _, rfl, ⟨by rw [sizeLine_eq]; exact c, rfl⟩, k _ μ H .refl s (.int _)⟩
        · rw [if_neg c] at e; exact nomatch e
      | tup f r => exact main _ rfl (Option.some.inj e)
      | lst f r => exact main _ rfl (Option.some.inj e)
      | @cell a n ea =>
        simp only at e
        cases q : seqOf S (.cell n) with
        | none => rw [q] at e; exact nomatch e
        | some es => rw [q] at e; exact main es q (Option.some.inj e)
      | _ => exact nomatch e
def gInt1 : Sto → List D → Option D := fun _ ds => match ds with
  | [.int i] => some (.int i)
  | [.bl b] => some (.int (if b then 1 else 0))
  | _ => none
theorem c_int1 : CallD X (fun xs H Q => (∃ i, xs = [.int i] ∧ Q (.int i) H) ∨ ∃ k, xs = [.bl k] ∧ Q (.int (if k then 1 else 0)) H) gInt1 := by
  intro ξ μ H S ds vs z Q s r e k
  unfold gInt1 at e
  cases r with
  | nil => exact nomatch e
  | @cons v vs d ds r rr =>
    cases rr with
    | cons _ _ => cases d <;> exact nomatch e
    | nil =>
      cases r with
      | int i => cases e; exact .inl ⟨i, rfl, k _ μ H .refl s (.int _)⟩
      | bl b => cases e; exact .inr ⟨b, rfl, k _ μ H .refl s (.int _)⟩
      | _ => exact nomatch e
def gII (f : Int → Int → Int) : Sto → List D → Option D := fun _ ds => match ds with
  | [.int i, .int j] => some (.int (f i j))
  | _ => none
theorem c_II {f : Int → Int → Int} : CallD X (fun xs H Q => ∃ i j, xs = [.int i, .int j] ∧ Q (.int (f i j)) H) (gII f) := by
  intro ξ μ H S ds vs z Q s r e k
  unfold gII at e
  cases r with
  | nil => exact nomatch e
  | @cons v vs d ds r rr =>
    cases rr with
    | nil => cases d <;> exact nomatch e
    | @cons v2 vs2 d2 ds2 r2 rr2 =>
      cases rr2 with
      | cons _ _ => cases d <;> cases d2 <;> exact nomatch e
      | nil =>
        cases r with
        | int i =>
          cases r2 with
          | int j => cases e; exact ⟨i, j, rfl, k _ μ H .refl s (.int _)⟩
          | _ => exact nomatch e
        | _ => exact nomatch e
abbrev gMax2 := gII fun i j => if j > i then j else i
abbrev gMin2 := gII fun i j => if j < i then j else i
def gTuple : Sto → List D → Option D := fun S ds => match ds with
  | [d] => (seqOf S d).map .tup
  | _ => none
theorem c_tuple : CallD X (fun xs H Q => ∃ p ys, xs = [.ref p] ∧ ((SqL X.K H p ys ∧ NwT H Q ys) ∨ (SqT X.K H p ys ∧ Q (.ref p) H))) gTuple := by
  intro ξ μ H S ds vs z Q s r e k
  unfold gTuple at e
  cases r with
  | nil => exact nomatch e
  | @cons v vs d ds r rr =>
    cases rr with
    | cons _ _ => exact nomatch e
    | nil =>
      simp only at e
      have lst : ∀ es, lstOf S d = some es → D.tup es = z → ∃ p ys, [v] = [.ref p] ∧ ((SqL X.K H p ys ∧ NwT H Q ys) ∨ (SqT X.K H p ys ∧ Q (.ref p) H)) := fun es h1 h2 => by
        obtain ⟨a, xs, rfl, h3, h4⟩ := RD.lstS s r h1
        subst h2
        exact ⟨a, xs, rfl, .inl ⟨h3, fun l o hl ho => k _ μ _ (.fresh hl) (s.fresh hl) (.tup (.inl ⟨.new ho, s.out hl, s.outX hl⟩) (h4.up (.fresh hl)))⟩⟩
      cases r with
      | tup f r =>
        cases Option.some.inj e
        exact ⟨_, _, rfl, .inr ⟨f.sq, k _ μ H .refl s (.tup f r)⟩⟩
      | lst f r => exact lst _ rfl (Option.some.inj e)
      | @cell a n ea =>
        cases q : lstOf S (.cell n) with
        | none =>
          have e : (lstOf S (.cell n)).map D.tup = some z := e
          rw [q] at e; exact nomatch e
        | some es =>
          have e : (lstOf S (.cell n)).map D.tup = some z := e
          rw [q] at e; exact lst es q (Option.some.inj e)
      | _ => exact nomatch e
def gList : Sto → List D → Option (List D) := fun S ds => match ds with
  | [d] => seqOf S d
  | _ => none
def blsOf : List D → Option (List Bool)
  | [] => some []
  | .bl b :: ds => (blsOf ds).map (b :: ·)
  | _ :: _ => none
theorem bls_of {F : Fx} {μ : List Addr} {H : Hp} : ∀ {vs : List V} {ds : List D} {bs : List Bool}, RDs F μ H vs ds → blsOf ds = some bs → vs = bs.map V.bl
  | _, [], bs, r, e => by cases r; cases e; rfl
  | _, d :: ds, bs, r, e => by
    cases r with
    | cons a b =>
      cases a with
      | bl x =>
        have e : (blsOf ds).map (x :: ·) = some bs := e
        cases q : blsOf ds with
        | none => rw [q] at e; exact nomatch e
        | some cs =>
          rw [q] at e; cases e
          rw [bls_of b q] <;> rfl
      | _ => exact nomatch e
def gAll : Sto → List D → Option D := fun S ds => match ds with
  | [d] => (lstOf S d).bind fun es => (blsOf es).map fun bs => .bl (bs.all id)
  | _ => none
theorem c_all : CallD X (rAll X.K) gAll := by
  intro ξ μ H S ds vs z Q s r e k
  unfold gAll at e
  cases r with
  | nil => exact nomatch e
  | @cons v vs d ds r rr =>
    cases rr with
    | cons _ _ => exact nomatch e
    | nil =>
      simp only at e
      cases q : lstOf S d with
      | none => rw [q] at e; exact nomatch e
      | some es =>
        rw [q] at e
        have e : (blsOf es).map (fun bs => D.bl (bs.all id)) = some z := e
        cases q' : blsOf es with
        | none => rw [q'] at e; exact nomatch e
        | some bs =>
          rw [q'] at e; cases e
          obtain ⟨a, xs, rfl, h1, h2⟩ := RD.lstS s r q
          have e := bls_of h2 q'
          subst e
          exact ⟨a, bs, rfl, h1, k _ μ H .refl s (.bl _)⟩
/-! ### lists put together -/
def mCatL (a b : MA) : MA := fun ρ S => (a ρ S).bind fun xs S1 => (b ρ S1).bind fun ys S2 => if xs.length + ys.length ≤ 16777216 then .ok (xs ++ ys) S2 else .bad
theorem WL'.bindL {F : Fx} {Q : VK} {Q1 : VK} {Wx : Value → Option Addr → Hp → Prop} {μ : List Addr} {H : Hp} {r : Res (List D)} {f : List D → Sto → Res (List D)} (h : WL' F (r.bind f) Q Wx μ H)
    (k : ∀ ds S1 p xs μ1 H1, Up μ H μ1 H1 → H p = none → RS (F.hold p) μ1 H1 S1 → RDs (F.hold p) μ1 H1 xs ds → H1 p = some (.lst xs) → WL' F (f ds S1) Q Wx μ1 H1 → Q1 (.ref p) H1) : WL' F r Q1 Wx μ H := by
  cases r with
  | ok x S1 => exact fun p xs μ1 H1 u1 hp s1 r1 e1 => k x S1 p xs μ1 H1 u1 hp s1 r1 e1 (WL'.shift u1 h)
  | exc c fs S => exact h
  | bad => exact h
theorem XR.hold {F : Fx} {μ : List Addr} {H : Hp} {cls : Value} {dd : Option Addr} {c : Str} {fs : List (Str × D)} {p : Addr} (h : XR (F.hold p) μ H cls dd c fs) : XR F μ H cls dd c fs := by
  obtain ⟨h1, h2⟩ := h
  refine ⟨h1, h2.imp id ?_⟩
  rintro ⟨d, vfs, e, h3, h4, h6, h5⟩
  exact ⟨d, vfs, e, h3, h4, fun q => h6 (List.mem_cons_of_mem _ q), Paired.mapP h5 fun _ _ z => ⟨z.1, z.2.mv .free⟩⟩
theorem dl_cat {na nb : MA} (ha : DL X W a na) (hb : DL X W b nb) : DL X W (.BinOp a .Add b pos) (mCatL na nb) := by
  obtain ⟨ta, pa, ka⟩ := ha
  obtain ⟨tb, pb, kb⟩ := hb
  refine ⟨_, pe_op op_cat pa pb, fun ξ μ σ H ρ S Q g s h => ka ξ μ σ H ρ S _ g s (WL'.bindL h fun ds S1 p xs μ1 H1 u1 hp s1 r1 e1 h1 => ?_)⟩
  refine kb (p :: ξ) μ1 σ H1 ρ S1 _ ?_ s1 ?_
  · exact ⟨g.len, fun i d e => by
      obtain ⟨v, h, r⟩ := (g.up u1).at_ i d e
      obtain ⟨v', h', r'⟩ := g.at_ i d e
      rw [h] at h'; cases h'
      have m : Mv (fx X ξ) μ H ((fx X ξ).hold p) μ1 H1 := ⟨fun {a xs} q => by
        rcases q.up u1 with ⟨z, n, nx⟩ | z
        · rcases q with ⟨z0, _⟩ | z0
          · refine .inl ⟨z, n, fun m => (List.mem_cons.mp m).elim (fun e => ?_) nx⟩
            subst e
            obtain ⟨o, _, z0⟩ := z0
            rw [hp] at z0; cases z0
          · exact .inr z0
        · exact .inr z, fun {a xs} q => by
        rcases q.up u1 with ⟨z, n, nx⟩ | z
        · rcases q with ⟨z0, _⟩ | z0
          · refine .inl ⟨z, n, fun m => (List.mem_cons.mp m).elim (fun e => ?_) nx⟩
            subst e
            rcases z0 with z0 | ⟨o, z0⟩ <;> (rw [hp] at z0; cases z0)
          · exact .inr z0
        · exact .inr z, fun q => u1.get q, rfl, fun q => q.upHold u1 hp⟩
      exact ⟨v, h, r'.mv m⟩⟩
  cases e : nb ρ S1 with
  | bad => rw [e] at h1; exact h1.elim
  | exc c fs S2 =>
    rw [e] at h1
    exact fun cls dd μ' H' u' s' x' => h1 cls dd μ' H' u' (RS.free (F := fx X ξ) (p := p) s') (XR.hold (F := fx X ξ) (p := p) x')
  | ok es S2 =>
    rw [e] at h1
    intro q ys μ2 H2 u2 hq s2 r2 e2
    have hpq : p ∉ μ1 := (s1.xi p List.mem_cons_self).1
    have ep := u2.keep _ _ e1 hpq
    by_cases c : ds.length + es.length ≤ 16777216
    · have h1 : WL' (fx X ξ) (if ds.length + es.length ≤ 16777216 then Res.ok (ds ++ es) S2 else .bad) Q (fun cls dd H' => W cls dd σ H') μ1 H1 := h1
      rw [if_pos c] at h1
      refine ⟨p, q, xs, ys, rfl, rfl, ep, e2, by rw [r1.length, r2.length, sizeLine_eq]; exact c, fun r hr => ?_⟩
      have rr : RDs (fx X ξ) μ2 H2 (xs ++ ys) (ds ++ es) := RDs.append ((r1.mv .free).up u2) ((RDs.free (F := fx X ξ) (p := p) es (RDs.free (F := fx X (p :: ξ)) (p := q) es r2)))
      have ss : RS (fx X ξ) μ2 H2 S2 := RS.free (F := fx X ξ) (p := p) (RS.free (F := fx X (p :: ξ)) (p := q) s2)
      have nr : r ∉ μ1 := fun z => ss.out hr (u2.mem z)
      exact h1 r _ μ2 _ (u2.trans (.fresh hr)) (u2.back hr nr) (ss.holds hr) (rr.mv (.holds hr)) upd_same
    · have h1 : WL' (fx X ξ) (if ds.length + es.length ≤ 16777216 then Res.ok (ds ++ es) S2 else .bad) Q (fun cls dd H' => W cls dd σ H') μ1 H1 := h1
      rw [if_neg c] at h1
      exact h1.elim
end
/-! ### statements -/
def mNop : MS := fun ρ S => .nx ρ S
def mSeq (a b : MS) : MS := fun ρ S => match a ρ S with
  | .nx ρ1 S1 => b ρ1 S1
  | o => o
def ofRes {α : Type} (r : Res α) (ρ : Rho) (k : α → Sto → Out) : Out := match r with
  | .ok a S => k a S
  | .exc c fs S => .exc c fs ρ S
  | .bad => .bad
def mAsg (i : Nat) (m : ME) : MS := fun ρ S => ofRes (m ρ S) ρ fun d S1 => .nx (ρ.set i (some d)) S1
def mRet (m : ME) : MS := fun ρ S => ofRes (m ρ S) ρ fun d S1 => .rt d S1
def mRetN : MS := fun _ S => .rt .non S
def mDrop (m : ME) : MS := fun ρ S => ofRes (m ρ S) ρ fun _ S1 => .nx ρ S1
def mIfS (c : ME) (a b : MS) : MS := fun ρ S => ofRes (c ρ S) ρ fun d S1 => match d with
  | .bl true => a ρ S1
  | .bl false => b ρ S1
  | _ => .bad
def mBrk : MS := fun ρ S => .bk ρ S
def mCont : MS := fun ρ S => .ct ρ S
section
variable {F : Fx} {α β : Type} {rel : List Addr → Hp → β → α → Prop} {μ : List Addr} {H : Hp} {E : Ends} {W : WX} {σ : St} {ρ : Rho}
/-- first r, then the statement's rest -/
theorem WS'.bind {r : Res α} {f : α → Sto → Out} {Q1 : β → Hp → Prop} (g : RG F μ H σ ρ) (h : WS' F (ofRes r ρ f) E W μ H)
    (k : ∀ x S1 v μ1 H1, Up μ H μ1 H1 → RS F μ1 H1 S1 → rel μ1 H1 v x → WS' F (f x S1) E W μ1 H1 → Q1 v H1) : WR F rel r Q1 (fun cls dd H' => W cls dd σ H') μ H := by
  cases r with
  | ok x S1 => exact fun v μ1 H1 u1 s1 r1 => k x S1 v μ1 H1 u1 s1 r1 (WS'.shift u1 h)
  | exc c fs S => exact fun cls dd μ' H' u' s' x' => h cls dd σ μ' H' u' s' (g.up u') x'
  | bad => exact h
theorem WS'.bindT {r : Res D} {f : D → Sto → Out} {Q1 : Bool → Hp → Prop} (g : RG F μ H σ ρ) (h : WS' F (ofRes r ρ f) E W μ H) (hb : ∀ d S, (∀ b, d ≠ .bl b) → f d S = .bad)
    (k : ∀ b S1 μ1 H1, Up μ H μ1 H1 → RS F μ1 H1 S1 → WS' F (f (.bl b) S1) E W μ1 H1 → Q1 b H1) : WT' F r Q1 (fun cls dd H' => W cls dd σ H') μ H := by
  cases r with
  | ok d S1 =>
    have h : WS' F (f d S1) E W μ H := h
    cases d with
    | bl b => exact fun μ1 H1 u1 s1 => k b S1 μ1 H1 u1 s1 (WS'.shift u1 h)
    | _ =>
      rw [hb _ _ (by intro b e; cases e)] at h
      exact h
  | exc c fs S => exact fun cls dd μ' H' u' s' x' => h cls dd σ μ' H' u' s' (g.up u') x'
  | bad => exact h
end
section
variable {X : Cx} {W : WX} {e a b c : Expr} {es : List Expr} {st : Stmt} {sts ts : List Stmt} {ma mb mc m : ME} {mr : MA} {m1 m2 : MS} {pos p p1 p2 p3 : Pos}
theorem dss_nil : DSs X W [] mNop := ⟨_, pss_nil, fun ξ μ σ H ρ S D g s h => h σ μ H .refl s g⟩
theorem WS'.seq {F : Fx} {μ : List Addr} {H : Hp} {D : Ends} {W : WX} {o : Out} {k : Rho → Sto → Out} {u : TS} (h : WS' F (match o with | .nx ρ1 S1 => k ρ1 S1 | o => o) D W μ H)
    (hu : ∀ σ ρ1 S1 μ1 H1, Up μ H μ1 H1 → RS F μ1 H1 S1 → RG F μ1 H1 σ ρ1 → WS' F (k ρ1 S1) D W μ1 H1 → u D σ H1) : WS' F o { D with nx := u D } W μ H := by
  cases o with
  | nx ρ1 S1 => exact fun σ μ1 H1 u1 s1 g1 => hu σ ρ1 S1 μ1 H1 u1 s1 g1 (WS'.shift u1 h)
  | _ => exact h
theorem dss_cons (h1 : DS X W st m1) (h2 : DSs X W sts m2) : DSs X W (st :: sts) (mSeq m1 m2) := by
  obtain ⟨ta, pa, ka⟩ := h1
  obtain ⟨tb, pb, kb⟩ := h2
  exact ⟨_, pss_cons pa pb, fun ξ μ σ H ρ S D g s h => ka ξ μ σ H ρ S _ g s (WS'.seq h fun σ' ρ1 S1 μ1 H1 u1 s1 g1 h1 => kb ξ μ1 σ' H1 ρ1 S1 D g1 s1 h1)⟩
theorem dss_one (h1 : DS X W st m1) : DSs X W [st] m1 := let ⟨_, p, k⟩ := h1; ⟨_, pss_one p, k⟩
theorem ds_set (i : Nat) {x : Str} {pos' : Pos} (hN : X.N.Nodup) (he : DE X W e m) (hi : X.N[i]? = some x := by rfl) (hx : Loc X.env.scope x := by first | exact Or.inl rfl | exact Or.inr rfl) (hs : swapsWith e (some (.Name x pos')) pos.line X.env = pure false := by rfl)
    (hf : X.fn x = true ∨ X.env.scope.names.lookup x = some .local := by first | exact .inl rfl | exact .inr rfl) : DS X W (.Assign [.Name x pos'] e pos) (mAsg i m) := by
  obtain ⟨te, p, k⟩ := he
  refine ⟨_, ps_set hN hi hx p hs hf, fun ξ μ σ H ρ S D g s h => k ξ μ σ H ρ S _ g s (WS'.bind g h fun x S1 v μ1 H1 u1 s1 r1 h1 => ?_)⟩
  exact h1 _ μ1 H1 .refl s1 ((g.up u1).set i r1)
theorem ds_ret (he : DE X W e m) : DS X W (.Return (some e) pos) (mRet m) := by
  obtain ⟨te, p, k⟩ := he
  exact ⟨_, ps_ret p, fun ξ μ σ H ρ S D g s h => k ξ μ σ H ρ S _ g s (WS'.bind g h fun x S1 v μ1 H1 u1 s1 r1 h1 => h1 _ μ1 H1 .refl s1 r1)⟩
theorem ds_expr (he : DE X W e m) (hs : swapsWith e none pos.line X.env = pure false := by rfl) : DS X W (.Expr e pos) (mDrop m) := by
  obtain ⟨te, p, k⟩ := he
  exact ⟨_, ps_expr p hs, fun ξ μ σ H ρ S D g s h => k ξ μ σ H ρ S _ g s (WS'.bind g h fun x S1 v μ1 H1 u1 s1 r1 h1 => h1 _ μ1 H1 .refl s1 (g.up u1))⟩
theorem ds_if (hc : DT X W c mc) (ha : DSs X W sts m1) (hb : DSs X W ts m2) : DS X W (.If c sts ts pos) (mIfS mc m1 m2) := by
  obtain ⟨tc, pc, kc⟩ := hc
  obtain ⟨ta, pa, ka⟩ := ha
  obtain ⟨tb, pb, kb⟩ := hb
  refine ⟨_, ps_if pc pa pb, fun ξ μ σ H ρ S D g s h => kc ξ μ σ H ρ S _ g s (WS'.bindT g h (fun d S h => by cases d <;> first | rfl | exact absurd rfl (h _)) fun c S1 μ1 H1 u1 s1 h1 => ?_)⟩
  cases c with
  | true => exact ka ξ μ1 σ H1 ρ S1 D (g.up u1) s1 h1
  | false => exact kb ξ μ1 σ H1 ρ S1 D (g.up u1) s1 h1
/-! ### targets -/
structure DG (X : Cx) (tg : Expr) (f : D → Rho → Option Rho) (is : List Nat) : Prop where
  ex : ∃ t, PG X tg t ∧ ∀ ξ μ σ H ρ v d ρ' (Q : St → Hp → Prop), RG (fx X ξ) μ H σ ρ → RD (fx X ξ) μ H v d → f d ρ = some ρ' →
    (∀ σ', RG (fx X ξ) μ H σ' ρ' → (∀ js : List Nat, (∀ i ∈ is, i ∈ js) → wipe σ' js = wipe σ js) → Q σ' H) → t v σ H Q
structure DGs (X : Cx) (tg : List Expr) (f : List D → Rho → Option Rho) (is : List Nat) : Prop where
  ex : ∃ t, PGs X tg t ∧ ∀ ξ μ σ H ρ vs ds ρ' (Q : St → Hp → Prop), RG (fx X ξ) μ H σ ρ → RDs (fx X ξ) μ H vs ds → f ds ρ = some ρ' →
    (∀ σ', RG (fx X ξ) μ H σ' ρ' → (∀ js : List Nat, (∀ i ∈ is, i ∈ js) → wipe σ' js = wipe σ js) → Q σ' H) → t vs σ H Q
theorem wipe_get (σ : St) (i : Nat) : ∀ js : List Nat, (wipe σ js)[i]? = if i ∈ js ∧ i < σ.length then some none else σ[i]?
  | [] => by simp [wipe]
  | j :: js => by
    unfold wipe
    have ih := wipe_get σ i js
    by_cases hj : j = i
    · subst hj
      by_cases hl : j < σ.length
      · rw [List.getElem?_set_self (by rw [wipe_length]; exact hl), if_pos ⟨List.mem_cons_self, hl⟩]
      · rw [List.getElem?_eq_none (by rw [List.length_set, wipe_length]; omega), if_neg (fun z => hl z.2), List.getElem?_eq_none (by omega)]
    · rw [List.getElem?_set_ne hj, ih]
      have e : (i ∈ j :: js ∧ i < σ.length) ↔ (i ∈ js ∧ i < σ.length) := by
        constructor
        · rintro ⟨z, l⟩
          exact ⟨(List.mem_cons.mp z).resolve_left fun q => hj q.symm, l⟩
        · rintro ⟨z, l⟩
          exact ⟨List.mem_cons_of_mem _ z, l⟩
      by_cases q : i ∈ js ∧ i < σ.length
      · rw [if_pos q, if_pos (e.mpr q)]
      · rw [if_neg q, if_neg fun z => q (e.mp z)]
theorem wipe_set {σ : St} {i : Nat} {o : Option V} {js : List Nat} (h : i ∈ js) : wipe (σ.set i o) js = wipe σ js := by
  refine List.ext_getElem? fun k => ?_
  rw [wipe_get, wipe_get, List.length_set]
  by_cases q : k ∈ js ∧ k < σ.length
  · rw [if_pos q, if_pos q]
  · rw [if_neg q, if_neg q]
    by_cases e : i = k
    · subst e
      have l : ¬ i < σ.length := fun l => q ⟨h, l⟩
      rw [List.getElem?_eq_none (by rw [List.length_set]; omega), List.getElem?_eq_none (by omega)]
    · rw [List.getElem?_set_ne e]
def tgN (i : Nat) : D → Rho → Option Rho := fun d ρ => some (ρ.set i (some d))
theorem dg_name (i : Nat) {x : Str} (hN : X.N.Nodup) (hi : X.N[i]? = some x := by rfl) (hx : Loc X.env.scope x := by first | exact Or.inl rfl | exact Or.inr rfl) (hf : X.fn x = true ∨ X.env.scope.names.lookup x = some .local := by first | exact .inl rfl | exact .inr rfl) : DG X (.Name x pos) (tgN i) [i] :=
  ⟨_, pg_name hN hi hx hf, fun ξ μ σ H ρ v d ρ' Q g r e k => by
    cases e
    exact k _ (g.set i r) fun js h => wipe_set (h i List.mem_cons_self)⟩
def tgNil : List D → Rho → Option Rho := fun ds ρ => match ds with
  | [] => some ρ
  | _ => none
def tgCons (f : D → Rho → Option Rho) (g : List D → Rho → Option Rho) : List D → Rho → Option Rho := fun ds ρ => match ds with
  | d :: ds => (f d ρ).bind fun ρ1 => g ds ρ1
  | [] => none
theorem dgs_nil : DGs X [] tgNil [] := ⟨_, pgs_nil, fun ξ μ σ H ρ vs ds ρ' Q g r e k => by
  cases r with
  | nil => cases e; exact ⟨rfl, k σ g fun _ _ => rfl⟩
  | cons _ _ => exact nomatch e⟩
theorem dgs_cons {f : D → Rho → Option Rho} {fs : List D → Rho → Option Rho} {is js : List Nat} (h1 : DG X e f is) (h2 : DGs X es fs js) (hs : (assignEach (e :: es) X.env).map (·.2) = assign e X.env :: (assignEach es X.env).map (·.2) := by rfl) : DGs X (e :: es) (tgCons f fs) (is ++ js) := by
  obtain ⟨t1, p1, k1⟩ := h1
  obtain ⟨t2, p2, k2⟩ := h2
  refine ⟨_, pgs_cons p1 p2 hs, fun ξ μ σ H ρ vs ds ρ' Q g r e k => ?_⟩
  cases r with
  | nil => exact nomatch e
  | @cons v vs d ds r rr =>
    have e : (f d ρ).bind (fun ρ1 => fs ds ρ1) = some ρ' := e
    cases q : f d ρ with
    | none => rw [q] at e; exact nomatch e
    | some ρ1 =>
      rw [q] at e
      refine ⟨v, vs, rfl, k1 ξ μ σ H ρ v d ρ1 _ g r q fun σ1 g1 w1 => ?_⟩
      refine k2 ξ μ σ1 H ρ1 vs ds ρ' Q g1 rr e fun σ2 g2 w2 => k σ2 g2 fun ks hk => ?_
      rw [w2 ks fun i hi => hk i (List.mem_append_right _ hi), w1 ks fun i hi => hk i (List.mem_append_left _ hi)]
def tgT (n : Nat) (f : List D → Rho → Option Rho) : D → Rho → Option Rho := fun d ρ => match d with
  | .tup ds => if ds.length = n then f ds ρ else none
  | _ => none
theorem dg_tup {k n : Nat} {f : List D → Rho → Option Rho} {is : List Nat} {tp : Pos} (hc : X.calm = true) (h : DGs X es f is) (hn : (assignEach es X.env).length = n := by rfl) (hst : (assignEach es X.env).findIdx? (·.1) = none := by rfl) : DG X (.Tuple es k tp) (tgT n f) is := by
  obtain ⟨t, p, k⟩ := h
  refine ⟨_, pg_tup hc p hn hst, fun ξ μ σ H ρ v d ρ' Q g r e kk => ?_⟩
  cases r with
  | @tup a xs ds fz r =>
    unfold tgT at e
    by_cases c : ds.length = n
    · simp only [if_pos c] at e
      exact ⟨a, xs, rfl, fz.sq, by rw [r.length]; exact c, k ξ μ σ H ρ xs ds ρ' Q g r e kk⟩
    · simp only [if_neg c] at e
      exact nomatch e
  | _ => exact nomatch e
/-- target = e -/
def mAsgG (f : D → Rho → Option Rho) (m : ME) : MS := fun ρ S => ofRes (m ρ S) ρ fun d S1 => match f d ρ with
  | some ρ1 => .nx ρ1 S1
  | none => .bad
theorem ds_asg {tg : Expr} {f : D → Rho → Option Rho} {is : List Nat} (he : DE X W e m) (hg : DG X tg f is) (hs : swapsWithSole [tg] e pos.line X.env = pure false := by rfl) (hw : swappedStores [tg] e X.env = pure none := by rfl) (h1 : (assignEach [tg] X.env).map (·.2) = [assign tg X.env] := by rfl) : DS X W (.Assign [tg] e pos) (mAsgG f m) := by
  obtain ⟨te, p, k⟩ := he
  obtain ⟨tg, pg, kg⟩ := hg
  refine ⟨_, ps_asg p pg hs hw h1, fun ξ μ σ H ρ S D g s h => k ξ μ σ H ρ S _ g s (WS'.bind g h fun x S1 v μ1 H1 u1 s1 r1 h1 => ?_)⟩
  cases q : f x ρ with
  | none => rw [q] at h1; exact h1.elim
  | some ρ1 =>
    rw [q] at h1
    exact kg ξ μ1 σ H1 ρ v x ρ1 _ (g.up u1) r1 q fun σ' g' _ => h1 σ' μ1 H1 .refl s1 g'
/-- o[i] = e, o a list's cell -/
def mSetIx (m o i : ME) : MS := fun ρ S => ofRes (m ρ S) ρ fun d S1 => ofRes (o ρ S1) ρ fun x S2 => ofRes (i ρ S2) ρ fun y S3 => match x, y with
  | .cell n, .int j => match S3[n]? with
    | some (.lst ds) => match ixN ds.length j with
      | some k => .nx ρ (S3.set n (.lst (ds.set k d)))
      | none => .bad
    | _ => .bad
  | _, _ => .bad
theorem ds_setIx {o i : Expr} {mo mi : ME} (he : DE X W e m) (ho : DE X W o mo) (hi : DE X W i mi)
    (ha : ∀ v, assign (.Subscript o i p) X.env v = (do
      let ov ← holding [v] (eval o X.env)
      let iv ← holding [v, ov] (eval i X.env)
      standAt p
      holding [v, ov, iv] (setItem ov iv v)
      release [v, ov, iv] []) := by intro _; rfl) (hs : swapsWithSole [.Subscript o i p] e pos.line X.env = pure false := by rfl) (hw : swappedStores [.Subscript o i p] e X.env = pure none := by rfl) : DS X W (.Assign [.Subscript o i p] e pos) (mSetIx m mo mi) := by
  obtain ⟨te, pe, ke⟩ := he
  obtain ⟨to, po, ko⟩ := ho
  obtain ⟨ti, pi, ki⟩ := hi
  refine ⟨_, ps_asg pe (pg_sub po pi set_list ha) hs hw, fun ξ μ σ H ρ S D g s h => ke ξ μ σ H ρ S _ g s (WS'.bind g h fun d S1 v μ1 H1 u1 s1 r1 h1 => ?_)⟩
  refine ko ξ μ1 σ H1 ρ S1 _ (g.up u1) s1 (WS'.bind (g.up u1) h1 fun x S2 v2 μ2 H2 u2 s2 r2 h2 => ?_)
  refine ki ξ μ2 σ H2 ρ S2 _ (g.up (u1.trans u2)) s2 (WS'.bind (g.up (u1.trans u2)) h2 fun y S3 v3 μ3 H3 u3 s3 r3 h3 => ?_)
  have rd := r1.up (u2.trans u3)
  have rx := r2.up u3
  cases rx with
  | @cell a n ea =>
    cases r3 with
    | int j =>
      simp only at h3
      cases q : S3[n]? with
      | none => rw [q] at h3; exact h3.elim
      | some c =>
        rw [q] at h3
        cases c with
        | lst ds =>
          simp only at h3
          cases q2 : ixN ds.length j with
          | none => rw [q2] at h3; exact h3.elim
          | some k =>
            rw [q2] at h3
            obtain ⟨xs, e1, e2⟩ := s3.at_ n a _ ea q
            refine ⟨a, xs, j, k, rfl, rfl, e1, by rw [e2.length]; exact q2, ?_⟩
            exact h3 σ μ3 _ (.write ea) (s3.write ea ⟨_, upd_same, ((e2.set k rd).up (.write ea))⟩) (g.up (u1.trans (u2.trans (u3.trans (.write ea)))))
        | _ => exact h3.elim
    | _ => exact h3.elim
  | _ => exact h3.elim
/-- o.append(e), o a list's cell -/
def mApp (o m : ME) : MS := fun ρ S => ofRes (o ρ S) ρ fun x S1 => match x with
  | .cell n => match S1[n]? with
    | some (.lst _) => ofRes (m ρ S1) ρ fun d S2 => match S2[n]? with
      | some (.lst ds) => if ds.length < 16777216 then .nx ρ (S2.set n (.lst (ds ++ [d]))) else .bad
      | _ => .bad
    | _ => .bad
  | _ => .bad
theorem ds_app {o : Expr} {mo : ME} (ho : DE X W o mo) (he : DE X W e m) (hp : ∀ {to te : TE}, PE X o to → PE X e te → PS X st (tDrop (tBM X.K "list" rAppend to (tCons te tNil)))) : DS X W st (mApp mo m) := by
  obtain ⟨to, po, ko⟩ := ho
  obtain ⟨te, pe, ke⟩ := he
  refine ⟨_, hp po pe, fun ξ μ σ H ρ S D g s h => ?_⟩
  refine ko ξ μ σ H ρ S _ g s (WS'.bind g h fun x S1 v μ1 H1 u1 s1 r1 h1 => ?_)
  cases r1 with
  | @cell a n ea =>
    simp only at h1
    cases q : S1[n]? with
    | none => rw [q] at h1; exact h1.elim
    | some c =>
      rw [q] at h1
      cases c with
      | lst ds0 =>
        simp only at h1
        obtain ⟨xs0, e1, _⟩ := s1.at_ n a _ ea q
        refine ⟨.inl ⟨rfl, _, SqL.of e1⟩, ?_⟩
        refine ke ξ μ1 σ H1 ρ S1 _ (g.up u1) s1 (WS'.bind (g.up u1) h1 fun d S2 v2 μ2 H2 u2 s2 r2 h2 => ?_)
        cases q2 : S2[n]? with
        | none => simp only [q2] at h2; exact h2.elim
        | some c2 =>
          simp only [q2] at h2
          cases c2 with
          | lst ds =>
            simp only at h2
            by_cases l : ds.length < 16777216
            · rw [if_pos l] at h2
              have ea2 := u2.get ea
              obtain ⟨xs, e2, e3⟩ := s2.at_ n a _ ea2 q2
              refine ⟨a, xs, v2, rfl, rfl, e2, by rw [e3.length, sizeLine_eq]; exact l, ?_⟩
              exact h2 σ μ2 _ (.write ea2) (s2.write ea2 ⟨_, upd_same, (e3.append (.cons r2 .nil)).up (.write ea2)⟩) (g.up (u1.trans (u2.trans (.write ea2))))
            · rw [if_neg l] at h2; exact h2.elim
          | _ => exact h2.elim
      | _ => exact h1.elim
  | _ => exact h1.elim
end
end Dm
-- text DmLoop
namespace Dm
open PySem L2
open PySem.W (Frag)
/-- more may be reserved later -/
structure Ext (F F' : Fx) (H : Hp) : Prop where
  k : F'.K = F.K
  gw : (F'.mg, F'.w) = (F.mg, F.w)
  x : ∀ a, a ∈ F'.ξ → a ∈ F.ξ ∨ H a = none
theorem Ext.g {F F' : Fx} {H : Hp} (e : Ext F F' H) : F'.mg = F.mg := congrArg Prod.fst e.gw
theorem Ext.w {F F' : Fx} {H : Hp} (e : Ext F F' H) : F'.w = F.w := congrArg Prod.snd e.gw
theorem Ext.refl {F : Fx} {H : Hp} : Ext F F H := ⟨rfl, rfl, fun _ h => .inl h⟩
theorem Mv.ext {F F' : Fx} {μ μ' : List Addr} {H H' : Hp} (e : Ext F F' H) (u : Up μ H μ' H') : Mv F μ H F' μ' H' := ⟨fun {a xs} q => by
    rcases q.up u with ⟨z, n, nx⟩ | z
    · rcases q with ⟨z0, _⟩ | z0
      · refine .inl ⟨z, n, fun m => ?_⟩
        rcases e.x _ m with q | q
        · exact nx q
        · obtain ⟨o, _, z0⟩ := z0
          rw [q] at z0; cases z0
      · exact .inr (by rw [e.k]; exact z0)
    · exact .inr (by rw [e.k]; exact z), fun {a xs} q => by
    rcases q.up u with ⟨z, n, nx⟩ | z
    · rcases q with ⟨z0, _⟩ | z0
      · refine .inl ⟨z, n, fun m => ?_⟩
        rcases e.x _ m with q | q
        · exact nx q
        · rcases z0 with z0 | ⟨o, z0⟩ <;> (rw [q] at z0; cases z0)
      · exact .inr (by rw [e.k]; exact z0)
    · exact .inr (by rw [e.k]; exact z), fun q => u.get q, (by rw [e.g, e.w, e.k]), fun {a c ns} h => by
    obtain ⟨cls, dd, e0, ⟨h1, h2, h3⟩, h4⟩ := h
    have no : ∀ {b : Addr} {o : HO}, H b = some o → b ∉ F.ξ → b ∉ F'.ξ := fun {b o} hb n m => (e.x b m).elim n fun q => by
      rw [q] at hb; cases hb
    refine ⟨cls, dd, by rw [e.g, e.k]; exact e0, ⟨u.keep _ _ h1 h2, u.notin h1 h2, no h1 h3⟩, h4.imp id ?_⟩
    rintro ⟨d, fs, e2, h5, hf, h6, h7⟩
    exact ⟨d, fs, e2, u.keep _ _ h5 h6, hf, u.notin h5 h6, no h5 h7⟩⟩
/-- an iterator gives these items -/
def ItOk (F : Fx) (μ : List Addr) (H : Hp) (J : It) (ds : List D) : Prop := ds.length ≤ 16777216 ∧
  ∀ (F' : Fx) (μ' : List Addr) (H' : Hp) (S' : Sto) (i : Nat), Ext F F' H → Up μ H μ' H' → RS F' μ' H' S' → i ≤ ds.length →
    (∀ d, ds[i]? = some d → J.go i H' ∧ ∀ x H'', J.yld i H' x H'' → Up μ' H' μ' H'' ∧ RS F' μ' H'' S' ∧ RD F' μ' H'' x d) ∧ (i = ds.length → J.stop i H')
structure DI (X : Cx) (W : WX) (tg iter : Expr) (m : MA) : Prop where
  ex : ∃ wi, PI X tg iter wi ∧ ∀ ξ μ σ H ρ S R, RG (fx X ξ) μ H σ ρ → RS (fx X ξ) μ H S → WR (fx X ξ) (fun μ H (J : It) (ds : List D) => ItOk (fx X ξ) μ H J ds) (m ρ S) R (fun cls dd H' => W cls dd σ H') μ H → wi σ H R
section
variable {X : Cx} {W : WX} {tg e a b c : Expr} {es : List Expr} {st : Stmt} {sts ts : List Stmt} {ma mb mc m : ME} {mr : MA} {m1 m2 : MS} {pos p p1 p2 p3 : Pos}
def Sized (K : Frag) (H : Hp) : Prop := ∀ a xs, SqL K H a xs ∨ SqT K H a xs → xs.length ≤ 16777216
theorem sized_of {pins : List (Addr × Obj)} {σ : St} {H : Hp} {s : Shared} (I : Inv X pins σ H s) : Sized X.K H := fun a xs h => by
  rcases h with h | h
  · obtain ⟨_, _, _, z⟩ := I.list h
    rw [sizeLine_eq] at z; exact z
  · obtain ⟨_, _, _, z⟩ := I.tuple h
    rw [sizeLine_eq] at z; exact z
theorem piSized {wi : TI} (h : PI X tg e wi) : PI X tg e (fun σ H R => wi σ H fun J H1 => Sized X.K H1 → R J H1) := ⟨fun pins s σ H R I hw =>
  thn (h.run pins s σ H _ I hw) fun v s1 h1 => thn h1 fun itv s2 ⟨it, fp, tn, J, H', a1, a2, a3, a4, a5, a6⟩ => ⟨it, fp, tn, J, H', a1, a2, a3, a4, a5, a6 (sized_of a2)⟩⟩
theorem piOr {wi wj : TI} (h : PI X tg e wi) (h' : PI X tg e wj) : PI X tg e (fun σ H R => wi σ H R ∨ wj σ H R) := ⟨fun pins s σ H R I hw =>
  hw.elim (h.run pins s σ H R I) (h'.run pins s σ H R I)⟩
theorem itt_ok {F : Fx} {μ : List Addr} {H : Hp} {a : Addr} {xs : List V} {ds : List D} (f : FzT F μ H a xs) (r : RDs F μ H xs ds) (z : Sized F.K H) : ItOk F μ H (Itt F.K a) ds := by
  refine ⟨by rw [← r.length]; exact z a xs (.inr f.sq), fun F' μ' H' S' i e u s hi => ⟨fun d hd => ?_, fun hi => ?_⟩⟩
  · obtain ⟨v, h1, h2⟩ := r.get hd
    refine ⟨⟨xs, v, (f.up u).sq, h1⟩, fun x H'' y => ?_⟩
    obtain ⟨e1, y⟩ := y
    subst e1
    have q := y xs (f.up u).sq
    rw [h1] at q; cases q
    exact ⟨.refl, s, h2.mv (.ext e u)⟩
  · exact ⟨xs, (f.up u).sq, by rw [r.length, hi]; exact Nat.le_refl _⟩
theorem itl_ok {F : Fx} {μ : List Addr} {H : Hp} {a : Addr} {xs : List V} {ds : List D} (f : FzL F μ H a xs) (r : RDs F μ H xs ds) (z : Sized F.K H) : ItOk F μ H (Itl F.K a) ds := by
  refine ⟨by rw [← r.length]; exact z a xs (.inl f.sq), fun F' μ' H' S' i e u s hi => ⟨fun d hd => ?_, fun hi => ?_⟩⟩
  · obtain ⟨v, h1, h2⟩ := r.get hd
    refine ⟨⟨xs, v, (f.up u).sq, h1⟩, fun x H'' y => ?_⟩
    obtain ⟨e1, y⟩ := y
    subst e1
    have q := y xs (f.up u).sq
    rw [h1] at q; cases q
    exact ⟨.refl, s, h2.mv (.ext e u)⟩
  · exact ⟨xs, (f.up u).sq, by rw [r.length, hi]; exact Nat.le_refl _⟩
/-- over a tuple, a list that stands still -/
def iSeq (m : ME) : MA := fun ρ S => (m ρ S).bind fun d S1 => match d with
  | .tup ds => .ok ds S1
  | .lst ds => .ok ds S1
  | _ => .bad
theorem di_seq (h : DE X W e m) : DI X W tg e (iSeq m) := by
  obtain ⟨te, pe, k⟩ := h
  refine ⟨_, piOr (piSized (pi_tup pe)) (piSized (pi_list pe)), fun ξ μ σ H ρ S R g s h => ?_⟩
  cases e1 : m ρ S with
  | bad => unfold iSeq at h; rw [e1] at h; exact h.elim
  | exc c fs S1 =>
    unfold iSeq at h; rw [e1] at h
    refine .inl (k ξ μ σ H ρ S _ g s ?_)
    rw [e1]; exact h
  | ok d S1 =>
    cases d with
    | tup ds =>
      refine .inl (k ξ μ σ H ρ S _ g s ?_)
      unfold iSeq at h
      rw [e1] at h ⊢
      intro v μ1 H1 u1 s1 r1
      cases r1 with
      | @tup a xs _ f r => exact ⟨a, rfl, ⟨xs, f.sq⟩, fun z => h _ μ1 H1 u1 s1 (itt_ok f r z)⟩
    | lst ds =>
      refine .inr (k ξ μ σ H ρ S _ g s ?_)
      unfold iSeq at h
      rw [e1] at h ⊢
      intro v μ1 H1 u1 s1 r1
      cases r1 with
      | @lst a xs _ f r => exact ⟨a, rfl, ⟨xs, f.sq⟩, fun z => h _ μ1 H1 u1 s1 (itl_ok f r z)⟩
    | _ => unfold iSeq at h; rw [e1] at h; exact h.elim
/-- over range(n), range(a, n) -/
def rngD (lo : Int) (n : Nat) : List D := (List.range n).map fun (i : Nat) => D.int (lo + i)
theorem rngD_length {lo : Int} {n : Nat} : (rngD lo n).length = n := by unfold rngD; rw [List.length_map, List.length_range]
theorem itr_ok {F : Fx} {μ : List Addr} {H : Hp} {lo : Int} {n : Nat} (hn : n ≤ 16777216) : ItOk F μ H (Itr lo n) (rngD lo n) := by
  refine ⟨by rw [rngD_length]; exact hn, fun F' μ' H' S' i e u s hi => ⟨fun d hd => ?_, fun hi => ?_⟩⟩
  · have hl : i < n := by
      have q := (List.getElem?_eq_some_iff.mp hd).1
      rw [rngD_length] at q; exact q
    refine ⟨hl, fun x H'' y => ?_⟩
    obtain ⟨e1, y⟩ := y
    subst e1
    subst y
    have e2 : d = .int (lo + i) := by
      unfold rngD at hd
      rw [List.getElem?_map, List.getElem?_range hl] at hd
      exact (Option.some.inj hd).symm
    subst e2
    exact ⟨.refl, s, .int _⟩
  · rw [rngD_length] at hi
    exact Nat.le_of_eq hi.symm
noncomputable def iRange1 (a : MA) : MA := fun ρ S => (a ρ S).bind fun ds S1 => match ds with
  | [.int j] => @ite _ (j ≤ 16777216 ∧ -4611686018427387904 ≤ j) (Classical.propDecidable _) (.ok (rngD 0 j.toNat) S1) .bad
  | _ => .bad
theorem di_range1 (ha : DA X W [a] mr) (hm : X.mg "range" = none) (hg : Gl X "range" := by rfl) (hs : starEach [a] X.env = [(false, eval a X.env)] := by rfl) : DI X W tg (.Call (.Name "range" p) [a] [] pos) (iRange1 mr) := by
  obtain ⟨ta, pa, ka⟩ := ha
  refine ⟨_, pi_range1 hg hm pa hs, fun ξ μ σ H ρ S R g s h => ka ξ μ σ H ρ S _ g s (WR.bind h fun ds S1 vs μ1 H1 u1 s1 r1 h1 => ?_)⟩
  cases r1 with
  | nil => exact h1.elim
  | @cons v vs d ds r rr =>
    cases rr with
    | cons _ _ => cases d <;> exact h1.elim
    | nil =>
      cases r with
      | int j =>
        simp only at h1
        by_cases c : j ≤ 16777216 ∧ -4611686018427387904 ≤ j
        · rw [if_pos c] at h1
          exact ⟨j, rfl, by omega, by omega, h1 _ μ1 H1 .refl s1 (itr_ok (by omega))⟩
        · rw [if_neg c] at h1; exact h1.elim
      | _ => exact h1.elim
noncomputable def iRange2 (a : MA) : MA := fun ρ S => (a ρ S).bind fun ds S1 => match ds with
  | [.int i, .int j] => @ite _ (-1000000000000 ≤ i ∧ i ≤ 1000000000000 ∧ -1000000000000 ≤ j ∧ j ≤ 1000000000000 ∧ j - i ≤ 16777216) (Classical.propDecidable _) (.ok (rngD i (j - i).toNat) S1) .bad
  | _ => .bad
theorem di_range2 (ha : DA X W [a, b] mr) (hm : X.mg "range" = none) (hg : Gl X "range" := by rfl) (hs : starEach [a, b] X.env = [(false, eval a X.env), (false, eval b X.env)] := by rfl) (hs2 : starEach [b] X.env = [(false, eval b X.env)] := by rfl) :
    DI X W tg (.Call (.Name "range" p) [a, b] [] pos) (iRange2 mr) := by
  obtain ⟨ta, pa, ka⟩ := ha
  refine ⟨_, pi_range2 hg hm pa hs hs2, fun ξ μ σ H ρ S R g s h => ka ξ μ σ H ρ S _ g s (WR.bind h fun ds S1 vs μ1 H1 u1 s1 r1 h1 => ?_)⟩
  cases r1 with
  | nil => exact h1.elim
  | @cons v vs d ds r rr =>
    cases rr with
    | nil => cases d <;> exact h1.elim
    | @cons v2 vs2 d2 ds2 r2 rr2 =>
      cases rr2 with
      | cons _ _ => cases d <;> cases d2 <;> exact h1.elim
      | nil =>
        cases r with
        | int i =>
          cases r2 with
          | int j =>
            simp only at h1
            by_cases c : -1000000000000 ≤ i ∧ i ≤ 1000000000000 ∧ -1000000000000 ≤ j ∧ j ≤ 1000000000000 ∧ j - i ≤ 16777216
            · rw [if_pos c] at h1
              exact ⟨i, j, rfl, ⟨by omega, by omega, by omega, by omega⟩, h1 _ μ1 H1 .refl s1 (itr_ok (by omega))⟩
            · rw [if_neg c] at h1; exact h1.elim
          | _ => exact h1.elim
        | _ => exact h1.elim
/-! ### for -/
def forL (f : D → Rho → Option Rho) (mb : MS) : List D → Rho → Sto → Out
  | [], ρ, S => .nx ρ S
  | d :: r, ρ, S => match f d ρ with
    | none => .bad
    | some ρ1 => match mb ρ1 S with
      | .nx ρ2 S2 => forL f mb r ρ2 S2
      | .ct ρ2 S2 => forL f mb r ρ2 S2
      | .bk ρ2 S2 => .nx ρ2 S2
      | .rt d S2 => .rt d S2
      | .exc c fs ρ2 S2 => .exc c fs ρ2 S2
      | .bad => .bad
def mFor (mi : MA) (f : D → Rho → Option Rho) (mb : MS) : MS := fun ρ S => ofRes (mi ρ S) ρ fun ds S1 => forL f mb ds ρ S1
theorem ds_for {f : D → Rho → Option Rho} {is : List Nat} {mb : MS} (hp : PassesOwn (model X.prog X.w) X.A X.env X.xe) (hc : X.calm = true) (hi : DI X W tg e mr) (hg : DG X tg f is) (hb : DSs X W sts mb)
    (hs : ∀ x, foldedSetIterable e X.env x = pure x := by intro _; rfl) : DS X W (.For tg e sts [] pos) (mFor mr f mb) := by
  obtain ⟨wi, pi, ki⟩ := hi
  obtain ⟨tg', pg, kg⟩ := hg
  obtain ⟨tb, pb, kb⟩ := hb
  refine ⟨_, ps_for hp hc pi pg pb hs, fun ξ μ σ H ρ S D g s h => ki ξ μ σ H ρ S _ g s (WS'.bind g h fun ds S1 J μ1 H1 u1 s1 r1 h1 => ?_)⟩
  refine ⟨fun i m σ' H' => ∃ μ' ρ' S', Up μ1 H1 μ' H' ∧ RS (fx X ξ) μ' H' S' ∧ RG (fx X ξ) μ' H' σ' ρ' ∧ i ≤ ds.length ∧ m = ds.length - i ∧ WS' (fx X ξ) (forL f mb (ds.drop i) ρ' S') D W μ' H',
    ⟨_, μ1, ρ, S1, .refl, s1, g.up u1, Nat.zero_le _, rfl, by rw [List.drop_zero]; exact h1⟩, ?_⟩
  rintro i m σ' H' ⟨μ', ρ', S', u', s', g', hi, rfl, w⟩
  obtain ⟨t1, t2⟩ := r1.2 (fx X ξ) μ' H' S' i .refl u' s' hi
  by_cases hl : i < ds.length
  · have hd : ds[i]? = some ds[i] := List.getElem?_eq_getElem hl
    obtain ⟨go, yl⟩ := t1 _ hd
    rw [List.drop_eq_getElem_cons hl] at w
    unfold forL at w
    cases ef : f ds[i] ρ' with
    | none => rw [ef] at w; exact w.elim
    | some ρ1 =>
      rw [ef] at w
      simp only at w
      refine .inr ⟨go, fun σ2 H2 => ∃ μ' ρ' S', Up μ1 H1 μ' H2 ∧ RS (fx X ξ) μ' H2 S' ∧ RG (fx X ξ) μ' H2 σ2 ρ' ∧ WS' (fx X ξ) (forL f mb (ds.drop (i + 1)) ρ' S') D W μ' H2,
        fun σ2 H2 ⟨μ2, ρ2, S2, a1, a2, a3, a4⟩ => ⟨_, by omega, μ2, ρ2, S2, a1, a2, a3, hl, rfl, a4⟩, fun x H2 y => ?_⟩
      obtain ⟨u2, s2, r2⟩ := yl x H2 y
      refine kg ξ μ' σ' H2 ρ' x _ ρ1 _ (g'.up u2) r2 ef fun σ2 g2 _ => ?_
      refine kb ξ μ' σ2 H2 ρ1 S' _ g2 s2 ?_
      have w := WS'.shift u2 w
      cases eb : mb ρ1 S' with
      | nx ρ2 S2 =>
        rw [eb] at w
        exact fun σ3 μ3 H3 u3 s3 g3 => ⟨μ3, ρ2, S2, u'.trans (u2.trans u3), s3, g3, w.shift u3⟩
      | ct ρ2 S2 =>
        rw [eb] at w
        exact fun σ3 μ3 H3 u3 s3 g3 => ⟨μ3, ρ2, S2, u'.trans (u2.trans u3), s3, g3, w.shift u3⟩
      | bk ρ2 S2 => rw [eb] at w; exact w
      | rt d S2 => rw [eb] at w; exact w
      | exc c fs ρ2 S2 => rw [eb] at w; exact w
      | bad => rw [eb] at w; exact w
  · have e : i = ds.length := by omega
    rw [e, List.drop_length] at w
    exact .inl ⟨t2 e, w σ' μ' H' .refl s' g'⟩
/-! ### for over a list's cell, as it stands at each turn -/
/-! ### while -/
end
/-! ### comprehensions -/
def wipeD (ρ : Rho) : List Nat → Rho
  | [] => ρ
  | v :: vs => (wipeD ρ vs).set v none
theorem RG.wipe {F : Fx} {μ : List Addr} {H : Hp} {σ : St} {ρ : Rho} (g : RG F μ H σ ρ) : ∀ vs : List Nat, RG F μ H (L2.wipe σ vs) (wipeD ρ vs)
  | [] => g
  | v :: vs => (RG.wipe g vs).forget (σ' := σ) v
def lcL (f : D → Rho → Option Rho) (mt me : ME) (ρ : Rho) : List D → Sto → Option (List D × Sto)
  | [], S => some ([], S)
  | d :: r, S => match f d ρ with
    | none => none
    | some ρ1 => match mt ρ1 S with
      | .ok (.bl true) S1 => match me ρ1 S1 with
        | .ok y S2 => match lcL f mt me ρ r S2 with
          | some (ys, S3) => some (y :: ys, S3)
          | none => none
        | _ => none
      | .ok (.bl false) S1 => lcL f mt me ρ r S1
      | _ => none
def mLc (mi : MA) (f : D → Rho → Option Rho) (mt me : ME) (vs : List Nat) : MA := fun ρ S => (mi ρ S).bind fun ds S1 => match lcL f mt me (wipeD ρ vs) ds S1 with
  | some (ys, S2) => .ok ys S2
  | none => .bad
def mYes : ME := fun _ S => .ok (.bl true) S
abbrev W0 : WX := fun _ _ _ _ => False
structure DTs (X : Cx) (W : WX) (es : List Expr) (m : ME) : Prop where
  ex : ∃ te, PTs X es te ∧ ∀ ξ μ σ H ρ S Q, RG (fx X ξ) μ H σ ρ → RS (fx X ξ) μ H S → WT' (fx X ξ) (m ρ S) Q (fun cls dd H' => W cls dd σ H') μ H → te σ H Q
section
variable {X : Cx} {W : WX} {tg e a b c : Expr} {es : List Expr} {st : Stmt} {sts ts : List Stmt} {ma mb mc m : ME} {mr : MA} {m1 m2 : MS} {pos p p1 p2 p3 : Pos}
theorem dts_nil : DTs X W [] mYes := ⟨_, pts_nil, fun ξ μ σ H ρ S Q g s h => h μ H .refl s⟩
theorem dts_one (h : DT X W c mc) : DTs X W [c] mc := let ⟨_, p, k⟩ := h; ⟨_, pts_one p, k⟩
theorem fx_fam {ι : Type} {Xf : ι → Cx} {K : Frag} {mg : Str → Option Value} {w : World} {ξ : List Addr} {i : ι} (hK : ∀ i, (Xf i).K = K) (hg : ∀ i, ((Xf i).mg, (Xf i).w) = (mg, w)) : fx (Xf i) ξ = ⟨K, mg, ξ, w⟩ := by
  have e1 : (Xf i).mg = mg := congrArg Prod.fst (hg i)
  have e2 : (Xf i).w = w := congrArg Prod.snd (hg i)
  unfold fx
  rw [hK, e1, e2]
/-- one word for all contexts of a family -/
theorem de_all {ι : Type} {Xf : ι → Cx} {e : Expr} {m : ME} {K : Frag} {mg : Str → Option Value} {w : World} (hK : ∀ i, (Xf i).K = K) (hg : ∀ i, ((Xf i).mg, (Xf i).w) = (mg, w)) (h : ∀ i, DE (Xf i) W e m) :
    ∃ te, (∀ i, PE (Xf i) e te) ∧ ∀ ξ μ σ H ρ S Q, RG ⟨K, mg, ξ, w⟩ μ H σ ρ → RS ⟨K, mg, ξ, w⟩ μ H S → WE' ⟨K, mg, ξ, w⟩ (m ρ S) Q (fun cls dd H' => W cls dd σ H') μ H → te σ H Q := by
  refine ⟨fun σ H Q => ∀ i, ∃ te, PE (Xf i) e te ∧ te σ H Q, fun i => ⟨fun pins s σ H Q I hw => ?_⟩, fun ξ μ σ H ρ S Q g s hw i => ?_⟩
  · obtain ⟨te, p, q⟩ := hw i
    exact p.run pins s σ H Q I q
  · obtain ⟨te, p, k⟩ := h i
    refine ⟨te, p, k ξ μ σ H ρ S Q ?_ ?_ ?_⟩
    all_goals (rw [fx_fam hK hg]; assumption)
theorem dts_all {ι : Type} {Xf : ι → Cx} {es : List Expr} {m : ME} {K : Frag} {mg : Str → Option Value} {w : World} (hK : ∀ i, (Xf i).K = K) (hg : ∀ i, ((Xf i).mg, (Xf i).w) = (mg, w)) (h : ∀ i, DTs (Xf i) W es m) :
    ∃ te, (∀ i, PTs (Xf i) es te) ∧ ∀ ξ μ σ H ρ S Q, RG ⟨K, mg, ξ, w⟩ μ H σ ρ → RS ⟨K, mg, ξ, w⟩ μ H S → WT' ⟨K, mg, ξ, w⟩ (m ρ S) Q (fun cls dd H' => W cls dd σ H') μ H → te σ H Q := by
  refine ⟨fun σ H Q => ∀ i, ∃ te, PTs (Xf i) es te ∧ te σ H Q, fun i => ⟨fun pins s σ H Q I hw => ?_⟩, fun ξ μ σ H ρ S Q g s hw i => ?_⟩
  · obtain ⟨te, p, q⟩ := hw i
    exact p.run pins s σ H Q I q
  · obtain ⟨te, p, k⟩ := h i
    refine ⟨te, p, k ξ μ σ H ρ S Q ?_ ?_ ?_⟩
    all_goals (rw [fx_fam hK hg]; assumption)
theorem dg_all {ι : Type} {Xf : ι → Cx} {tg : Expr} {f : D → Rho → Option Rho} {is : List Nat} {K : Frag} {mg : Str → Option Value} {w : World} (hK : ∀ i, (Xf i).K = K) (hg : ∀ i, ((Xf i).mg, (Xf i).w) = (mg, w)) (h : ∀ i, DG (Xf i) tg f is) :
    ∃ t, (∀ i, PG (Xf i) tg t) ∧ ∀ ξ μ σ H ρ v d ρ' (Q : St → Hp → Prop), RG ⟨K, mg, ξ, w⟩ μ H σ ρ → RD ⟨K, mg, ξ, w⟩ μ H v d → f d ρ = some ρ' →
    (∀ σ', RG ⟨K, mg, ξ, w⟩ μ H σ' ρ' → (∀ js : List Nat, (∀ i ∈ is, i ∈ js) → wipe σ' js = wipe σ js) → Q σ' H) → t v σ H Q := by
  refine ⟨fun v σ H Q => ∀ i, ∃ t, PG (Xf i) tg t ∧ t v σ H Q, fun i => ⟨fun pins s σ H v u Q I r hw => ?_⟩, fun ξ μ σ H ρ v d ρ' Q g r e k i => ?_⟩
  · obtain ⟨t, p, q⟩ := hw i
    exact p.run pins s σ H v u Q I r q
  · obtain ⟨t, p, kk⟩ := h i
    refine ⟨t, p, kk ξ μ σ H ρ v d ρ' Q ?_ ?_ e fun σ' g' w => k σ' ?_ w⟩
    · rw [fx_fam hK hg]; exact g
    · rw [fx_fam hK hg]; exact r
    · have g'' := g'
      rw [fx_fam hK hg] at g''
      exact g''
abbrev Blk := Shared × Hp × Addr × List (Str × Addr) × List Addr
abbrev blkOf (X : Cx) (scope : Scope) (i : Blk) : Cx := X.blk i.1 i.2.1 scope (compEnvC scope i.2.2.2.1 i.2.2.1 X.env) i.2.2.2.2
/-- the reading of a comprehension -/
theorem lc_read {wi : TI} {tg' : TG} {tt : TT} {te : TE} {f : D → Rho → Option Rho} {is vs : List Nat} {ξ μ : List Addr} {σ : St} {H : Hp} {ρ : Rho} {S : Sto} {Q : VK} {Wx : Value → Option Addr → Hp → Prop} {mi : MA} {mt me : ME}
    (ki : ∀ R, WR (fx X ξ) (fun μ H (J : It) (ds : List D) => ItOk (fx X ξ) μ H J ds) (mi ρ S) R Wx μ H → wi σ H R)
    (kg : ∀ ξ μ σ H ρ v d ρ' (Q : St → Hp → Prop), RG (fx X ξ) μ H σ ρ → RD (fx X ξ) μ H v d → f d ρ = some ρ' → (∀ σ', RG (fx X ξ) μ H σ' ρ' → (∀ js : List Nat, (∀ i ∈ is, i ∈ js) → wipe σ' js = wipe σ js) → Q σ' H) → tg' v σ H Q)
    (kt : ∀ ξ μ σ H ρ S Q, RG (fx X ξ) μ H σ ρ → RS (fx X ξ) μ H S → WT' (fx X ξ) (mt ρ S) Q (fun cls dd H' => W0 cls dd σ H') μ H → tt σ H Q)
    (ke : ∀ ξ μ σ H ρ S Q, RG (fx X ξ) μ H σ ρ → RS (fx X ξ) μ H S → WE' (fx X ξ) (me ρ S) Q (fun cls dd H' => W0 cls dd σ H') μ H → te σ H Q)
    (hv : ∀ i ∈ is, i ∈ vs) (g : RG (fx X ξ) μ H σ ρ) (s : RS (fx X ξ) μ H S) (h : WL' (fx X ξ) (mLc mi f mt me vs ρ S) Q Wx μ H) : tLc wi tg' tt te vs σ H Q := by
  refine ki _ (WL'.bind h fun ds S1 J μ1 H1 u1 s1 r1 h1 => ?_)
  intro D hD
  obtain ⟨hz, r1⟩ := r1
  have n1 : D ∉ μ1 := s1.out hD
  have x1 : D ∉ ξ := s1.outX hD
  have ext : Ext (fx X ξ) ((fx X ξ).hold D) H1 := ⟨rfl, rfl, fun a ha => (List.mem_cons.mp ha).elim (fun z => .inr (by rw [z]; exact hD)) .inl⟩
  have main : WL' (fx X ξ) (match lcL f mt me (wipeD ρ vs) ds S1 with
    | some (ys, S2) => Res.ok ys S2
    | none => .bad) Q Wx μ1 H1 := h1
  refine ⟨fun i m H' => ∃ μ' S' acc dacc, Up μ1 H1 μ' H' ∧ RS ((fx X ξ).hold D) μ' H' S' ∧ H' D = some (.lst acc) ∧ RDs ((fx X ξ).hold D) μ' H' acc dacc ∧ acc.length ≤ i ∧ i ≤ ds.length ∧ m = ds.length - i ∧
      ∃ ys S2, lcL f mt me (wipeD ρ vs) (ds.drop i) S' = some (ys, S2) ∧ ∀ μ2 H2 xs, Up μ1 H1 μ2 H2 → RS ((fx X ξ).hold D) μ2 H2 S2 → RDs ((fx X ξ).hold D) μ2 H2 xs (dacc ++ ys) → H2 D = some (.lst xs) → Q (.ref D) H2,
    ⟨_, μ1, S1, [], [], .fresh hD, s1.holds hD, upd_same, .nil, Nat.le_refl _, Nat.zero_le _, rfl, ?_⟩, ?_⟩
  · rw [List.drop_zero]
    cases q : lcL f mt me (wipeD ρ vs) ds S1 with
    | none => rw [q] at main; exact main.elim
    | some r =>
      obtain ⟨ys, S2⟩ := r
      rw [q] at main
      exact ⟨ys, S2, rfl, fun μ2 H2 xs u2 s2 r2 e2 => main D xs μ2 H2 u2 hD s2 r2 e2⟩
  rintro i m H' ⟨μ', S', acc, dacc, u', s', hacc, racc, hla, hi, rfl, ys, S2, eL, fin⟩
  obtain ⟨t1, t2⟩ := r1 ((fx X ξ).hold D) μ' H' S' i ext u' s' hi
  by_cases hl : i < ds.length
  · obtain ⟨go, yl⟩ := t1 _ (List.getElem?_eq_getElem hl)
    rw [List.drop_eq_getElem_cons hl] at eL
    unfold lcL at eL
    cases ef : f ds[i] (wipeD ρ vs) with
    | none => rw [ef] at eL; exact nomatch eL
    | some ρ1 =>
      rw [ef] at eL
      simp only at eL
      refine .inr ⟨go, fun H2 => ∃ μ' S' acc dacc, Up μ1 H1 μ' H2 ∧ RS ((fx X ξ).hold D) μ' H2 S' ∧ H2 D = some (.lst acc) ∧ RDs ((fx X ξ).hold D) μ' H2 acc dacc ∧ acc.length ≤ i + 1 ∧
          ∃ ys S2, lcL f mt me (wipeD ρ vs) (ds.drop (i + 1)) S' = some (ys, S2) ∧ ∀ μ2 H2 xs, Up μ1 H1 μ2 H2 → RS ((fx X ξ).hold D) μ2 H2 S2 → RDs ((fx X ξ).hold D) μ2 H2 xs (dacc ++ ys) → H2 D = some (.lst xs) → Q (.ref D) H2,
        fun H2 ⟨μ2, S3, acc2, dacc2, a1, a2, a3, a4, a5, a6⟩ => ⟨_, by omega, μ2, S3, acc2, dacc2, a1, a2, a3, a4, a5, hl, rfl, a6⟩, fun x H2 y => ?_⟩
      obtain ⟨u2, s2, r2⟩ := yl x H2 y
      have g2 : RG (fx X (D :: ξ)) μ' H2 (wipe σ vs) (wipeD ρ vs) := (((g.up u1).mv (.ext ext (u'.trans u2)))).wipe vs
      refine kg (D :: ξ) μ' (wipe σ vs) H2 (wipeD ρ vs) x _ ρ1 _ g2 r2 ef fun σ3 g3 w3 => ?_
      have nD : D ∉ μ' := (s'.xi D List.mem_cons_self).1
      have eD : H2 D = some (.lst acc) := u2.keep _ _ hacc nD
      have ww : wipe (wipe σ vs) vs = wipe σ vs := by
        refine List.ext_getElem? fun k => ?_
        rw [wipe_get, wipe_get, wipe_length]
        by_cases q : k ∈ vs ∧ k < σ.length
        · rw [if_pos q, if_pos q]
        · rw [if_neg q, if_neg q]
      refine ⟨by rw [w3 vs hv, ww], ?_⟩
      refine kt (D :: ξ) μ' σ3 H2 ρ1 S' _ g3 s2 ?_
      have racc2 := racc.up u2
      cases et : mt ρ1 S' with
      | bad => rw [et] at eL; exact nomatch eL
      | exc c fs S3 => rw [et] at eL; exact nomatch eL
      | ok d S3 =>
        rw [et] at eL
        cases d with
        | bl b =>
          intro μ3 H3 u3 s3
          have eD3 : H3 D = some (.lst acc) := u3.keep _ _ eD nD
          cases b with
          | false =>
            exact ⟨μ3, S3, acc, dacc, u'.trans (u2.trans u3), s3, eD3, racc2.up u3, Nat.le_succ_of_le hla, ys, S2, eL, fin⟩
          | true =>
            simp only at eL
            refine ke (D :: ξ) μ3 σ3 H3 ρ1 S3 _ (g3.up u3) s3 ?_
            cases ee : me ρ1 S3 with
            | bad => rw [ee] at eL; exact nomatch eL
            | exc c fs S4 => rw [ee] at eL; exact nomatch eL
            | ok y S4 =>
              rw [ee] at eL
              intro v μ4 H4 u4 s4 r4
              simp only at eL
              cases er : lcL f mt me (wipeD ρ vs) (ds.drop (i + 1)) S4 with
              | none => rw [er] at eL; exact nomatch eL
              | some q =>
                obtain ⟨zs, S5⟩ := q
                rw [er] at eL
                cases eL
                have nD3 : D ∉ μ3 := (s3.xi D List.mem_cons_self).1
                have eD4 : H4 D = some (.lst acc) := u4.keep _ _ eD3 nD3
                refine ⟨acc, eD4, by rw [sizeLine_eq]; omega, μ4, S4, acc ++ [v], dacc ++ [y], ?_, RS.wr (F := fx X ξ) (p := D) s4, upd_same, RDs.mv (Mv.wr (F := fx X ξ) (p := D)) _ (RDs.append (F := (fx X ξ).hold D) ((racc2.up u3).up u4) (.cons r4 .nil)), by rw [List.length_append, List.length_singleton]; omega, zs, S2, er, fun μ5 H5 xs u5 s5 r5 e5 => fin μ5 H5 xs u5 s5 (by rw [List.append_assoc] at r5; exact r5) e5⟩
                have U := u'.trans (u2.trans (u3.trans u4))
                exact ⟨U.pre, U.new, fun a o ha na => by
                  rw [upd_ne (ne_of_none ha hD)]
                  exact U.keep a o ha na⟩
        | _ => exact nomatch eL
  · have e : i = ds.length := by omega
    rw [e, List.drop_length] at eL
    cases eL
    exact .inl ⟨t2 e, fin μ' H' acc u' s' (by rw [List.append_nil]; exact racc) hacc⟩
theorem dl_lc {elt : Expr} {ifs : List Expr} {scope : Scope} {own : List (Str × Nat)} {f : D → Rho → Option Rho} {is : List Nat} {mt me : ME} (hc : X.calm = true) (hN : X.N.Nodup) (hi : DI X W tg e mr) (ok : BlkOk X.N X.env.scope scope own)
    (hg : ∀ (s : Shared) (H : Hp) (C : Addr) (cl : List (Str × Addr)) (fp : List Addr), DG (X.blk s H scope (compEnvC scope cl C X.env) fp) tg f is)
    (ht : ∀ (s : Shared) (H : Hp) (C : Addr) (cl : List (Str × Addr)) (fp : List Addr), DTs (X.blk s H scope (compEnvC scope cl C X.env) fp) W0 ifs mt)
    (he : ∀ (s : Shared) (H : Hp) (C : Addr) (cl : List (Str × Addr)) (fp : List Addr), DE (X.blk s H scope (compEnvC scope cl C X.env) fp) W0 elt me)
    (hv : ∀ i ∈ is, i ∈ own.map (·.2) := by decide) (hs : ∀ x, foldedSetIterable e X.env x = pure x := by intro _; rfl) : DL X W (.ListComp elt [⟨tg, e, ifs, 0⟩] scope pos) (mLc mr f mt me (own.map (·.2))) := by
  obtain ⟨wi, pi, ki⟩ := hi
  obtain ⟨tg', pg, kg⟩ := dg_all (Xf := blkOf X scope) (K := X.K) (mg := X.mg) (fun _ => rfl) (fun _ => rfl) fun i => hg i.1 i.2.1 i.2.2.1 i.2.2.2.1 i.2.2.2.2
  obtain ⟨tt, pt, kt⟩ := dts_all (Xf := blkOf X scope) (K := X.K) (mg := X.mg) (fun _ => rfl) (fun _ => rfl) fun i => ht i.1 i.2.1 i.2.2.1 i.2.2.2.1 i.2.2.2.2
  obtain ⟨te, pe, ke⟩ := de_all (Xf := blkOf X scope) (K := X.K) (mg := X.mg) (fun _ => rfl) (fun _ => rfl) fun i => he i.1 i.2.1 i.2.2.1 i.2.2.2.1 i.2.2.2.2
  refine ⟨_, pe_lc hc hN pi ok (fun s H C cl fp => pg (s, H, C, cl, fp)) (fun s H C cl fp => pt (s, H, C, cl, fp)) (fun s H C cl fp => pe (s, H, C, cl, fp)) hs, fun ξ μ σ H ρ S Q g s h => ?_⟩
  exact lc_read (fun R => ki ξ μ σ H ρ S R g s) kg kt ke hv g s h
end
end Dm
-- text DmDef
namespace Dm
open PySem L2 PySem.Spec PyProof.Rows
open PySem.W (Frag)
/-! ### defs -/
def mDef (np nN : Nat) (b : MS) (ds : List D) (S : Sto) : Res D := if ds.length = np then
    match b (ds.map some ++ List.replicate (nN - np) none) S with
    | .nx _ S' => .ok .non S'
    | .rt d S' => .ok d S'
    | .exc c fs _ S' => .exc c fs S'
    | _ => .bad
  else .bad
/-- a def's promise: what its word says -/
def spD (w : World) (K : Frag) (mg : Str → Option Value) (m : List D → Sto → Res D) : Sp := fun vs H Q E => ∃ ξ μ ds S, RS ⟨K, mg, ξ, w⟩ μ H S ∧ RDs ⟨K, mg, ξ, w⟩ μ H vs ds ∧ WE' ⟨K, mg, ξ, w⟩ (m ds S) Q (fun cls dd H' => E cls dd H') μ H
structure FnD (P : Program) (w : World) (K : Frag) (mg : Str → Option Value) (base : Heap) (k : Nat) (x : Str) (st : Stmt) (ps : List Str) (m : List D → Sto → Res D) : Prop where
  ex : ∃ f fd, mg x = some (.ref f) ∧ Fun K x x st f fd ∧ Binds K fd ps [] ∧ FnOk P w K mg base (L2.CX P w) k f fd ps (spD w K mg m)
section
variable {P : Program} {w : World} {K : Frag} {mg : Str → Option Value} {base : Heap}
theorem FnD.mono {j k : Nat} {x : Str} {st : Stmt} {ps : List Str} {m : List D → Sto → Res D} (F : FnD P w K mg base j x st ps m) (h : j ≤ k) : FnD P w K mg base k x st ps m :=
  let ⟨f, fd, a, b, c, d⟩ := F; ⟨f, fd, a, b, c, d.mono h⟩
theorem rg_start {F : Fx} {μ : List Addr} {H : Hp} {N : List Str} {vs : List V} {ds : List D} (r : RDs F μ H vs ds) : RG F μ H (L2.start N vs) (ds.map some ++ List.replicate (N.length - ds.length) none) := by
  refine ⟨by unfold L2.start; rw [List.length_append, List.length_append, List.length_map, List.length_map, List.length_replicate, List.length_replicate, r.length], fun i d e => ?_⟩
  by_cases h : i < ds.length
  · rw [List.getElem?_append_left (by rw [List.length_map]; exact h), List.getElem?_map] at e
    cases q : ds[i]? with
    | none => rw [q] at e; exact nomatch e
    | some d' =>
      rw [q] at e
      cases e
      obtain ⟨v, h1, h2⟩ := r.get q
      refine ⟨v, ?_, h2⟩
      unfold L2.start
      rw [List.getElem?_append_left (by rw [List.length_map, r.length]; exact h), List.getElem?_map, h1] <;> rfl
  · rw [List.getElem?_append_right (by rw [List.length_map]; omega), List.getElem?_replicate] at e
    split at e <;> cases e
end
/-! ### calls of defs -/
section
variable {X : Cx} {W : WX} {tg e a b c : Expr} {es : List Expr} {kws : List Keyword} {st : Stmt} {sts ts : List Stmt} {ma mb mc m : ME} {mr mk : MA} {m1 m2 : MS} {pos p p1 p2 p3 kpos : Pos} {nm : Option Str}
/-- f(e, .., k = v, ..): perm puts the written values, then the keywords', in the parameters' order; n, q: how many of each -/
def mCallK (f : List D → Sto → Res D) (n q : Nat) (perm : List Nat) (a k : MA) : ME := fun ρ S => (a ρ S).bind fun xs S1 => (k ρ S1).bind fun zs S2 => if xs.length = n ∧ zs.length = q then f (perm.filterMap ((xs ++ zs)[·]?)) S2 else .bad
/-! ### raise X('..') -/
structure XcOk (K : Frag) (mg : Str → Option Value) (x : Str) : Prop where
  ex : ∃ C : Addr, mg x = some (.ref C) ∧ PySem.W.excIn K C [.type "ValueError", .type "Exception", .type "BaseException", .type "object"] "ValueError.__new__" = true ∧ PySem.W.keepIn K (.ref C) = true ∧ PySem.W.subIn K (.ref C) (.type "BaseException") = some true ∧ PySem.W.typeIn K (.ref C) = some (.type "type")
def mRaise (c : Str) : MS := fun ρ S => .exc c [] ρ S
theorem ds_raise {x msg : Str} {jj : Nat} {pos2 : Pos} (C : XcOk X.K X.mg x) (hc : X.calm = true) (tk : Takes X W) (hg : Gl X x := by rfl) (hdb : (x == ("__debug__" : Str)) = false := by decide) :
    DS X W (.Raise (some (.Call (.Name x p) [.Constant (.str msg) jj p2] [] pos)) none pos2) (mRaise x) := by
  obtain ⟨C, h1, h2, h3, h4, h5⟩ := C
  exact ⟨_, ps_raise hc tk (pmk_own PySem.F.excBase_ValueError h2 h1 h3 (raises_own h4 h5) hg hdb), fun ξ μ σ H ρ S D g s h => h _ none σ μ H .refl s g ⟨h1, .inl ⟨rfl, rfl⟩⟩⟩
/-- x += e -/
def mAug (i : Nat) (f : Int → Int → Int) (m : ME) : MS := fun ρ S => match ρ[i]? with
  | some (some (.int a)) => ofRes (m ρ S) ρ fun d S1 => match d with
    | .int b => .nx (ρ.set i (some (.int (f a b)))) S1
    | _ => .bad
  | _ => .bad
end
end Dm
-- text DmIter
namespace Dm
open PySem L2 PySem.Spec PyProof.Rows
open PySem.W (Frag)
/-! ### enumerate of a tuple -/
theorem enumNew1 {v : Value} {o : Obj} {Hh : Heap → Prop} (B : Begins v o Hh) :
    Meets (Builtin.«enumerate.__new__» ⟨[.type "enumerate", v], []⟩) (fun _ R s => Hh s.heap ∧
      R (.ok (.ret (.ref (s.heap.push o).objs.size))) { s with heap := (s.heap.push o).push { cls := .type "enumerate", data := .fields #[.none, .bool false, .ref s.heap.objs.size, rawInt 0, .none, .none] } }) :=
  .of_wp fun prog w A R s hh => by
    obtain ⟨hp, g, d, tk, os⟩ := s
    obtain ⟨ha, hb⟩ := hh
    have hsub := sub_enumerate
    have q1 : ∀ {A' : Around} {E : Value → Shared → Prop} {Q : Value → Shared → Prop}, Q (.ref hp.objs.size) ⟨hp.push o, g, d, tk, os⟩ → wpAny (model prog w) A' (pyIter v) Q E ⟨hp, g, d, tk, os⟩ :=
      fun q => B.iter prog w _ _ ⟨hp, g, d, tk, os⟩ _ ha q
    wp_walk using q1
    refine wpAny_stack_any fun st => wpAny_pure ?_
    split
    · rename_i c _ _ _ _ _
      cases (c == Value.type "enumerate") <;> (wp_walk using q1; exact ⟨_, rfl, hb⟩)
    · (wp_walk using q1); exact ⟨_, rfl, hb⟩
theorem enumBegin1 {prog : Program} {w : World} {A : Around} {E : Value → Shared → Prop} {s : Shared} {v : Value} {o : Obj} {Hh : Heap → Prop} {Q : Value → Shared → Prop} (B : Begins v o Hh) (ha : Hh s.heap)
    (k : ∀ h', IsEnum h' (s.heap.objs.size + 1) s.heap.objs.size 0 .none → h'.get? s.heap.objs.size = some o → (∀ b u, s.heap.get? b = some u → h'.get? b = some u) → Q (.ref (s.heap.objs.size + 1)) { s with heap := h' }) :
    wpAny (model prog w) A (call (.type "enumerate") [v]) Q E s := by
  refine callType_new F.called_enumerate (by decide) (F.typeCall_enumerate_1 _) (F.newCall_enumerate_1 _) (fun obj => F.args_object_init_2 obj _) F.entry_enumerate_new (enumNew1 B) ⟨ha, ?_⟩
  have z : (s.heap.push o).objs.size = s.heap.objs.size + 1 := Heap.size_push ..
  have en := Heap.get?_push_size (s.heap.push o) (o := { cls := .type "enumerate", data := .fields #[.none, .bool false, .ref s.heap.objs.size, rawInt 0, .none, .none] }) rfl
  rw [z] at en
  show _ ∧ _
  rw [z]
  exact ⟨⟨_, en, rfl⟩, k _ en (Heap.get?_push_of_some _ (Heap.get?_push_size _ B.free)) fun b u q => Heap.get?_push_of_some _ (Heap.get?_push_of_some _ q)⟩
/-- at each turn the next item in a new pair -/
def PrF (i : Nat) (x : V) (H : Hp) (T : Addr) (H' : Hp) : Prop := ∃ o : Obj, o.dict = none ∧ H T = none ∧ H' = upd H T (.frz o (.tup [.int (i : Nat), x]))
def IteT (K : Frag) (a : Addr) : It :=
  ⟨fun i H => ∃ (xs : List V) (x : V), SqT K H a xs ∧ xs[i]? = some x, fun i H v H' => ∃ T x, v = .ref T ∧ PrF i x H T H' ∧ ∀ xs, SqT K H a xs → xs[i]? = some x, fun i H => ∃ xs : List V, SqT K H a xs ∧ xs.length ≤ i⟩
theorem turn_enumT {P : Program} {w : World} {K : Frag} {elts : List Expr} {kk : Nat} {tpos : Pos} (a e it : Addr) (hne : e ≠ it) :
    Turn P w K (.Tuple elts kk tpos) (IteT K a) [e, it] e (fun i h => (∃ old, IsEnum h e it ((i : Nat) : Int) old) ∧ h.IsTupleIter it a i) where
  mem := List.mem_cons_self
  obj := fun i h st b hb => by
    obtain ⟨⟨old, he⟩, ⟨o, ho, hc, hd⟩⟩ := st
    rcases List.mem_cons.mp hb with z | z
    · rw [z]; exact ⟨_, he, fun v q => nomatch q⟩
    · rw [List.mem_singleton.mp z]; exact ⟨o, ho, fun v q => by rw [hd] at q; cases q⟩
  keep := fun i h h' st k => by
    obtain ⟨⟨old, he⟩, ⟨o, ho, r⟩⟩ := st
    exact ⟨⟨old, k e List.mem_cons_self _ he⟩, ⟨o, k it (List.mem_cons_of_mem _ List.mem_cons_self) o ho, r⟩⟩
  item := by
    intro X hP hw hK hc i pins s σ H E I hf st hg
    subst hP hw hK
    obtain ⟨⟨old, he⟩, hit⟩ := st
    obtain ⟨xs, x, hq, hx⟩ := hg
    obtain ⟨its, rv, ht, hz⟩ := I.tuple hq
    obtain ⟨u, hu, ru⟩ := rv.get hx
    have hel : e < s.heap.objs.size := Heap.lt_size he
    have hil : it < s.heap.objs.size := by obtain ⟨_, q, _⟩ := hit; exact Heap.lt_size q
    have nai : a ≠ it := by
      rintro rfl
      obtain ⟨o1, q1, c1, _⟩ := ht
      obtain ⟨o2, q2, c2, _⟩ := hit
      rw [q1] at q2; cases q2
      rw [c1] at c2
      exact absurd (Value.type.inj c2) (by decide)
    have nae : e ∉ [it, a] := fun z => by
      rcases List.mem_cons.mp z with z | z
      · exact hne z
      · rw [List.mem_singleton.mp z] at he
        obtain ⟨o1, q1, c1, _⟩ := ht
        have he' : s.heap.get? a = some _ := he
        rw [q1] at he'; cases he'
        exact absurd (Value.type.inj c1) (by decide)
    have D := Draws.tuple (prog := X.prog) (w := X.w) (A := X.A.in1) (by exact I.ok.hd hc) it a nai its.toArray
    have hlt : i < its.toArray.size := by
      have q := (List.getElem?_eq_some_iff.mp hu).1
      rw [List.size_toArray]; exact q
    refine wpAny_pyNext_enum_itemD D he ⟨hit, ht⟩ hlt hne nae fun x' h' tk hx' ho hit' hT hsz hk => ?_
    have ex : x' = u := by
      have hx'' : its.toArray[i]? = some x' := hx'
      rw [List.getElem?_toArray, hu] at hx''
      exact (Option.some.inj hx'').symm
    subst ex
    refine ⟨_, rfl, wpAny_letOwnedTupleGo_enum (s := { s with heap := h', toks := tk + 1 }) ho fun h'' he' sb => ?_⟩
    have hT2 : h''.get? s.heap.objs.size = some { cls := .type "tuple", data := .seq #[.int i tk, x'] } := (sb.2 _ (Nat.ne_of_gt hel)).trans hT
    have new : ObjOk X.prog X.w (upd H s.heap.objs.size (.frz { cls := .type "tuple", data := .seq #[.int i tk, x'] } (.tup [.int (i : Nat), x]))) h'' s.heap.objs.size (.frz { cls := .type "tuple", data := .seq #[.int i tk, x'] } (.tup [.int (i : Nat), x])) :=
      ⟨hT2, by rw [sizeLine_eq]; show 2 ≤ 16777216; decide, [.int i tk, x'], .cons ⟨_, rfl⟩ (.cons ru .nil), ⟨_, hT2, rfl, _, rfl⟩⟩
    have I1 : Inv X pins σ (upd H s.heap.objs.size (.frz { cls := .type "tuple", data := .seq #[.int i tk, x'] } (.tup [.int (i : Nat), x]))) { s with heap := h'', toks := tk + 1 } :=
      I.turnedNew (ch := [e, it]) (fun b ob hb q => (sb.2 b fun z => hb (by rw [z]; exact List.mem_cons_self)).trans (hk b ob (fun z => hb (by rw [z]; exact List.mem_cons_self)) (fun z => hb (by rw [z]; exact List.mem_cons_of_mem _ List.mem_cons_self)) q)) hf (Nat.le_refl _) new
    refine ⟨.ref s.heap.objs.size, _, I1, rfl, ⟨_, x, rfl, ⟨_, rfl, I.hok.fresh (Nat.le_refl _), rfl⟩, fun ys hy => by rw [I.tuple_inj hy hq]; exact hx⟩, ⟨⟨x', ?_⟩, ?_⟩, fun b hb => ?_⟩
    · have e1 : ((i + 1 : Nat) : Int) = (i : Int) + 1 := by omega
      rw [e1]; exact he'
    · obtain ⟨⟨o1, q1, r1⟩, _⟩ := hit'
      exact ⟨o1, (sb.2 it hne.symm).trans q1, r1⟩
    · have hb' : b < s.heap.objs.size := by
        rcases List.mem_cons.mp hb with z | z
        · rw [z]; exact hel
        · rw [List.mem_singleton.mp z]; exact hil
      rw [upd_ne (Nat.ne_of_lt hb')]
      exact (hf b hb).1
  done := by
    intro X hP hw hK hc i pins s σ H E I hf st hg
    subst hP hw hK
    obtain ⟨⟨old, he⟩, hit⟩ := st
    obtain ⟨xs, hq, hx⟩ := hg
    obtain ⟨its, rv, ht, hz⟩ := I.tuple hq
    obtain ⟨f0, f1, f2, f3, f4, f5⟩ := hf it (List.mem_cons_of_mem _ List.mem_cons_self)
    have hl := rv.length
    have nx : its.toArray[i]? = none := by
      rw [List.getElem?_toArray]
      exact List.getElem?_eq_none_iff.mpr (by omega)
    have D : Draws X.prog X.w X.A.in1 it [it, a] i (fun _ _ => False) (fun j hh => j = i ∧ hh.IsTupleIter it a i ∧ hh.IsTuple a its.toArray) :=
      { live := fun j hh z => let ⟨o, ho, _⟩ := z.2.1; ⟨o, ho⟩
        frame := fun j hh h' z k => by
          obtain ⟨z1, ⟨o1, e1, r1⟩, ⟨o2, e2, r2⟩⟩ := z
          exact ⟨z1, ⟨o1, k it List.mem_cons_self o1 e1, r1⟩, ⟨o2, k a (List.mem_cons_of_mem _ List.mem_cons_self) o2 e2, r2⟩⟩
        item := fun j s Q E hj z => absurd z.1 (Nat.ne_of_lt hj)
        done := fun s Q E z kE => wpAny_nextOf_tuple_end (I.ok.hd hc) z.2.1 z.2.2 nx kE }
    exact wpAny_pyNext_enum_endD D he ⟨rfl, hit, ht⟩ fun h' eb => ⟨rfl, I.turned (t' := s.toks) (fun b o hb q => eb b o hb q) f0 f1 f3 f4 f5⟩
  self := fun A i s Q E st k => let ⟨⟨_, he⟩, _⟩ := st; wpAny_pyIter_enum he k
def iEnumT (K : Frag) (ta : TA) : TI := fun σ H R => ta σ H fun vs H1 => ∃ a xs, vs = [.ref a] ∧ SqT K H1 a xs ∧ R (IteT K a) H1
theorem pi_enumT {X : Cx} {e : Expr} {ta : TA} {p pos tpos : Pos} {elts : List Expr} {kk : Nat} (hg : Gl X "enumerate") (hm : X.mg "enumerate" = none) (ha : PA X [e] ta) (hs : starEach [e] X.env = [(false, eval e X.env)] := by rfl) :
    PI X (.Tuple elts kk tpos) (.Call (.Name "enumerate" p) [e] [] pos) (iEnumT X.K ta) := by
  refine ⟨fun pins s σ H R I hw => ?_⟩
  refine Call_ (ld_blt I hg hm boot_enumerate (PyProof.Rows.callWith_type1 (thn (ha.run pos pins s σ H _ I hw) fun us s1 hh => ?_) hs rfl))
  obtain ⟨vs, H1, I1, r1, a, xs, ex, hq, q⟩ := hh
  subst ex
  cases r1 with
  | cons r rr =>
    cases rr
    cases r
    obtain ⟨its, rv, ht, hz⟩ := I1.tuple hq
    refine enumBegin1 (begins_tuple a its.toArray) ht fun h' he ho hk => wpAny_pyIter_enum he ?_
    have I2 : Inv X pins σ H1 { s1 with heap := h' } := I1.kept (t' := s1.toks) hk
    refine ⟨s1.heap.objs.size + 1, [s1.heap.objs.size + 1, s1.heap.objs.size], _, _, H1, rfl, I2, turn_enumT a (s1.heap.objs.size + 1) s1.heap.objs.size (Nat.succ_ne_self _), ⟨⟨.none, he⟩, ⟨_, ho, rfl, rfl⟩⟩, fun b hb => ?_, q⟩
    have hle : s1.heap.objs.size ≤ b := by
      rcases List.mem_cons.mp hb with z | z
      · rw [z]; exact Nat.le_succ _
      · rw [List.mem_singleton.mp z]; exact Nat.le_refl _
    exact I1.fpOk hle (I1.hok.fresh hle)
/-! ### enumerate of a list -/
def IteL (K : Frag) (a : Addr) : It :=
  ⟨fun i H => ∃ (xs : List V) (x : V), SqL K H a xs ∧ xs[i]? = some x, fun i H v H' => ∃ T x, v = .ref T ∧ PrF i x H T H' ∧ ∀ xs, SqL K H a xs → xs[i]? = some x, fun i H => ∃ xs : List V, SqL K H a xs ∧ xs.length ≤ i⟩
theorem turn_enumL {P : Program} {w : World} {K : Frag} {elts : List Expr} {kk : Nat} {tpos : Pos} (a e it : Addr) (hne : e ≠ it) :
    Turn P w K (.Tuple elts kk tpos) (IteL K a) [e, it] e (fun i h => (∃ old, IsEnum h e it ((i : Nat) : Int) old) ∧ h.IsListIter it a i) where
  mem := List.mem_cons_self
  obj := fun i h st b hb => by
    obtain ⟨⟨old, he⟩, ⟨o, ho, hc, hd⟩⟩ := st
    rcases List.mem_cons.mp hb with z | z
    · rw [z]; exact ⟨_, he, fun v q => nomatch q⟩
    · rw [List.mem_singleton.mp z]; exact ⟨o, ho, fun v q => by rw [hd] at q; cases q⟩
  keep := fun i h h' st k => by
    obtain ⟨⟨old, he⟩, hi⟩ := st
    exact ⟨⟨old, k e List.mem_cons_self _ he⟩, hi.at fun o q => k it (List.mem_cons_of_mem _ List.mem_cons_self) o q⟩
  item := by
    intro X hP hw hK hc i pins s σ H E I hf st hg
    subst hP hw hK
    obtain ⟨⟨old, he⟩, hit⟩ := st
    obtain ⟨xs, x, hq, hx⟩ := hg
    obtain ⟨its, rv, p, hz⟩ := I.list hq
    obtain ⟨u, hu, ru⟩ := rv.get hx
    have hel : e < s.heap.objs.size := Heap.lt_size he
    have hil : it < s.heap.objs.size := by obtain ⟨_, q, _⟩ := hit; exact Heap.lt_size q
    refine wpAny_pyNext_enum_item he hit p.isList (x := u) (by rw [List.getElem?_toArray]; exact hu) hne fun h' ho hit' hT hsz hk => ?_
    refine ⟨_, rfl, wpAny_letOwnedTupleGo_enum (s := { s with heap := h', toks := s.toks + 1 }) ho fun h2 he' sb => ?_⟩
    have hT2 : h2.get? s.heap.objs.size = some { cls := .type "tuple", data := .seq #[.int i s.toks, u] } := (sb.2 _ (Nat.ne_of_gt hel)).trans hT
    have new : ObjOk X.prog X.w (upd H s.heap.objs.size (.frz { cls := .type "tuple", data := .seq #[.int i s.toks, u] } (.tup [.int (i : Nat), x]))) h2 s.heap.objs.size (.frz { cls := .type "tuple", data := .seq #[.int i s.toks, u] } (.tup [.int (i : Nat), x])) :=
      ⟨hT2, by rw [sizeLine_eq]; show 2 ≤ 16777216; decide, [.int i s.toks, u], .cons ⟨_, rfl⟩ (.cons ru .nil), ⟨_, hT2, rfl, _, rfl⟩⟩
    have I1 : Inv X pins σ (upd H s.heap.objs.size (.frz { cls := .type "tuple", data := .seq #[.int i s.toks, u] } (.tup [.int (i : Nat), x]))) { s with heap := h2, toks := s.toks + 1 } :=
      I.turnedNew (ch := [e, it]) (fun b ob hb q => (sb.2 b fun z => hb (by rw [z]; exact List.mem_cons_self)).trans (hk b ob (fun z => hb (by rw [z]; exact List.mem_cons_self)) (fun z => hb (by rw [z]; exact List.mem_cons_of_mem _ List.mem_cons_self)) q)) hf (Nat.le_refl _) new
    refine ⟨.ref s.heap.objs.size, _, I1, rfl, ⟨_, x, rfl, ⟨_, rfl, I.hok.fresh (Nat.le_refl _), rfl⟩, fun ys hy => by rw [I.list_inj hy hq]; exact hx⟩, ⟨⟨u, ?_⟩, hit'.at fun o q => (sb.2 it hne.symm).trans q⟩, fun b hb => ?_⟩
    · have e1 : ((i + 1 : Nat) : Int) = (i : Int) + 1 := by omega
      rw [e1]; exact he'
    · have hb' : b < s.heap.objs.size := by
        rcases List.mem_cons.mp hb with z | z
        · rw [z]; exact hel
        · rw [List.mem_singleton.mp z]; exact hil
      rw [upd_ne (Nat.ne_of_lt hb')]
      exact (hf b hb).1
  done := by
    intro X hP hw hK hc i pins s σ H E I hf st hg
    subst hP hw hK
    obtain ⟨⟨old, he⟩, hit⟩ := st
    obtain ⟨xs, hq, hx⟩ := hg
    obtain ⟨its, rv, p, hz⟩ := I.list hq
    obtain ⟨f0, f1, f2, f3, f4, f5⟩ := hf it (List.mem_cons_of_mem _ List.mem_cons_self)
    have hl := rv.length
    exact wpAny_pyNext_enum_end (I.ok.hd hc) he hit p.isList (by rw [List.getElem?_toArray]; exact List.getElem?_eq_none_iff.mpr (by omega)) fun h' eb => ⟨rfl, I.turned (t' := s.toks) (fun b o hb q => eb b o hb q) f0 f1 f3 f4 f5⟩
  self := fun A i s Q E st k => let ⟨⟨_, he⟩, _⟩ := st; wpAny_pyIter_enum he k
def iEnumL (K : Frag) (ta : TA) : TI := fun σ H R => ta σ H fun vs H1 => ∃ a xs, vs = [.ref a] ∧ SqL K H1 a xs ∧ R (IteL K a) H1
theorem pi_enumL {X : Cx} {e : Expr} {ta : TA} {p pos tpos : Pos} {elts : List Expr} {kk : Nat} (hg : Gl X "enumerate") (hm : X.mg "enumerate" = none) (ha : PA X [e] ta) (hs : starEach [e] X.env = [(false, eval e X.env)] := by rfl) :
    PI X (.Tuple elts kk tpos) (.Call (.Name "enumerate" p) [e] [] pos) (iEnumL X.K ta) := by
  refine ⟨fun pins s σ H R I hw => ?_⟩
  refine Call_ (ld_blt I hg hm boot_enumerate (PyProof.Rows.callWith_type1 (thn (ha.run pos pins s σ H _ I hw) fun us s1 hh => ?_) hs rfl))
  obtain ⟨vs, H1, I1, r1, a, xs, ex, hq, q⟩ := hh
  subst ex
  cases r1 with
  | cons r rr =>
    cases rr
    cases r
    obtain ⟨its, rv, p', hz⟩ := I1.list hq
    refine call_enumerate_list p'.isList fun h' he hit hsz hk => wpAny_pyIter_enum he ?_
    have I2 : Inv X pins σ H1 { s1 with heap := h' } := I1.kept (t' := s1.toks) hk
    refine ⟨s1.heap.objs.size + 1, [s1.heap.objs.size + 1, s1.heap.objs.size], _, _, H1, rfl, I2, turn_enumL a (s1.heap.objs.size + 1) s1.heap.objs.size (Nat.succ_ne_self _), ⟨⟨.none, he⟩, hit⟩, fun b hb => ?_, q⟩
    have hle : s1.heap.objs.size ≤ b := by
      rcases List.mem_cons.mp hb with z | z
      · rw [z]; exact Nat.le_succ _
      · rw [List.mem_singleton.mp z]; exact Nat.le_refl _
    exact I1.fpOk hle (I1.hok.fresh hle)
/-- enumerate(v): a tuple, a list that stands still -/
def enumD (ds : List D) : List D := ds.zipIdx.map fun p => .tup [.int (p.2 : Nat), p.1]
theorem enumD_length {ds : List D} : (enumD ds).length = ds.length := by unfold enumD; rw [List.length_map, List.length_zipIdx]
theorem enumD_get {ds : List D} {i : Nat} {d : D} (h : (enumD ds)[i]? = some d) : ∃ x, ds[i]? = some x ∧ d = .tup [.int (i : Nat), x] := by
  unfold enumD at h
  rw [List.getElem?_map, List.getElem?_zipIdx] at h
  cases q : ds[i]? with
  | none => rw [q] at h; exact nomatch h
  | some x =>
    rw [q] at h
    refine ⟨x, rfl, ?_⟩
    have h' := Option.some.inj h
    rw [← h', Nat.zero_add]
def iEnumS (m : ME) : MA := fun ρ S => (m ρ S).bind fun d S1 => match d with
  | .tup ds => .ok (enumD ds) S1
  | .lst ds => .ok (enumD ds) S1
  | _ => .bad
section
variable {X : Cx} {W : WX} {tg e a b c : Expr} {m : ME} {pos p tpos : Pos}
theorem di_enum {elts : List Expr} {kk : Nat} (h : DE X W e m) (hm : X.mg "enumerate" = none) (hg : Gl X "enumerate" := by rfl) (hs : starEach [e] X.env = [(false, eval e X.env)] := by rfl)
    (hs1 : starEach [e] X.env = (false, eval e X.env) :: starEach [] X.env := by rfl) : DI X W (.Tuple elts kk tpos) (.Call (.Name "enumerate" p) [e] [] pos) (iEnumS m) := by
  obtain ⟨te, pe, k⟩ := h
  refine ⟨_, piOr (piSized (pi_enumT hg hm (pa_cons pe pa_nil hs1) hs)) (piSized (pi_enumL hg hm (pa_cons pe pa_nil hs1) hs)), fun ξ μ σ H ρ S R g s h => ?_⟩
  cases e1 : m ρ S with
  | bad => unfold iEnumS at h; rw [e1] at h; exact h.elim
  | exc c fs S1 =>
    unfold iEnumS at h; rw [e1] at h
    refine .inl (k ξ μ σ H ρ S _ g s ?_)
    rw [e1]; exact h
  | ok d S1 =>
    cases d with
    | tup ds =>
      refine .inl (k ξ μ σ H ρ S _ g s ?_)
      unfold iEnumS at h
      rw [e1] at h ⊢
      intro v μ1 H1 u1 s1 r1
      cases r1 with
      | @tup a xs _ f r =>
        refine ⟨a, xs, rfl, f.sq, fun z => h _ μ1 H1 u1 s1 ⟨by rw [enumD_length, ← r.length]; exact z a xs (.inr f.sq), fun F' μ' H' S' i ex u s hi => ⟨fun d hd => ?_, fun hi => ?_⟩⟩⟩
        · obtain ⟨x, hx, rfl⟩ := enumD_get hd
          obtain ⟨v, h1, h2⟩ := r.get hx
          refine ⟨⟨xs, v, (f.up u).sq, h1⟩, fun y H'' yy => ?_⟩
          obtain ⟨T, x', e2, ⟨o, ho, e3, e4⟩, e5⟩ := yy
          subst e2 e4
          have q := e5 xs (f.up u).sq
          rw [h1] at q; cases q
          exact ⟨.fresh e3, s.fresh e3, .tup (.inl ⟨.new ho, s.out e3, s.outX e3⟩) (.cons (.int _) (.cons ((h2.mv (.ext ex u)).up (.fresh e3)) .nil))⟩
        · rw [enumD_length] at hi
          exact ⟨xs, (f.up u).sq, by rw [r.length, hi]; exact Nat.le_refl _⟩
    | lst ds =>
      refine .inr (k ξ μ σ H ρ S _ g s ?_)
      unfold iEnumS at h
      rw [e1] at h ⊢
      intro v μ1 H1 u1 s1 r1
      cases r1 with
      | @lst a xs _ f r =>
        refine ⟨a, xs, rfl, f.sq, fun z => h _ μ1 H1 u1 s1 ⟨by rw [enumD_length, ← r.length]; exact z a xs (.inl f.sq), fun F' μ' H' S' i ex u s hi => ⟨fun d hd => ?_, fun hi => ?_⟩⟩⟩
        · obtain ⟨x, hx, rfl⟩ := enumD_get hd
          obtain ⟨v, h1, h2⟩ := r.get hx
          refine ⟨⟨xs, v, (f.up u).sq, h1⟩, fun y H'' yy => ?_⟩
          obtain ⟨T, x', e2, ⟨o, ho, e3, e4⟩, e5⟩ := yy
          subst e2 e4
          have q := e5 xs (f.up u).sq
          rw [h1] at q; cases q
          exact ⟨.fresh e3, s.fresh e3, .tup (.inl ⟨.new ho, s.out e3, s.outX e3⟩) (.cons (.int _) (.cons ((h2.mv (.ext ex u)).up (.fresh e3)) .nil))⟩
        · rw [enumD_length] at hi
          exact ⟨xs, (f.up u).sq, by rw [r.length, hi]; exact Nat.le_refl _⟩
    | _ => unfold iEnumS at h; rw [e1] at h; exact h.elim
end
end Dm
-- text DmRev
namespace Dm
open PySem L2 PySem.Spec PyProof.Rows
open PySem.W (Frag)
/-! ### t[::-1] of a tuple -/
section
variable {prog : Program} {w : World} {A : Around} {E : Value → Shared → Prop} {s : Shared}
theorem backPlaces (n : Nat) : Builtin.Slice.sliceAdjust none none (-1) (n : Int) = ((n : Int) - 1, -1) ∧ Builtin.Slice.slicePlaces ((n : Int) - 1) (-1) (-1) = n := by
  refine ⟨rfl, ?_⟩
  unfold Builtin.Slice.slicePlaces
  rw [if_neg (by decide)]
  by_cases hn : n = 0
  · subst hn; decide
  · rw [if_pos (by omega)]
    have e : ((n : Int) - 1 - -1 - 1) / (- -1) = (n : Int) - 1 := by
      rw [show (- -1 : Int) = 1 from rfl, Int.ediv_one]; omega
    rw [e]; omega
theorem fm_congr {α β : Type} {f g : α → Option β} : ∀ l : List α, (∀ x ∈ l, f x = g x) → l.filterMap f = l.filterMap g
  | [], _ => rfl
  | x :: l, h => by rw [List.filterMap_cons, List.filterMap_cons, h x List.mem_cons_self, fm_congr l fun y hy => h y (List.mem_cons_of_mem _ hy)]
theorem backPick (xs : Array Value) : ((List.range xs.size).filterMap fun (m : Nat) => xs[(((xs.size : Nat) : Int) - 1 + (m : Int) * -1).toNat]?) = xs.toList.reverse := by
  refine List.ext_getElem? fun k => ?_
  have e : ((List.range xs.size).filterMap fun (m : Nat) => xs[(((xs.size : Nat) : Int) - 1 + (m : Int) * -1).toNat]?) = (List.range xs.size).map fun m => xs.toList.reverse.getD m .none := by
    rw [← List.filterMap_eq_map]
    refine fm_congr _ fun m hm => ?_
    have hl : m < xs.size := List.mem_range.mp hm
    have e1 : (((xs.size : Nat) : Int) - 1 + (m : Int) * -1).toNat = xs.size - 1 - m := by omega
    rw [e1]
    have hr : m < xs.toList.reverse.length := by rw [List.length_reverse, Array.length_toList]; exact hl
    have h2 : xs.size - 1 - m < xs.size := by omega
    rw [Array.getElem?_eq_getElem h2]
    show some _ = some (xs.toList.reverse.getD m .none)
    rw [List.getD_eq_getElem?_getD, List.getElem?_eq_getElem hr, List.getElem_reverse]
    simp
  rw [e, List.getElem?_map]
  by_cases hk : k < xs.size
  · rw [List.getElem?_range hk]
    have hr : k < xs.toList.reverse.length := by rw [List.length_reverse, Array.length_toList]; exact hk
    rw [List.getElem?_eq_getElem hr]
    show some (xs.toList.reverse.getD k .none) = _
    rw [List.getD_eq_getElem?_getD, List.getElem?_eq_getElem hr] <;> rfl
  · rw [List.getElem?_eq_none (by rw [List.length_range]; omega), List.getElem?_eq_none (by rw [List.length_reverse, Array.length_toList]; omega)] <;> rfl
theorem backSlice {t sl : Addr} {items : Array Value} {vl vu vs : Value} {Q : Value → Shared → Prop} (ht : IsTup s.heap t items) (hs : s.heap.IsSliceOf sl vl vu vs) (pl : IsPart vl none) (pu : IsPart vu none) (ps : IsPart vs (some (-1)))
    (h : Q (.ref s.heap.objs.size) { s with heap := s.heap.push { cls := .type "tuple", data := .seq items.toList.reverse.toArray } }) (hsz : items.size ≤ sizeLine) : wpAny (model prog w) A (getItem (.ref t) (.ref sl)) Q E s := by
  have fits : sizeOk (.seq items.toList.reverse.toArray) := by
    show items.toList.reverse.toArray.size ≤ sizeLine
    rw [List.size_toArray, List.length_reverse, Array.length_toList]; exact hsz
  obtain ⟨os, hos, hcs, hds⟩ := id hs
  have tS : s.TypeIs (.ref sl) "slice" := ⟨os, hos, hcs⟩
  unfold getItem
  try with_reducible refine wpAny_holding ?_
  first | refine wpAny_bind (wpAny_pure ?_) | skip
  refine wpAny_bind (wpAny_sequenceKey ht.typeIs (by decide) ?_)
  refine wpAny_bind (wpAny_callSpecial?_slot (name := Str.ofString "__getitem__") ht.typeIs PyProof.Rows.slot_tuple_getitem (wpAny_call_entry PyProof.Rows.slot_tuple_getitem ht.typeIs entry_tuple_getitem ?_ (args_tuple_getitem _ _)))
  show wpAny _ _ (Builtin.Tuple.tupleItemsOf (.ref t) >>= _) _ _ s
  refine wpAny_bind (tupleItemsOf_ ht (wpAny_bind (wpAny_typeOf tS ?_)))
  rw [if_pos (by decide)]
  have app : ∀ {Q' : Int × Int × Nat → Shared → Prop} {E' : Value → Shared → Prop} {A' : Around}, Q' ((items.size : Int) - 1, -1, items.size) s → wpAny (model prog w) A' (Builtin.Slice.sliceApplied (.ref sl) (pure (items.size : Int))) Q' E' s := fun {Q' E' A'} hq => by
    unfold Builtin.Slice.sliceApplied Builtin.Slice.sliceFields
    refine wpAny_bind (wpAny_bind (wpAny_field hos hds (x := vl) rfl (wpAny_bind (wpAny_field hos hds (x := vu) rfl (wpAny_bind (wpAny_field hos hds (x := vs) rfl (wpAny_pure ?_)))))))
    refine wpAny_bind (HT.slicePart_ ps ?_)
    show wpAny _ _ (if ((-1 : Int) == 0) = true then _ else _) _ _ s
    rw [if_neg (by decide)]
    refine wpAny_bind (HT.slicePart_ pl (wpAny_bind (HT.slicePart_ pu (wpAny_bind (wpAny_pure ?_)))))
    show wpAny _ _ (match Builtin.Slice.sliceAdjust none none (-1) (items.size : Int) with | (lo, hi) => pure (lo, (-1 : Int), Builtin.Slice.slicePlaces lo hi (-1))) _ _ s
    rw [(backPlaces items.size).1]
    show wpAny _ _ (pure ((items.size : Int) - 1, (-1 : Int), Builtin.Slice.slicePlaces ((items.size : Int) - 1) (-1) (-1))) _ _ s
    rw [(backPlaces items.size).2]
    exact wpAny_pure hq
  refine wpAny_bind (app ?_)
  have no : ¬ ((((items.size : Int) - 1) == 0 && (-1 : Int) == 1 && items.size == items.size) = true) := by
    intro q
    rw [Bool.and_eq_true, Bool.and_eq_true] at q
    exact absurd q.1.2 (by decide)
  show wpAny _ _ (if (((items.size : Int) - 1) == 0 && (-1 : Int) == 1 && items.size == items.size) = true then _ else _) _ _ s
  rw [if_neg no]
  rw [backPick]
  first
    | exact wpAny_bind (m := Builtin.Tuple.tupleExact _) (wpAny_newObj_type (wpAny_pure ⟨_, rfl, wpAny_pure h⟩) fits)
    | exact wpAny_bind (m := Builtin.Tuple.tupleExact _) (wpAny_newObj_type (wpAny_bind (wpAny_pure (wpAny_pure ⟨_, rfl, wpAny_pure h⟩))) fits)
    | exact wpAny_bind (wpAny_bind (m := Builtin.Tuple.tupleExact _) (wpAny_newObj_type (wpAny_pure (wpAny_pure ⟨_, rfl, wpAny_pure h⟩)) fits))
    | exact wpAny_bind (wpAny_bind (m := Builtin.Tuple.tupleExact _) (wpAny_newObj_type (wpAny_pure ⟨_, rfl, wpAny_pure h⟩) fits))
end
def tBackT (K : Frag) (te : TE) : TE := fun σ H Q => te σ H fun x H1 => ∃ a xs, x = .ref a ∧ SqT K H1 a xs ∧ NwT H1 Q xs.reverse
section
variable {X : Cx} {W : WX} {e : Expr} {m : ME} {te : TE} {k : Nat} {p1 p2 p3 pos : Pos}
theorem pe_backT (he : PE X e te) : PE X (.Subscript e (.Slice none none (some (.UnaryOp .USub (.Constant (.int 1) k p1) p2)) p3) pos) (tBackT X.K te) := by
  refine ⟨fun pins s σ H Q I hw => ?_⟩
  refine Subscript_ (thn (he.run pins s σ H _ I hw) fun v s1 hh => ?_)
  obtain ⟨x, H1, I1, r1, a, xs, ex, hx, q⟩ := hh
  subst ex
  cases r1
  have stp : PO X (some (.UnaryOp .USub (.Constant (.int 1) k p1) p2)) (tPart (tUn (rU fun i => .int (-i)) (tC (.int 1)))) := po_some (pe_un un_neg pe_int)
  refine wpAny_Slice (thn (po_none.run pins s1 σ H1 (fun o H2 => o = none ∧ H2 = H1) I1 ⟨rfl, rfl⟩) fun vl s2 hh => ?_)
  obtain ⟨l, H2, I2, pl, el, e2⟩ := hh
  subst el e2
  refine thn (po_none.run pins s2 σ H2 (fun o H3 => o = none ∧ H3 = H2) I2 ⟨rfl, rfl⟩) fun vu s3 hh => ?_
  obtain ⟨u, H3, I3, pu, eu, e3⟩ := hh
  subst eu e3
  refine thn (stp.run pins s3 σ H3 (fun o H4 => o = some (-1) ∧ H4 = H3) I3 ⟨1, rfl, -1, rfl, rfl, rfl⟩) fun vs s4 hh => ?_
  obtain ⟨o, H4, I4, ps, eo, e4⟩ := hh
  subst eo e4
  have I5 : Inv X pins σ H4 { s4 with heap := s4.heap.push { cls := .type "slice", data := .fields #[vl, vu, vs] } } := I4.kept (t' := s4.toks) fun b ob q => Heap.get?_push_of_some _ q
  obtain ⟨its, r, ht, hz⟩ := I5.tuple hx
  have hlen := r.length
  show wpAny (model X.prog X.w) X.A (subscriptTail e (.Slice none none (some (.UnaryOp .USub (.Constant (.int 1) k p1) p2)) p3) (.ref a) (.ref s4.heap.objs.size)) (EP X pins σ Q) X.xe { s4 with heap := s4.heap.push { cls := .type "slice", data := .fields #[vl, vu, vs] } }
  refine tail_any (ops := [.ref a, .ref s4.heap.objs.size]) ht.typeIs (PyProof.Rows.slot_tuple_getitem.lookup) ?_ (by with_unfolding_all rfl)
  refine backSlice ht (Heap.IsSliceOf.new _ vl vu vs) pl pu ps ?_ (by rw [List.size_toArray]; omega)
  exact tup_here I5 (by rw [List.length_reverse]; exact hz) r.reverse q
def mBack (m : ME) : ME := fun ρ S => (m ρ S).bind fun x S1 => match x with
  | .tup ds => .ok (.tup ds.reverse) S1
  | _ => .bad
theorem d_back (h : DE X W e m) : DE X W (.Subscript e (.Slice none none (some (.UnaryOp .USub (.Constant (.int 1) k p1) p2)) p3) pos) (mBack m) := by
  obtain ⟨te, pe, ke⟩ := h
  refine ⟨_, pe_backT pe, fun ξ μ σ H ρ S Q g s h => ke ξ μ σ H ρ S _ g s (WR.bind h fun x S1 v μ1 H1 u1 s1 r1 h1 => ?_)⟩
  cases r1 with
  | @tup a xs ds f r =>
    exact ⟨a, xs, rfl, f.sq, fun p o hp ho => h1 _ μ1 _ (.fresh hp) (s1.fresh hp) (.tup (.inl ⟨.new ho, s1.out hp, s1.outX hp⟩) (r.reverse.up (.fresh hp)))⟩
  | _ => exact h1.elim
end
end Dm
-- text DmEnd
namespace Dm
open PySem L2 PySem.Spec PyProof.Rows
open PySem.W (Frag)
theorem d_fold {X : Cx} {W : WX} {e : Expr} {m : ME} {d : D} (h : DE X W e m) (hm : ∀ ρ S, m ρ S = .ok d S) : DE X W e (mK d) := by
  have q : m = mK d := funext fun ρ => funext fun S => hm ρ S
  rw [← q]; exact h
def LawTrue (m : List D → Sto → Res D) : Prop := ∀ ns : List Int, ns.length ≤ 63 → ∃ S', m [.lst (ns.map .int)] [] = .ok (.bl true) S'
def spLaw (K : Frag) : Sp := fun vs H Q _ => ∃ (a : Addr) (ns : List Int), vs = [.ref a] ∧ SqL K H a (ns.map V.int) ∧ ns.length ≤ 63 ∧ ∀ H', Q (.bl true) H'
section
variable {P : Program} {w : World} {K : Frag} {mg : Str → Option Value} {base : Heap}
theorem rds_ints {F : Fx} {μ : List Addr} {H : Hp} : ∀ ns : List Int, RDs F μ H (ns.map V.int) (ns.map D.int)
  | [] => .nil
  | n :: ns => .cons (.int n) (rds_ints ns)
theorem cx_no {P : Program} {w : World} {H : Hp} {s s' : Shared} {e : Value} (z : L2.CX P w [] H s (fun _ _ _ => False) e s') : False := by
  obtain ⟨_, _, _, _, _, _, _, _, _, _, _, _, z⟩ := z
  exact z
end
end Dm
-- text DmMore
namespace Dm
open PySem L2
open PySem.W (Frag)
section
variable {X : Cx} {W : WX} {tg e a b c : Expr} {es : List Expr} {ma mb mc m : ME} {pos p p1 p2 p3 : Pos}
/-! ### a list some times -/
def mRepL (a : MA) (b : ME) : MA := fun ρ S => (a ρ S).bind fun xs S1 => (b ρ S1).bind fun y S2 => match y with
  | .int k => if k < 1000000 ∧ xs.length * k.toNat ≤ 16777216 ∧ -1000000 < k then .ok (List.replicate k.toNat xs).flatten S2 else .bad
  | _ => .bad
theorem RDs.rep {F : Fx} {μ : List Addr} {H : Hp} {vs : List V} {ds : List D} (h : RDs F μ H vs ds) : ∀ k : Nat, RDs F μ H (List.replicate k vs).flatten (List.replicate k ds).flatten
  | 0 => .nil
  | k + 1 => by
    rw [List.replicate_succ, List.replicate_succ, List.flatten_cons, List.flatten_cons]
    exact RDs.append h (RDs.rep h k)
theorem mv_hold {ξ : List Addr} {μ μ1 : List Addr} {H H1 : Hp} {p : Addr} {xs : List V} (u1 : Up μ H μ1 H1) (hp : H p = none) (e1 : H1 p = some (.lst xs)) : Mv (fx X ξ) μ H ((fx X ξ).hold p) μ1 H1 :=
  ⟨fun {a xs} q => by
    rcases q.up u1 with ⟨z, n, nx⟩ | z
    · rcases q with ⟨z0, _⟩ | z0
      · refine .inl ⟨z, n, fun m => (List.mem_cons.mp m).elim (fun e => ?_) nx⟩
        subst e
        obtain ⟨o, _, z0⟩ := z0
        rw [hp] at z0; cases z0
      · exact .inr z0
    · exact .inr z, fun {a xs} q => by
    rcases q.up u1 with ⟨z, n, nx⟩ | z
    · rcases q with ⟨z0, _⟩ | z0
      · refine .inl ⟨z, n, fun m => (List.mem_cons.mp m).elim (fun e => ?_) nx⟩
        subst e
        rcases z0 with z0 | ⟨o, z0⟩ <;> (rw [hp] at z0; cases z0)
      · exact .inr z0
    · exact .inr z, fun q => u1.get q, rfl, fun q => q.upHold u1 hp⟩
theorem dl_rep {na : MA} (ha : DL X W a na) (hb : DE X W b mb) : DL X W (.BinOp a .Mult b pos) (mRepL na mb) := by
  obtain ⟨ta, pa, ka⟩ := ha
  obtain ⟨tb, pb, kb⟩ := hb
  refine ⟨_, pe_op op_rep pa pb, fun ξ μ σ H ρ S Q g s h => ka ξ μ σ H ρ S _ g s (WL'.bindL h fun ds S1 p xs μ1 H1 u1 hp s1 r1 e1 h1 => ?_)⟩
  refine kb (p :: ξ) μ1 σ H1 ρ S1 _ ?_ s1 ?_
  · exact ⟨g.len, fun i d e => by
      obtain ⟨v, h, r⟩ := (g.up u1).at_ i d e
      obtain ⟨v', h', r'⟩ := g.at_ i d e
      rw [h] at h'; cases h'
      exact ⟨v, h, r'.mv (mv_hold u1 hp e1)⟩⟩
  cases e : mb ρ S1 with
  | bad => rw [e] at h1; exact h1.elim
  | exc c fs S2 =>
    rw [e] at h1
    exact fun cls dd μ' H' u' s' x' => h1 cls dd μ' H' u' (RS.free (F := fx X ξ) (p := p) s') (XR.hold (F := fx X ξ) (p := p) x')
  | ok y S2 =>
    rw [e] at h1
    intro v μ2 H2 u2 s2 r2
    have hpq : p ∉ μ1 := (s1.xi p List.mem_cons_self).1
    have ep := u2.keep _ _ e1 hpq
    cases y with
    | int k =>
      cases r2
      by_cases c : k < 1000000 ∧ ds.length * k.toNat ≤ 16777216 ∧ -1000000 < k
      · have h1 : WL' (fx X ξ) (if k < 1000000 ∧ ds.length * k.toNat ≤ 16777216 ∧ -1000000 < k then Res.ok (List.replicate k.toNat ds).flatten S2 else .bad) Q (fun cls dd H' => W cls dd σ H') μ1 H1 := h1
        rw [if_pos c] at h1
        refine ⟨p, k, xs, rfl, rfl, ep, by omega, by omega, by rw [r1.length, sizeLine_eq]; exact c.2.1, fun r hr => ?_⟩
        have rr : RDs (fx X ξ) μ2 H2 (List.replicate k.toNat xs).flatten (List.replicate k.toNat ds).flatten := RDs.rep ((r1.mv .free).up u2) _
        have ss : RS (fx X ξ) μ2 H2 S2 := RS.free (F := fx X ξ) (p := p) s2
        have nr : r ∉ μ1 := fun z => ss.out hr (u2.mem z)
        exact h1 r _ μ2 _ (u2.trans (.fresh hr)) (u2.back hr nr) (ss.holds hr) (rr.mv (.holds hr)) upd_same
      · have h1 : WL' (fx X ξ) (if k < 1000000 ∧ ds.length * k.toNat ≤ 16777216 ∧ -1000000 < k then Res.ok (List.replicate k.toNat ds).flatten S2 else .bad) Q (fun cls dd H' => W cls dd σ H') μ1 H1 := h1
        rw [if_neg c] at h1
        exact h1.elim
    | _ => exact h1.elim
/-! ### a comprehension that is kept by a name -/
abbrev RdL (X : Cx) (W : WX) (te : TE) (mr : MA) : Prop := ∀ ξ μ σ H ρ S Q, RG (fx X ξ) μ H σ ρ → RS (fx X ξ) μ H S → WL' (fx X ξ) (mr ρ S) Q (fun cls dd H' => W cls dd σ H') μ H → te σ H Q
abbrev RdE (X : Cx) (W : WX) (te : TE) (m : ME) : Prop := ∀ ξ μ σ H ρ S Q, RG (fx X ξ) μ H σ ρ → RS (fx X ξ) μ H S → WE' (fx X ξ) (m ρ S) Q (fun cls dd H' => W cls dd σ H') μ H → te σ H Q
theorem rd_fz {te : TE} {mr : MA} (k : RdL X W te mr) : RdE X W te (mFz mr) := by
  intro ξ μ σ H ρ S Q g s h
  refine k ξ μ σ H ρ S Q g s ?_
  unfold mFz at h
  cases e : mr ρ S with
  | bad => rw [e] at h; exact h.elim
  | exc c fs S' => rw [e] at h; exact h
  | ok ds S' =>
    rw [e] at h
    exact fun q xs μ' H' u' hq s' r' e' => h _ μ' H' u' s'.free (.lst (.inl ⟨.inl e', (s'.xi q List.mem_cons_self).1, s.outX hq⟩) (r'.mv .free))
theorem rd_new {te : TE} {mr : MA} (k : RdL X W te mr) : RdE X W te (mNew mr) := by
  intro ξ μ σ H ρ S Q g s h
  refine k ξ μ σ H ρ S Q g s ?_
  unfold mNew at h
  cases e : mr ρ S with
  | bad => rw [e] at h; exact h.elim
  | exc c fs S' => rw [e] at h; exact h
  | ok ds S' =>
    rw [e] at h
    intro q xs μ' H' u' hq s' r' e'
    have l : S'.length = μ'.length := s'.len.symm
    refine h (.ref q) (μ' ++ [q]) H' ⟨?_, fun a ha n => (List.mem_append.mp ha).elim (fun z => u'.new a z n) (fun z => by rw [List.mem_singleton.mp z]; exact hq), u'.keep⟩ (s'.asCell (s.outX hq) e' r') (.cell (by rw [l]; exact alloc_at))
    obtain ⟨ν, z⟩ := u'.pre
    exact ⟨ν ++ [q], by rw [z, List.append_assoc]⟩
/-- .. the ways to keep it: as it is, or as a cell -/
theorem ds_setLc {mr : MA} (i : Nat) {y : Str} {py spos : Pos} {elt : Expr} {ifs : List Expr} {scope : Scope} {own : List (Str × Nat)} {f : D → Rho → Option Rho} {is : List Nat} {mt me : ME} {mw : MA → ME} (hw : ∀ {te : TE} {mr : MA}, RdL X W te mr → RdE X W te (mw mr)) (hc : X.calm = true) (hN : X.N.Nodup) (hi : DI X W tg e mr) (ok : BlkOk X.N X.env.scope scope own)
    (hg : ∀ (s : Shared) (H : Hp) (C : Addr) (cl : List (Str × Addr)) (fp : List Addr), DG (X.blk s H scope (compEnvC scope cl C X.env) fp) tg f is)
    (ht : ∀ (s : Shared) (H : Hp) (C : Addr) (cl : List (Str × Addr)) (fp : List Addr), DTs (X.blk s H scope (compEnvC scope cl C X.env) fp) W0 ifs mt)
    (he : ∀ (s : Shared) (H : Hp) (C : Addr) (cl : List (Str × Addr)) (fp : List Addr), DE (X.blk s H scope (compEnvC scope cl C X.env) fp) W0 elt me)
    (hv : ∀ i ∈ is, i ∈ own.map (·.2) := by decide) (hy : X.N[i]? = some y := by rfl) (hyl : X.env.scope.names.lookup y = some .local := by rfl)
    (hsw : swapsWith (.ListComp elt [⟨tg, e, ifs, 0⟩] scope pos) (some (.Name y py)) spos.line X.env = pure true := by rfl) (hs : ∀ x, foldedSetIterable e X.env x = pure x := by intro _; rfl) :
    DS X W (.Assign [.Name y py] (.ListComp elt [⟨tg, e, ifs, 0⟩] scope pos) spos) (mAsg i (mw (mLc mr f mt me (own.map (·.2))))) := by
  obtain ⟨wi, pi, ki⟩ := hi
  obtain ⟨tg', pg, kg⟩ := dg_all (Xf := blkOf X scope) (K := X.K) (mg := X.mg) (fun _ => rfl) (fun _ => rfl) fun i => hg i.1 i.2.1 i.2.2.1 i.2.2.2.1 i.2.2.2.2
  obtain ⟨tt, pt, kt⟩ := dts_all (Xf := blkOf X scope) (K := X.K) (mg := X.mg) (fun _ => rfl) (fun _ => rfl) fun i => ht i.1 i.2.1 i.2.2.1 i.2.2.2.1 i.2.2.2.2
  obtain ⟨te, pe, ke⟩ := de_all (Xf := blkOf X scope) (K := X.K) (mg := X.mg) (fun _ => rfl) (fun _ => rfl) fun i => he i.1 i.2.1 i.2.2.1 i.2.2.2.1 i.2.2.2.2
  have rd : RdL X W (tLc wi tg' tt te (own.map (·.2))) (mLc mr f mt me (own.map (·.2))) := fun ξ μ σ H ρ S Q g s h => lc_read (fun R => ki ξ μ σ H ρ S R g s) kg kt ke hv g s h
  refine ⟨_, ps_setLc (i := i) hc hN hy hyl hsw pi ok (fun s H C cl fp => pg (s, H, C, cl, fp)) (fun s H C cl fp => pt (s, H, C, cl, fp)) (fun s H C cl fp => pe (s, H, C, cl, fp)) hs, fun ξ μ σ H ρ S D g s h => ?_⟩
  exact hw rd ξ μ σ H ρ S _ g s (WS'.bind g h fun x S1 v μ1 H1 u1 s1 r1 h1 => h1 _ μ1 H1 .refl s1 ((g.up u1).set i r1))
/-! ### a kept list and a new one behind it -/
def mCatC (a : ME) (b : MA) : MA := fun ρ S => (a ρ S).bind fun x S1 => (b ρ S1).bind fun ys S2 => match x with
  | .cell n => match S2[n]? with
    | some (.lst xs) => if xs.length + ys.length ≤ 16777216 then .ok (xs ++ ys) S2 else .bad
    | _ => .bad
  | _ => .bad
end
end Dm
-- text DmCat
namespace Dm
open PySem L2 PySem.Spec PyProof.Rows
open PySem.W (Frag)
section
variable {X : Cx} {W : WX} {tg e a b c : Expr} {es : List Expr} {ma mb mc m : ME} {pos p p1 p2 p3 : Pos}
def rCatB (K : Frag) : R2 := fun x y H Q => ∃ l b xs zs, x = .ref l ∧ y = .ref b ∧ SqL K H l xs ∧ SqL K H b zs ∧ xs.length + zs.length ≤ sizeLine ∧ ∀ p, H p = none → Q (.ref p) (upd H p (.lst (xs ++ zs)))
theorem op_catB : OpR X (binaryOp .Add) (rCatB X.K) := by
  intro pins s σ H x y v u Q I rx ry h
  obtain ⟨l, b, xs, zs, rfl, rfl, hl, hb, hz, q⟩ := h
  cases rx
  cases ry
  obtain ⟨its, r, ⟨o, n, ho, hc, hd, hs⟩, z⟩ := I.list hl
  obtain ⟨its2, r2, ⟨o2, n2, ho2, hc2, hd2, hs2⟩, z2⟩ := I.list hb
  obtain ⟨cls, dd, data, sl⟩ := o
  obtain ⟨cls2, dd2, data2, sl2⟩ := o2
  simp only at hc hd hs hc2 hd2 hs2
  subst hc hd hs hc2 hd2 hs2
  have ea : its.toArray ++ its2.toArray = (its ++ its2).toArray := by simp
  refine concat_meets ⟨_, ho, rfl⟩ ⟨_, ho2, rfl⟩ noFill_list_add seq_list_add PySem.F.slot_list_add PySem.F.entry_list_add (PySem.F.args_list_add_2 _ _) (list_addW l b its.toArray its2.toArray n n2 none none sl sl2 (by rw [List.size_toArray, List.size_toArray, ← r.length, ← r2.length]; exact hz)) ⟨ho, ho2, ?_⟩
  rw [ea]
  exact ⟨.ref _, _, I.lnew (t' := s.toks) (r.append r2) (by rw [List.length_append]; exact hz), rfl, q _ I.fresh⟩
/-- a list that stands somewhere and a new one behind it -/
def mCatV (a : ME) (b : MA) : MA := fun ρ S => (a ρ S).bind fun x S1 => (b ρ S1).bind fun ys S2 => match lstOf S2 x with
  | some xs => if xs.length + ys.length ≤ 16777216 then .ok (xs ++ ys) S2 else .bad
  | none => .bad
theorem dl_catV {nb : MA} (ha : DE X W a ma) (hb : DL X W b nb) : DL X W (.BinOp a .Add b pos) (mCatV ma nb) := by
  obtain ⟨ta, pa, ka⟩ := ha
  obtain ⟨tb, pb, kb⟩ := hb
  refine ⟨_, pe_op op_catB pa pb, fun ξ μ σ H ρ S Q g s h => ka ξ μ σ H ρ S _ g s (WL'.bind h fun x S1 v μ1 H1 u1 s1 r1 h1 => ?_)⟩
  refine kb ξ μ1 σ H1 ρ S1 _ (g.up u1) s1 (WL'.bindL h1 fun es S2 q ys μ2 H2 u2 hq s2 r2 e2 h2 => ?_)
  cases c : lstOf S2 x with
  | none => simp only [c] at h2; exact h2.elim
  | some ds =>
    simp only [c] at h2
    have ss : RS (fx X ξ) μ2 H2 S2 := RS.free (F := fx X ξ) (p := q) s2
    obtain ⟨l, xs, rfl, h4, r3⟩ := RD.lstS ss (r1.up u2) c
    by_cases l : ds.length + es.length ≤ 16777216
    · rw [if_pos l] at h2
      refine ⟨_, q, xs, ys, rfl, rfl, h4, SqL.of e2, by rw [r3.length, r2.length, sizeLine_eq]; exact l, fun r hr => ?_⟩
      have rr : RDs (fx X ξ) μ2 H2 (xs ++ ys) (ds ++ es) := RDs.append r3 (RDs.free (F := fx X ξ) (p := q) _ r2)
      exact h2 r _ μ2 _ (.fresh hr) hr (ss.holds hr) (rr.mv (.holds hr)) upd_same
    · rw [if_neg l] at h2
      exact h2.elim
end
end Dm
-- text DmAll

-- text Hw
namespace Dm
open PySem L2
noncomputable section
def m_is_integer : List D → Sto → Res D := mDef 1 1 (mRet (mAnd (mIsi .int (mVar 0)) (mNot (mIsi .bl (mVar 0)))))
def m_is_zone : List D → Sto → Res D := mDef 1 5 (mSeq (mIfS (mOr (mNot (mIsi .tup (mVar 0))) (mOp gNe (mCallB gLen (mCons (mVar 0) mNil)) (mK (.int 2)))) (mRet (mK (.bl false))) mNop) (mSeq (mAsgG (tgT 2 (tgCons (tgN 1) (tgCons (tgN 2) tgNil))) (mVar 0)) (mSeq (mIfS (mOr (mNot (mIsi .tup (mVar 1))) (mNot (mChain gLe gLe (mK (.int 1)) (mCallB gLen (mCons (mVar 1) mNil)) (mK (.int 3))))) (mRet (mK (.bl false))) mNop) (mSeq (mFor (iSeq (mVar 1)) (tgN 3) (mIfS (mOr (mNot (mCall m_is_integer (mCons (mVar 3) mNil))) (mNot (mChain gLe gLe (mUn gNeg (mK (.int 900))) (mVar 3) (mK (.int 900))))) (mRet (mK (.bl false))) mNop)) (mSeq (mFor (iRange2 (mCons (mK (.int 1)) (mCons (mCallB gLen (mCons (mVar 1) mNil)) mNil))) (tgN 4) (mIfS (mOp gLe (mOp gIx (mVar 1) (mVar 4)) (mOp gIx (mVar 1) (mOp gSub (mVar 4) (mK (.int 1))))) (mRet (mK (.bl false))) mNop)) (mRet (mAnd (mCall m_is_integer (mCons (mVar 2) mNil)) (mChain gLt gLe (mOp gSub (mOp gIx (mVar 1) (mK (.int (-1)))) (mOp gIx (mVar 1) (mK (.int 0)))) (mVar 2) (mK (.int 1000000))))))))))
def m_need_zone : List D → Sto → Res D := mDef 1 1 (mIfS (mNot (mCall m_is_zone (mCons (mVar 0) mNil))) (mRaise "InvalidZone") mNop)
def m_need_number : List D → Sto → Res D := mDef 1 1 (mIfS (mNot (mCall m_is_integer (mCons (mVar 0) mNil))) (mRaise "InvalidNumber") mNop)
def m_is_offset : List D → Sto → Res D := mDef 2 2 (mRet (mAnd (mCall m_is_integer (mCons (mVar 1) mNil)) (mOp (gIn false) (mVar 1) (mOp gIx (mVar 0) (mK (.int 0))))))
def m_is_mark : List D → Sto → Res D := mDef 2 2 (mRet (mAnd (mIsi .tup (mVar 1)) (mAnd (mOp gEq (mCallB gLen (mCons (mVar 1) mNil)) (mK (.int 2))) (mAnd (mCall m_is_integer (mCons (mOp gIx (mVar 1) (mK (.int 0))) mNil)) (mCall m_is_offset (mCons (mVar 0) (mCons (mOp gIx (mVar 1) (mK (.int 1))) mNil)))))))
def m_is_table : List D → Sto → Res D := mDef 2 6 (mSeq (mDrop (mCall m_need_zone (mCons (mVar 0) mNil))) (mSeq (mIfS (mOr (mNot (mIsi .tup (mVar 1))) (mOr (mOp gNe (mCallB gLen (mCons (mVar 1) mNil)) (mK (.int 2))) (mNot (mCall m_is_offset (mCons (mVar 0) (mCons (mOp gIx (mVar 1) (mK (.int 0))) mNil)))))) (mRet (mK (.bl false))) mNop) (mSeq (mAsgG (tgT 2 (tgCons (tgN 2) (tgCons (tgN 3) tgNil))) (mVar 1)) (mSeq (mIfS (mNot (mIsi .tup (mVar 3))) (mRet (mK (.bl false))) mNop) (mSeq (mFor (iEnumS (mVar 3)) (tgT 2 (tgCons (tgN 4) (tgCons (tgN 5) tgNil))) (mSeq (mIfS (mOr (mNot (mCall m_is_mark (mCons (mVar 0) (mCons (mVar 5) mNil)))) (mOp gEq (mOp gIx (mVar 5) (mK (.int 1))) (mVar 2))) (mRet (mK (.bl false))) mNop) (mSeq (mIfS (mAnd (mOp gGt (mVar 4) (mK (.int 0))) (mOp gLt (mOp gSub (mOp gIx (mVar 5) (mK (.int 0))) (mOp gIx (mOp gIx (mVar 3) (mOp gSub (mVar 4) (mK (.int 1)))) (mK (.int 0)))) (mOp gIx (mVar 0) (mK (.int 1))))) (mRet (mK (.bl false))) mNop) (mAsg 2 (mOp gIx (mVar 5) (mK (.int 1))))))) (mRet (mK (.bl true))))))))
def m_need_table : List D → Sto → Res D := mDef 2 2 (mIfS (mNot (mCall m_is_table (mCons (mVar 0) (mCons (mVar 1) mNil)))) (mRaise "InvalidTable") mNop)
def m_law_whole : List D → Sto → Res D := mDef 1 1 (mRet (mAnd (mIsi .int (mVar 0)) (mNot (mIsi .bl (mVar 0)))))
def m_law_same : Nat → List D → Sto → Res D
  | 0 => fun _ _ => .bad
  | n + 1 => mDef 2 3 (mSeq (mIfS (mIsiT [.tup, .lst] (mVar 1)) (mSeq (mIfS (mOr (mNot (mIsiT [.tup, .lst] (mVar 0))) (mOp gNe (mIsi .lst (mVar 0)) (mIsi .lst (mVar 1)))) (mRet (mK (.bl false))) mNop) (mRet (mAnd (mOp gEq (mCallB gLen (mCons (mVar 0) mNil)) (mCallB gLen (mCons (mVar 1) mNil))) (mCallB gAll (mCons (mFz (mLc (iRange1 (mCons (mCallB gLen (mCons (mVar 1) mNil)) mNil)) (tgN 2) mYes (mCall (m_law_same n) (mCons (mOp gIx (mVar 0) (mVar 2)) (mCons (mOp gIx (mVar 1) (mVar 2)) mNil))) [2])) mNil))))) mNop) (mSeq (mIfS (mOp (gIsN false) (mVar 1) (mK .non)) (mRet (mOp (gIsN false) (mVar 0) (mK .non))) mNop) (mSeq (mIfS (mIsi .bl (mVar 1)) (mRet (mAnd (mIsi .bl (mVar 0)) (mOp gEq (mVar 0) (mVar 1)))) mNop) (mSeq (mIfS (mIsi .int (mVar 1)) (mRet (mAnd (mCall m_law_whole (mCons (mVar 0) mNil)) (mOp gEq (mVar 0) (mVar 1)))) mNop) (mSeq (mIfS (mIsi .str (mVar 1)) (mRet (mAnd (mIsi .str (mVar 0)) (mOp gEq (mVar 0) (mVar 1)))) mNop) (mRet (mAnd (mNot (mIsiT [.tup, .lst, .int, .str] (mVar 0))) (mOp (gIsN true) (mVar 0) (mK .non)))))))))
def m_early_of : List D → Sto → Res D := mDef 2 6 (mSeq (mAsg 2 (mNew (mLst mNil))) (mSeq (mFor (iRange2 (mCons (mK (.int 1)) (mCons (mCallB gLen (mCons (mVar 1) mNil)) mNil))) (tgN 3) (mIfS (mOp gNe (mOp gIx (mOp gIx (mVar 1) (mVar 3)) (mK (.int 1))) (mOp gIx (mOp gIx (mVar 1) (mOp gSub (mVar 3) (mK (.int 1)))) (mK (.int 1)))) (mSeq (mAsg 4 (mOp gAdd (mOp gIx (mOp gIx (mVar 1) (mOp gSub (mVar 3) (mK (.int 1)))) (mK (.int 0))) (mK (.int 1)))) (mSeq (mIfS (mOp gGt (mCallB gLen (mCons (mVar 2) mNil)) (mK (.int 0))) (mAsg 4 (mCallB gMax2 (mCons (mVar 4) (mCons (mOp gAdd (mOp gIx (mOp gIx (mVar 2) (mK (.int (-1)))) (mK (.int 0))) (mOp gIx (mVar 0) (mK (.int 1)))) mNil)))) mNop) (mSeq (mIfS (mOp gGt (mVar 4) (mOp gIx (mOp gIx (mVar 1) (mVar 3)) (mK (.int 0)))) (mRet (mK .non)) mNop) (mApp (mVar 2) (mTup (mCons (mVar 4) (mCons (mOp gIx (mOp gIx (mVar 1) (mVar 3)) (mK (.int 1))) mNil))))))) mNop)) (mSeq (mAsg 5 (mIf (mOp gEq (mCallB gLen (mCons (mVar 1) mNil)) (mK (.int 0))) (mOp gIx (mOp gIx (mVar 0) (mK (.int 0))) (mK (.int 0))) (mOp gIx (mOp gIx (mVar 1) (mK (.int 0))) (mK (.int 1))))) (mRet (mTup (mCons (mVar 5) (mCons (mCallB gTuple (mCons (mVar 2) mNil)) mNil)))))))
def m_looks_fit : List D → Sto → Res D := mDef 2 2 (mRet (mOp (gIsN true) (mCall m_early_of (mCons (mVar 0) (mCons (mVar 1) mNil))) (mK .non)))
end
end Dm
-- text DmSort
namespace Dm
open PySem L2 PySem.Spec PyProof.Rows
open PySem.W (Frag)
/-! ### sorted of ints, of pairs of ints -/
def insP (x : Int × Int) : List (Int × Int) → List (Int × Int)
  | [] => [x]
  | y :: r => if SrtO.lexB y x then y :: insP x r else x :: y :: r
def srtP : List (Int × Int) → List (Int × Int)
  | [] => []
  | x :: r => insP x (srtP r)
def insN (x : Int) : List Int → List Int
  | [] => [x]
  | y :: r => if y < x then y :: insN x r else x :: y :: r
def srtN : List Int → List Int
  | [] => []
  | x :: r => insN x (srtN r)
def LeP (p q : Int × Int) : Prop := SrtO.lexB q p = false
theorem leP_iff {p q : Int × Int} : LeP p q ↔ p.1 < q.1 ∨ (p.1 = q.1 ∧ p.2 ≤ q.2) := by
  unfold LeP
  rw [SrtO.lexB_no]; omega
theorem leP_anti {p q : Int × Int} (h : LeP p q) (h' : LeP q p) : p = q := by
  rw [leP_iff] at h h'
  exact Prod.ext (by omega) (by omega)
theorem insP_perm (x : Int × Int) : ∀ l, (insP x l).Perm (x :: l)
  | [] => .refl _
  | y :: r => by
    unfold insP; split
    · exact ((insP_perm x r).cons y).trans (.swap _ _ _)
    · exact .refl _
theorem srtP_perm : ∀ l, (srtP l).Perm l
  | [] => .refl _
  | x :: r => (insP_perm x _).trans ((srtP_perm r).cons x)
theorem insP_asc (x : Int × Int) : ∀ l : List (Int × Int), l.Pairwise LeP → (insP x l).Pairwise LeP
  | [], _ => by simp [insP]
  | y :: r, h => by
    obtain ⟨h1, h2⟩ := List.pairwise_cons.mp h
    unfold insP; split
    · next c =>
      refine List.pairwise_cons.mpr ⟨fun z hz => ?_, insP_asc x r h2⟩
      rcases List.mem_cons.mp ((insP_perm x r).mem_iff.mp hz) with rfl | hz
      · have := SrtO.lexB_iff.mp c
        rw [leP_iff]; omega
      · exact h1 z hz
    · next c =>
      have c : LeP x y := by simpa [LeP] using c
      refine List.pairwise_cons.mpr ⟨fun z hz => ?_, h⟩
      rcases List.mem_cons.mp hz with rfl | hz
      · exact c
      · have := h1 z hz
        rw [leP_iff] at c this ⊢; omega
theorem srtP_asc : ∀ l, (srtP l).Pairwise LeP
  | [] => .nil
  | x :: r => insP_asc x _ (srtP_asc r)
theorem eq_srtP {l m : List (Int × Int)} (hp : m.Perm l) (hs : m.Pairwise LeP) : m = srtP l :=
  List.Perm.eq_of_pairwise (fun _ _ _ _ a b => leP_anti a b) hs (srtP_asc l) (hp.trans (srtP_perm l).symm)
theorem insN_perm (x : Int) : ∀ l, (insN x l).Perm (x :: l)
  | [] => .refl _
  | y :: r => by
    unfold insN; split
    · exact ((insN_perm x r).cons y).trans (.swap _ _ _)
    · exact .refl _
theorem srtN_perm : ∀ l, (srtN l).Perm l
  | [] => .refl _
  | x :: r => (insN_perm x _).trans ((srtN_perm r).cons x)
theorem insN_asc (x : Int) : ∀ l : List Int, l.Pairwise (· ≤ ·) → (insN x l).Pairwise (· ≤ ·)
  | [], _ => by simp [insN]
  | y :: r, h => by
    obtain ⟨h1, h2⟩ := List.pairwise_cons.mp h
    unfold insN; split
    · next c =>
      refine List.pairwise_cons.mpr ⟨fun z hz => ?_, insN_asc x r h2⟩
      rcases List.mem_cons.mp ((insN_perm x r).mem_iff.mp hz) with rfl | hz
      · omega
      · exact h1 z hz
    · next c =>
      refine List.pairwise_cons.mpr ⟨fun z hz => ?_, h⟩
      rcases List.mem_cons.mp hz with rfl | hz
      · omega
      · have := h1 z hz; omega
theorem srtN_asc : ∀ l, (srtN l).Pairwise (· ≤ ·)
  | [] => .nil
  | x :: r => insN_asc x _ (srtN_asc r)
theorem eq_srtN {l m : List Int} (hp : m.Perm l) (hs : m.Pairwise (· ≤ ·)) : m = srtN l :=
  List.Perm.eq_of_pairwise (fun _ _ _ _ a b => Int.le_antisymm a b) hs (srtN_asc l) (hp.trans (srtN_perm l).symm)
theorem IsPair.inj {h : Heap} {v : Value} {x y x' y' : Int} (a : Srt.IsPair h v x y) (b : Srt.IsPair h v x' y') : x = x' ∧ y = y' := by
  obtain ⟨a1, o, t, u, n, rfl, e1, e2, e3⟩ := a
  obtain ⟨a2, o', t', u', n', e0, f1, f2, f3⟩ := b
  cases e0
  rw [e1] at f1; cases f1
  rw [e3] at f3
  cases f3
  exact ⟨rfl, rfl⟩
open Classical in
noncomputable def pairV (h : Heap) (v : Value) : Int × Int := if c : ∃ p : Int × Int, Srt.IsPair h v p.1 p.2 then c.choose else (0, 0)
theorem pairV_eq {h : Heap} {v : Value} {p : Int × Int} (c : Srt.IsPair h v p.1 p.2) : pairV h v = p := by
  have e : ∃ p : Int × Int, Srt.IsPair h v p.1 p.2 := ⟨p, c⟩
  unfold pairV
  rw [dif_pos e]
  obtain ⟨h1, h2⟩ := IsPair.inj e.choose_spec c
  exact Prod.ext h1 h2
theorem paired_mem {α β γ : Type} {R : α → β → Prop} {R' : α → γ → Prop} : ∀ {xs : List α} {ys : List β} {zs : List γ}, Paired R xs ys → Paired R' xs zs → ∀ z ∈ zs, ∃ x y, R x y ∧ R' x z ∧ x ∈ xs ∧ y ∈ ys
  | _, _, _, .nil, .nil, z, h => nomatch h
  | _, _, _, .cons a b, .cons c d, z, h => by
    rcases List.mem_cons.mp h with rfl | h
    · exact ⟨_, _, a, c, List.mem_cons_self, List.mem_cons_self⟩
    · obtain ⟨x, y, h1, h2, h3, h4⟩ := paired_mem b d z h
      exact ⟨x, y, h1, h2, List.mem_cons_of_mem _ h3, List.mem_cons_of_mem _ h4⟩
theorem vals_paired : ∀ {xs : List V} {us : List Value}, Vals xs us → Paired RelV xs us
  | _, _, .nil => .nil
  | _, _, .cons a b => .cons a (vals_paired b)
theorem map_of_paired {α β γ : Type} {R : α → β → Prop} {R' : α → γ → Prop} (f : γ → β) : ∀ {xs : List α} {ys : List β} {zs : List γ}, Paired R xs ys → Paired R' xs zs → (∀ x y z, R x y → R' x z → f z = y) → zs.map f = ys
  | _, _, _, .nil, .nil, _ => rfl
  | _, _, _, .cons a b, .cons c d, h => by rw [List.map_cons, h _ _ _ a c, map_of_paired f b d h]
theorem paired_maps {α β γ : Type} {R : α → β → Prop} {f : γ → α} {g : γ → β} : ∀ {zs : List γ}, (∀ z ∈ zs, R (f z) (g z)) → Paired R (zs.map f) (zs.map g)
  | [], _ => .nil
  | z :: zs, h => .cons (h z List.mem_cons_self) (paired_maps fun z hz => h z (List.mem_cons_of_mem _ hz))
def rSortedQ (K : Frag) : List V → Hp → VK → Prop := fun vs H Q => ∃ (a : Addr) (xs : List V) (ps : List (Int × Int)) (R : V → Int × Int → Prop), vs = [V.ref a] ∧ SqL K H a xs ∧ (∀ x p, R x p → ∃ t, x = V.ref t ∧ SqT K H t [.int p.1, .int p.2]) ∧ Paired R xs ps ∧
  ∀ ys p, Paired R ys (srtP ps) → H p = none → Q (.ref p) (upd H p (.lst ys))
section
variable {X : Cx}
theorem cr_sortedQ : CallR X (.builtin "sorted") (rSortedQ X.K) := by
  intro pins s σ H vs us Q I r h
  obtain ⟨a, xs, ps, R, rfl, hs, hR, pr, q⟩ := h
  obtain ⟨its, rv, hl, hz⟩ := I.list hs
  obtain ⟨u, rfl, ru⟩ := vals1 r
  obtain rfl : u = Value.ref a := ru
  have pv := vals_paired rv
  have isp : ∀ x p u, R x p → RelV x u → Srt.IsPair s.heap u p.1 p.2 ∧ x = backV u := fun x p u h1 h2 => by
    obtain ⟨t, rfl, ht⟩ := hR x p h1
    cases h2
    obtain ⟨its2, rv2, ⟨o, ho, hc, n, hd⟩, _⟩ := I.tuple ht
    obtain ⟨u1, u2, e2, ri, rj⟩ := vals2 rv2
    obtain ⟨t1, rfl⟩ := ri
    obtain ⟨t2, rfl⟩ := rj
    subst e2
    exact ⟨⟨t, o, t1, t2, n, rfl, ho, hc, hd⟩, rfl⟩
  have e1 : its.map (pairV s.heap) = ps := map_of_paired _ pr pv fun x p u h1 h2 => pairV_eq (isp x p u h1 h2).1
  have mem : ∀ u ∈ its, R (backV u) (pairV s.heap u) ∧ Srt.IsPair s.heap u (pairV s.heap u).1 (pairV s.heap u).2 := fun u hu => by
    obtain ⟨x, p, h1, h2, h3, h4⟩ := paired_mem pr pv u hu
    obtain ⟨h5, h6⟩ := isp x p u h1 h2
    rw [pairV_eq h5]
    exact ⟨h6 ▸ h1, h5⟩
  refine SrtO.sorted_pairsO (k := pairV s.heap) hl.isList (by rw [← rv.length]; exact hz) (fun v hv => (mem v hv).2) fun h' d out h1 h2 kp hd hn => ?_
  have hout : ∀ u ∈ out, u ∈ its := fun u hu => h2.perm.mem_iff.mp hu
  have h3 : ∀ u ∈ out, ∃ a, u = Value.ref a := fun u hu => by
    obtain ⟨a, _, _, _, _, e, _⟩ := (mem u (hout u hu)).2
    exact ⟨a, e⟩
  have e2 : out.map (pairV s.heap) = srtP ps := by
    refine eq_srtP ?_ ?_
    · rw [← e1]; exact h2.perm.map _
    · exact List.pairwise_map.mpr h1
  obtain ⟨n, hn⟩ := hn
  refine ⟨.ref d, upd H d (.lst (out.map backV)), I.laid (t' := s.toks) kp hd ⟨?_, out, n, vals_back h3, hn⟩, rfl, q _ d ?_ (I.hok.fresh hd)⟩
  · rw [List.length_map, h2.perm.length_eq, ← rv.length]
    exact hz
  · rw [← e2]
    exact paired_maps fun u hu => (mem u (hout u hu)).1
def intsOf : List D → Option (List Int)
  | [] => some []
  | .int i :: ds => (intsOf ds).map (i :: ·)
  | _ :: _ => none
def pairsOf : List D → Option (List (Int × Int))
  | [] => some []
  | .tup [.int i, .int j] :: ds => (pairsOf ds).map ((i, j) :: ·)
  | _ :: _ => none
def prD (p : Int × Int) : D := .tup [.int p.1, .int p.2]
theorem intsOf_eq : ∀ {ds : List D} {ns : List Int}, intsOf ds = some ns → ds = ns.map .int
  | [], ns, e => by cases e; rfl
  | d :: ds, ns, e => by
    cases d with
    | int i =>
      have e : (intsOf ds).map (i :: ·) = some ns := e
      cases q : intsOf ds with
      | none => rw [q] at e; exact nomatch e
      | some m =>
        rw [q] at e; cases e
        rw [intsOf_eq q] <;> rfl
    | _ => exact nomatch e
theorem pairsOf_eq : ∀ {ds : List D} {ps : List (Int × Int)}, pairsOf ds = some ps → ds = ps.map prD
  | [], ps, e => by cases e; rfl
  | d :: ds, ps, e => by
    unfold pairsOf at e
    split at e
    · rename_i h; cases h
    · rename_i i j ds' h
      cases h
      cases q : pairsOf ds with
      | none => rw [q] at e; exact nomatch e
      | some m =>
        rw [q] at e; cases e
        rw [pairsOf_eq q] <;> rfl
    · cases e
@[simp] theorem intsOf_map {ns : List Int} : intsOf (ns.map .int) = some ns := by
  induction ns with
  | nil => rfl
  | cons n ns ih => rw [List.map_cons]; show (intsOf _).map _ = _; rw [ih] <;> rfl
@[simp] theorem pairsOf_map {ps : List (Int × Int)} : pairsOf (ps.map prD) = some ps := by
  induction ps with
  | nil => rfl
  | cons n ns ih => rw [List.map_cons]; show (pairsOf _).map _ = _; rw [ih] <;> rfl
def sortD (ds : List D) : Option (List D) := match intsOf ds with
  | some ns => some ((srtN ns).map .int)
  | none => (pairsOf ds).map fun ps => (srtP ps).map prD
def gSort : Sto → List D → Option (List D) := fun S ds => match ds with
  | [d] => (lstOf S d).bind sortD
  | _ => none
theorem rds_paired {F : Fx} {μ : List Addr} {H : Hp} {ps : List (Int × Int)} : ∀ {vs : List V}, RDs F μ H vs (ps.map prD) → Paired (fun v p => RD F μ H v (prD p)) vs ps := by
  induction ps with
  | nil => intro vs r; cases r; exact .nil
  | cons p ps ih =>
    intro vs r
    cases r with
    | cons a b => exact .cons a (ih b)
theorem paired_rds {F : Fx} {μ : List Addr} {H : Hp} {ps : List (Int × Int)} : ∀ {vs : List V}, Paired (fun v p => RD F μ H v (prD p)) vs ps → RDs F μ H vs (ps.map prD) := by
  induction ps with
  | nil => intro vs r; cases r; exact .nil
  | cons p ps ih =>
    intro vs r
    cases r with
    | cons a b => exact .cons a (ih b)
theorem rdsInts {F : Fx} {μ : List Addr} {H : Hp} {ns : List Int} : ∀ {vs : List V}, RDs F μ H vs (ns.map .int) → vs = ns.map V.int := by
  induction ns with
  | nil => intro vs r; cases r; rfl
  | cons p ps ih =>
    intro vs r
    cases r with
    | cons a b =>
      cases a
      rw [ih b] <;> rfl
theorem intsRds {F : Fx} {μ : List Addr} {H : Hp} {ns : List Int} : RDs F μ H (ns.map V.int) (ns.map .int) := by
  induction ns with
  | nil => exact .nil
  | cons p ps ih => exact .cons (.int _) ih
theorem CallR.or {f : Value} {r r' : List V → Hp → VK → Prop} (h : CallR X f r) (h' : CallR X f r') : CallR X f (fun vs H Q => r vs H Q ∨ r' vs H Q) := by
  intro pins s σ H vs us Q I rv z
  rcases z with z | z
  · exact h pins s σ H vs us Q I rv z
  · exact h' pins s σ H vs us Q I rv z
theorem cr_sortA : CallR X (.builtin "sorted") (fun vs H Q => rSortedI X.K vs H Q ∨ rSortedQ X.K vs H Q) := CallR.or cr_sortedI cr_sortedQ
theorem c_sort : CallDL X (fun vs H Q => rSortedI X.K vs H Q ∨ rSortedQ X.K vs H Q) gSort := by
  intro ξ μ H S ds vs z Q s r e k
  unfold gSort at e
  cases r with
  | nil => exact nomatch e
  | @cons v vs d ds r rr =>
    cases rr with
    | cons _ _ => exact nomatch e
    | nil =>
      simp only at e
      cases q : lstOf S d with
      | none => rw [q] at e; exact nomatch e
      | some es =>
        rw [q] at e
        have e : sortD es = some z := e
        obtain ⟨a, xs, rfl, h1, h2⟩ := RD.lstS s r q
        unfold sortD at e
        cases c : intsOf es with
        | some ns =>
          rw [c] at e; cases e
          have ee := intsOf_eq c
          subst ee
          have ev := rdsInts h2
          subst ev
          refine .inl ⟨a, ns, rfl, h1, fun ns' l hp hs hl => ?_⟩
          rw [eq_srtN hp hs]
          exact k l _ μ _ (.fresh hl) hl (s.holds hl) intsRds upd_same
        | none =>
          rw [c] at e
          have e : (pairsOf es).map _ = some z := e
          cases c2 : pairsOf es with
          | none => rw [c2] at e; exact nomatch e
          | some ps =>
            rw [c2] at e; cases e
            have ee := pairsOf_eq c2
            subst ee
            refine .inr ⟨a, xs, ps, fun v p => RD (fx X ξ) μ H v (prD p), rfl, h1, fun x p hx => ?_, rds_paired h2, fun ys l hy hl => ?_⟩
            · cases hx with
              | tup f rr =>
                have : _ = [V.int p.1, V.int p.2] := rdsInts (ns := [p.1, p.2]) rr
                subst this
                exact ⟨_, rfl, f.sq⟩
            · exact k l _ μ _ (.fresh hl) hl (s.holds hl) ((paired_rds hy).mv (.holds hl)) upd_same
end
@[simp] theorem gSort_ints {S : Sto} {d : D} {ns : List Int} (h : lstOf S d = some (ns.map .int)) : gSort S [d] = some ((srtN ns).map .int) := by
  show (lstOf S d).bind sortD = _
  rw [h]
  show sortD _ = _
  unfold sortD
  rw [intsOf_map]
theorem gSort_pairs {S : Sto} {d : D} {ps : List (Int × Int)} (h : lstOf S d = some (ps.map prD)) : gSort S [d] = some ((srtP ps).map prD) := by
  show (lstOf S d).bind sortD = _
  rw [h]
  show sortD _ = _
  unfold sortD
  cases ps with
  | nil => rfl
  | cons p ps =>
    have : intsOf ((p :: ps).map prD) = none := rfl
    rw [this]
    simp only [pairsOf_map]
    rfl
end Dm
-- text DmWp
namespace Dm
open PySem L2
/-! ### what a word does -/
abbrev EX := Str → List (Str × D) → Sto → Prop
abbrev EXO := Str → List (Str × D) → Rho → Sto → Prop
def NoE : EX := fun _ _ _ => False
def NoEO : EXO := fun _ _ _ _ => False
/-- what is wished of an exception: of an expression's at these slots; of a def's body -/
def eAt (E : EXO) (ρ : Rho) : EX := fun c fs S => E c fs ρ S
def eOut (E : EX) : EXO := fun c fs _ S => E c fs S
@[simp] theorem eAt_out {E : EX} {ρ : Rho} : eAt (eOut E) ρ = E := rfl
@[simp] theorem eAt_no {ρ : Rho} : eAt NoEO ρ = NoE := rfl
@[simp] theorem eOut_no : eOut NoE = NoEO := rfl
@[simp] theorem noE_app {c : Str} {fs : List (Str × D)} {S : Sto} : NoE c fs S = False := rfl
@[simp] theorem noEO_app {c : Str} {fs : List (Str × D)} {ρ : Rho} {S : Sto} : NoEO c fs ρ S = False := rfl
def Res.DoesE {α : Type} (r : Res α) (E : EX) (Q : α → Sto → Prop) : Prop := match r with
  | .ok a S => Q a S
  | .exc c fs S => E c fs S
  | .bad => False
def Out.DoesE (o : Out) (E : EXO) (N : Rho → Sto → Prop) (R : D → Sto → Prop) (B : Rho → Sto → Prop := fun _ _ => False) (C : Rho → Sto → Prop := fun _ _ => False) : Prop := match o with
  | .nx ρ S => N ρ S
  | .rt d S => R d S
  | .bk ρ S => B ρ S
  | .ct ρ S => C ρ S
  | .exc c fs ρ S => E c fs ρ S
  | .bad => False
abbrev Res.Does {α : Type} (r : Res α) (Q : α → Sto → Prop) : Prop := r.DoesE NoE Q
abbrev Out.Does (o : Out) (N : Rho → Sto → Prop) (R : D → Sto → Prop) (B : Rho → Sto → Prop := fun _ _ => False) (C : Rho → Sto → Prop := fun _ _ => False) : Prop := o.DoesE NoEO N R B C
section
variable {α β : Type} {a : α} {S : Sto} {ρ : Rho} {Q : α → Sto → Prop} {N B C : Rho → Sto → Prop} {R : D → Sto → Prop} {E : EX} {EO : EXO}
@[simp] theorem does_ok : (Res.ok a S).DoesE E Q = Q a S := rfl
@[simp] theorem does_bind {r : Res β} {f : β → Sto → Res α} : (r.bind f).DoesE E Q = r.DoesE E fun b S => (f b S).DoesE E Q := by cases r <;> rfl
@[simp] theorem bind_ok {f : α → Sto → Res β} : (Res.ok a S).bind f = f a S := rfl
@[simp] theorem ofRes_ok {k : α → Sto → Out} : ofRes (.ok a S) ρ k = k a S := rfl
@[simp] theorem does_ofRes {r : Res α} {k : α → Sto → Out} : (ofRes r ρ k).DoesE EO N R B C = r.DoesE (eAt EO ρ) fun a S => (k a S).DoesE EO N R B C := by cases r <;> rfl
@[simp] theorem does_nx : (Out.nx ρ S).DoesE EO N R B C = N ρ S := rfl
@[simp] theorem does_rt {d : D} : (Out.rt d S).DoesE EO N R B C = R d S := rfl
@[simp] theorem does_bk : (Out.bk ρ S).DoesE EO N R B C = B ρ S := rfl
@[simp] theorem does_ct : (Out.ct ρ S).DoesE EO N R B C = C ρ S := rfl
theorem Res.DoesE.mono {r : Res α} {Q Q' : α → Sto → Prop} (h : r.DoesE E Q) (k : ∀ a S, Q a S → Q' a S) : r.DoesE E Q' := by
  cases r with
  | ok a S => exact k a S h
  | _ => exact h
theorem Res.Does.mono {r : Res α} {Q Q' : α → Sto → Prop} (h : r.Does Q) (k : ∀ a S, Q a S → Q' a S) : r.Does Q' := Res.DoesE.mono h k
theorem Res.DoesE.eq {r : Res α} {Q : α → Sto → Prop} (h : r.DoesE NoE Q) : ∃ a S, r = .ok a S ∧ Q a S := by
  cases r with
  | ok a S => exact ⟨a, S, rfl, h⟩
  | _ => exact h.elim
theorem Res.Does.eq {r : Res α} {Q : α → Sto → Prop} (h : r.Does Q) : ∃ a S, r = .ok a S ∧ Q a S := Res.DoesE.eq h
theorem Out.DoesE.mono {o : Out} {N' B' C' : Rho → Sto → Prop} {R' : D → Sto → Prop} (h : o.DoesE EO N R B C) (hN : ∀ ρ S, N ρ S → N' ρ S) (hR : ∀ d S, R d S → R' d S) (hB : ∀ ρ S, B ρ S → B' ρ S) (hC : ∀ ρ S, C ρ S → C' ρ S) : o.DoesE EO N' R' B' C' := by
  cases o with
  | nx ρ S => exact hN _ _ h
  | rt d S => exact hR _ _ h
  | bk ρ S => exact hB _ _ h
  | ct ρ S => exact hC _ _ h
  | _ => exact h
theorem Out.Does.mono {o : Out} {N' B' C' : Rho → Sto → Prop} {R' : D → Sto → Prop} (h : o.Does N R B C) (hN : ∀ ρ S, N ρ S → N' ρ S) (hR : ∀ d S, R d S → R' d S) (hB : ∀ ρ S, B ρ S → B' ρ S) (hC : ∀ ρ S, C ρ S → C' ρ S) : o.Does N' R' B' C' := Out.DoesE.mono h hN hR hB hC
end
section
variable {S : Sto} {ρ : Rho} {Q : D → Sto → Prop} {N B C : Rho → Sto → Prop} {R : D → Sto → Prop} {E : EX} {EO : EXO}
@[simp] theorem does_seq {a b : MS} : (mSeq a b ρ S).DoesE EO N R B C = (a ρ S).DoesE EO (fun ρ S => (b ρ S).DoesE EO N R B C) R B C := by
  unfold mSeq
  cases a ρ S <;> rfl
@[simp] theorem does_asg {i : Nat} {m : ME} : (mAsg i m ρ S).DoesE EO N R B C = (m ρ S).DoesE (eAt EO ρ) fun d S => N (ρ.set i (some d)) S := by
  unfold mAsg
  rw [does_ofRes] <;> rfl
@[simp] theorem does_ret {m : ME} : (mRet m ρ S).DoesE EO N R B C = (m ρ S).DoesE (eAt EO ρ) R := by
  unfold mRet
  rw [does_ofRes] <;> rfl
@[simp] theorem does_retN : (mRetN ρ S).DoesE EO N R B C = R .non S := rfl
@[simp] theorem does_drop {m : ME} : (mDrop m ρ S).DoesE EO N R B C = (m ρ S).DoesE (eAt EO ρ) fun _ S => N ρ S := by
  unfold mDrop
  rw [does_ofRes] <;> rfl
@[simp] theorem does_nop : (mNop ρ S).DoesE EO N R B C = N ρ S := rfl
@[simp] theorem does_brk : (mBrk ρ S).DoesE EO N R B C = B ρ S := rfl
@[simp] theorem does_cont : (mCont ρ S).DoesE EO N R B C = C ρ S := rfl
/-- an if by what its test says -/
def BlQ (k : Bool → Sto → Prop) : D → Sto → Prop := fun d S => match d with
  | .bl b => k b S
  | _ => False
@[simp] theorem blQ_bl {k : Bool → Sto → Prop} {b : Bool} : BlQ k (.bl b) S = k b S := rfl
@[simp] theorem does_ifS {c : ME} {a b : MS} : (mIfS c a b ρ S).DoesE EO N R B C = (c ρ S).DoesE (eAt EO ρ) (BlQ fun k S => if k = true then (a ρ S).DoesE EO N R B C else (b ρ S).DoesE EO N R B C) := by
  unfold mIfS
  rw [does_ofRes]
  congr 1
  funext d S
  cases d with
  | bl k => cases k <;> rfl
  | _ => rfl
@[simp] theorem does_var {i : Nat} : (mVar i ρ S).DoesE E Q = match ρ[i]? with
    | some (some d) => Q d S
    | _ => False := by
  unfold mVar
  cases ρ[i]? with
  | none => rfl
  | some o => cases o <;> rfl
@[simp] theorem does_k {d : D} : (mK d ρ S).DoesE E Q = Q d S := rfl
@[simp] theorem var_eq {i : Nat} : mVar i ρ S = match ρ[i]? with
    | some (some d) => .ok d S
    | _ => .bad := rfl
@[simp] theorem k_eq {d : D} : mK d ρ S = .ok d S := rfl
def OptQ (o : Option D) (k : D → Prop) : Prop := match o with
  | some d => k d
  | none => False
@[simp] theorem optQ_some {d : D} {k : D → Prop} : OptQ (some d) k = k d := rfl
@[simp] theorem does_op {g : Sto → D → D → Option D} {a b : ME} : (mOp g a b ρ S).DoesE E Q = (a ρ S).DoesE E fun x S1 => (b ρ S1).DoesE E fun y S2 => OptQ (g S2 x y) fun z => Q z S2 := by
  unfold mOp
  rw [does_bind]
  congr 1
  funext x S1
  rw [does_bind]
  congr 1
  funext y S2
  cases g S2 x y <;> rfl
@[simp] theorem does_un {g : Sto → D → Option D} {a : ME} : (mUn g a ρ S).DoesE E Q = (a ρ S).DoesE E fun x S1 => OptQ (g S1 x) fun z => Q z S1 := by
  unfold mUn
  rw [does_bind]
  congr 1
  funext x S1
  cases g S1 x <;> rfl
@[simp] theorem does_and {a b : ME} : (mAnd a b ρ S).DoesE E Q = (a ρ S).DoesE E (BlQ fun k S1 => if k = true then (b ρ S1).DoesE E Q else Q (.bl false) S1) := by
  unfold mAnd
  rw [does_bind]
  congr 1
  funext d S
  cases d with
  | bl k => cases k <;> rfl
  | _ => rfl
@[simp] theorem does_or {a b : ME} : (mOr a b ρ S).DoesE E Q = (a ρ S).DoesE E (BlQ fun k S1 => if k = true then Q (.bl true) S1 else (b ρ S1).DoesE E Q) := by
  unfold mOr
  rw [does_bind]
  congr 1
  funext d S
  cases d with
  | bl k => cases k <;> rfl
  | _ => rfl
@[simp] theorem does_not {a : ME} : (mNot a ρ S).DoesE E Q = (a ρ S).DoesE E (BlQ fun k S1 => Q (.bl (!k)) S1) := by
  unfold mNot
  rw [does_bind]
  congr 1
  funext d S
  cases d <;> rfl
@[simp] theorem does_if {c a b : ME} : (mIf c a b ρ S).DoesE E Q = (c ρ S).DoesE E (BlQ fun k S1 => if k = true then (a ρ S1).DoesE E Q else (b ρ S1).DoesE E Q) := by
  unfold mIf
  rw [does_bind]
  congr 1
  funext d S
  cases d with
  | bl k => cases k <;> rfl
  | _ => rfl
@[simp] theorem does_nil {Q : List D → Sto → Prop} : (mNil ρ S).DoesE E Q = Q [] S := rfl
@[simp] theorem does_cons {a : ME} {r : MA} {Q : List D → Sto → Prop} : (mCons a r ρ S).DoesE E Q = (a ρ S).DoesE E fun x S1 => (r ρ S1).DoesE E fun xs S2 => Q (x :: xs) S2 := by
  unfold mCons
  rw [does_bind]
  congr 1
  funext x S1
  rw [does_bind] <;> rfl
@[simp] theorem does_tup {a : MA} : (mTup a ρ S).DoesE E Q = (a ρ S).DoesE E fun xs S1 => xs.length ≤ 16777216 ∧ Q (.tup xs) S1 := by
  unfold mTup
  rw [does_bind]
  congr 1
  funext xs S1
  by_cases h : xs.length ≤ 16777216
  · rw [if_pos h]; simp [h]
  · rw [if_neg h]; simp [h, Res.DoesE]
@[simp] theorem does_lst {a : MA} {Q : List D → Sto → Prop} : (mLst a ρ S).DoesE E Q = (a ρ S).DoesE E fun xs S1 => xs.length ≤ 16777216 ∧ Q xs S1 := by
  unfold mLst
  rw [does_bind]
  congr 1
  funext xs S1
  by_cases h : xs.length ≤ 16777216
  · rw [if_pos h]; simp [h]
  · rw [if_neg h]; simp [h, Res.DoesE]
@[simp] theorem does_fz {a : MA} : (mFz a ρ S).DoesE E Q = (a ρ S).DoesE E fun xs S1 => Q (.lst xs) S1 := by
  unfold mFz
  rw [does_bind] <;> rfl
@[simp] theorem does_new {a : MA} : (mNew a ρ S).DoesE E Q = (a ρ S).DoesE E fun xs S1 => Q (.cell S1.length) (S1 ++ [.lst xs]) := by
  unfold mNew
  rw [does_bind] <;> rfl
@[simp] theorem does_call {f : List D → Sto → Res D} {a : MA} : (mCall f a ρ S).DoesE E Q = (a ρ S).DoesE E fun xs S1 => (f xs S1).DoesE E Q := by
  unfold mCall
  rw [does_bind] <;> rfl
@[simp] theorem does_callB {g : Sto → List D → Option D} {a : MA} : (mCallB g a ρ S).DoesE E Q = (a ρ S).DoesE E fun xs S1 => OptQ (g S1 xs) fun z => Q z S1 := by
  unfold mCallB
  rw [does_bind]
  congr 1
  funext x S1
  cases g S1 x <;> rfl
@[simp] theorem does_callK {f : List D → Sto → Res D} {n q : Nat} {p : List Nat} {a k : MA} : (mCallK f n q p a k ρ S).DoesE E Q = (a ρ S).DoesE E fun xs S1 => (k ρ S1).DoesE E fun zs S2 => (xs.length = n ∧ zs.length = q) ∧ (f (p.filterMap ((xs ++ zs)[·]?)) S2).DoesE E Q := by
  unfold mCallK
  rw [does_bind]
  congr 1
  funext xs S1
  rw [does_bind]
  congr 1
  funext zs S2
  by_cases h : xs.length = n ∧ zs.length = q
  · rw [if_pos h]; simp [h]
  · rw [if_neg h]; simp [h, Res.DoesE]
@[simp] theorem does_chain {g g' : Sto → D → D → Option D} {a b c : ME} : (mChain g g' a b c ρ S).DoesE E Q = (a ρ S).DoesE E fun x S1 => (b ρ S1).DoesE E fun y S2 => OptQ (g S2 x y) fun z => BlQ (fun k S2 => if k = true then (c ρ S2).DoesE E fun w S3 => OptQ (g' S3 y w) fun z => Q z S3 else Q (.bl false) S2) z S2 := by
  unfold mChain
  rw [does_bind]
  congr 1
  funext x S1
  rw [does_bind]
  congr 1
  funext y S2
  cases g S2 x y with
  | none => rfl
  | some z =>
    cases z with
    | bl k =>
      cases k with
      | false => rfl
      | true =>
        show ((c ρ S2).bind _).DoesE E Q = _
        rw [does_bind]
        show _ = (c ρ S2).DoesE E _
        congr 1
        funext w S3
        cases g' S3 y w <;> rfl
    | _ => rfl
@[simp] theorem does_isi {T : Tn} {m : ME} : (mIsi T m ρ S).DoesE E Q = (m ρ S).DoesE E fun d S1 => OptQ ((tyOf S1 d).map fun t => .bl (isTn t T)) fun z => Q z S1 := by
  unfold mIsi
  rw [does_un]
@[simp] theorem does_isiT {T : List Tn} {m : ME} : (mIsiT T m ρ S).DoesE E Q = (m ρ S).DoesE E fun d S1 => OptQ ((tyOf S1 d).map fun t => .bl (T.any (isTn t ·))) fun z => Q z S1 := by
  unfold mIsiT
  rw [does_un]
@[simp] theorem does_asgG {f : D → Rho → Option Rho} {m : ME} : (mAsgG f m ρ S).DoesE EO N R B C = (m ρ S).DoesE (eAt EO ρ) fun d S1 => match f d ρ with
    | some ρ1 => N ρ1 S1
    | none => False := by
  unfold mAsgG
  rw [does_ofRes]
  congr 1
  funext d S1
  cases f d ρ <;> rfl
/-- a def -/
theorem does_def {np nN : Nat} {b : MS} {ds : List D} (h : ds.length = np) (hb : (b (ds.map some ++ List.replicate (nN - np) none) S).DoesE (eOut E) (fun _ S' => Q .non S') Q) : (mDef np nN b ds S).DoesE E Q := by
  unfold mDef
  rw [if_pos h]
  cases e : b (ds.map some ++ List.replicate (nN - np) none) S <;> rw [e] at hb <;> exact hb
@[simp] theorem does_for {mi : MA} {f : D → Rho → Option Rho} {mb : MS} : (mFor mi f mb ρ S).DoesE EO N R B C = (mi ρ S).DoesE (eAt EO ρ) fun ds S1 => (forL f mb ds ρ S1).DoesE EO N R B C := by
  unfold mFor
  rw [does_ofRes]
@[simp] theorem does_forL_nil {f : D → Rho → Option Rho} {mb : MS} : (forL f mb [] ρ S).DoesE EO N R B C = N ρ S := rfl
@[simp] theorem does_forL_cons {f : D → Rho → Option Rho} {mb : MS} {d : D} {r : List D} : (forL f mb (d :: r) ρ S).DoesE EO N R B C = match f d ρ with
    | none => False
    | some ρ1 => (mb ρ1 S).DoesE EO (fun ρ S => (forL f mb r ρ S).DoesE EO N R B C) R N (fun ρ S => (forL f mb r ρ S).DoesE EO N R B C) := by
  rw [forL]
  cases f d ρ with
  | none => rfl
  | some ρ1 =>
    simp only
    cases mb ρ1 S <;> rfl
/-- a loop by what holds ahead of each turn -/
theorem forL_does {f : D → Rho → Option Rho} {mb : MS} (I : List D → Rho → Sto → Prop) (step : ∀ d r ρ S, I (d :: r) ρ S → ∃ ρ1, f d ρ = some ρ1 ∧ (mb ρ1 S).DoesE EO (I r) R N (I r)) (stop : ∀ ρ S, I [] ρ S → N ρ S) :
    ∀ (ds : List D) (ρ : Rho) (S : Sto), I ds ρ S → (forL f mb ds ρ S).DoesE EO N R B C
  | [], ρ, S, h => stop ρ S h
  | d :: r, ρ, S, h => by
    obtain ⟨ρ1, e, k⟩ := step d r ρ S h
    unfold forL
    rw [e]
    simp only
    cases q : mb ρ1 S with
    | nx ρ2 S2 => rw [q] at k; exact forL_does I step stop r ρ2 S2 k
    | ct ρ2 S2 => rw [q] at k; exact forL_does I step stop r ρ2 S2 k
    | bk ρ2 S2 => rw [q] at k; exact k
    | rt d S2 => rw [q] at k; exact k
    | exc c fs ρ2 S2 => rw [q] at k; exact k
    | bad => rw [q] at k; exact k
theorem forL_cut {f : D → Rho → Option Rho} {mb : MS} (I : List D → Rho → Sto → Prop) (ds : List D) (start : I ds ρ S) (step : ∀ d r ρ S, I (d :: r) ρ S → ∃ ρ1, f d ρ = some ρ1 ∧ ∀ M : Rho → Sto → Prop, (∀ ρ S, I r ρ S → M ρ S) → (mb ρ1 S).DoesE EO M R N M) (stop : ∀ ρ S, I [] ρ S → N ρ S) :
    (forL f mb ds ρ S).DoesE EO N R B C :=
  forL_does I (fun d r ρ S h => let ⟨ρ1, e, k⟩ := step d r ρ S h; ⟨ρ1, e, k _ fun _ _ h => h⟩) stop ds ρ S start
@[simp] theorem does_iSeq {m : ME} {Q : List D → Sto → Prop} : (iSeq m ρ S).DoesE E Q = (m ρ S).DoesE E fun d S1 => match d with
    | .tup ds => Q ds S1
    | .lst ds => Q ds S1
    | _ => False := by
  unfold iSeq
  rw [does_bind]
  congr 1
  funext d S1
  cases d <;> rfl
@[simp] theorem does_iEnumS {m : ME} {Q : List D → Sto → Prop} : (iEnumS m ρ S).DoesE E Q = (m ρ S).DoesE E fun d S1 => match d with
    | .tup ds => Q (enumD ds) S1
    | .lst ds => Q (enumD ds) S1
    | _ => False := by
  unfold iEnumS
  rw [does_bind]
  congr 1
  funext d S1
  cases d <;> rfl
@[simp] theorem does_iRange1 {a : MA} {Q : List D → Sto → Prop} : (iRange1 a ρ S).DoesE E Q = (a ρ S).DoesE E fun ds S1 => match ds with
    | [.int j] => (j ≤ 16777216 ∧ -4611686018427387904 ≤ j) ∧ Q (rngD 0 j.toNat) S1
    | _ => False := by
  unfold iRange1
  rw [does_bind]
  congr 1
  funext ds S1
  split
  · rename_i j
    by_cases h : j ≤ 16777216 ∧ -4611686018427387904 ≤ j
    · rw [if_pos h]; simp [h]
    · rw [if_neg h]; simp [h, Res.DoesE]
  · rename_i h
    first
    | rfl
    | (split <;> first
      | rfl
      | (rename_i j; exact absurd rfl (h j)))
@[simp] theorem does_iRange2 {a : MA} {Q : List D → Sto → Prop} : (iRange2 a ρ S).DoesE E Q = (a ρ S).DoesE E fun ds S1 => match ds with
    | [.int i, .int j] => (-1000000000000 ≤ i ∧ i ≤ 1000000000000 ∧ -1000000000000 ≤ j ∧ j ≤ 1000000000000 ∧ j - i ≤ 16777216) ∧ Q (rngD i (j - i).toNat) S1
    | _ => False := by
  unfold iRange2
  rw [does_bind]
  congr 1
  funext ds S1
  split
  · rename_i i j
    by_cases h : -1000000000000 ≤ i ∧ i ≤ 1000000000000 ∧ -1000000000000 ≤ j ∧ j ≤ 1000000000000 ∧ j - i ≤ 16777216
    · rw [if_pos h]; simp [h]
    · rw [if_neg h]; simp [h, Res.DoesE]
  · rename_i h
    first
    | rfl
    | (split <;> first
      | rfl
      | (rename_i i j; exact absurd rfl (h i j)))
/-- what a comprehension gives -/
def LcQ (f : D → Rho → Option Rho) (mt me : ME) (ρ : Rho) (ds : List D) (S : Sto) (Q : List D → Sto → Prop) : Prop := ∃ ys S2, lcL f mt me ρ ds S = some (ys, S2) ∧ Q ys S2
@[simp] theorem lcQ_nil {f : D → Rho → Option Rho} {mt me : ME} {Q : List D → Sto → Prop} : LcQ f mt me ρ [] S Q = Q [] S := by
  refine propext ⟨?_, fun q => ⟨[], S, rfl, q⟩⟩
  rintro ⟨ys, S2, e, q⟩
  cases e
  exact q
@[simp] theorem lcQ_cons {f : D → Rho → Option Rho} {mt me : ME} {d : D} {r : List D} {Q : List D → Sto → Prop} : LcQ f mt me ρ (d :: r) S Q = match f d ρ with
    | none => False
    | some ρ1 => (mt ρ1 S).Does (BlQ fun k S1 => if k = true then (me ρ1 S1).Does fun y S2 => LcQ f mt me ρ r S2 fun ys S3 => Q (y :: ys) S3 else LcQ f mt me ρ r S1 Q) := by
  unfold LcQ
  rw [lcL]
  cases f d ρ with
  | none => simp
  | some ρ1 =>
    simp only
    cases mt ρ1 S with
    | ok v S1 =>
      cases v with
      | bl b =>
        cases b with
        | true =>
          simp only [does_ok, blQ_bl, if_true]
          cases me ρ1 S1 with
          | ok y S2 =>
            simp only [does_ok]
            cases lcL f mt me ρ r S2 with
            | none => simp
            | some z =>
              obtain ⟨ys, S3⟩ := z
              refine propext ⟨?_, ?_⟩
              · rintro ⟨ys', S', e, q⟩
                cases e
                exact ⟨_, _, rfl, q⟩
              · rintro ⟨ys', S', e, q⟩
                cases e
                exact ⟨_, _, rfl, q⟩
          | _ => simp [Res.DoesE]
        | false => simp [does_ok, blQ_bl]
      | _ => simp [does_ok, BlQ]
    | _ => simp [Res.DoesE]
@[simp] theorem does_yes {Q : D → Sto → Prop} : (mYes ρ S).DoesE E Q = Q (.bl true) S := rfl
@[simp] theorem does_lc {mi : MA} {f : D → Rho → Option Rho} {mt me : ME} {vs : List Nat} {Q : List D → Sto → Prop} : (mLc mi f mt me vs ρ S).DoesE E Q = (mi ρ S).DoesE E fun ds S1 => LcQ f mt me (wipeD ρ vs) ds S1 Q := by
  unfold mLc
  rw [does_bind]
  congr 1
  funext ds S1
  unfold LcQ
  cases e : lcL f mt me (wipeD ρ vs) ds S1 with
  | none => simp [Res.DoesE]
  | some r =>
    obtain ⟨ys, S2⟩ := r
    refine propext ⟨fun q => ⟨ys, S2, rfl, q⟩, ?_⟩
    rintro ⟨ys', S2', e', q⟩
    cases e'
    exact q
/-- a comprehension without a test whose element changes no cell -/
theorem lcQ_map {f : D → Rho → Option Rho} {me : ME} {ds : List D} {Q : List D → Sto → Prop} (g : D → D) (h : ∀ d, d ∈ ds → ∃ ρ1, f d ρ = some ρ1 ∧ ∀ Q : D → Sto → Prop, Q (g d) S → (me ρ1 S).Does Q) (q : Q (ds.map g) S) : LcQ f mYes me ρ ds S Q := by
  induction ds generalizing Q with
  | nil => rw [lcQ_nil]; exact q
  | cons d r ih =>
    obtain ⟨ρ1, e, k⟩ := h d List.mem_cons_self
    rw [lcQ_cons, e]
    simp only [does_yes, blQ_bl, if_true]
    exact k _ (ih (fun d hd => h d (List.mem_cons_of_mem _ hd)) q)
@[simp] theorem does_slT {a : ME} {lo hi : MO} : (mSlT a lo hi ρ S).DoesE E Q = (a ρ S).DoesE E fun x S1 => (lo ρ S1).DoesE E fun l S2 => (hi ρ S2).DoesE E fun h S3 => match x with
    | .tup ds => Q (.tup (cutD ds l h)) S3
    | _ => False := by
  unfold mSlT
  rw [does_bind]; congr 1; funext x S1
  rw [does_bind]; congr 1; funext l S2
  rw [does_bind]; congr 1; funext h S3
  cases x <;> rfl
@[simp] theorem does_slL {a : ME} {lo hi : MO} {Q : List D → Sto → Prop} : (mSlL a lo hi ρ S).DoesE E Q = (a ρ S).DoesE E fun x S1 => (lo ρ S1).DoesE E fun l S2 => (hi ρ S2).DoesE E fun h S3 => match lstOf S3 x with
    | some ds => Q (cutD ds l h) S3
    | none => False := by
  unfold mSlL
  rw [does_bind]; congr 1; funext x S1
  rw [does_bind]; congr 1; funext l S2
  rw [does_bind]; congr 1; funext h S3
  cases lstOf S3 x <;> rfl
@[simp] theorem does_part {m : ME} {Q : Option Int → Sto → Prop} : (mPart m ρ S).DoesE E Q = (m ρ S).DoesE E fun x S1 => match x with
    | .int i => Q (some i) S1
    | _ => False := by
  unfold mPart
  rw [does_bind]; congr 1; funext x S1
  cases x <;> rfl
@[simp] theorem does_noPart {Q : Option Int → Sto → Prop} : (mNoPart ρ S).DoesE E Q = Q none S := rfl
@[simp] theorem does_back {m : ME} : (mBack m ρ S).DoesE E Q = (m ρ S).DoesE E fun x S1 => match x with
    | .tup ds => Q (.tup ds.reverse) S1
    | _ => False := by
  unfold mBack
  rw [does_bind]; congr 1; funext x S1
  cases x <;> rfl
@[simp] theorem does_catL {a b : MA} {Q : List D → Sto → Prop} : (mCatL a b ρ S).DoesE E Q = (a ρ S).DoesE E fun xs S1 => (b ρ S1).DoesE E fun ys S2 => xs.length + ys.length ≤ 16777216 ∧ Q (xs ++ ys) S2 := by
  unfold mCatL
  rw [does_bind]; congr 1; funext xs S1
  rw [does_bind]; congr 1; funext ys S2
  by_cases h : xs.length + ys.length ≤ 16777216
  · rw [if_pos h]; simp [h]
  · rw [if_neg h]; simp [h, Res.DoesE]
@[simp] theorem does_app {o m : ME} : (mApp o m ρ S).DoesE EO N R B C = (o ρ S).DoesE (eAt EO ρ) fun x S1 => match x with
    | .cell n => ∃ ds0, S1[n]? = some (.lst ds0) ∧ (m ρ S1).DoesE (eAt EO ρ) fun d S2 => ∃ ds, S2[n]? = some (.lst ds) ∧ ds.length < 16777216 ∧ N ρ (S2.set n (.lst (ds ++ [d])))
    | _ => False := by
  unfold mApp
  rw [does_ofRes]; congr 1; funext x S1
  cases x with
  | cell n =>
    simp only
    cases e : S1[n]? with
    | none => simp [Out.DoesE]
    | some c =>
      cases c with
      | lst ds0 =>
        simp only [does_ofRes]
        refine propext ⟨fun q => ⟨ds0, rfl, q.mono fun d S2 z => ?_⟩, ?_⟩
        · revert z
          cases e2 : S2[n]? with
          | none => exact fun z => z.elim
          | some c2 =>
            cases c2 with
            | lst ds =>
              intro z
              by_cases l : ds.length < 16777216
              · simp only [if_pos l] at z
                exact ⟨ds, rfl, l, z⟩
              · simp only [if_neg l] at z
                exact z.elim
            | _ => exact fun z => z.elim
        · rintro ⟨ds', e', q⟩
          refine q.mono fun d S2 z => ?_
          obtain ⟨ds, e2, l, z⟩ := z
          simp only [e2, if_pos l]
          exact z
      | _ => simp [Out.DoesE]
  | _ => rfl
@[simp] theorem does_setIx {m o i : ME} : (mSetIx m o i ρ S).DoesE EO N R B C = (m ρ S).DoesE (eAt EO ρ) fun d S1 => (o ρ S1).DoesE (eAt EO ρ) fun x S2 => (i ρ S2).DoesE (eAt EO ρ) fun y S3 => match x, y with
    | .cell n, .int j => ∃ ds k, S3[n]? = some (.lst ds) ∧ ixN ds.length j = some k ∧ N ρ (S3.set n (.lst (ds.set k d)))
    | _, _ => False := by
  unfold mSetIx
  rw [does_ofRes]; congr 1; funext d S1
  rw [does_ofRes]; congr 1; funext x S2
  rw [does_ofRes]; congr 1; funext y S3
  cases x with
  | cell n =>
    cases y with
    | int j =>
      simp only
      cases e : S3[n]? with
      | none => simp [Out.DoesE]
      | some c =>
        cases c with
        | lst ds =>
          simp only
          cases e2 : ixN ds.length j with
          | none => simp [Out.DoesE, e2]
          | some k => simp [e2]
        | _ => simp [Out.DoesE]
    | _ => rfl
  | _ => rfl
@[simp] theorem does_aug {i : Nat} {f : Int → Int → Int} {m : ME} : (mAug i f m ρ S).DoesE EO N R B C = match ρ[i]? with
    | some (some (.int a)) => (m ρ S).DoesE (eAt EO ρ) fun d S1 => match d with
      | .int b => N (ρ.set i (some (.int (f a b)))) S1
      | _ => False
    | _ => False := by
  unfold mAug
  cases ρ[i]? with
  | none => rfl
  | some o =>
    cases o with
    | none => rfl
    | some d =>
      cases d with
      | int a =>
        simp only
        rw [does_ofRes]; congr 1; funext d S1
        cases d <;> rfl
      | _ => rfl
@[simp] theorem does_repL {a : MA} {b : ME} {Q : List D → Sto → Prop} : (mRepL a b ρ S).DoesE E Q = (a ρ S).DoesE E fun xs S1 => (b ρ S1).DoesE E fun y S2 => match y with
    | .int k => (k < 1000000 ∧ xs.length * k.toNat ≤ 16777216 ∧ -1000000 < k) ∧ Q (List.replicate k.toNat xs).flatten S2
    | _ => False := by
  unfold mRepL
  rw [does_bind]; congr 1; funext xs S1
  rw [does_bind]; congr 1; funext y S2
  cases y with
  | int k =>
    simp only
    by_cases h : k < 1000000 ∧ xs.length * k.toNat ≤ 16777216 ∧ -1000000 < k
    · rw [if_pos h]; simp [h]
    · rw [if_neg h]; simp [h, Res.DoesE]
  | _ => rfl
@[simp] theorem does_catC {a : ME} {b : MA} {Q : List D → Sto → Prop} : (mCatC a b ρ S).DoesE E Q = (a ρ S).DoesE E fun x S1 => (b ρ S1).DoesE E fun ys S2 => match x with
    | .cell n => ∃ xs, S2[n]? = some (.lst xs) ∧ xs.length + ys.length ≤ 16777216 ∧ Q (xs ++ ys) S2
    | _ => False := by
  unfold mCatC
  rw [does_bind]; congr 1; funext x S1
  rw [does_bind]; congr 1; funext ys S2
  cases x with
  | cell n =>
    simp only
    cases e : S2[n]? with
    | none => simp [Res.DoesE]
    | some c =>
      cases c with
      | lst xs =>
        simp only
        by_cases h : xs.length + ys.length ≤ 16777216
        · rw [if_pos h]; simp [h]
        · rw [if_neg h]; simp [h, Res.DoesE]
      | _ => simp [Res.DoesE]
  | _ => rfl
@[simp] theorem does_catV {a : ME} {b : MA} {Q : List D → Sto → Prop} : (mCatV a b ρ S).DoesE E Q = (a ρ S).DoesE E fun x S1 => (b ρ S1).DoesE E fun ys S2 => match lstOf S2 x with
    | some xs => xs.length + ys.length ≤ 16777216 ∧ Q (xs ++ ys) S2
    | none => False := by
  unfold mCatV
  rw [does_bind]; congr 1; funext x S1
  rw [does_bind]; congr 1; funext ys S2
  cases e : lstOf S2 x with
  | none => simp [Res.DoesE]
  | some xs =>
    simp only
    by_cases h : xs.length + ys.length ≤ 16777216
    · rw [if_pos h]; simp [h]
    · rw [if_neg h]; simp [h, Res.DoesE]
end
end Dm
-- text DmAny
namespace Dm
open PySem L2 PySem.Spec PyProof.Rows
open PySem.W (Frag)
/-! ### over what stands in a tuple, a list, a cell, as it stands at each turn -/
def ItA (F : Fx) (μ : List Addr) (H : Hp) (J : It) (p : D × Nat) : Prop := p.2 ≤ 16777216 ∧
  ∀ (F' : Fx) (μ' : List Addr) (H' : Hp) (S' : Sto) (i : Nat), Ext F F' H → Up μ H μ' H' → RS F' μ' H' S' → ∀ ds, seqOf S' p.1 = some ds →
    (∀ x, ds[i]? = some x → J.go i H' ∧ ∀ v H'', J.yld i H' v H'' → H'' = H' ∧ RD F' μ' H' v x) ∧ (i = ds.length → J.stop i H')
/-- the word: the thing and its length at the beginning -/
abbrev MP := Rho → Sto → Res (D × Nat)
def iAny (m : ME) : MP := fun ρ S => (m ρ S).bind fun d S1 => match seqOf S1 d with
  | some ds => .ok (d, ds.length) S1
  | none => .bad
structure DIA (X : Cx) (W : WX) (tg iter : Expr) (m : MP) : Prop where
  ex : ∃ wi, PI X tg iter wi ∧ ∀ ξ μ σ H ρ S R, RG (fx X ξ) μ H σ ρ → RS (fx X ξ) μ H S → WR (fx X ξ) (fun μ H (J : It) (p : D × Nat) => ItA (fx X ξ) μ H J p) (m ρ S) R (fun cls dd H' => W cls dd σ H') μ H → wi σ H R
section
variable {X : Cx} {W : WX} {tg e a b c : Expr} {es : List Expr} {st : Stmt} {sts ts : List Stmt} {ma mb mc m : ME} {mr : MA} {m1 m2 : MS} {pos p p1 p2 p3 : Pos}
theorem itA_tup {F : Fx} {μ : List Addr} {H : Hp} {a : Addr} {xs : List V} {ds : List D} (f : FzT F μ H a xs) (r : RDs F μ H xs ds) (z : Sized F.K H) : ItA F μ H (Itt F.K a) (.tup ds, ds.length) := by
  obtain ⟨h1, h2⟩ := itt_ok f r z
  refine ⟨h1, fun F' μ' H' S' i e u s es h => ?_⟩
  cases h
  refine ⟨fun x hx => ?_, fun hi => (h2 F' μ' H' S' i e u s (by omega)).2 hi⟩
  have hl := (List.getElem?_eq_some_iff.mp hx).1
  obtain ⟨k1, k2⟩ := (h2 F' μ' H' S' i e u s (by omega)).1 x hx
  refine ⟨k1, fun v H'' y => ?_⟩
  obtain ⟨e1, _⟩ := id y
  obtain ⟨_, _, k3⟩ := k2 v H'' y
  subst e1
  exact ⟨rfl, k3⟩
theorem itA_lst {F : Fx} {μ : List Addr} {H : Hp} {v : V} {d : D} {ds : List D} {S : Sto} {a : Addr} (ev : v = .ref a) (s : RS F μ H S) (r : RD F μ H v d) (e : lstOf S d = some ds) (z : Sized F.K H) : ItA F μ H (Itl F.K a) (d, ds.length) := by
  obtain ⟨a', xs, e1, h1, h2⟩ := RD.lstS s r e
  rw [ev] at e1; cases e1
  refine ⟨by rw [← h2.length]; exact z _ _ (.inl h1), fun F' μ' H' S' i ex u s' es h => ?_⟩
  have r' : RD F' μ' H' v d := r.mv (.ext ex u)
  have eL : lstOf S' d = some es := by
    cases d with
    | tup _ => exact nomatch e
    | lst _ => exact h
    | cell n => exact h
    | _ => exact nomatch e
  obtain ⟨a2, ys, e2, h3, h4⟩ := RD.lstS s' r' eL
  rw [ev] at e2; cases e2
  rw [ex.k] at h3
  refine ⟨fun x hx => ?_, fun hi => ⟨ys, h3, by rw [h4.length, hi]; exact Nat.le_refl _⟩⟩
  obtain ⟨w, h5, h6⟩ := h4.get hx
  refine ⟨⟨ys, w, h3, h5⟩, fun v' H'' y => ?_⟩
  obtain ⟨e3, y⟩ := y
  have q := y ys h3
  rw [h5] at q; cases q
  exact ⟨e3, h6⟩
theorem dia_any (h : DE X W e m) : DIA X W tg e (iAny m) := by
  obtain ⟨te, pe, k⟩ := h
  refine ⟨_, piOr (piSized (pi_tup pe)) (piSized (pi_list pe)), fun ξ μ σ H ρ S R g s h => ?_⟩
  cases e1 : m ρ S with
  | bad => unfold iAny at h; rw [e1] at h; exact h.elim
  | exc c fs S1 =>
    unfold iAny at h; rw [e1] at h
    refine .inl (k ξ μ σ H ρ S _ g s ?_)
    rw [e1]; exact h
  | ok d S1 =>
    unfold iAny at h
    rw [e1] at h
    have h : WR (fx X ξ) (fun μ H (J : It) (p : D × Nat) => ItA (fx X ξ) μ H J p) (match seqOf S1 d with | some ds => .ok (d, ds.length) S1 | none => .bad) R (fun cls dd H' => W cls dd σ H') μ H := h
    by_cases c : ∃ ds, d = .tup ds
    · obtain ⟨ds, rfl⟩ := c
      refine .inl (k ξ μ σ H ρ S _ g s ?_)
      rw [e1]
      intro v μ1 H1 u1 s1 r1
      cases r1 with
      | @tup a xs _ f r => exact ⟨a, rfl, ⟨xs, f.sq⟩, fun z => h _ μ1 H1 u1 s1 (itA_tup f r z)⟩
    · cases q : seqOf S1 d with
      | none => rw [q] at h; exact h.elim
      | some ds =>
        rw [q] at h
        refine .inr (k ξ μ σ H ρ S _ g s ?_)
        rw [e1]
        have eL : lstOf S1 d = some ds := by
          cases d with
          | tup es => exact absurd ⟨es, rfl⟩ c
          | lst _ => exact q
          | cell n => exact q
          | _ => exact nomatch q
        intro v μ1 H1 u1 s1 r1
        obtain ⟨a, xs, rfl, h3, h4⟩ := RD.lstS s1 r1 eL
        exact ⟨a, rfl, ⟨xs, h3⟩, fun z => h _ μ1 H1 u1 s1 (itA_lst rfl s1 r1 eL z)⟩
def forA (d : D) (f : D → Rho → Option Rho) (mb : MS) : Nat → Nat → Rho → Sto → Out
  | 0, _, _, _ => .bad
  | k + 1, i, ρ, S => match seqOf S d with
    | some ds => match ds[i]? with
      | none => if i = ds.length then .nx ρ S else .bad
      | some x => match f x ρ with
        | none => .bad
        | some ρ1 => match mb ρ1 S with
          | .nx ρ2 S2 => forA d f mb k (i + 1) ρ2 S2
          | .ct ρ2 S2 => forA d f mb k (i + 1) ρ2 S2
          | .bk ρ2 S2 => .nx ρ2 S2
          | .rt d S2 => .rt d S2
          | .exc c fs ρ2 S2 => .exc c fs ρ2 S2
          | .bad => .bad
    | none => .bad
def mForA (m : ME) (f : D → Rho → Option Rho) (mb : MS) : MS := fun ρ S => ofRes (iAny m ρ S) ρ fun p S1 => forA p.1 f mb (p.2 + 1) 0 ρ S1
theorem ds_forA {f : D → Rho → Option Rho} {is : List Nat} {mb : MS} (hp : PassesOwn (model X.prog X.w) X.A X.env X.xe) (hc : X.calm = true) (hi : DE X W e m) (hg : DG X tg f is) (hb : DSs X W sts mb)
    (hs : ∀ x, foldedSetIterable e X.env x = pure x := by intro _; rfl) : DS X W (.For tg e sts [] pos) (mForA m f mb) := by
  obtain ⟨wi, pi, ki⟩ := dia_any (tg := tg) hi
  obtain ⟨tg', pg, kg⟩ := hg
  obtain ⟨tb, pb, kb⟩ := hb
  refine ⟨_, ps_for hp hc pi pg pb hs, fun ξ μ σ H ρ S D g s h => ki ξ μ σ H ρ S _ g s (WS'.bind g h fun p S1 J μ1 H1 u1 s1 r1 h1 => ?_)⟩
  obtain ⟨d, n0⟩ := p
  refine ⟨fun i k σ' H' => ∃ μ' ρ' S', Up μ1 H1 μ' H' ∧ RS (fx X ξ) μ' H' S' ∧ RG (fx X ξ) μ' H' σ' ρ' ∧ WS' (fx X ξ) (forA d f mb k i ρ' S') D W μ' H',
    ⟨_, μ1, ρ, S1, .refl, s1, g.up u1, h1⟩, ?_⟩
  rintro i k σ' H' ⟨μ', ρ', S', u', s', g', w⟩
  cases k with
  | zero => exact w.elim
  | succ k =>
    unfold forA at w
    cases q' : seqOf S' d with
    | none => rw [q'] at w; exact w.elim
    | some es =>
      rw [q'] at w
      simp only at w
      obtain ⟨t1, t2⟩ := r1.2 (fx X ξ) μ' H' S' i .refl u' s' es q'
      cases q2 : es[i]? with
      | none =>
        rw [q2] at w
        simp only at w
        by_cases hi : i = es.length
        · rw [if_pos hi] at w
          exact .inl ⟨t2 hi, w σ' μ' H' .refl s' g'⟩
        · rw [if_neg hi] at w; exact w.elim
      | some x =>
        rw [q2] at w
        simp only at w
        obtain ⟨go, yl⟩ := t1 x q2
        cases ef : f x ρ' with
        | none => rw [ef] at w; exact w.elim
        | some ρ1 =>
          rw [ef] at w
          simp only at w
          refine .inr ⟨go, fun σ2 H2 => ∃ μ' ρ' S', Up μ1 H1 μ' H2 ∧ RS (fx X ξ) μ' H2 S' ∧ RG (fx X ξ) μ' H2 σ2 ρ' ∧ WS' (fx X ξ) (forA d f mb k (i + 1) ρ' S') D W μ' H2,
            fun σ2 H2 z => ⟨k, Nat.lt_succ_self k, z⟩, fun v H2 y => ?_⟩
          obtain ⟨y1, y2⟩ := yl v H2 y
          subst y1
          refine kg ξ μ' σ' _ ρ' v x ρ1 _ g' y2 ef fun σ2 g2 _ => ?_
          refine kb ξ μ' σ2 _ ρ1 S' _ g2 s' ?_
          cases eb : mb ρ1 S' with
          | nx ρ2 S2 =>
            rw [eb] at w
            exact fun σ3 μ3 H3 u3 s3 g3 => ⟨μ3, ρ2, S2, u'.trans u3, s3, g3, w.shift u3⟩
          | ct ρ2 S2 =>
            rw [eb] at w
            exact fun σ3 μ3 H3 u3 s3 g3 => ⟨μ3, ρ2, S2, u'.trans u3, s3, g3, w.shift u3⟩
          | bk ρ2 S2 => rw [eb] at w; exact w
          | rt d S2 => rw [eb] at w; exact w
          | exc c fs ρ2 S2 => rw [eb] at w; exact w
          | bad => rw [eb] at w; exact w
/-! ### comprehensions -/
def lcA (d : D) (f : D → Rho → Option Rho) (mt me : ME) (ρ : Rho) : Nat → Nat → Sto → Option (List D × Sto)
  | 0, _, _ => none
  | k + 1, i, S => match seqOf S d with
    | none => none
    | some ds => match ds[i]? with
      | none => if i = ds.length then some ([], S) else none
      | some x => match f x ρ with
        | none => none
        | some ρ1 => match mt ρ1 S with
          | .ok (.bl true) S1 => match me ρ1 S1 with
            | .ok y S2 => match lcA d f mt me ρ k (i + 1) S2 with
              | some (ys, S3) => some (y :: ys, S3)
              | none => none
            | _ => none
          | .ok (.bl false) S1 => lcA d f mt me ρ k (i + 1) S1
          | _ => none
def mLcA (m : ME) (f : D → Rho → Option Rho) (mt me : ME) (vs : List Nat) : MA := fun ρ S => (iAny m ρ S).bind fun p S1 => match lcA p.1 f mt me (wipeD ρ vs) (p.2 + 1) 0 S1 with
  | some (ys, S2) => .ok ys S2
  | none => .bad
theorem lcA_pos {d : D} {f : D → Rho → Option Rho} {mt me : ME} {ρ : Rho} {k i : Nat} {S : Sto} {r : List D × Sto} (h : lcA d f mt me ρ k i S = some r) : 0 < k := by
  cases k with
  | zero => exact nomatch h
  | succ k => exact Nat.succ_pos k
/-- the reading of a comprehension -/
theorem lcA_read {wi : TI} {tg' : TG} {tt : TT} {te : TE} {f : D → Rho → Option Rho} {is vs : List Nat} {ξ μ : List Addr} {σ : L2.St} {H : Hp} {ρ : Rho} {S : Sto} {Q : VK} {Wx : Value → Option Addr → Hp → Prop} {m mt me : ME}
    (ki : ∀ R, WR (fx X ξ) (fun μ H (J : It) (p : D × Nat) => ItA (fx X ξ) μ H J p) (iAny m ρ S) R Wx μ H → wi σ H R)
    (kg : ∀ ξ μ σ H ρ v d ρ' (Q : L2.St → Hp → Prop), RG (fx X ξ) μ H σ ρ → RD (fx X ξ) μ H v d → f d ρ = some ρ' → (∀ σ', RG (fx X ξ) μ H σ' ρ' → (∀ js : List Nat, (∀ i ∈ is, i ∈ js) → wipe σ' js = wipe σ js) → Q σ' H) → tg' v σ H Q)
    (kt : ∀ ξ μ σ H ρ S Q, RG (fx X ξ) μ H σ ρ → RS (fx X ξ) μ H S → WT' (fx X ξ) (mt ρ S) Q (fun cls dd H' => W0 cls dd σ H') μ H → tt σ H Q)
    (ke : ∀ ξ μ σ H ρ S Q, RG (fx X ξ) μ H σ ρ → RS (fx X ξ) μ H S → WE' (fx X ξ) (me ρ S) Q (fun cls dd H' => W0 cls dd σ H') μ H → te σ H Q)
    (hv : ∀ i ∈ is, i ∈ vs) (g : RG (fx X ξ) μ H σ ρ) (s : RS (fx X ξ) μ H S) (h : WL' (fx X ξ) (mLcA m f mt me vs ρ S) Q Wx μ H) : tLc wi tg' tt te vs σ H Q := by
  refine ki _ (WL'.bind h fun p S1 J μ1 H1 u1 s1 r1 h1 => ?_)
  obtain ⟨d, n0⟩ := p
  intro D hD
  obtain ⟨hz, r1⟩ := r1
  have hz : n0 ≤ 16777216 := hz
  have n1 : D ∉ μ1 := s1.out hD
  have x1 : D ∉ ξ := s1.outX hD
  have ext : Ext (fx X ξ) ((fx X ξ).hold D) H1 := ⟨rfl, rfl, fun a ha => (List.mem_cons.mp ha).elim (fun z => .inr (by rw [z]; exact hD)) .inl⟩
  have main : WL' (fx X ξ) (match lcA d f mt me (wipeD ρ vs) (n0 + 1) 0 S1 with
    | some (ys, S2) => Res.ok ys S2
    | none => .bad) Q Wx μ1 H1 := h1
  refine ⟨fun i k H' => ∃ μ' S' acc dacc, Up μ1 H1 μ' H' ∧ RS ((fx X ξ).hold D) μ' H' S' ∧ H' D = some (.lst acc) ∧ RDs ((fx X ξ).hold D) μ' H' acc dacc ∧ acc.length ≤ i ∧ i + k = n0 + 1 ∧
      ∃ ys S2, lcA d f mt me (wipeD ρ vs) k i S' = some (ys, S2) ∧ ∀ μ2 H2 xs, Up μ1 H1 μ2 H2 → RS ((fx X ξ).hold D) μ2 H2 S2 → RDs ((fx X ξ).hold D) μ2 H2 xs (dacc ++ ys) → H2 D = some (.lst xs) → Q (.ref D) H2,
    ⟨_, μ1, S1, [], [], .fresh hD, s1.holds hD, upd_same, .nil, Nat.le_refl _, Nat.zero_add _, ?_⟩, ?_⟩
  · cases q : lcA d f mt me (wipeD ρ vs) (n0 + 1) 0 S1 with
    | none => rw [q] at main; exact main.elim
    | some r =>
      obtain ⟨ys, S2⟩ := r
      rw [q] at main
      exact ⟨ys, S2, rfl, fun μ2 H2 xs u2 s2 r2 e2 => main D xs μ2 H2 u2 hD s2 r2 e2⟩
  rintro i k H' ⟨μ', S', acc, dacc, u', s', hacc, racc, hla, hi, ys, S2, eL, fin⟩
  cases k with
  | zero => exact nomatch eL
  | succ k =>
    unfold lcA at eL
    cases q' : seqOf S' d with
    | none => rw [q'] at eL; exact nomatch eL
    | some es =>
      rw [q'] at eL
      simp only at eL
      obtain ⟨t1, t2⟩ := r1 ((fx X ξ).hold D) μ' H' S' i ext u' s' es q'
      cases q2 : es[i]? with
      | none =>
        rw [q2] at eL
        simp only at eL
        by_cases e : i = es.length
        · rw [if_pos e] at eL
          cases eL
          exact .inl ⟨t2 e, fin μ' H' acc u' s' (by rw [List.append_nil]; exact racc) hacc⟩
        · rw [if_neg e] at eL; exact nomatch eL
      | some x0 =>
        rw [q2] at eL
        simp only at eL
        obtain ⟨go, yl⟩ := t1 x0 q2
        cases ef : f x0 (wipeD ρ vs) with
        | none => rw [ef] at eL; exact nomatch eL
        | some ρ1 =>
          rw [ef] at eL
          simp only at eL
          refine .inr ⟨go, fun H2 => ∃ μ' S' acc dacc, Up μ1 H1 μ' H2 ∧ RS ((fx X ξ).hold D) μ' H2 S' ∧ H2 D = some (.lst acc) ∧ RDs ((fx X ξ).hold D) μ' H2 acc dacc ∧ acc.length ≤ i + 1 ∧ (i + 1) + k = n0 + 1 ∧
              ∃ ys S2, lcA d f mt me (wipeD ρ vs) k (i + 1) S' = some (ys, S2) ∧ ∀ μ2 H2 xs, Up μ1 H1 μ2 H2 → RS ((fx X ξ).hold D) μ2 H2 S2 → RDs ((fx X ξ).hold D) μ2 H2 xs (dacc ++ ys) → H2 D = some (.lst xs) → Q (.ref D) H2,
            fun H2 z => ⟨k, Nat.lt_succ_self k, z⟩, fun x H2 y => ?_⟩
          obtain ⟨eH, r2⟩ := yl x H2 y
          subst eH
          have g2 : RG (fx X (D :: ξ)) μ' H2 (wipe σ vs) (wipeD ρ vs) := (((g.up u1).mv (.ext ext u'))).wipe vs
          refine kg (D :: ξ) μ' (wipe σ vs) H2 (wipeD ρ vs) x _ ρ1 _ g2 r2 ef fun σ3 g3 w3 => ?_
          have nD : D ∉ μ' := (s'.xi D List.mem_cons_self).1
          have ww : wipe (wipe σ vs) vs = wipe σ vs := by
            refine List.ext_getElem? fun k => ?_
            rw [wipe_get, wipe_get, wipe_length]
            by_cases q : k ∈ vs ∧ k < σ.length
            · rw [if_pos q, if_pos q]
            · rw [if_neg q, if_neg q]
          refine ⟨by rw [w3 vs hv, ww], ?_⟩
          refine kt (D :: ξ) μ' σ3 H2 ρ1 S' _ g3 s' ?_
          cases et : mt ρ1 S' with
          | bad => rw [et] at eL; exact nomatch eL
          | exc c fs S3 => rw [et] at eL; exact nomatch eL
          | ok dd S3 =>
            rw [et] at eL
            cases dd with
            | bl b =>
              intro μ3 H3 u3 s3
              have eD3 : H3 D = some (.lst acc) := u3.keep _ _ hacc nD
              cases b with
              | false =>
                exact ⟨μ3, S3, acc, dacc, u'.trans u3, s3, eD3, racc.up u3, Nat.le_succ_of_le hla, by omega, ys, S2, eL, fin⟩
              | true =>
                simp only at eL
                refine ke (D :: ξ) μ3 σ3 H3 ρ1 S3 _ (g3.up u3) s3 ?_
                cases ee : me ρ1 S3 with
                | bad => rw [ee] at eL; exact nomatch eL
                | exc c fs S4 => rw [ee] at eL; exact nomatch eL
                | ok y S4 =>
                  rw [ee] at eL
                  intro v μ4 H4 u4 s4 r4
                  simp only at eL
                  cases er : lcA d f mt me (wipeD ρ vs) k (i + 1) S4 with
                  | none => rw [er] at eL; exact nomatch eL
                  | some q =>
                    obtain ⟨zs, S5⟩ := q
                    have kp := lcA_pos er
                    rw [er] at eL
                    cases eL
                    have nD3 : D ∉ μ3 := (s3.xi D List.mem_cons_self).1
                    have eD4 : H4 D = some (.lst acc) := u4.keep _ _ eD3 nD3
                    refine ⟨acc, eD4, by rw [sizeLine_eq]; omega, μ4, S4, acc ++ [v], dacc ++ [y], ?_, RS.wr (F := fx X ξ) (p := D) s4, upd_same, RDs.mv (Mv.wr (F := fx X ξ) (p := D)) _ (RDs.append (F := (fx X ξ).hold D) ((racc.up u3).up u4) (.cons r4 .nil)), by rw [List.length_append, List.length_singleton]; omega, by omega, zs, S2, er, fun μ5 H5 xs u5 s5 r5 e5 => fin μ5 H5 xs u5 s5 (by rw [List.append_assoc] at r5; exact r5) e5⟩
                    have U := u'.trans (u3.trans u4)
                    exact ⟨U.pre, U.new, fun a o ha na => by
                      rw [upd_ne (ne_of_none ha hD)]
                      exact U.keep a o ha na⟩
            | _ => exact nomatch eL
theorem dl_lcA {elt : Expr} {ifs : List Expr} {scope : Scope} {own : List (Str × Nat)} {f : D → Rho → Option Rho} {is : List Nat} {mt me : ME} (hc : X.calm = true) (hN : X.N.Nodup) (hi : DE X W e m) (ok : BlkOk X.N X.env.scope scope own)
    (hg : ∀ (s : Shared) (H : Hp) (C : Addr) (cl : List (Str × Addr)) (fp : List Addr), DG (X.blk s H scope (compEnvC scope cl C X.env) fp) tg f is)
    (ht : ∀ (s : Shared) (H : Hp) (C : Addr) (cl : List (Str × Addr)) (fp : List Addr), DTs (X.blk s H scope (compEnvC scope cl C X.env) fp) W0 ifs mt)
    (he : ∀ (s : Shared) (H : Hp) (C : Addr) (cl : List (Str × Addr)) (fp : List Addr), DE (X.blk s H scope (compEnvC scope cl C X.env) fp) W0 elt me)
    (hv : ∀ i ∈ is, i ∈ own.map (·.2) := by decide) (hs : ∀ x, foldedSetIterable e X.env x = pure x := by intro _; rfl) : DL X W (.ListComp elt [⟨tg, e, ifs, 0⟩] scope pos) (mLcA m f mt me (own.map (·.2))) := by
  obtain ⟨wi, pi, ki⟩ := dia_any (tg := tg) hi
  obtain ⟨tg', pg, kg⟩ := dg_all (Xf := blkOf X scope) (K := X.K) (mg := X.mg) (fun _ => rfl) (fun _ => rfl) fun i => hg i.1 i.2.1 i.2.2.1 i.2.2.2.1 i.2.2.2.2
  obtain ⟨tt, pt, kt⟩ := dts_all (Xf := blkOf X scope) (K := X.K) (mg := X.mg) (fun _ => rfl) (fun _ => rfl) fun i => ht i.1 i.2.1 i.2.2.1 i.2.2.2.1 i.2.2.2.2
  obtain ⟨te, pe, ke⟩ := de_all (Xf := blkOf X scope) (K := X.K) (mg := X.mg) (fun _ => rfl) (fun _ => rfl) fun i => he i.1 i.2.1 i.2.2.1 i.2.2.2.1 i.2.2.2.2
  refine ⟨_, pe_lc hc hN pi ok (fun s H C cl fp => pg (s, H, C, cl, fp)) (fun s H C cl fp => pt (s, H, C, cl, fp)) (fun s H C cl fp => pe (s, H, C, cl, fp)) hs, fun ξ μ σ H ρ S Q g s h => ?_⟩
  exact lcA_read (fun R => ki ξ μ σ H ρ S R g s) kg kt ke hv g s h
theorem ds_setLcA (i : Nat) {y : Str} {py spos : Pos} {elt : Expr} {ifs : List Expr} {scope : Scope} {own : List (Str × Nat)} {f : D → Rho → Option Rho} {is : List Nat} {mt me : ME} {mw : MA → ME} (hw : ∀ {te : TE} {mr : MA}, RdL X W te mr → RdE X W te (mw mr)) (hc : X.calm = true) (hN : X.N.Nodup) (hi : DE X W e m) (ok : BlkOk X.N X.env.scope scope own)
    (hg : ∀ (s : Shared) (H : Hp) (C : Addr) (cl : List (Str × Addr)) (fp : List Addr), DG (X.blk s H scope (compEnvC scope cl C X.env) fp) tg f is)
    (ht : ∀ (s : Shared) (H : Hp) (C : Addr) (cl : List (Str × Addr)) (fp : List Addr), DTs (X.blk s H scope (compEnvC scope cl C X.env) fp) W0 ifs mt)
    (he : ∀ (s : Shared) (H : Hp) (C : Addr) (cl : List (Str × Addr)) (fp : List Addr), DE (X.blk s H scope (compEnvC scope cl C X.env) fp) W0 elt me)
    (hv : ∀ i ∈ is, i ∈ own.map (·.2) := by decide) (hy : X.N[i]? = some y := by rfl) (hyl : X.env.scope.names.lookup y = some .local := by rfl)
    (hsw : swapsWith (.ListComp elt [⟨tg, e, ifs, 0⟩] scope pos) (some (.Name y py)) spos.line X.env = pure true := by rfl) (hs : ∀ x, foldedSetIterable e X.env x = pure x := by intro _; rfl) :
    DS X W (.Assign [.Name y py] (.ListComp elt [⟨tg, e, ifs, 0⟩] scope pos) spos) (mAsg i (mw (mLcA m f mt me (own.map (·.2))))) := by
  obtain ⟨wi, pi, ki⟩ := dia_any (tg := tg) hi
  obtain ⟨tg', pg, kg⟩ := dg_all (Xf := blkOf X scope) (K := X.K) (mg := X.mg) (fun _ => rfl) (fun _ => rfl) fun i => hg i.1 i.2.1 i.2.2.1 i.2.2.2.1 i.2.2.2.2
  obtain ⟨tt, pt, kt⟩ := dts_all (Xf := blkOf X scope) (K := X.K) (mg := X.mg) (fun _ => rfl) (fun _ => rfl) fun i => ht i.1 i.2.1 i.2.2.1 i.2.2.2.1 i.2.2.2.2
  obtain ⟨te, pe, ke⟩ := de_all (Xf := blkOf X scope) (K := X.K) (mg := X.mg) (fun _ => rfl) (fun _ => rfl) fun i => he i.1 i.2.1 i.2.2.1 i.2.2.2.1 i.2.2.2.2
  have rd : RdL X W (tLc wi tg' tt te (own.map (·.2))) (mLcA m f mt me (own.map (·.2))) := fun ξ μ σ H ρ S Q g s h => lcA_read (fun R => ki ξ μ σ H ρ S R g s) kg kt ke hv g s h
  refine ⟨_, ps_setLc (i := i) hc hN hy hyl hsw pi ok (fun s H C cl fp => pg (s, H, C, cl, fp)) (fun s H C cl fp => pt (s, H, C, cl, fp)) (fun s H C cl fp => pe (s, H, C, cl, fp)) hs, fun ξ μ σ H ρ S D g s h => ?_⟩
  exact hw rd ξ μ σ H ρ S _ g s (WS'.bind g h fun x S1 v μ1 H1 u1 s1 r1 h1 => h1 _ μ1 H1 .refl s1 ((g.up u1).set i r1))
end
/-! ### what they do -/
section
variable {S : Sto} {ρ : Rho} {N B C : Rho → Sto → Prop} {R : D → Sto → Prop} {f : D → Rho → Option Rho} {mt me : ME} {mb : MS} {E : EX} {EO : EXO}
theorem seqOf_fix {d : D} {ds : List D} (h : d = .tup ds ∨ d = .lst ds) (S : Sto) : seqOf S d = some ds := by
  rcases h with rfl | rfl <;> rfl
theorem forA_fix {d : D} {ds : List D} (h : d = .tup ds ∨ d = .lst ds) : ∀ (r pre : List D) (ρ : Rho) (S : Sto), ds = pre ++ r → forA d f mb (r.length + 1) pre.length ρ S = forL f mb r ρ S
  | [], pre, ρ, S, e => by
    unfold forA
    rw [seqOf_fix h]
    have e1 : ds[pre.length]? = none := by rw [e, List.append_nil]; exact List.getElem?_eq_none (Nat.le_refl _)
    simp only [e1]
    rw [if_pos (by rw [e, List.append_nil])] <;> rfl
  | x :: r, pre, ρ, S, e => by
    unfold forA
    rw [seqOf_fix h]
    have e1 : ds[pre.length]? = some x := by rw [e, List.getElem?_append_right (Nat.le_refl _), Nat.sub_self] <;> rfl
    simp only [e1]
    rw [forL]
    cases f x ρ with
    | none => rfl
    | some ρ1 =>
      simp only
      have q : ∀ ρ2 S2, forA d f mb (x :: r).length (pre.length + 1) ρ2 S2 = forL f mb r ρ2 S2 := fun ρ2 S2 => by
        have q := forA_fix h r (pre ++ [x]) ρ2 S2 (by rw [e, List.append_assoc] <;> rfl)
        rw [List.length_append, List.length_singleton] at q
        exact q
      cases mb ρ1 S <;> first | rfl | exact q _ _
def forAS (d : D) (f : D → Rho → Option Rho) (mb : MS) (ρ : Rho) (S : Sto) : Out := match seqOf S d with
  | some ds => forA d f mb (ds.length + 1) 0 ρ S
  | none => .bad
@[simp] theorem does_forA {m : ME} : (mForA m f mb ρ S).DoesE EO N R B C = (m ρ S).DoesE (eAt EO ρ) fun d S1 => (forAS d f mb ρ S1).DoesE EO N R B C := by
  unfold mForA
  rw [does_ofRes]
  unfold iAny
  rw [does_bind]
  congr 1
  funext d S1
  unfold forAS
  cases seqOf S1 d <;> rfl
@[simp] theorem forAS_tup {ds : List D} : forAS (.tup ds) f mb ρ S = forL f mb ds ρ S := forA_fix (.inl rfl) ds [] ρ S rfl
@[simp] theorem forAS_lst {ds : List D} : forAS (.lst ds) f mb ρ S = forL f mb ds ρ S := forA_fix (.inr rfl) ds [] ρ S rfl
/-- a comprehension over a cell that stays: an invariant of the stores; the items kept -/
def LcAQ (d : D) (f : D → Rho → Option Rho) (mt me : ME) (ρ : Rho) (n : Nat) (S : Sto) (Q : List D → Sto → Prop) : Prop := ∃ ys S', lcA d f mt me ρ (n + 1) 0 S = some (ys, S') ∧ Q ys S'
@[simp] theorem does_lcA {m : ME} {vs : List Nat} {Q : List D → Sto → Prop} : (mLcA m f mt me vs ρ S).DoesE E Q = (m ρ S).DoesE E fun d S1 => match seqOf S1 d with
    | some ds => LcAQ d f mt me (wipeD ρ vs) ds.length S1 Q
    | none => False := by
  unfold mLcA iAny
  rw [does_bind, does_bind]
  congr 1
  funext d S1
  cases seqOf S1 d with
  | none => rfl
  | some ds =>
    simp only [does_ok]
    unfold LcAQ
    cases e : lcA d f mt me (wipeD ρ vs) (ds.length + 1) 0 S1 with
    | none => simp [Res.DoesE]
    | some r =>
      obtain ⟨ys, S2⟩ := r
      refine propext ⟨fun q => ⟨ys, S2, rfl, q⟩, ?_⟩
      rintro ⟨ys', S2', e', q⟩
      cases e'
      exact q
theorem lcAQ_inv {d : D} {Q : List D → Sto → Prop} (I : Sto → Prop) {α : Type} {i : α → D} (t : α → Bool) (g : α → D) {as0 : List α} (hI : ∀ S, I S → seqOf S d = some (as0.map i))
    (h : ∀ a, a ∈ as0 → ∀ S1, I S1 → ∃ ρ1, f (i a) ρ = some ρ1 ∧ (mt ρ1 S1).Does (fun d S2 => d = .bl (t a) ∧ I S2) ∧ ∀ S2, I S2 → t a = true → (me ρ1 S2).Does (fun d S3 => d = g a ∧ I S3)) :
    ∀ {as pre : List α} {S : Sto}, as0 = pre ++ as → I S → (∀ S', I S' → Q ((as.filter t).map g) S') → ∃ ys S', lcA d f mt me ρ (as.length + 1) pre.length S = some (ys, S') ∧ Q ys S'
  | [], pre, S, e, hS, q => by
    refine ⟨[], S, ?_, q S hS⟩
    unfold lcA
    rw [hI S hS]
    have e1 : (as0.map i)[pre.length]? = none := by rw [e, List.append_nil]; exact List.getElem?_eq_none (by rw [List.length_map]; exact Nat.le_refl _)
    simp only [e1]
    rw [if_pos (by rw [e, List.append_nil, List.length_map])]
  | a :: as, pre, S, e, hS, q => by
    have ha : a ∈ as0 := by rw [e]; exact List.mem_append.mpr (.inr List.mem_cons_self)
    obtain ⟨ρ1, ef, k1, k2⟩ := h a ha S hS
    have e1 : (as0.map i)[pre.length]? = some (i a) := by rw [List.getElem?_map, e, List.getElem?_append_right (Nat.le_refl _), Nat.sub_self] <;> rfl
    have en : as0 = (pre ++ [a]) ++ as := by rw [e, List.append_assoc] <;> rfl
    have lp : (pre ++ [a]).length = pre.length + 1 := by rw [List.length_append, List.length_singleton]
    unfold lcA
    rw [hI S hS]
    simp only [e1, ef]
    obtain ⟨d1, S1, e2, rfl, hS1⟩ := k1.eq
    rw [e2]
    cases c : t a with
    | false =>
      simp only
      obtain ⟨ys, S', z1, z2⟩ := lcAQ_inv (as := as) (pre := pre ++ [a]) I t g hI h en hS1 (fun S' h' => by
        have := q S' h'
        rw [List.filter_cons, if_neg (by rw [c]; decide)] at this
        exact this)
      rw [lp] at z1
      exact ⟨ys, S', z1, z2⟩
    | true =>
      simp only
      obtain ⟨d2, S2, e3, rfl, hS2⟩ := (k2 S1 hS1 c).eq
      rw [e3]
      simp only
      obtain ⟨ys, S', z1, z2⟩ := lcAQ_inv (as := as) (pre := pre ++ [a]) (Q := fun ys S' => Q (g a :: ys) S') I t g hI h en hS2 (fun S' h' => by
        have := q S' h'
        rw [List.filter_cons, if_pos c] at this
        exact this)
      rw [lp] at z1
      have z1 : lcA d f mt me ρ (a :: as).length (pre.length + 1) S2 = some (ys, S') := z1
      rw [z1]
      exact ⟨_, _, rfl, z2⟩
theorem lcAQ_ext {d : D} {Q : List D → Sto → Prop} (I : Sto → Prop) {α : Type} {i : α → D} (t : α → Bool) (g : α → D) {as : List α} {n : Nat} (hn : n = as.length) (hI : ∀ S, I S → seqOf S d = some (as.map i)) (hS : I S)
    (h : ∀ a, a ∈ as → ∀ S1, I S1 → ∃ ρ1, f (i a) ρ = some ρ1 ∧ (mt ρ1 S1).Does (fun d S2 => d = .bl (t a) ∧ I S2) ∧ ∀ S2, I S2 → t a = true → (me ρ1 S2).Does (fun d S3 => d = g a ∧ I S3))
    (q : ∀ S', I S' → Q ((as.filter t).map g) S') : LcAQ d f mt me ρ n S Q := by
  subst hn
  exact lcAQ_inv (pre := []) I t g hI h rfl hS q
theorem lcA_fix {d : D} {ds : List D} (h : d = .tup ds ∨ d = .lst ds) : ∀ (r pre : List D) (S : Sto), ds = pre ++ r → lcA d f mt me ρ (r.length + 1) pre.length S = lcL f mt me ρ r S
  | [], pre, S, e => by
    unfold lcA
    rw [seqOf_fix h]
    have e1 : ds[pre.length]? = none := by rw [e, List.append_nil]; exact List.getElem?_eq_none (Nat.le_refl _)
    simp only [e1]
    rw [if_pos (by rw [e, List.append_nil])] <;> rfl
  | x :: r, pre, S, e => by
    unfold lcA
    rw [seqOf_fix h]
    have e1 : ds[pre.length]? = some x := by rw [e, List.getElem?_append_right (Nat.le_refl _), Nat.sub_self] <;> rfl
    simp only [e1]
    rw [lcL]
    have q : ∀ S2, lcA d f mt me ρ (x :: r).length (pre.length + 1) S2 = lcL f mt me ρ r S2 := fun S2 => by
      have q := lcA_fix h r (pre ++ [x]) S2 (by rw [e, List.append_assoc] <;> rfl)
      rw [List.length_append, List.length_singleton] at q
      exact q
    cases f x ρ with
    | none => rfl
    | some ρ1 =>
      simp only
      cases mt ρ1 S with
      | ok d1 S1 =>
        cases d1 with
        | bl b =>
          cases b with
          | true =>
            simp only
            cases me ρ1 S1 with
            | ok y S2 =>
              simp only
              rw [q] <;> (cases lcL f mt me ρ r S2 <;> rfl)
            | _ => rfl
          | false => exact q S1
        | _ => rfl
      | _ => rfl
theorem lcAQ_fix {d : D} {ds : List D} {Q : List D → Sto → Prop} {n : Nat} (h : d = .tup ds ∨ d = .lst ds) (hn : n = ds.length) : LcAQ d f mt me ρ n S Q = LcQ f mt me ρ ds S Q := by
  subst hn
  unfold LcAQ LcQ
  have := lcA_fix (f := f) (mt := mt) (me := me) (ρ := ρ) h ds [] S rfl
  rw [show (([] : List D).length) = 0 from rfl] at this
  rw [this]
@[simp] theorem lcAQ_tup {ds : List D} {Q : List D → Sto → Prop} : LcAQ (.tup ds) f mt me ρ ds.length S Q = LcQ f mt me ρ ds S Q := lcAQ_fix (.inl rfl) rfl
@[simp] theorem lcAQ_lst {ds : List D} {Q : List D → Sto → Prop} : LcAQ (.lst ds) f mt me ρ ds.length S Q = LcQ f mt me ρ ds S Q := lcAQ_fix (.inr rfl) rfl
end
@[simp] theorem lcAQ_fixT {ds : List D} {f : D → Rho → Option Rho} {mt me : ME} {ρ : Rho} {n : Nat} {S : Sto} {Q : List D → Sto → Prop} {α : Type} {g : α → D} {as : List α} : LcAQ (.tup (as.map g)) f mt me ρ as.length S Q = LcQ f mt me ρ (as.map g) S Q := lcAQ_fix (.inl rfl) (by rw [List.length_map])
@[simp] theorem lcAQ_fixL {ds : List D} {f : D → Rho → Option Rho} {mt me : ME} {ρ : Rho} {n : Nat} {S : Sto} {Q : List D → Sto → Prop} {α : Type} {g : α → D} {as : List α} : LcAQ (.lst (as.map g)) f mt me ρ as.length S Q = LcQ f mt me ρ (as.map g) S Q := lcAQ_fix (.inr rfl) (by rw [List.length_map])
theorem seqOf_cell {S : Sto} {n : Nat} {ds : List D} (h : S[n]? = some (.lst ds)) : seqOf S (.cell n) = some ds := by
  show (match S[n]? with | some (Cell.lst ds) => some ds | _ => none) = _
  rw [h]
end Dm
-- text Hw2
namespace Dm
open PySem L2
end Dm
-- text DmSimp
namespace Dm
open PySem L2
section
variable {S : Sto} {k : D → Prop} {i j : Int} {ds es : List D} {n : Nat} {a b : Bool} {x y : Str}
@[simp] theorem optQ_none : OptQ none k = False := rfl
@[simp] theorem optQ_ite {c : Prop} [Decidable c] {d : D} : OptQ (if c then some d else none) k = (c ∧ k d) := by
  by_cases h : c
  · rw [if_pos h]; simp [h]
  · rw [if_neg h]; simp [h]
@[simp] theorem optQ_map {α : Type} {o : Option α} {f : α → D} : OptQ (o.map f) k = (match o with
    | some z => k (f z)
    | none => False) := by cases o <;> rfl
@[simp] theorem gI_int {f : Int → Int → D} : gI f S (.int i) (.int j) = some (f i j) := rfl
@[simp] theorem gIC_int {C : Int → Int → Prop} [∀ i j, Decidable (C i j)] {f : Int → Int → D} : gIC C f S (.int i) (.int j) = if C i j then some (f i j) else none := rfl
@[simp] theorem gAdd_int : gAdd S (.int i) (.int j) = some (.int (i + j)) := rfl
@[simp] theorem gAdd_tup : gAdd S (.tup ds) (.tup es) = if ds.length + es.length ≤ 16777216 then some (.tup (ds ++ es)) else none := rfl
@[simp] theorem gNeg_int : gNeg S (.int i) = some (.int (-i)) := rfl
@[simp] theorem gLen_tup : gLen S [.tup ds] = some (.int ds.length) := rfl
@[simp] theorem gLen_lst : gLen S [.lst ds] = some (.int ds.length) := rfl
theorem lstOf_cell (h : S[n]? = some (.lst ds)) : lstOf S (.cell n) = some ds := by simp only [lstOf, h]
theorem gLen_cell (h : S[n]? = some (.lst ds)) : gLen S [.cell n] = some (.int ds.length) := by
  show (lstOf S (.cell n)).map _ = _
  rw [lstOf_cell h] <;> rfl
@[simp] theorem gInt1_int : gInt1 S [.int i] = some (.int i) := rfl
@[simp] theorem gInt1_bl : gInt1 S [.bl b] = some (.int (if b then 1 else 0)) := rfl
@[simp] theorem gII_int {f : Int → Int → Int} : gII f S [.int i, .int j] = some (.int (f i j)) := rfl
@[simp] theorem gTuple_tup : gTuple S [.tup ds] = some (.tup ds) := rfl
@[simp] theorem gTuple_lst : gTuple S [.lst ds] = some (.tup ds) := rfl
theorem gTuple_cell (h : S[n]? = some (.lst ds)) : gTuple S [.cell n] = some (.tup ds) := by
  show (lstOf S (.cell n)).map _ = _
  rw [lstOf_cell h] <;> rfl
@[simp] theorem gIx_tup : gIx S (.tup ds) (.int i) = atI ds i := rfl
@[simp] theorem gIx_lst : gIx S (.lst ds) (.int i) = atI ds i := rfl
theorem gIx_cell (h : S[n]? = some (.lst ds)) : gIx S (.cell n) (.int i) = atI ds i := by
  show (lstOf S (.cell n)).bind _ = _
  rw [lstOf_cell h] <;> rfl
@[simp] theorem gEq_int : gEq S (.int i) (.int j) = some (.bl (i == j)) := rfl
@[simp] theorem gNe_int : gNe S (.int i) (.int j) = some (.bl (!(i == j))) := rfl
@[simp] theorem gEq_str : gEq S (.str x) (.str y) = some (.bl (x == y)) := rfl
@[simp] theorem gNe_str : gNe S (.str x) (.str y) = some (.bl (!(x == y))) := rfl
theorem shaped_bool (b : Bool) : SeqAt.shaped (.bool b) = true := by cases b <;> decide
@[simp] theorem gEq_bl : gEq S (.bl a) (.bl b) = some (.bl (a == b)) := by
  show (if SeqAt.shaped (.bool a) = true ∧ SeqAt.shaped (.bool b) = true then some (PyData.eqv (.bool a) (.bool b)) else none).map D.bl = _
  rw [if_pos ⟨shaped_bool a, shaped_bool b⟩]
  simp [PyData.eqv]
@[simp] theorem gNe_bl : gNe S (.bl a) (.bl b) = some (.bl (!(a == b))) := by
  show (if SeqAt.shaped (.bool a) = true ∧ SeqAt.shaped (.bool b) = true then some (PyData.eqv (.bool a) (.bool b)) else none).map (fun b => D.bl (!b)) = _
  rw [if_pos ⟨shaped_bool a, shaped_bool b⟩]
  simp [PyData.eqv]
@[simp] theorem gIsN_non {neg : Bool} {d : D} : gIsN neg S d .non = some (.bl (if neg then !isNon d else isNon d)) := rfl
@[simp] theorem isNon_non : isNon .non = true := rfl
@[simp] theorem isNon_bl : isNon (.bl b) = false := rfl
@[simp] theorem isNon_int : isNon (.int i) = false := rfl
@[simp] theorem isNon_str : isNon (.str x) = false := rfl
@[simp] theorem isNon_tup : isNon (.tup ds) = false := rfl
@[simp] theorem isNon_lst : isNon (.lst ds) = false := rfl
@[simp] theorem isNon_cell : isNon (.cell n) = false := rfl
@[simp] theorem tyOf_non : tyOf S .non = some .non := rfl
@[simp] theorem tyOf_bl : tyOf S (.bl b) = some .bl := rfl
@[simp] theorem tyOf_int : tyOf S (.int i) = some .int := rfl
@[simp] theorem tyOf_str : tyOf S (.str x) = some .str := rfl
@[simp] theorem tyOf_tup : tyOf S (.tup ds) = some .tup := rfl
@[simp] theorem tyOf_exv {c : Str} {fs : List (Str × Int)} : tyOf S (.exn c fs) = some .exn := rfl
@[simp] theorem tyOf_lst : tyOf S (.lst ds) = some .lst := rfl
@[simp] theorem seqOf_tup : seqOf S (.tup ds) = some ds := rfl
@[simp] theorem seqOf_lst : seqOf S (.lst ds) = some ds := rfl
@[simp] theorem lstOf_lst : lstOf S (.lst ds) = some ds := rfl
@[simp] theorem flatD_int : flatD (.int i) = true := rfl
@[simp] theorem eqF_int : eqF (.int i) (.int j) = (i == j) := rfl
@[simp] theorem tgN_eq {ρ : Rho} {d : D} {i : Nat} : tgN i d ρ = some (ρ.set i (some d)) := rfl
@[simp] theorem tgT_eq {ρ : Rho} {m : Nat} {f : List D → Rho → Option Rho} : tgT m f (.tup ds) ρ = if ds.length = m then f ds ρ else none := rfl
@[simp] theorem tgCons_eq {ρ : Rho} {d : D} {f : D → Rho → Option Rho} {g : List D → Rho → Option Rho} : tgCons f g (d :: ds) ρ = (f d ρ).bind fun ρ1 => g ds ρ1 := rfl
@[simp] theorem tgNil_eq {ρ : Rho} : tgNil [] ρ = some ρ := rfl
@[simp] theorem atI_zero {α : Type} {x : α} {xs : List α} : atI (x :: xs) 0 = some x := by simp [atI, ixN]
@[simp] theorem atI_one {α : Type} {x y : α} {xs : List α} : atI (x :: y :: xs) 1 = some y := by
  have h : (1 : Int) < ((xs.length + 1 + 1 : Nat) : Int) := by omega
  simp only [atI, ixN, List.length_cons, if_pos (show (0 : Int) ≤ 1 by decide), if_pos h] <;> rfl
@[simp] theorem atI_two {α : Type} {x y z : α} {xs : List α} : atI (x :: y :: z :: xs) 2 = some z := by
  have h : (2 : Int) < ((xs.length + 1 + 1 + 1 : Nat) : Int) := by omega
  simp only [atI, ixN, List.length_cons, if_pos (show (0 : Int) ≤ 2 by decide), if_pos h] <;> rfl
theorem atI_of {α : Type} {xs : List α} {i : Int} (h0 : 0 ≤ i) (h : i < xs.length) : atI xs i = xs[i.toNat]? := by
  simp [atI, ixN, h0, h]
theorem cdivw {i j : Int} (h0 : 0 < j) (h : j < 18446744073709551616) : CDivW i j := by
  refine ⟨h0, ?_⟩
  have h1 : j.natAbs < 2 ^ 64 := by omega
  have h2 : j.natAbs.log2 < 64 := (Nat.log2_lt (by omega)).mpr h1
  omega
theorem log2_le {a : Nat} {n : Nat} (h : a < 2 ^ n) : a.log2 ≤ n := by
  by_cases h0 : a = 0
  · subst h0
    rw [Nat.log2_zero]; exact Nat.zero_le _
  · exact Nat.le_of_lt ((Nat.log2_lt h0).mpr h)
theorem cmulw {i j : Int} (n m : Nat) (h : i.natAbs < 2 ^ n) (h' : j.natAbs < 2 ^ m) (hs : n + m < 1000000) : CMulW i j := by
  have h1 := log2_le h
  have h2 := log2_le h'
  show i.natAbs.log2 + j.natAbs.log2 < 1000000
  omega
theorem cmulw64 {i j : Int} (h : -18446744073709551616 < i ∧ i < 18446744073709551616) (h' : -18446744073709551616 < j ∧ j < 18446744073709551616) : CMulW i j := cmulw 64 64 (by omega) (by omega) (by decide)
end
end Dm
-- text DmDict
namespace Dm
open PySem L2 PySem.Spec PyProof.Rows
open PySem.W (Frag)
/-! ### dicts whose keys are ints and texts -/
def keyD : D → Option Key
  | .int i => some (.inl i)
  | .str x => some (.inr x)
  | _ => none
def valD (kvs : List (Key × D)) (k : Key) : Option D := (kvs.find? fun kv => decide (kv.1 = k)).map (·.2)
def putD (kvs : List (Key × D)) (k : Key) (v : D) : List (Key × D) :=
  if (kvs.any fun kv => decide (kv.1 = k)) = true then kvs.map (fun kv => if kv.1 = k then (kv.1, v) else kv) else kvs ++ [(k, v)]
def mergeD (kvs more : List (Key × D)) : List (Key × D) := more.foldl (fun acc kv => putD acc kv.1 kv.2) kvs
def dicOf (S : Sto) : D → Option (List (Key × D))
  | .cell n => match S[n]? with
    | some (.dic kvs) => some kvs
    | _ => none
  | _ => none
section
variable {F : Fx} {μ : List Addr} {H : Hp} {S : Sto}
theorem keyD_of {v : V} {d : D} {k : Key} (r : RD F μ H v d) (e : keyD d = some k) : v = kV k := by
  cases r with
  | int i => cases e; rfl
  | str x => cases e; rfl
  | _ => exact nomatch e
theorem valV_of {k : Key} : ∀ {vk : List (Key × V)} {kvs : List (Key × D)} {d : D}, KvR F μ H vk kvs → valD kvs k = some d → ∃ v, valV vk k = some v ∧ RD F μ H v d
  | _, _, d, .nil, e => by cases e
  | p :: vk, q :: kvs, d, .cons h r, e => by
    obtain ⟨h1, h2⟩ := h
    by_cases c : q.1 = k
    · have e1 : valD (q :: kvs) k = some q.2 := by simp [valD, List.find?_cons, c]
      have e2 : valV (p :: vk) k = some p.2 := valV_pos (by rw [h1]; exact c)
      rw [e1] at e; cases e
      exact ⟨_, e2, h2⟩
    · have e1 : valD (q :: kvs) k = valD kvs k := by simp [valD, List.find?_cons, c]
      have e2 : valV (p :: vk) k = valV vk k := by
        have : ¬ p.1 = k := by rw [h1]; exact c
        simp [valV, List.find?_cons, this]
      rw [e1] at e
      rw [e2]
      exact valV_of r e
theorem any_of {k : Key} : ∀ {vk : List (Key × V)} {kvs : List (Key × D)}, KvR F μ H vk kvs → (vk.any fun kv => decide (kv.1 = k)) = (kvs.any fun kv => decide (kv.1 = k))
  | _, _, .nil => rfl
  | p :: vk, q :: kvs, .cons h r => by rw [List.any_cons, List.any_cons, h.1, any_of r]
theorem kvr_map {k : Key} {v : V} {d : D} (hd : RD F μ H v d) : ∀ {vk : List (Key × V)} {kvs : List (Key × D)}, KvR F μ H vk kvs → KvR F μ H (vk.map fun kv => if kv.1 = k then (kv.1, v) else kv) (kvs.map fun kv => if kv.1 = k then (kv.1, d) else kv)
  | _, _, .nil => .nil
  | p :: vk, q :: kvs, .cons h r => by
    refine .cons ?_ (kvr_map hd r)
    obtain ⟨h1, h2⟩ := h
    by_cases c : q.1 = k
    · have c' : p.1 = k := by rw [h1]; exact c
      simp only [if_pos c, if_pos c']
      exact ⟨h1, hd⟩
    · have c' : ¬ p.1 = k := by rw [h1]; exact c
      simp only [if_neg c, if_neg c']
      exact ⟨h1, h2⟩
theorem kvr_snoc {p : Key × V} {q : Key × D} (h : p.1 = q.1 ∧ RD F μ H p.2 q.2) : ∀ {vk : List (Key × V)} {kvs : List (Key × D)}, KvR F μ H vk kvs → KvR F μ H (vk ++ [p]) (kvs ++ [q])
  | _, _, .nil => .cons h .nil
  | _, _, .cons a r => .cons a (kvr_snoc h r)
theorem kvr_put {k : Key} {v : V} {d : D} (hd : RD F μ H v d) {vk : List (Key × V)} {kvs : List (Key × D)} (r : KvR F μ H vk kvs) : KvR F μ H (putK vk k v) (putD kvs k d) := by
  unfold putK putD
  rw [any_of r]
  split
  · exact kvr_map hd r
  · exact kvr_snoc ⟨rfl, hd⟩ r
theorem kvr_len : ∀ {vk : List (Key × V)} {kvs : List (Key × D)}, KvR F μ H vk kvs → vk.length = kvs.length
  | _, _, .nil => rfl
  | _, _, .cons _ r => by rw [List.length_cons, List.length_cons, kvr_len r]
theorem kvr_merge : ∀ {vm : List (Key × V)} {more : List (Key × D)} {vk : List (Key × V)} {kvs : List (Key × D)}, KvR F μ H vm more → KvR F μ H vk kvs → KvR F μ H (mergeK vk vm) (mergeD kvs more)
  | _, _, _, _, .nil, r => r
  | p :: vm, q :: more, vk, kvs, .cons h t, r => by
    obtain ⟨h1, h2⟩ := h
    unfold mergeK mergeD
    rw [List.foldl_cons, List.foldl_cons, h1]
    exact kvr_merge t (kvr_put h2 r)
theorem kvr_mv {F' : Fx} {μ' : List Addr} {H' : Hp} (m : Mv F μ H F' μ' H') {vk : List (Key × V)} {kvs : List (Key × D)} (r : KvR F μ H vk kvs) : KvR F' μ' H' vk kvs := Paired.mapP r fun _ _ z => ⟨z.1, z.2.mv m⟩
theorem dic_at {v : V} {d : D} {kvs : List (Key × D)} (s : RS F μ H S) (r : RD F μ H v d) (e : dicOf S d = some kvs) : ∃ n a vk, d = .cell n ∧ v = .ref a ∧ μ[n]? = some a ∧ S[n]? = some (.dic kvs) ∧ H a = some (.dK vk) ∧ KvR F μ H vk kvs := by
  cases r with
  | @cell a n ea =>
    have e : (match S[n]? with | some (Cell.dic kvs) => some kvs | _ => none) = some kvs := e
    cases q : S[n]? with
    | none => rw [q] at e; exact nomatch e
    | some c =>
      rw [q] at e
      cases c with
      | dic kvs' =>
        cases e
        obtain ⟨vk, h1, h2⟩ := s.at_ n a _ ea q
        exact ⟨n, a, vk, rfl, rfl, ea, q, h1, h2⟩
      | _ => exact nomatch e
  | _ => exact nomatch e
/-- a reserved thing as a cell -/
theorem RS.asCellG {p : Addr} {c : Cell} (r : RS (F.hold p) μ H S) (hx : p ∉ F.ξ) (hc : CellOk F (μ ++ [p]) H p c) : RS F (μ ++ [p]) H (S ++ [c]) := by
  have np := (r.xi p List.mem_cons_self).1
  refine ⟨by rw [List.length_append, List.length_append, r.len] <;> rfl, ?_, fun n a c' e1 e2 => ?_, fun a ha => ⟨fun z => ?_, (r.xi a (List.mem_cons_of_mem _ ha)).2⟩⟩
  · refine List.nodup_append.mpr ⟨r.nd, by simp, fun a ha b hb => ?_⟩
    rw [List.mem_singleton.mp hb]
    rintro rfl
    exact np ha
  · by_cases hn : n < μ.length
    · rw [List.getElem?_append_left hn] at e1
      rw [List.getElem?_append_left (by rw [← r.len]; exact hn)] at e2
      exact (r.at_ n a c' e1 e2).mv .asCell rfl
    · have hn' : n = μ.length := by
        have q := (List.getElem?_eq_some_iff.mp e1).1
        rw [List.length_append, List.length_singleton] at q
        omega
      subst hn'
      rw [List.getElem?_append_right (Nat.le_refl _), Nat.sub_self] at e1
      rw [List.getElem?_append_right (by rw [r.len]; exact Nat.le_refl _), r.len, Nat.sub_self] at e2
      cases e1; cases e2
      exact hc
  · rcases List.mem_append.mp z with z | z
    · exact (r.xi a (List.mem_cons_of_mem _ ha)).1 z
    · rw [List.mem_singleton.mp z] at ha
      exact hx ha
end
section
variable {X : Cx} {W : WX} {tg e a b c o i : Expr} {es : List Expr} {mo mi ma mb mc m : ME} {mr : MA} {pos p p1 p2 p3 : Pos}
/-- d[k] -/
def gDIx : Sto → D → D → Option D := fun S x y => (dicOf S x).bind fun kvs => (keyD y).bind fun k => valD kvs k
theorem d_dix (hu : X.A.units + 64 < cLine) (ho : DE X W o mo) (hi : DE X W i mi) (hs : NoSl i := by exact fun _ _ => rfl) : DE X W (.Subscript o i pos) (mOp gDIx mo mi) := by
  obtain ⟨to, po, ko⟩ := ho
  obtain ⟨ti, pi, ki⟩ := hi
  refine ⟨_, pe_dget (by omega) po pi hs, fun ξ μ σ H ρ S Q g s h => ko ξ μ σ H ρ S _ g s (WR.bind h fun x S1 v μ1 H1 u1 s1 r1 h1 => ?_)⟩
  refine ki ξ μ1 σ H1 ρ S1 _ (g.up u1) s1 (WR.bind h1 fun y S2 w μ2 H2 u2 s2 r2 h2 => ?_)
  unfold gDIx at h2
  cases q1 : dicOf S2 x with
  | none => rw [q1] at h2; exact h2.elim
  | some kvs =>
    rw [q1] at h2
    cases q2 : keyD y with
    | none => rw [q2] at h2; exact h2.elim
    | some k =>
      rw [q2] at h2
      simp only [Option.bind_some] at h2
      cases q3 : valD kvs k with
      | none => rw [q3] at h2; exact h2.elim
      | some d =>
        rw [q3] at h2
        obtain ⟨n, a, vk, rfl, rfl, ea, es, e3, e4⟩ := dic_at s2 (r1.up u2) q1
        obtain ⟨z, e5, e6⟩ := valV_of e4 q3
        have ek := keyD_of r2 q2
        subst ek
        exact ⟨a, z, rfl, by rw [← e5]; exact DGet.k e3, h2 z μ2 H2 .refl s2 e6⟩
/-- {} -/
def mDNew : ME := fun _ S => .ok (.cell S.length) (S ++ [.dic []])
/-- {k: v, ..} -/
abbrev MPs := Rho → Sto → Res (List (D × D))
def mPNil : MPs := fun _ S => .ok [] S
def mPCons (k v : ME) (r : MPs) : MPs := fun ρ S => (k ρ S).bind fun x S1 => (v ρ S1).bind fun y S2 => (r ρ S2).bind fun xs S3 => .ok ((x, y) :: xs) S3
def PrR (F : Fx) (μ : List Addr) (H : Hp) : List (V × V) → List (D × D) → Prop := Paired fun p q => RD F μ H p.1 q.1 ∧ RD F μ H p.2 q.2
structure DPs (X : Cx) (W : WX) (pos : Pos) (keys : List (Option Expr)) (values : List Expr) (m : MPs) : Prop where
  ex : ∃ trs, PPs X pos keys values trs ∧ ∀ ξ μ σ H ρ S Q, RG (fx X ξ) μ H σ ρ → RS (fx X ξ) μ H S → WR (fx X ξ) (PrR (fx X ξ)) (m ρ S) Q (fun cls dd H' => W cls dd σ H') μ H → tPairs trs σ H Q
theorem dps_nil : DPs X W pos [] [] mPNil := ⟨_, pps_nil, fun ξ μ σ H ρ S Q g s h => h [] μ H .refl s .nil⟩
theorem dps_cons {ks : List (Option Expr)} {vs : List Expr} {mr : MPs} (hk : DE X W a ma) (hv : DE X W b mb) (hr : DPs X W pos ks vs mr) : DPs X W pos (some a :: ks) (b :: vs) (mPCons ma mb mr) := by
  obtain ⟨ta, pa, ka⟩ := hk
  obtain ⟨tb, pb, kb⟩ := hv
  obtain ⟨tr, pr, kr⟩ := hr
  refine ⟨_, pps_cons pa pb pr, fun ξ μ σ H ρ S Q g s h => ka ξ μ σ H ρ S _ g s (WR.bind h fun x S1 v μ1 H1 u1 s1 r1 h1 => ?_)⟩
  refine kb ξ μ1 σ H1 ρ S1 _ (g.up u1) s1 (WR.bind h1 fun y S2 w μ2 H2 u2 s2 r2 h2 => ?_)
  refine kr ξ μ2 σ H2 ρ S2 _ (g.up (u1.trans u2)) s2 (WR.bind h2 fun ds S3 vs μ3 H3 u3 s3 r3 h3 => ?_)
  exact h3 _ μ3 H3 .refl s3 (.cons ⟨r1.up (u2.trans u3), r2.up u3⟩ r3)
def keysD : List (D × D) → Option (List (Key × D))
  | [] => some []
  | (k, v) :: r => (keyD k).bind fun k => (keysD r).map ((k, v) :: ·)
theorem keysD_of {F : Fx} {μ : List Addr} {H : Hp} : ∀ {ps : List (V × V)} {ds : List (D × D)} {kvs : List (Key × D)}, PrR F μ H ps ds → keysD ds = some kvs → ∃ vk : List (Key × V), ps = vk.map (fun kv => (kV kv.1, kv.2)) ∧ KvR F μ H vk kvs ∧ vk.length = kvs.length
  | _, _, kvs, .nil, e => by cases e; exact ⟨[], rfl, .nil, rfl⟩
  | p :: ps, (k, d) :: ds, kvs, .cons h r, e => by
    obtain ⟨h1, h2⟩ := h
    have e : (keyD k).bind (fun k => (keysD ds).map ((k, d) :: ·)) = some kvs := e
    cases q1 : keyD k with
    | none => rw [q1] at e; exact nomatch e
    | some k' =>
      cases q2 : keysD ds with
      | none => rw [q1, q2] at e; exact nomatch e
      | some more =>
        rw [q1, q2] at e; cases e
        obtain ⟨vk, e1, e2, e3⟩ := keysD_of r q2
        refine ⟨(k', p.2) :: vk, ?_, .cons ⟨rfl, h2⟩ e2, by rw [List.length_cons, List.length_cons, e3]⟩
        rw [List.map_cons, e1, ← keyD_of h1 q1]
def mDisp (m : MPs) : ME := fun ρ S => (m ρ S).bind fun ds S1 => match keysD ds with
  | some kvs => if kvs.length ≤ 15 then .ok (.cell S1.length) (S1 ++ [.dic (mergeD [] kvs)]) else .bad
  | none => .bad
theorem d_disp {keys : List (Option Expr)} {values : List Expr} {m : MPs} (h : DPs X W pos keys values m) (hall : keys.all (·.isSome) = true := by rfl) (hl : keys.length = values.length := by rfl) (h0 : keys ≠ [] := by exact List.cons_ne_nil _ _) (h15 : keys.length ≤ 15 := by decide) : DE X W (.Dict keys values pos) (mDisp m) := by
  obtain ⟨trs, ps, kp⟩ := h
  refine ⟨_, pe_disp ps hall hl h0 h15, fun ξ μ σ H ρ S Q g s h => fun p hp => ?_⟩
  have m0 : Mv (fx X ξ) μ H ((fx X ξ).hold p) μ (upd H p (.dK [])) := .holds hp
  have s1 : RS ((fx X ξ).hold p) μ (upd H p (.dK [])) S := s.holds hp
  have n0 : p ∉ μ := s.out hp
  refine kp (p :: ξ) μ σ (upd H p (.dK [])) ρ S _ (g.mv m0) s1 ?_
  unfold mDisp at h
  cases e : m ρ S with
  | bad => rw [e] at h; exact h.elim
  | exc cc fs S1 =>
    rw [e] at h
    have h : ∀ cls dd μ' H', Up μ H μ' H' → RS (fx X ξ) μ' H' S1 → XR (fx X ξ) μ' H' cls dd cc fs → W cls dd σ H' := h
    intro cls dd μ' H' u s' x
    have u' : Up μ H μ' H' := ⟨u.pre, fun a h1 h2 => by
      have := u.new a h1 h2
      by_cases c : a = p
      · rw [c]; exact hp
      · rw [upd_ne c] at this; exact this, fun a o' h1 h2 => u.keep a o' (by rw [upd_ne (ne_of_none h1 hp)]; exact h1) h2⟩
    exact h cls dd μ' H' u' (RS.free (F := fx X ξ) (p := p) s') ⟨x.1, x.2.imp id fun ⟨d, vfs, z1, z2, z3, z5, z4⟩ => ⟨d, vfs, z1, z2, z3, fun q => z5 (List.mem_cons_of_mem _ q), Paired.mapP z4 fun _ _ z => ⟨z.1, RD.free (F := fx X ξ) (p := p) _ z.2⟩⟩⟩
  | ok ds S1 =>
    rw [e] at h
    intro vps μ2 H2 u2 s2 r2
    have e2 : H2 p = some (.dK []) := u2.keep _ _ upd_same n0
    have np2 : p ∉ μ2 := (s2.xi p List.mem_cons_self).1
    have h : WE' (fx X ξ) (match keysD ds with | some kvs => if kvs.length ≤ 15 then .ok (.cell S1.length) (S1 ++ [.dic (mergeD [] kvs)]) else .bad | none => .bad) Q (fun cls dd H' => W cls dd σ H') μ H := h
    cases q : keysD ds with
    | none => rw [q] at h; exact h.elim
    | some kvs =>
      rw [q] at h
      simp only at h
      by_cases c : kvs.length ≤ 15
      · rw [if_pos c] at h
        obtain ⟨vk, e3, e4, e5⟩ := keysD_of r2 q
        refine ⟨e2, vk, e3, by omega, ?_⟩
        have s3 : RS ((fx X ξ).hold p) μ2 (upd H2 p (.dK (mergeK [] vk))) S1 := RS.wr (F := fx X ξ) (p := p) s2
        have e6 : KvR ((fx X ξ).hold p) μ2 (upd H2 p (.dK (mergeK [] vk))) (mergeK [] vk) (mergeD [] kvs) := kvr_mv (Mv.wr (F := fx X ξ) (p := p)) (kvr_merge e4 .nil)
        have s4 := RS.asCellG (F := fx X ξ) (c := .dic (mergeD [] kvs)) s3 (s.outX hp) ⟨_, upd_same, kvr_mv (Mv.asCell (F := fx X ξ) (p := p)) e6⟩
        refine h (.ref p) (μ2 ++ [p]) _ ?_ s4 (.cell (by rw [List.getElem?_append_right (by rw [s2.len]; exact Nat.le_refl _), s2.len, Nat.sub_self] <;> rfl))
        obtain ⟨ν, en⟩ := u2.pre
        refine ⟨⟨ν ++ [p], by rw [en, List.append_assoc]⟩, fun a ha hn => ?_, fun a o ha hn => ?_⟩
        · rcases List.mem_append.mp ha with z | z
          · have := u2.new a z hn
            by_cases c : a = p
            · rw [c]; exact hp
            · rw [upd_ne c] at this; exact this
          · rw [List.mem_singleton.mp z]; exact hp
        · rw [upd_ne (ne_of_none ha hp)]
          exact u2.keep a o (by rw [upd_ne (ne_of_none ha hp)]; exact ha) hn
      · rw [if_neg c] at h; exact h.elim
/-- d[k] = v -/
def mSetDx (m o i : ME) : MS := fun ρ S => ofRes (m ρ S) ρ fun d S1 => ofRes (o ρ S1) ρ fun x S2 => ofRes (i ρ S2) ρ fun y S3 => match x with
  | .cell n => match S3[n]?, keyD y with
    | some (.dic kvs), some k => if kvs.length < 16777216 then .nx ρ (S3.set n (.dic (putD kvs k d))) else .bad
    | _, _ => .bad
  | _ => .bad
end
/-! ### dict comprehensions -/
def dcA (d : D) (f : D → Rho → Option Rho) (mt mk mv : ME) (ρ : Rho) : Nat → Nat → List (Key × D) → Sto → Option (List (Key × D) × Sto)
  | 0, _, _, _ => none
  | n + 1, i, acc, S => match seqOf S d with
    | none => none
    | some ds => match ds[i]? with
      | none => if i = ds.length then some (acc, S) else none
      | some x => match f x ρ with
        | none => none
        | some ρ1 => match mt ρ1 S with
          | .ok (.bl true) S1 => match mk ρ1 S1 with
            | .ok y S2 => match mv ρ1 S2 with
              | .ok z S3 => match keyD y with
                | some k => dcA d f mt mk mv ρ n (i + 1) (putD acc k z) S3
                | none => none
              | _ => none
            | _ => none
          | .ok (.bl false) S1 => dcA d f mt mk mv ρ n (i + 1) acc S1
          | _ => none
def mDcA (m : ME) (f : D → Rho → Option Rho) (mt mk mv : ME) (vs : List Nat) : ME := fun ρ S => (iAny m ρ S).bind fun p S1 => match dcA p.1 f mt mk mv (wipeD ρ vs) (p.2 + 1) 0 [] S1 with
  | some (kvs, S2) => .ok (.cell S2.length) (S2 ++ [.dic kvs])
  | none => .bad
theorem dcA_pos {d : D} {f : D → Rho → Option Rho} {mt mk mv : ME} {ρ : Rho} {k i : Nat} {acc : List (Key × D)} {S : Sto} {r : List (Key × D) × Sto} (h : dcA d f mt mk mv ρ k i acc S = some r) : 0 < k := by
  cases k with
  | zero => exact nomatch h
  | succ k => exact Nat.succ_pos k
theorem putD_len {kvs : List (Key × D)} {k : Key} {v : D} : (putD kvs k v).length ≤ kvs.length + 1 := by
  unfold putD
  split
  · rw [List.length_map]; omega
  · rw [List.length_append]; exact Nat.le_refl _
section
variable {X : Cx} {W : WX} {tg e a b c : Expr} {m mt mk mv : ME} {pos p : Pos}
theorem dcA_read {wi : TI} {tg' : TG} {tt : TT} {tk te : TE} {f : D → Rho → Option Rho} {is vs : List Nat} {ξ μ : List Addr} {σ : L2.St} {H : Hp} {ρ : Rho} {S : Sto} {Q : VK} {Wx : Value → Option Addr → Hp → Prop}
    (ki : ∀ R, WR (fx X ξ) (fun μ H (J : It) (p : D × Nat) => ItA (fx X ξ) μ H J p) (iAny m ρ S) R Wx μ H → wi σ H R)
    (kg : ∀ ξ μ σ H ρ v d ρ' (Q : L2.St → Hp → Prop), RG (fx X ξ) μ H σ ρ → RD (fx X ξ) μ H v d → f d ρ = some ρ' → (∀ σ', RG (fx X ξ) μ H σ' ρ' → (∀ js : List Nat, (∀ i ∈ is, i ∈ js) → wipe σ' js = wipe σ js) → Q σ' H) → tg' v σ H Q)
    (kt : ∀ ξ μ σ H ρ S Q, RG (fx X ξ) μ H σ ρ → RS (fx X ξ) μ H S → WT' (fx X ξ) (mt ρ S) Q (fun cls dd H' => W0 cls dd σ H') μ H → tt σ H Q)
    (kk : ∀ ξ μ σ H ρ S Q, RG (fx X ξ) μ H σ ρ → RS (fx X ξ) μ H S → WE' (fx X ξ) (mk ρ S) Q (fun cls dd H' => W0 cls dd σ H') μ H → tk σ H Q)
    (ke : ∀ ξ μ σ H ρ S Q, RG (fx X ξ) μ H σ ρ → RS (fx X ξ) μ H S → WE' (fx X ξ) (mv ρ S) Q (fun cls dd H' => W0 cls dd σ H') μ H → te σ H Q)
    (hv : ∀ i ∈ is, i ∈ vs) (g : RG (fx X ξ) μ H σ ρ) (s : RS (fx X ξ) μ H S) (h : WE' (fx X ξ) (mDcA m f mt mk mv vs ρ S) Q Wx μ H) : tDc wi tg' tt tk te vs σ H Q := by
  refine ki _ (WR.bind h fun p S1 J μ1 H1 u1 s1 r1 h1 => ?_)
  obtain ⟨d, n0⟩ := p
  intro D hD
  obtain ⟨hz, r1⟩ := r1
  have hz : n0 ≤ 16777216 := hz
  have ext : Ext (fx X ξ) ((fx X ξ).hold D) H1 := ⟨rfl, rfl, fun a ha => (List.mem_cons.mp ha).elim (fun z => .inr (by rw [z]; exact hD)) .inl⟩
  have main : WE' (fx X ξ) (match dcA d f mt mk mv (wipeD ρ vs) (n0 + 1) 0 [] S1 with
    | some (kvs, S2) => Res.ok (.cell S2.length) (S2 ++ [.dic kvs])
    | none => .bad) Q Wx μ1 H1 := h1
  refine ⟨fun i k H' => ∃ μ' S' vk acc, Up μ1 H1 μ' H' ∧ RS ((fx X ξ).hold D) μ' H' S' ∧ H' D = some (.dK vk) ∧ KvR ((fx X ξ).hold D) μ' H' vk acc ∧ acc.length ≤ i ∧ i + k = n0 + 1 ∧
      ∃ kvs S2, dcA d f mt mk mv (wipeD ρ vs) k i acc S' = some (kvs, S2) ∧ ∀ μ2 H2 vk2, Up μ1 H1 μ2 H2 → RS ((fx X ξ).hold D) μ2 H2 S2 → KvR ((fx X ξ).hold D) μ2 H2 vk2 kvs → H2 D = some (.dK vk2) → Q (.ref D) H2,
    ⟨_, μ1, S1, [], [], .fresh hD, s1.holds hD, upd_same, .nil, Nat.le_refl _, Nat.zero_add _, ?_⟩, ?_⟩
  · cases q : dcA d f mt mk mv (wipeD ρ vs) (n0 + 1) 0 [] S1 with
    | none => rw [q] at main; exact main.elim
    | some r =>
      obtain ⟨kvs, S2⟩ := r
      rw [q] at main
      refine ⟨kvs, S2, rfl, fun μ2 H2 vk2 u2 s2 r2 e2 => ?_⟩
      have s3 := RS.asCellG (F := fx X ξ) (c := .dic kvs) s2 (s1.outX hD) ⟨vk2, e2, kvr_mv (Mv.asCell (F := fx X ξ) (p := D)) r2⟩
      refine main (.ref D) (μ2 ++ [D]) H2 ?_ s3 (.cell (by rw [List.getElem?_append_right (by rw [s2.len]; exact Nat.le_refl _), s2.len, Nat.sub_self] <;> rfl))
      obtain ⟨ν, en⟩ := u2.pre
      refine ⟨⟨ν ++ [D], by rw [en, List.append_assoc]⟩, fun a ha hn => ?_, fun a o ha hn => u2.keep a o ha hn⟩
      rcases List.mem_append.mp ha with z | z
      · exact u2.new a z hn
      · rw [List.mem_singleton.mp z]; exact hD
  rintro i k H' ⟨μ', S', vk, acc, u', s', hacc, racc, hla, hi, kvs, S2, eL, fin⟩
  cases k with
  | zero => exact nomatch eL
  | succ k =>
    unfold dcA at eL
    cases q' : seqOf S' d with
    | none => rw [q'] at eL; exact nomatch eL
    | some es =>
      rw [q'] at eL
      simp only at eL
      obtain ⟨t1, t2⟩ := r1 ((fx X ξ).hold D) μ' H' S' i ext u' s' es q'
      cases q2 : es[i]? with
      | none =>
        rw [q2] at eL
        simp only at eL
        by_cases e : i = es.length
        · rw [if_pos e] at eL
          cases eL
          exact .inl ⟨t2 e, fin μ' H' vk u' s' racc hacc⟩
        · rw [if_neg e] at eL; exact nomatch eL
      | some x0 =>
        rw [q2] at eL
        simp only at eL
        obtain ⟨go, yl⟩ := t1 x0 q2
        cases ef : f x0 (wipeD ρ vs) with
        | none => rw [ef] at eL; exact nomatch eL
        | some ρ1 =>
          rw [ef] at eL
          simp only at eL
          refine .inr ⟨go, fun H2 => ∃ μ' S' vk acc, Up μ1 H1 μ' H2 ∧ RS ((fx X ξ).hold D) μ' H2 S' ∧ H2 D = some (.dK vk) ∧ KvR ((fx X ξ).hold D) μ' H2 vk acc ∧ acc.length ≤ i + 1 ∧ (i + 1) + k = n0 + 1 ∧
              ∃ kvs S2, dcA d f mt mk mv (wipeD ρ vs) k (i + 1) acc S' = some (kvs, S2) ∧ ∀ μ2 H2 vk2, Up μ1 H1 μ2 H2 → RS ((fx X ξ).hold D) μ2 H2 S2 → KvR ((fx X ξ).hold D) μ2 H2 vk2 kvs → H2 D = some (.dK vk2) → Q (.ref D) H2,
            fun H2 z => ⟨k, Nat.lt_succ_self k, z⟩, fun x H2 y => ?_⟩
          obtain ⟨eH, r2⟩ := yl x H2 y
          subst eH
          have g2 : RG (fx X (D :: ξ)) μ' H2 (wipe σ vs) (wipeD ρ vs) := (((g.up u1).mv (.ext ext u'))).wipe vs
          refine kg (D :: ξ) μ' (wipe σ vs) H2 (wipeD ρ vs) x _ ρ1 _ g2 r2 ef fun σ3 g3 w3 => ?_
          have nD : D ∉ μ' := (s'.xi D List.mem_cons_self).1
          have ww : wipe (wipe σ vs) vs = wipe σ vs := by
            refine List.ext_getElem? fun k => ?_
            rw [wipe_get, wipe_get, wipe_length]
            by_cases q : k ∈ vs ∧ k < σ.length
            · rw [if_pos q, if_pos q]
            · rw [if_neg q, if_neg q]
          refine ⟨by rw [w3 vs hv, ww], ?_⟩
          refine kt (D :: ξ) μ' σ3 H2 ρ1 S' _ g3 s' ?_
          cases et : mt ρ1 S' with
          | bad => rw [et] at eL; exact nomatch eL
          | exc c fs S3 => rw [et] at eL; exact nomatch eL
          | ok dd S3 =>
            rw [et] at eL
            cases dd with
            | bl b =>
              intro μ3 H3 u3 s3
              have eD3 : H3 D = some (.dK vk) := u3.keep _ _ hacc nD
              cases b with
              | false =>
                exact ⟨μ3, S3, vk, acc, u'.trans u3, s3, eD3, racc.up u3, Nat.le_succ_of_le hla, by omega, kvs, S2, eL, fin⟩
              | true =>
                simp only at eL
                refine kk (D :: ξ) μ3 σ3 H3 ρ1 S3 _ (g3.up u3) s3 ?_
                cases ek : mk ρ1 S3 with
                | bad => rw [ek] at eL; exact nomatch eL
                | exc c fs S4 => rw [ek] at eL; exact nomatch eL
                | ok y S4 =>
                  rw [ek] at eL
                  intro v μ4 H4 u4 s4 r4
                  simp only at eL
                  refine ke (D :: ξ) μ4 σ3 H4 ρ1 S4 _ (g3.up (u3.trans u4)) s4 ?_
                  cases ev : mv ρ1 S4 with
                  | bad => rw [ev] at eL; exact nomatch eL
                  | exc c fs S5 => rw [ev] at eL; exact nomatch eL
                  | ok z S5 =>
                    rw [ev] at eL
                    intro w μ5 H5 u5 s5 r5
                    simp only at eL
                    cases eky : keyD y with
                    | none => rw [eky] at eL; exact nomatch eL
                    | some ky =>
                      rw [eky] at eL
                      simp only at eL
                      have kp := dcA_pos eL
                      have nD3 : D ∉ μ3 := (s3.xi D List.mem_cons_self).1
                      have nD4 : D ∉ μ4 := (s4.xi D List.mem_cons_self).1
                      have eD5 : H5 D = some (.dK vk) := u5.keep _ _ (u4.keep _ _ eD3 nD3) nD4
                      have rv : KvR ((fx X ξ).hold D) μ5 H5 vk acc := ((racc.up u3).up u4).up u5
                      have ez := keyD_of (r4.up u5) eky
                      subst ez
                      refine ⟨vk, ky, rfl, eD5, by rw [kvr_len rv, sizeLine_eq]; omega, μ5, S5, _, putD acc ky z, ?_, RS.wr (F := fx X ξ) (p := D) s5, upd_same, kvr_mv (Mv.wr (F := fx X ξ) (p := D)) (kvr_put r5 rv), Nat.le_trans putD_len (by omega), by omega, kvs, S2, eL, fin⟩
                      have U := u'.trans (u3.trans (u4.trans u5))
                      exact ⟨U.pre, U.new, fun a o ha na => by
                        rw [upd_ne (ne_of_none ha hD)]
                        exact U.keep a o ha na⟩
            | _ => exact nomatch eL
end
/-! ### what they do -/
section
variable {S : Sto} {ρ : Rho} {Q : D → Sto → Prop} {N B C : Rho → Sto → Prop} {R : D → Sto → Prop} {E : EX} {EO : EXO}
@[simp] theorem keyD_int {i : Int} : keyD (.int i) = some (.inl i) := rfl
@[simp] theorem keyD_str {x : Str} : keyD (.str x) = some (.inr x) := rfl
@[simp] theorem does_dnew : (mDNew ρ S).DoesE E Q = Q (.cell S.length) (S ++ [.dic []]) := rfl
@[simp] theorem does_pnil {Q : List (D × D) → Sto → Prop} : (mPNil ρ S).DoesE E Q = Q [] S := rfl
@[simp] theorem does_pcons {k v : ME} {r : MPs} {Q : List (D × D) → Sto → Prop} : (mPCons k v r ρ S).DoesE E Q = (k ρ S).DoesE E fun x S1 => (v ρ S1).DoesE E fun y S2 => (r ρ S2).DoesE E fun xs S3 => Q ((x, y) :: xs) S3 := by
  unfold mPCons
  rw [does_bind]; congr 1; funext x S1
  rw [does_bind]; congr 1; funext y S2
  rw [does_bind] <;> rfl
@[simp] theorem does_disp {m : MPs} : (mDisp m ρ S).DoesE E Q = (m ρ S).DoesE E fun ds S1 => match keysD ds with
    | some kvs => kvs.length ≤ 15 ∧ Q (.cell S1.length) (S1 ++ [.dic (mergeD [] kvs)])
    | none => False := by
  unfold mDisp
  rw [does_bind]; congr 1; funext ds S1
  cases keysD ds with
  | none => rfl
  | some kvs =>
    simp only
    by_cases h : kvs.length ≤ 15
    · rw [if_pos h]; simp [h]
    · rw [if_neg h]; simp [h, Res.DoesE]
@[simp] theorem does_setDx {m o i : ME} : (mSetDx m o i ρ S).DoesE EO N R B C = (m ρ S).DoesE (eAt EO ρ) fun d S1 => (o ρ S1).DoesE (eAt EO ρ) fun x S2 => (i ρ S2).DoesE (eAt EO ρ) fun y S3 => match x with
    | .cell n => match S3[n]?, keyD y with
      | some (.dic kvs), some k => kvs.length < 16777216 ∧ N ρ (S3.set n (.dic (putD kvs k d)))
      | _, _ => False
    | _ => False := by
  unfold mSetDx
  rw [does_ofRes]; congr 1; funext d S1
  rw [does_ofRes]; congr 1; funext x S2
  rw [does_ofRes]; congr 1; funext y S3
  cases x with
  | cell n =>
    simp only
    cases S3[n]? with
    | none => rfl
    | some c =>
      cases c with
      | dic kvs =>
        cases keyD y with
        | none => rfl
        | some k =>
          simp only
          by_cases h : kvs.length < 16777216
          · rw [if_pos h]; simp [h]
          · rw [if_neg h]; simp [h, Out.DoesE]
      | _ => rfl
  | _ => rfl
theorem dicOf_cell {n : Nat} {kvs : List (Key × D)} (h : S[n]? = some (.dic kvs)) : dicOf S (.cell n) = some kvs := by
  show (match S[n]? with | some (Cell.dic kvs) => some kvs | _ => none) = _
  rw [h]
theorem gDIx_cell {n : Nat} {kvs : List (Key × D)} {y : D} (h : S[n]? = some (.dic kvs)) : gDIx S (.cell n) y = (keyD y).bind fun k => valD kvs k := by
  unfold gDIx
  rw [dicOf_cell h] <;> rfl
/-- a dict comprehension without tests, whose parts change nothing -/
theorem dcA_map {f : D → Rho → Option Rho} {mk mv : ME} {α : Type} {i : α → D} {k : α → Key} {g : α → D} {d : D} {as0 : List α} (hd : seqOf S d = some (as0.map i))
    (h : ∀ a, a ∈ as0 → ∃ ρ1 y, f (i a) ρ = some ρ1 ∧ mk ρ1 S = .ok y S ∧ keyD y = some (k a) ∧ mv ρ1 S = .ok (g a) S) :
    ∀ {as pre : List α} {acc : List (Key × D)}, as0 = pre ++ as → dcA d f mYes mk mv ρ (as.length + 1) pre.length acc S = some (as.foldl (fun acc a => putD acc (k a) (g a)) acc, S)
  | [], pre, acc, e => by
    unfold dcA
    rw [hd]
    have e1 : (as0.map i)[pre.length]? = none := by rw [e, List.append_nil]; exact List.getElem?_eq_none (by rw [List.length_map]; exact Nat.le_refl _)
    simp only [e1]
    rw [if_pos (by rw [e, List.append_nil, List.length_map])] <;> rfl
  | a :: as, pre, acc, e => by
    obtain ⟨ρ1, y, ef, ek, eky, ev⟩ := h a (by rw [e]; exact List.mem_append.mpr (.inr List.mem_cons_self))
    have e1 : (as0.map i)[pre.length]? = some (i a) := by rw [List.getElem?_map, e, List.getElem?_append_right (Nat.le_refl _), Nat.sub_self] <;> rfl
    have en : as0 = (pre ++ [a]) ++ as := by rw [e, List.append_assoc] <;> rfl
    have q := dcA_map hd h (as := as) (pre := pre ++ [a]) (acc := putD acc (k a) (g a)) en
    rw [List.length_append, List.length_singleton] at q
    unfold dcA
    rw [hd]
    simp only [e1, ef, mYes, ek, eky, ev]
    exact q
theorem does_dcA {m : ME} {f : D → Rho → Option Rho} {mt mk mv : ME} {vs : List Nat} {d : D} {S1 S2 : Sto} {ds : List D} {kvs : List (Key × D)} (e : m ρ S = .ok d S1) (e1 : seqOf S1 d = some ds) (e2 : dcA d f mt mk mv (wipeD ρ vs) (ds.length + 1) 0 [] S1 = some (kvs, S2)) (q : Q (.cell S2.length) (S2 ++ [.dic kvs])) :
    (mDcA m f mt mk mv vs ρ S).DoesE E Q := by
  unfold mDcA iAny
  rw [e]
  show Res.DoesE (Res.bind (match seqOf S1 d with | some ds => Res.ok (d, ds.length) S1 | none => .bad) _) E Q
  rw [e1]
  show Res.DoesE (match dcA d f mt mk mv (wipeD ρ vs) (ds.length + 1) 0 [] S1 with | some (kvs, S2) => .ok (.cell S2.length) (S2 ++ [.dic kvs]) | none => .bad) E Q
  rw [e2]
  exact q
end
end Dm
-- text DmKw
namespace Dm
open PySem L2 PySem.Spec PyProof.Rows
open PySem.W (Frag)
/-! ### constant data -/
mutual
inductive KD (K : Frag) : V → D → Prop
  | non : KD K .non .non
  | bl (b : Bool) : KD K (.bl b) (.bl b)
  | int (i : Int) : KD K (.int i) (.int i)
  | str (x : Str) : KD K (.str x) (.str x)
  | tup {a : Addr} {xs : List V} {ds : List D} : KT K a xs → KDs K xs ds → KD K (.ref a) (.tup ds)
inductive KDs (K : Frag) : List V → List D → Prop
  | nil : KDs K [] []
  | cons {v : V} {vs : List V} {d : D} {ds : List D} : KD K v d → KDs K vs ds → KDs K (v :: vs) (d :: ds)
end
mutual
theorem KD.rd {F : Fx} {μ : List Addr} {H : Hp} : ∀ {v : V} (d : D), KD F.K v d → RD F μ H v d
  | _, .non, h => by cases h; exact .non
  | _, .bl b, h => by cases h; exact .bl b
  | _, .int i, h => by cases h; exact .int i
  | _, .str x, h => by cases h; exact .str x
  | _, .tup ds, h => by
    cases h with
    | tup t r => exact .tup (.inr t) (KDs.rd ds r)
  | _, .lst _, h => by cases h
  | _, .cell _, h => by cases h
  | _, .glo _, h => by cases h
  | _, .exn _ _, h => by cases h
theorem KDs.rd {F : Fx} {μ : List Addr} {H : Hp} : ∀ {vs : List V} (ds : List D), KDs F.K vs ds → RDs F μ H vs ds
  | _, [], h => by cases h; exact .nil
  | _, d :: ds, h => by
    cases h with
    | cons a b => exact .cons (KD.rd d a) (KDs.rd ds b)
end
/-- the name stands for this -/
def GlK (K : Frag) (mg : Str → Option Value) (x : Str) (d : D) : Prop := ∃ u v, mg x = some u ∧ RelV v u ∧ KD K v d
theorem GlK.glD {X : Cx} {K : Frag} {mg : Str → Option Value} {x : Str} {d : D} (h : GlK K mg x d) (hK : X.K = K := by rfl) (hg : X.mg = mg := by rfl) : GlD X x d := by
  obtain ⟨u, v, h1, h2, h3⟩ := h
  exact ⟨u, v, by rw [hg]; exact h1, h2, fun ξ μ H => KD.rd (F := fx X ξ) d (by show KD X.K v d; rw [hK]; exact h3)⟩
theorem kt_mk {K : Frag} {a : Addr} {its : Array Value} {n : Nat} {sl : Array (Option Value)} {xs : List V} (h : K.lookup a = some ⟨.type "tuple", none, .seq its n, sl⟩) (hz : its.size ≤ 1000) (r : Vals xs its.toList) : KT K a xs :=
  ⟨_, its, n, h, rfl, rfl, rfl, by rw [sizeLine_eq]; omega, r⟩
/-! ### defs with defaults -/
def mCallD (f : List D → Sto → Res D) (n q : Nat) (perm : List Nat) (dd : List D) (a k : MA) : ME := fun ρ S => (a ρ S).bind fun xs S1 => (k ρ S1).bind fun zs S2 => if xs.length = n ∧ zs.length = q then f (perm.filterMap ((xs ++ zs ++ dd)[·]?)) S2 else .bad
section
variable {S : Sto} {ρ : Rho} {Q : D → Sto → Prop} {E : EX} {EO : EXO}
@[simp] theorem does_callD {f : List D → Sto → Res D} {n q : Nat} {p : List Nat} {dd : List D} {a k : MA} : (mCallD f n q p dd a k ρ S).DoesE E Q = (a ρ S).DoesE E fun xs S1 => (k ρ S1).DoesE E fun zs S2 => (xs.length = n ∧ zs.length = q) ∧ (f (p.filterMap ((xs ++ zs ++ dd)[·]?)) S2).DoesE E Q := by
  unfold mCallD
  rw [does_bind]
  congr 1
  funext xs S1
  rw [does_bind]
  congr 1
  funext zs S2
  by_cases h : xs.length = n ∧ zs.length = q
  · rw [if_pos h]; simp [h]
  · rw [if_neg h]; simp [h, Res.DoesE]
end
end Dm
-- text DmSetD
namespace L2
open PySem PySem.Spec PyProof.Rows
/-- name = {..} on one line, the name a local -/
theorem ps_setDc {X : Cx} {i : Nat} {y : Str} {py : Pos} {kx vx tg iter : Expr} {ifs : List Expr} {scope : Scope} {own : List (Str × Nat)} {pos spos : Pos} {wi : TI} {g : TG} {tt : TT} {tk tv : TE} (hc : X.calm = true) (hN : X.N.Nodup) (hy : X.N[i]? = some y) (hyl : X.env.scope.names.lookup y = some .local)
    (hsw : swapsWith (.DictComp kx vx [⟨tg, iter, ifs, 0⟩] scope pos) (some (.Name y py)) spos.line X.env = pure true) (hi : PI X tg iter wi) (ok : BlkOk X.N X.env.scope scope own)
    (hg : ∀ (s : Shared) (H : Hp) (C : Addr) (cl : List (Str × Addr)) (fp : List Addr), PG (X.blk s H scope (compEnvC scope cl C X.env) fp) tg g) (ht : ∀ (s : Shared) (H : Hp) (C : Addr) (cl : List (Str × Addr)) (fp : List Addr), PTs (X.blk s H scope (compEnvC scope cl C X.env) fp) ifs tt)
    (hk : ∀ (s : Shared) (H : Hp) (C : Addr) (cl : List (Str × Addr)) (fp : List Addr), PE (X.blk s H scope (compEnvC scope cl C X.env) fp) kx tk)
    (he : ∀ (s : Shared) (H : Hp) (C : Addr) (cl : List (Str × Addr)) (fp : List Addr), PE (X.blk s H scope (compEnvC scope cl C X.env) fp) vx tv) (hs : ∀ x, foldedSetIterable iter X.env x = pure x := by intro _; rfl) :
    PS X (.Assign [.Name y py] (.DictComp kx vx [⟨tg, iter, ifs, 0⟩] scope pos) spos) (tAsg (tDc wi g tt tk tv (own.map (·.2))) (gName i)) := by
  refine ⟨fun pins s σ H D I h => ?_⟩
  rw [exec_Assign_Name_used _ _ _ _ hsw]
  refine wpAny_bind (wpAny_standAt (wpAny_bind ?_))
  show wpAny _ X.A (do let _ ← comprehension (.DictComp kx vx [⟨tg, iter, ifs, 0⟩] scope pos) scope X.env (firstIterPos [⟨tg, iter, ifs, 0⟩] pos) newDict false (eval iter X.env) (some (assign (.Name y py) X.env))) _ _ s
  have h : tDc wi g tt tk tv (own.map (·.2)) σ H (fun x H1 => gName i x σ H1 D.nx) := h
  refine wpAny_bind (thn (dc_core (Qf := fun _ s' => SP X pins D .next s') hc hN I hi ok hg ht hk he hs h fun L C s' m H' I' q hn f => ?_) fun _ s' hq => wpAny_pure (wpAny_pure hq))
  show wpAny _ _ (assign (.Name y py) X.env (.ref L)) _ _ _
  refine wpAny_assign_Name (store_ok2 (v := V.ref L) I' hN hy (.inl hyl) rfl (fun s2 I2 ⟨a, sb, ha⟩ => ?_) (.inr hyl))
  obtain ⟨f0, f1, f2, f3, f4, f5⟩ := f
  have haC : C ≠ a := by
    rcases ha with z | z
    · rw [z]; exact f1
    · exact fun e => f4 y a z e.symm
  refine ⟨m, hn.sameBut sb haC, fun h3 sb3 => ?_⟩
  exact ⟨_, H', I2.turned (t' := s2.toks) (fun b o hb e => (sb3.2 b hb).trans e) f0 f1 f3 f4 f5, q⟩
end L2
namespace Dm
open PySem L2 PySem.Spec PyProof.Rows
section
variable {X : Cx} {W : WX} {tg e a b c : Expr} {m mt mk mv : ME} {pos p : Pos}
theorem ds_setDc (i : Nat) {y : Str} {py spos : Pos} {kx vx : Expr} {ifs : List Expr} {scope : Scope} {own : List (Str × Nat)} {f : D → Rho → Option Rho} {is : List Nat} (hc : X.calm = true) (hN : X.N.Nodup) (hi : DE X W e m) (ok : BlkOk X.N X.env.scope scope own)
    (hg : ∀ (s : Shared) (H : Hp) (C : Addr) (cl : List (Str × Addr)) (fp : List Addr), DG (X.blk s H scope (compEnvC scope cl C X.env) fp) tg f is)
    (ht : ∀ (s : Shared) (H : Hp) (C : Addr) (cl : List (Str × Addr)) (fp : List Addr), DTs (X.blk s H scope (compEnvC scope cl C X.env) fp) W0 ifs mt)
    (hk : ∀ (s : Shared) (H : Hp) (C : Addr) (cl : List (Str × Addr)) (fp : List Addr), DE (X.blk s H scope (compEnvC scope cl C X.env) fp) W0 kx mk)
    (he : ∀ (s : Shared) (H : Hp) (C : Addr) (cl : List (Str × Addr)) (fp : List Addr), DE (X.blk s H scope (compEnvC scope cl C X.env) fp) W0 vx mv)
    (hv : ∀ i ∈ is, i ∈ own.map (·.2) := by decide) (hy : X.N[i]? = some y := by rfl) (hyl : X.env.scope.names.lookup y = some .local := by rfl)
    (hsw : swapsWith (.DictComp kx vx [⟨tg, e, ifs, 0⟩] scope pos) (some (.Name y py)) spos.line X.env = pure true := by rfl) (hs : ∀ x, foldedSetIterable e X.env x = pure x := by intro _; rfl) :
    DS X W (.Assign [.Name y py] (.DictComp kx vx [⟨tg, e, ifs, 0⟩] scope pos) spos) (mAsg i (mDcA m f mt mk mv (own.map (·.2)))) := by
  obtain ⟨wi, pi, ki⟩ := dia_any (tg := tg) hi
  obtain ⟨tg', pg, kg⟩ := dg_all (Xf := blkOf X scope) (K := X.K) (mg := X.mg) (fun _ => rfl) (fun _ => rfl) fun i => hg i.1 i.2.1 i.2.2.1 i.2.2.2.1 i.2.2.2.2
  obtain ⟨tt, pt, kt⟩ := dts_all (Xf := blkOf X scope) (K := X.K) (mg := X.mg) (fun _ => rfl) (fun _ => rfl) fun i => ht i.1 i.2.1 i.2.2.1 i.2.2.2.1 i.2.2.2.2
  obtain ⟨tk, pk, kk⟩ := de_all (Xf := blkOf X scope) (K := X.K) (mg := X.mg) (fun _ => rfl) (fun _ => rfl) fun i => hk i.1 i.2.1 i.2.2.1 i.2.2.2.1 i.2.2.2.2
  obtain ⟨te, pe, ke⟩ := de_all (Xf := blkOf X scope) (K := X.K) (mg := X.mg) (fun _ => rfl) (fun _ => rfl) fun i => he i.1 i.2.1 i.2.2.1 i.2.2.2.1 i.2.2.2.2
  refine ⟨_, ps_setDc (i := i) hc hN hy hyl hsw pi ok (fun s H C cl fp => pg (s, H, C, cl, fp)) (fun s H C cl fp => pt (s, H, C, cl, fp)) (fun s H C cl fp => pk (s, H, C, cl, fp)) (fun s H C cl fp => pe (s, H, C, cl, fp)) hs, fun ξ μ σ H ρ S D g s h => ?_⟩
  exact dcA_read (fun R => ki ξ μ σ H ρ S R g s) kg kt kk ke hv g s (WS'.bind g h fun x S1 v μ1 H1 u1 s1 r1 h1 => h1 _ μ1 H1 .refl s1 ((g.up u1).set i r1))
end
end Dm
-- text Hw3
namespace Dm
open PySem L2
noncomputable section
def m_found_by : List D → Sto → Res D := mDef 5 7 (mSeq (mAsg 5 (mFz (mLcA (mBack (mVar 0)) (tgN 6) (mOp gEq (mOp gDIx (mVar 1) (mOp gSub (mVar 2) (mVar 6))) (mVar 6)) (mOp gSub (mVar 2) (mVar 6)) [6]))) (mSeq (mIfS (mOp gEq (mCallB gLen (mCons (mVar 5) mNil)) (mK (.int 1))) (mRet (mOp gIx (mVar 5) (mK (.int 0)))) mNop) (mSeq (mIfS (mOp gEq (mCallB gLen (mCons (mVar 5) mNil)) (mK (.int 2))) (mSeq (mIfS (mOp gEq (mVar 3) (mK (.str "refuse"))) (mRet (mK .non)) mNop) (mRet (mIf (mOp gEq (mVar 3) (mK (.str "early"))) (mOp gIx (mVar 5) (mK (.int 0))) (mOp gIx (mVar 5) (mK (.int 1)))))) mNop) (mSeq (mIfS (mOp gEq (mVar 4) (mK (.str "refuse"))) (mRet (mK .non)) mNop) (mSeq (mIfS (mOp gEq (mVar 4) (mK (.str "ahead"))) (mRet (mOp gSub (mVar 2) (mOp gDIx (mVar 1) (mOp gSub (mVar 2) (mOp gIx (mVar 0) (mK (.int (-1)))))))) mNop) (mRet (mOp gSub (mVar 2) (mOp gDIx (mVar 1) (mOp gSub (mVar 2) (mOp gIx (mVar 0) (mK (.int 0))))))))))))
end
end Dm
-- text DmMisc
namespace Dm
open PySem L2
open PySem.W (Frag)
section
variable {X : Cx} {W : WX} {tg e a b c : Expr} {es : List Expr} {ma mb mc m : ME} {mr : MA} {pos p p1 p2 p3 : Pos}
/-! ### x, y = a, b -/
def mPar (i j : Nat) (a : MA) : MS := fun ρ S => ofRes (a ρ S) ρ fun ds S1 => match ds with
  | [d, d'] => .nx ((ρ.set i (some d)).set j (some d')) S1
  | _ => .bad
theorem ds_par (i j : Nat) {x y : Str} {px py pt pt2 : Pos} {kt k2 : Nat} (hc : X.calm = true) (hN : X.N.Nodup) (ha : DA X W [a, b] mr) (hij : i ≠ j := by decide) (hi : X.N[i]? = some x := by rfl) (hj : X.N[j]? = some y := by rfl)
    (hx : X.env.scope.names.lookup x = some .local := by rfl) (hy : X.env.scope.names.lookup y = some .local := by rfl)
    (hw : swappedStores [.Tuple [.Name x px, .Name y py] kt pt] (.Tuple [a, b] k2 pt2) X.env = pure (some [x, y]) := by rfl)
    (hs : swapsWithSole [.Tuple [.Name x px, .Name y py] kt pt] (.Tuple [a, b] k2 pt2) pos.line X.env = pure false := by rfl) :
    DS X W (.Assign [.Tuple [.Name x px, .Name y py] kt pt] (.Tuple [a, b] k2 pt2) pos) (mPar i j mr) := by
  obtain ⟨ta, pa, ka⟩ := ha
  refine ⟨_, ps_par hc hN hi hj hij hx hy pa hw hs, fun ξ μ σ H ρ S D g s h => ka ξ μ σ H ρ S _ g s (WS'.bind g h fun ds S1 vs μ1 H1 u1 s1 r1 h1 => ?_)⟩
  cases r1 with
  | nil => exact h1.elim
  | @cons v vs d ds r rr =>
    cases rr with
    | nil => exact h1.elim
    | @cons v2 vs2 d2 ds2 r2 rr2 =>
      cases rr2 with
      | cons _ _ => exact h1.elim
      | nil => exact ⟨v, v2, rfl, h1 _ μ1 H1 .refl s1 (((g.up u1).set i r).set j r2)⟩
/-! ### x, y = a tuple, a list that stands still -/
def tgU (n : Nat) (f : List D → Rho → Option Rho) : D → Rho → Option Rho := fun d ρ => match d with
  | .tup ds => if ds.length = n then f ds ρ else none
  | .lst ds => if ds.length = n then f ds ρ else none
  | _ => none
theorem pgOr {X : Cx} {tg : Expr} {g g' : TG} (h : PG X tg g) (h' : PG X tg g') : PG X tg (fun v σ H Q => g v σ H Q ∨ g' v σ H Q) := ⟨fun pins s σ H v u Q I r hw => hw.elim (h.run pins s σ H v u Q I r) (h'.run pins s σ H v u Q I r)⟩
theorem dg_any {k n : Nat} {f : List D → Rho → Option Rho} {is : List Nat} {tp : Pos} (hc : X.calm = true) (h : DGs X es f is) (hn : (assignEach es X.env).length = n := by rfl) (hst : (assignEach es X.env).findIdx? (·.1) = none := by rfl) : DG X (.Tuple es k tp) (tgU n f) is := by
  obtain ⟨t, p, k⟩ := h
  refine ⟨_, pgOr (pg_tup hc p hn hst) (pg_lst hc p hn hst), fun ξ μ σ H ρ v d ρ' Q g r e kk => ?_⟩
  cases r with
  | @tup a xs ds fz r =>
    unfold tgU at e
    by_cases c : ds.length = n
    · simp only [if_pos c] at e
      exact .inl ⟨a, xs, rfl, fz.sq, by rw [r.length]; exact c, k ξ μ σ H ρ xs ds ρ' Q g r e kk⟩
    · simp only [if_neg c] at e
      exact nomatch e
  | @lst a xs ds fz r =>
    unfold tgU at e
    by_cases c : ds.length = n
    · simp only [if_pos c] at e
      exact .inr ⟨a, xs, rfl, fz.sq, by rw [r.length]; exact c, k ξ μ σ H ρ xs ds ρ' Q g r e kk⟩
    · simp only [if_neg c] at e
      exact nomatch e
  | _ => exact nomatch e
/-! ### sum, max, min of a list of ints -/
def gSum : Sto → List D → Option D := fun S ds => match ds with
  | [d] => (lstOf S d).bind fun es => (intsOf es).map fun ns => .int ns.sum
  | _ => none
theorem c_sum : CallD X (rSum X.K) gSum := by
  intro ξ μ H S ds vs z Q s r e k
  unfold gSum at e
  cases r with
  | nil => exact nomatch e
  | @cons v vs d ds r rr =>
    cases rr with
    | cons _ _ => exact nomatch e
    | nil =>
      simp only at e
      cases q : lstOf S d with
      | none => rw [q] at e; exact nomatch e
      | some es =>
        rw [q] at e
        have e : (intsOf es).map (fun ns => D.int ns.sum) = some z := e
        obtain ⟨a, xs, rfl, h1, h2⟩ := RD.lstS s r q
        cases c : intsOf es with
        | none => rw [c] at e; exact nomatch e
        | some ns =>
          rw [c] at e; cases e
          have ee := intsOf_eq c
          subst ee
          have ev := rdsInts h2
          subst ev
          exact ⟨a, ns, rfl, h1, k _ μ H .refl s (.int _)⟩
/-! ### a kept list some times -/
def mRepC (a b : ME) : MA := fun ρ S => (a ρ S).bind fun x S1 => (b ρ S1).bind fun y S2 => match x, y with
  | .cell n, .int k => match S2[n]? with
    | some (.lst xs) => if k < 1000000 ∧ xs.length * k.toNat ≤ 16777216 ∧ -1000000 < k then .ok (List.replicate k.toNat xs).flatten S2 else .bad
    | _ => .bad
  | _, _ => .bad
/-! ### list(range(a, b)) -/
noncomputable def mLstRg (a : MA) : MA := fun ρ S => (a ρ S).bind fun ds S1 => match ds with
  | [.int i, .int j] => @ite _ (-1000000000000000000 ≤ i ∧ i ≤ 1000000000000000000 ∧ -1000000000000000000 ≤ j ∧ j ≤ 1000000000000000000 ∧ j - i ≤ 16777216) (Classical.propDecidable _) (.ok (rngD i (j - i).toNat) S1) .bad
  | _ => .bad
end
/-! ### what they do -/
section
variable {S : Sto} {ρ : Rho} {N B C : Rho → Sto → Prop} {R : D → Sto → Prop} {E : EX} {EO : EXO}
@[simp] theorem does_par {i j : Nat} {a : MA} : (mPar i j a ρ S).DoesE EO N R B C = (a ρ S).DoesE (eAt EO ρ) fun ds S1 => match ds with
    | [d, d'] => N ((ρ.set i (some d)).set j (some d')) S1
    | _ => False := by
  unfold mPar
  rw [does_ofRes]; congr 1; funext ds S1
  match ds with
  | [] => rfl
  | [_] => rfl
  | [_, _] => rfl
  | _ :: _ :: _ :: _ => rfl
@[simp] theorem tgU_tup {m : Nat} {f : List D → Rho → Option Rho} {ds : List D} : tgU m f (.tup ds) ρ = if ds.length = m then f ds ρ else none := rfl
@[simp] theorem tgU_lst {m : Nat} {f : List D → Rho → Option Rho} {ds : List D} : tgU m f (.lst ds) ρ = if ds.length = m then f ds ρ else none := rfl
@[simp] theorem does_repC {a b : ME} {Q : List D → Sto → Prop} : (mRepC a b ρ S).DoesE E Q = (a ρ S).DoesE E fun x S1 => (b ρ S1).DoesE E fun y S2 => match x, y with
    | .cell n, .int k => ∃ xs, S2[n]? = some (.lst xs) ∧ (k < 1000000 ∧ xs.length * k.toNat ≤ 16777216 ∧ -1000000 < k) ∧ Q (List.replicate k.toNat xs).flatten S2
    | _, _ => False := by
  unfold mRepC
  rw [does_bind]; congr 1; funext x S1
  rw [does_bind]; congr 1; funext y S2
  cases x with
  | cell n =>
    cases y with
    | int k =>
      simp only
      cases e : S2[n]? with
      | none => simp [Res.DoesE]
      | some c =>
        cases c with
        | lst xs =>
          simp only
          by_cases h : k < 1000000 ∧ xs.length * k.toNat ≤ 16777216 ∧ -1000000 < k
          · rw [if_pos h]; simp [h]
          · rw [if_neg h]; simp [h, Res.DoesE]
        | _ => simp [Res.DoesE]
    | _ => rfl
  | _ => cases y <;> rfl
@[simp] theorem does_lstRg {a : MA} {Q : List D → Sto → Prop} : (mLstRg a ρ S).DoesE E Q = (a ρ S).DoesE E fun ds S1 => match ds with
    | [.int i, .int j] => (-1000000000000000000 ≤ i ∧ i ≤ 1000000000000000000 ∧ -1000000000000000000 ≤ j ∧ j ≤ 1000000000000000000 ∧ j - i ≤ 16777216) ∧ Q (rngD i (j - i).toNat) S1
    | _ => False := by
  unfold mLstRg
  rw [does_bind]; congr 1; funext ds S1
  match ds with
  | [] => rfl
  | [d] => cases d <;> rfl
  | [d, d'] =>
    cases d with
    | int i =>
      cases d' with
      | int j =>
        simp only
        by_cases h : -1000000000000000000 ≤ i ∧ i ≤ 1000000000000000000 ∧ -1000000000000000000 ≤ j ∧ j ≤ 1000000000000000000 ∧ j - i ≤ 16777216
        · rw [if_pos h]; simp [h]
        · rw [if_neg h]; simp [h, Res.DoesE]
      | _ => rfl
    | _ => cases d' <;> rfl
  | d :: d' :: _ :: _ => cases d <;> (try rfl) <;> cases d' <;> rfl
theorem gSum_ints {d : D} {ns : List Int} (h : lstOf S d = some (ns.map .int)) : gSum S [d] = some (.int ns.sum) := by
  show (lstOf S d).bind _ = _
  rw [h]
  show (intsOf (ns.map D.int)).map _ = _
  rw [intsOf_map] <;> rfl
end
end Dm
-- text Hw4
namespace Dm
open PySem L2
end Dm
-- text DmBack
namespace Dm
open PySem L2
section
variable {X : Cx} {W : WX} {e : Expr} {m : ME} {te te' : TE} {k : Nat} {p1 p2 p3 pos : Pos}
theorem peOr (h : PE X e te) (h' : PE X e te') : PE X e (fun σ H Q => te σ H Q ∨ te' σ H Q) := ⟨fun pins s σ H Q I hw => hw.elim (h.run pins s σ H Q I) (h'.run pins s σ H Q I)⟩
/-- x[::-1], a tuple or a list -/
def mBackA (m : ME) : ME := fun ρ S => (m ρ S).bind fun x S1 => match x with
  | .tup ds => .ok (.tup ds.reverse) S1
  | x => match lstOf S1 x with
    | some ds => .ok (.lst ds.reverse) S1
    | none => .bad
theorem d_backA (h : DE X W e m) : DE X W (.Subscript e (.Slice none none (some (.UnaryOp .USub (.Constant (.int 1) k p1) p2)) p3) pos) (mBackA m) := by
  obtain ⟨te, pe, ke⟩ := h
  refine ⟨_, peOr (pe_backT pe) (pe_revL pe), fun ξ μ σ H ρ S Q g s h => ?_⟩
  unfold mBackA at h
  cases e1 : m ρ S with
  | bad => rw [e1] at h; exact h.elim
  | exc c fs S1 =>
    rw [e1] at h
    refine .inl (ke ξ μ σ H ρ S _ g s ?_)
    rw [e1]; exact h
  | ok d S1 =>
    rw [e1] at h
    by_cases c : ∃ ds, d = .tup ds
    · obtain ⟨ds, rfl⟩ := c
      refine .inl (ke ξ μ σ H ρ S _ g s ?_)
      rw [e1]
      intro v μ1 H1 u1 s1 r1
      cases r1 with
      | @tup a xs _ f r =>
        exact ⟨a, xs, rfl, f.sq, fun p o hp ho => h _ μ1 _ (u1.trans (.fresh hp)) (s1.fresh hp) (.tup (.inl ⟨.new ho, s1.out hp, s1.outX hp⟩) (r.reverse.up (.fresh hp)))⟩
    · have h : WE' (fx X ξ) (match lstOf S1 d with | some ds => .ok (.lst ds.reverse) S1 | none => .bad) Q (fun cls dd H' => W cls dd σ H') μ H := by
        cases d with
        | tup ds => exact absurd ⟨ds, rfl⟩ c
        | _ => exact h
      refine .inr (ke ξ μ σ H ρ S _ g s ?_)
      rw [e1]
      intro v μ1 H1 u1 s1 r1
      cases q : lstOf S1 d with
      | none => rw [q] at h; exact h.elim
      | some ds =>
        rw [q] at h
        obtain ⟨a, xs, rfl, h3, r3⟩ := RD.lstS s1 r1 q
        exact ⟨a, xs, rfl, h3, fun p hp => h _ μ1 _ (u1.trans (.fresh hp)) (s1.fresh hp) (.lst (.inl ⟨.inl upd_same, s1.out hp, s1.outX hp⟩) (r3.reverse.up (.fresh hp)))⟩
end
section
variable {S : Sto} {ρ : Rho} {Q : D → Sto → Prop} {E : EX} {EO : EXO}
@[simp] theorem does_backA {m : ME} : (mBackA m ρ S).DoesE E Q = (m ρ S).DoesE E fun x S1 => match x with
    | .tup ds => Q (.tup ds.reverse) S1
    | x => match lstOf S1 x with
      | some ds => Q (.lst ds.reverse) S1
      | none => False := by
  unfold mBackA
  rw [does_bind]; congr 1; funext x S1
  cases x with
  | lst ds => rfl
  | cell n => 
    simp only
    cases lstOf S1 (.cell n) <;> rfl
  | _ => rfl
end
end Dm
-- text Hw5
namespace Dm
open PySem L2
end Dm
-- text DmSet
namespace Dm
open PySem L2 PySem.Spec PyProof.Rows
/-! ### set(xs), xs a list of ints, so that it can be sorted -/
section
variable {P : Program} {w : World} {A : Around} {E : Value → Shared → Prop} {s : Shared}
/-- an empty set as it is made -/
def bare (w : World) : Obj := { cls := .type "set", dict := none, data := .set #[] 0 (.fresh 0 0 (!w.params.followText "set-order")) }
end
end Dm
-- text DmSet2
namespace Dm
open PySem L2 PySem.Spec PyProof.Rows
open PySem.W (Frag)
/-! ### the members of a list, ascending, each once -/
def insU (x : Int) : List Int → List Int
  | [] => [x]
  | y :: r => if x < y then x :: y :: r else if x = y then y :: r else y :: insU x r
def uniq : List Int → List Int
  | [] => []
  | x :: r => insU x (uniq r)
/-! ### sorted(set(xs)) for any number of members -/
section
variable {X : Cx} {W : WX} {e : Expr} {m : ME} {p p1 p2 pos : Pos}
def gSortSet : Sto → D → Option (List D) := fun S d => (lstOf S d).bind fun es => (intsOf es).bind fun ns => if (uniq ns).length ≤ 4000 then some ((uniq ns).map .int) else none
def mSortSet (m : ME) : MA := fun ρ S => (m ρ S).bind fun d S1 => match gSortSet S1 d with
  | some ds => .ok ds S1
  | none => .bad
end
section
variable {S : Sto} {ρ : Rho} {E : EX}
@[simp] theorem does_sortSet {m : ME} {Q : List D → Sto → Prop} : (mSortSet m ρ S).DoesE E Q = (m ρ S).DoesE E fun d S1 => match gSortSet S1 d with
    | some ds => Q ds S1
    | none => False := by
  unfold mSortSet
  rw [does_bind]; congr 1; funext d S1
  cases gSortSet S1 d <;> rfl
end
end Dm
-- text Hw6
namespace Dm
open PySem L2
end Dm
-- text DmIn2
namespace Dm
open PySem L2 PySem.Spec PyProof.Rows
open PySem.W (Frag)
/-! ### x in xs, both nested plain data -/
end Dm
-- text DmTab
namespace Dm
open PySem L2 PySem.Spec PyProof.Rows
open PySem.W (Frag)
/-! ### a dict of the module with text keys, its values plain -/
inductive KEs (K : Frag) (P : Params) : List DictEntry → List (Str × D) → Prop
  | nil : KEs K P [] []
  | cons {e : DictEntry} {r : List DictEntry} {x : Str} {t : Tok} {v : V} {d : D} {kvs : List (Str × D)} : e.key = .str x t → e.hash = PyData.keyHash P x → RelV v e.val → KD K v d → KEs K P r kvs → KEs K P (e :: r) ((x, d) :: kvs)
def tbLook : List (Str × D) → Str → Option D
  | [], _ => none
  | (x, d) :: r, z => if x = z then some d else tbLook r z
theorem KEs.lit {K : Frag} {P : Params} : ∀ {es : List DictEntry} {kvs : List (Str × D)}, KEs K P es kvs → PySem.W.KeysLit P es
  | _, _, .nil => trivial
  | _, _, .cons h1 h2 _ _ r => ⟨⟨_, _, h1, h2⟩, r.lit⟩
theorem KEs.noRef {K : Frag} {P : Params} : ∀ {es : List DictEntry} {kvs : List (Str × D)}, KEs K P es kvs → es.any (·.refKey) = false
  | _, _, .nil => rfl
  | _, _, .cons h1 _ _ _ r => by
    rw [List.any_cons, r.noRef, Bool.or_false]
    unfold DictEntry.refKey
    rw [h1]
theorem KEs.find {K : Frag} {P : Params} (z : Str) : ∀ {es : List DictEntry} {kvs : List (Str × D)}, KEs K P es kvs →
    match tbLook kvs z with
    | some d => ∃ e v, es.find? (·.key.isStr z) = some e ∧ RelV v e.val ∧ KD K v d
    | none => es.find? (·.key.isStr z) = none
  | _, _, .nil => rfl
  | _, _, .cons (e := e) (x := x) (t := t) (v := v) (d := d) (kvs := kvs) h1 h2 h3 h4 r => by
    have ih := KEs.find z r
    unfold tbLook
    by_cases c : x = z
    · rw [if_pos c]
      refine ⟨e, v, ?_, h3, h4⟩
      rw [List.find?_cons_of_pos]
      rw [h1, PySem.W.isStr_of]
      show (x == z) = true
      rw [c]; exact beq_self_eq_true _
    · rw [if_neg c]
      have n : ¬ (e.key.isStr z) = true := by
        rw [h1, PySem.W.isStr_of]
        intro q
        exact c (of_decide_eq_true (by simpa [Value.isStrOf] using q))
      rw [List.find?_cons_of_neg (p := fun q : DictEntry => q.key.isStr z) n]
      exact ih
/-- the name stands for this dict -/
def GlT (K : Frag) (w : World) (mg : Str → Option Value) (x : Str) (kvs : List (Str × D)) : Prop :=
  ∃ d es n, mg x = some (.ref d) ∧ K.lookup d = some ⟨.type "dict", none, .dict es n, #[]⟩ ∧ (d == sysModules) = false ∧ KEs K w.params es.toList kvs
def mTbIn (neg : Bool) (kvs : List (Str × D)) (a : ME) : ME := fun ρ S => (a ρ S).bind fun x S1 => match x with
  | .str z => .ok (.bl (if neg then !(tbLook kvs z).isSome else (tbLook kvs z).isSome)) S1
  | _ => .bad
def mTbIx (kvs : List (Str × D)) (a : ME) : ME := fun ρ S => (a ρ S).bind fun x S1 => match x with
  | .str z => match tbLook kvs z with
    | some d => .ok d S1
    | none => .bad
  | _ => .bad
theorem nsIn_tab {K : Frag} {P : Params} {d : Addr} {es : Array DictEntry} {n : Nat} {kvs : List (Str × D)} (l : K.lookup d = some ⟨.type "dict", none, .dict es n, #[]⟩) (k : KEs K P es.toList kvs) (z : Str) :
    match tbLook kvs z with
    | some dd => ∃ u v, PySem.W.nsIn K d z = some (some u) ∧ RelV v u ∧ KD K v dd
    | none => PySem.W.nsIn K d z = some none := by
  have h := KEs.find z k
  unfold PySem.W.nsIn
  rw [l]
  cases q : tbLook kvs z with
  | some dd =>
    rw [q] at h
    obtain ⟨e, v, h1, h2, h3⟩ := h
    refine ⟨e.val, v, ?_, h2, h3⟩
    simp only [h1]
  | none =>
    rw [q] at h
    have h' : es.toList.find? (·.key.isStr z) = none := h
    simp only [h', k.noRef, Bool.false_eq_true, if_false]
section
variable {X : Cx} {W : WX} {a : Expr} {ma : ME} {pos p : Pos}
theorem tb_name {x : Str} {kvs : List (Str × D)} (hg : Gl X x) (h : GlT X.K X.w X.mg x kvs) (hd : (x == ("__debug__" : Str)) = false := by decide) :
    ∃ (d : Addr) (es : Array DictEntry) (n : Nat), KDict X.K X.w d es n ∧ KEs X.K X.w.params es.toList kvs ∧ PE X (.Name x p) (fun _ H Q => Q (.ref d) H) := by
  obtain ⟨d, es, n, h1, h2, h3, h4⟩ := h
  exact ⟨d, es, n, ⟨h2, h4.lit, h3⟩, h4, pe_glob hg h1 rfl hd⟩
theorem dt_tbnot {x : Str} {kvs : List (Str × D)} (hg : Gl X x) (h : GlT X.K X.w X.mg x kvs) (ha : DE X W a ma) (hd : (x == ("__debug__" : Str)) = false := by decide) (hm : behindInMarks .NotIn (.Name x p) = false := by first | exact nomark _ | rfl) : DT X W (.Compare a [.NotIn] [.Name x p] pos) (mTbIn true kvs ma) := by
  obtain ⟨ta, pa, ka⟩ := ha
  obtain ⟨d, es, n, hD, hK, pn⟩ := tb_name (p := p) hg h hd
  refine ⟨_, pt_cmpR (op_notIn_kd hD) pa pn hm, fun ξ μ σ H ρ S Q g s h => ka ξ μ σ H ρ S _ g s (WR.bind (WT'.val h) fun y S1 v μ1 H1 u1 s1 r1 h1 => ?_)⟩
  cases r1 with
  | str z =>
    have q := nsIn_tab hD.at_ hK z
    cases e : tbLook kvs z with
    | some dd =>
      simp only [e] at q h1
      obtain ⟨u, v', q1, q2, q3⟩ := q
      exact ⟨z, some u, rfl, rfl, q1, h1 _ μ1 H1 .refl s1 (.bl _)⟩
    | none =>
      simp only [e] at q h1
      exact ⟨z, none, rfl, rfl, q, h1 _ μ1 H1 .refl s1 (.bl _)⟩
  | _ => exact h1.elim
theorem d_tbix {x : Str} {kvs : List (Str × D)} (hg : Gl X x) (h : GlT X.K X.w X.mg x kvs) (ha : DE X W a ma) (hd : (x == ("__debug__" : Str)) = false := by decide) (hs : PlainIx a := by exact fun _ _ => rfl) : DE X W (.Subscript (.Name x p) a pos) (mTbIx kvs ma) := by
  obtain ⟨ta, pa, ka⟩ := ha
  obtain ⟨d, es, n, hD, hK, pn⟩ := tb_name (p := p) hg h hd
  refine ⟨_, pe_ix ix_kdict pn pa hs, fun ξ μ σ H ρ S Q g s h => ka ξ μ σ H ρ S _ g s (WR.bind h fun y S1 v μ1 H1 u1 s1 r1 h1 => ?_)⟩
  cases r1 with
  | str z =>
    have q := nsIn_tab hD.at_ hK z
    cases e : tbLook kvs z with
    | some dd =>
      simp only [e] at q h1
      obtain ⟨u, v', q1, q2, q3⟩ := q
      exact ⟨d, z, v', rfl, rfl, ⟨es, n, u, hD.at_, hD.lit, q1, q2⟩, h1 _ μ1 H1 .refl s1 (KD.rd (F := fx X ξ) dd q3)⟩
    | none =>
      simp only [e] at h1
      exact h1.elim
  | _ => exact h1.elim
end
end Dm
-- text DmG
namespace Dm
open PySem L2 PySem.Spec PyProof.Rows
open PySem.W (Frag)
/-! ### room under which no repr is under way -/
structure RoomG (k : Nat) (A : Around) : Prop extends Room k A where
  gd : A.guards = some []
theorem RoomG.mono {j k : Nat} {A : Around} (r : RoomG k A) (h : j ≤ k) : RoomG j A := ⟨r.toRoom.mono h, r.gd⟩
theorem RoomG.deeper {k : Nat} {A : Around} (r : RoomG (k + 1) A) (env : Env) : RoomG k (A.deeper env) := ⟨r.toRoom.deeper env, r.gd⟩
theorem roomG_top {k : Nat} (h : Room k callerA) : RoomG k callerA := ⟨h, rfl⟩
structure FnG (P : Program) (w : World) (K : Frag) (mg : Str → Option Value) (base : Heap) (CX : CXT) (k : Nat) (f : Addr) (fd : FuncData) (ps : List Str) (sp : Sp) : Prop where
  len : ∀ vs H Q E, sp vs H Q E → vs.length = ps.length
  run : ∀ (A : Around) (outer : List Env) (s : Shared) (H : Hp) (args : Args) (us : List Value) (vs : List V) (Q : VK) (E : XK), RoomG k A → Env0 P w K mg base A outer s H → BindsTo s fd args (ps.zip us) → Vals vs us → sp vs H Q E →
    codeAny (model P w) A (.call (.ref f) args) (CR CX outer P w H s Q E) s
section
variable {P : Program} {w : World} {K : Frag} {mg : Str → Option Value} {base : Heap} {CX : CXT} {k : Nat} {f : Addr} {fd : FuncData} {ps N : List Str} {sp : Sp}
theorem FnG.mono {j : Nat} (F : FnG P w K mg base CX j f fd ps sp) (h : j ≤ k) : FnG P w K mg base CX k f fd ps sp := ⟨F.len, fun A outer s H args us vs Q E hr => F.run A outer s H args us vs Q E (hr.mono h)⟩
theorem FnG.imp {sp' : Sp} (F : FnG P w K mg base CX k f fd ps sp) (h : ∀ vs H Q E, sp' vs H Q E → sp vs H Q E) : FnG P w K mg base CX k f fd ps sp' :=
  ⟨fun vs H Q E q => F.len vs H Q E (h _ _ _ _ q), fun A outer s H args us vs Q E hr he hb hv hs => F.run A outer s H args us vs Q E hr he hb hv (h _ _ _ _ hs)⟩
/-- the end of a body, told by how it ended -/
theorem ce_of {X : Cx} {outer : List Env} {s s' : Shared} {H H' : Hp} {σ : L2.St} {Q : VK} {v : V} {u : Value} (J : Inv X [] σ H' s') (hP : X.prog = P) (hw : X.w = w) (hs : X.s_0 = s) (hH : X.H_0 = H) (ho : X.fs = frs outer) (hx : X.ex = []) (rv : RelV v u) (q : Q v H') : CE outer P w H s Q u s' := by
  subst hP hw hs hH
  have un := J.base
  rw [ho, hx] at un
  exact ⟨v, H', J.os, J.bare, un, J.hok, rv, q⟩
/-- a def by its body -/
theorem fng_body {name qual : Str} {params : Arguments} {body : List Stmt} {scope : Scope} {dV kV doc pm cdv ct oc : Value} {an od : Option Addr} {osl : Array (Option Value)} (lk : K.lookup f = some ⟨oc, od, .func (PySem.W.fnOf name qual params body scope dV kV doc pm an cdv ct), osl⟩)
    (hcd : PySem.W.codeIn K cdv qual = true) (S : FnScope N ps scope) (len : ∀ vs H Q E, sp vs H Q E → vs.length = ps.length)
    (hbody : ∀ (A : Around) (outer : List Env) (s : Shared) (H : Hp) (vs : List V) (Q : VK) (E : XK), RoomG k (A.deeper (envOfC qual scope s.heap.objs.size f cdv)) → sp vs H Q E →
      ∃ t, PSs (cxOf CX P w K mg base N qual scope f cdv A outer s H E) body t ∧ t { nx := fun _ H' => Q .non H', rt := Q } (L2.start N vs) H) :
    FnG P w K mg base CX (k + 1) f (PySem.W.fnOf name qual params body scope dV kV doc pm an cdv ct) ps sp where
  len := len
  run A outer s H args us vs Q E hr e0 hb r hsp := by
    have up : ∀ b o, base.get? b = some o → s.heap.get? b = some o := fun b o e => (e0.bs b o e).1
    have known : ∀ y ∈ ps.zip us, scope.names.lookup y.1 = some .local ∨ (scope.names.lookup y.1 = some .cell ∧ ((cellsFrom (s.heap.objs.size + 1) scope.names []).lookup y.1).isSome = true) := by
      rintro ⟨n, v⟩ hy
      exact (S.par n (List.of_mem_zip hy).1).imp id fun q => ⟨q, PySem.W.cellsFrom_some _ _ _ (.inl q)⟩
    obtain ⟨t, ht, hq⟩ := hbody A outer s H vs Q E (hr.deeper _) hsp
    refine codeAny_call_function hr.toRoom.depth (e0.mod.kin.keeps up _ _ lk) rfl S.co S.gen rfl (PySem.W.codeRec_of (e0.mod.kin.keeps up) hcd) (hb _ _ _ _ (wpAny_newFunctionEnv_cells S.kind known ?_))
    rintro env rfl s1 x
    refine ⟨(e0.mod.nolimit.keeps up).keeps x.toInCall.keep, codeAny_func (wpAny_mono (ht.run [] s1 (L2.start N vs) H _ (inv_start S hr.toRoom.hd e0 (len _ _ _ _ hsp) r x) hq) ?_ fun _ _ hs => hs)⟩
    intro fl s' hs
    match fl, hs with
    | .ret u, ⟨v, σ', H', J, rv, q⟩ => exact ce_of (outer := outer) J rfl rfl rfl rfl rfl rfl rv q
    | .next, ⟨σ', H', J, q⟩ => exact ce_of (outer := outer) (v := V.non) (u := Value.none) J rfl rfl rfl rfl rfl rfl rfl q
    | .brk, ⟨_, _, _, q⟩ => exact False.elim q
    | .cont, ⟨_, _, _, q⟩ => exact False.elim q
theorem fung_ok {x qual : Str} {st : Stmt} (F : Fun K x qual st f fd) (S : FnScope N ps (defScope st)) (len : ∀ vs H Q E, sp vs H Q E → vs.length = ps.length)
    (hbody : ∀ (cdv : Value) (A : Around) (outer : List Env) (s : Shared) (H : Hp) (vs : List V) (Q : VK) (E : XK), RoomG k (A.deeper (envOfC qual (defScope st) s.heap.objs.size f cdv)) → sp vs H Q E →
      ∃ t, PSs (cxOf CX P w K mg base N qual (defScope st) f cdv A outer s H E) (defBody st) t ∧ t { nx := fun _ H' => Q .non H', rt := Q } (L2.start N vs) H) : FnG P w K mg base CX (k + 1) f fd ps sp := by
  obtain ⟨oc, od, kV, doc, pm, an, cdv, ct, osl, rfl, lk, hcd⟩ := F.ex
  exact fng_body lk hcd S len (hbody cdv)
end
structure FnDG (P : Program) (w : World) (K : Frag) (mg : Str → Option Value) (base : Heap) (k : Nat) (x : Str) (st : Stmt) (ps : List Str) (m : List D → Sto → Res D) : Prop where
  ex : ∃ f fd, mg x = some (.ref f) ∧ Fun K x x st f fd ∧ Binds K fd ps [] ∧ FnG P w K mg base (L2.CX P w) k f fd ps (spD w K mg m)
section
variable {X : Cx} {CX : CXT} {k : Nat} {f : Addr} {fd : FuncData} {ps : List Str} {sp : Sp} {dvs : List V} {ds : List Value} {E : L2.St → XK} {x : Str} {p pos : Pos} {e : Expr} {es : List Expr} {t : TA}
theorem run_fnSG {pins : List (Addr × Obj)} {σ : L2.St} {H : Hp} {s : Shared} {Q : VK} {us : List Value} {vs : List V} (F : FnG X.prog X.w X.K X.mg X.base CX k f fd ps sp) (hr : RoomG k X.A) (hb : Binds X.K fd ps ds) (hd : Vals dvs ds) (hx : PassesAt CX X σ (E σ))
    (I : Inv X pins σ H s) (r : Vals vs us) (h : sp (vs ++ dvs) H Q (E σ)) : wpAny (model X.prog X.w) X.A (call (.ref f) us) (EP X pins σ Q) X.xe s := by
  have r2 := r.append hd
  refine wpAny_call (codeAny_mono (F.run X.A X.stack s H ⟨us, []⟩ (us ++ ds) (vs ++ dvs) Q (E σ) hr I.env0 (hb s us I.kIn (r2.length.symm.trans (F.len _ _ _ _ h))) r2 h) fun r s' hq => ?_)
  match r, hq with
  | .error e, q => exact hx pins H s e s' I q
  | .ok (.ret u), q => exact I.after q
  | .ok .next, q => exact False.elim q
  | .ok .brk, q => exact False.elim q
  | .ok .cont, q => exact False.elim q
theorem pe_callSG (F : FnG X.prog X.w X.K X.mg X.base CX k f fd ps sp) (hr : RoomG k X.A) (hg : Gl X x) (hm : X.mg x = some (.ref f)) (hk : PySem.W.keepIn X.K (.ref f) = true) (hb : Binds X.K fd ps ds) (hd : Vals dvs ds) (hx : ∀ σ, PassesAt CX X σ (E σ))
    (ha : PA X (e :: es) t) (hdb : (x == ("__debug__" : Str)) = false := by decide) (he : starEach (e :: es) X.env = (false, eval e X.env) :: starEach es X.env := by rfl) (hpl : (backTo pos (starEach es X.env)).any (·.1) = false := by rfl) :
    PE X (.Call (.Name x p) (e :: es) [] pos) (tCallSD sp dvs E t) where
  run pins s σ H Q I h := wpAny_Call_Name_kw (ld_glob I hg hm (PySem.W.callWith_K (h₀ := X.base) I.ok.mod.kin hk (thn (ha.run pos pins s σ H _ I h) fun us s1 ⟨vs, H1, I1, r, q⟩ => ⟨I1.kIn, run_fnSG F hr hb hd (hx σ) I1 r q⟩) he hpl) hdb)
end
section
variable {P : Program} {w : World} {K : Frag} {mg : Str → Option Value} {base : Heap}
theorem FnDG.mono {j k : Nat} {x : Str} {st : Stmt} {ps : List Str} {m : List D → Sto → Res D} (F : FnDG P w K mg base j x st ps m) (h : j ≤ k) : FnDG P w K mg base k x st ps m :=
  let ⟨f, fd, a, b, c, d⟩ := F; ⟨f, fd, a, b, c, d.mono h⟩
theorem fnd_mkG {x : Str} {st : Stmt} {f : Addr} {fd : FuncData} {N ps : List Str} {k np nN : Nat} {mb : MS} (hm : mg x = some (.ref f)) (F : Fun K x x st f fd) (B : Binds K fd ps []) (S : FnScope N ps (defScope st)) (hnp : ps.length = np) (hnN : N.length = nN)
    (hb : ∀ (cdv : Value) (A : Around) (outer : List Env) (s : Shared) (H : Hp) (E : XK), RoomG k (A.deeper (envOfC x (defScope st) s.heap.objs.size f cdv)) →
      DSs (cxOf (L2.CX P w) P w K mg base N x (defScope st) f cdv A outer s H E) (fun cls d _ H => E cls d H) (defBody st) mb) : FnDG P w K mg base (k + 1) x st ps (mDef np nN mb) := by
  subst hnp hnN
  refine ⟨f, fd, hm, F, B, fung_ok F S (fun vs H Q E h => ?_) (fun cdv A outer s H vs Q E hr h => ?_)⟩
  · obtain ⟨ξ, μ, ds, S0, s0, r0, w0⟩ := h
    unfold mDef at w0
    by_cases c : ds.length = ps.length
    · rw [r0.length]; exact c
    · rw [if_neg c] at w0; exact w0.elim
  · obtain ⟨ξ, μ, ds, S0, s0, r0, w0⟩ := h
    obtain ⟨ts, pt, kt⟩ := hb cdv A outer s H E hr
    refine ⟨ts, pt, ?_⟩
    unfold mDef at w0
    by_cases c : ds.length = ps.length
    · rw [if_pos c] at w0
      refine kt ξ μ _ H _ S0 _ (rg_start r0) s0 ?_
      show WS' ⟨K, mg, ξ, w⟩ _ _ _ μ H
      rw [c]
      cases e : mb (ds.map some ++ List.replicate (N.length - ps.length) none) S0 with
      | nx ρ S' => rw [e] at w0; exact fun σ μ' H' u s g => w0 _ μ' H' u s .non
      | rt d S' => rw [e] at w0; exact w0
      | exc c fs ρ S' => rw [e] at w0; exact fun cls dd σ μ' H' u s g x => w0 cls dd μ' H' u s x
      | bk ρ S' => rw [e] at w0; exact w0.elim
      | ct ρ S' => rw [e] at w0; exact w0.elim
      | bad => rw [e] at w0; exact w0.elim
    · rw [if_neg c] at w0; exact w0.elim
theorem law_okG {x sp : Str} {st : Stmt} {f : Addr} {fd : FuncData} {k : Nat} {m : List D → Sto → Res D} (hm : mg x = some (.ref f)) (F : Fun K x x st f fd) (G : FnDG P w K mg base k x st [sp] m) (h : LawTrue m) :
    FnG P w K mg base (L2.CX P w) k f fd [sp] (spLaw K) := by
  obtain ⟨f', fd', hm', F', B', G'⟩ := G
  rw [hm] at hm'
  cases hm'
  have e : fd = fd' := by
    obtain ⟨oc, od, kV, doc, pm, an, cdv, ct, osl, e1, lk, hcd⟩ := F.ex
    obtain ⟨oc', od', kV', doc', pm', an', cdv', ct', osl', e1', lk', hcd'⟩ := F'.ex
    rw [lk] at lk'
    have q := Option.some.inj lk'
    injection q with q1 q2 q3 q4
    injection q3
  subst e
  refine G'.imp fun vs H Q E hh => ?_
  obtain ⟨a, ns, rfl, hS, hl, q⟩ := hh
  obtain ⟨S', e⟩ := h ns hl
  refine ⟨[], [], [.lst (ns.map .int)], [], ⟨rfl, .nil, (fun n a c e _ => nomatch e), (fun a h => nomatch h)⟩, .cons (.lst ?_ (rds_ints ns)) .nil, ?_⟩
  · exact hS.imp (fun z => ⟨z, List.not_mem_nil, List.not_mem_nil⟩) id
  · rw [e]
    intro v μ' H' u s r
    cases r
    exact q H'
end
section
variable {X : Cx} {W : WX} {tg e a b c : Expr} {es : List Expr} {kws : List Keyword} {kw : Keyword} {st : Stmt} {sts ts : List Stmt} {ma mb mc m : ME} {mr mk : MA} {m1 m2 : MS} {pos p p1 p2 p3 kpos : Pos} {nm : Option Str}
theorem d_callG {j k : Nat} {x : Str} {ps : List Str} {f : List D → Sto → Res D} (F : FnDG X.prog X.w X.K X.mg X.base j x st ps f) (hr : RoomG k X.A) (tk : Takes X W) (ha : DA X W (e :: es) mr) (hj : j ≤ k := by decide) (hg : Gl X x := by rfl)
    (hdb : (x == ("__debug__" : Str)) = false := by decide) (he : starEach (e :: es) X.env = (false, eval e X.env) :: starEach es X.env := by rfl) (hpl : (backTo pos (starEach es X.env)).any (·.1) = false := by rfl) :
    DE X W (.Call (.Name x p) (e :: es) [] pos) (mCall f mr) := by
  obtain ⟨fa, fd, hm, Fu, B, G⟩ := F
  obtain ⟨ta, pa, ka⟩ := ha
  refine ⟨_, pe_callSG G (hr.mono hj) hg hm Fu.kp B .nil (fun σ => passAt tk σ) pa hdb he hpl, fun ξ μ σ H ρ S Q g s h => ka ξ μ σ H ρ S _ g s (WR.bind h fun xs S1 vs μ1 H1 u1 s1 r1 h1 => ?_)⟩
  rw [List.append_nil]
  exact ⟨ξ, μ1, xs, S1, s1, r1, h1⟩
end
end Dm
-- text DmGEnd
namespace Dm
open PySem L2 PySem.Spec PyProof.Rows
open PySem.W (Frag)
/-- of all addresses the script's alone may be tracked, frozen, and then the written part does not know it -/
def Lone (K : Frag) (a : Addr) (H : Hp) : Prop := ∀ b, H b = none ∨ (b = a ∧ K.lookup a = none ∧ ∃ o xs, H b = some (.frz o (.lst xs)))
section
variable {P : Program} {w : World} {K : Frag} {mg mb : Str → Option Value} {k : Nat} {fa a : Addr} {fd : FuncData} {x : Str} {s : Shared} {vs : List Value} {ns : List Int} {H : Hp}
theorem Lone.free (L : Lone K a H) (KX : K.In s.heap) {b : Addr} {o : Obj} (h : K.lookup b = some o) : H b = none := by
  rcases L b with q | ⟨rfl, q, _⟩
  · exact q
  · rw [q] at h; cases h
theorem Lone.dic (L : Lone K a H) (ha : s.heap.get? a = some { cls := .type "list", data := .seq vs.toArray }) {b : Addr} {o : Obj} {es : Array DictEntry} {n : Nat} (h : s.heap.get? b = some o) (hd : o.data = .dict es n) : H b = none := by
  rcases L b with q | ⟨rfl, _, _⟩
  · exact q
  · rw [ha] at h
    cases h
    cases (show Data.seq vs.toArray _ = Data.dict es n from hd)
theorem Lone.nsp (L : Lone K a H) (ha : s.heap.get? a = some { cls := .type "list", data := .seq vs.toArray }) {b : Addr} {m : Str → Option Value} (h : s.heap.Ns b m) : (hidT s.heap H).Ns b m := by
  obtain ⟨o, es, ep, h1, h2, h3⟩ := h
  exact ⟨o, es, ep, hidT_get h1 (L.dic ha h1 h2), h2, h3⟩
/-- the call of the law, from an abstract heap -/
theorem lone_call (L : Lone K a H) (KX : K.In s.heap) (hns : s.heap.Ns mainGlobals mg) (hb : s.heap.Ns builtinsNs mb) (hbb : ∀ x : Str, x ≠ "__name__" → mb x = bootBuiltins x) (hlim : s.heap.NoLimit) (hg : s.gens = #[])
    (ha : s.heap.get? a = some { cls := .type "list", data := .seq vs.toArray }) (hr : RoomG k callerA) (F : ∀ base : Heap, K.In base → base.Ns mainGlobals mg → FnG P w K mg base (L2.CX P w) k fa fd [x] (spLaw K))
    (hbind : ∀ (s : Shared) (u : Value), BindsTo s fd ⟨[u], []⟩ [(x, u)]) (hS : SqL K H a (ns.map V.int)) (hl : ns.length ≤ 63) (hok : HOk P w H s.heap) :
    codeAny (model P w) callerA (.call (.ref fa) ⟨[.ref a], []⟩) (fun r s' => r = .ok (.ret (.bool true)) ∧ OldK s.heap s'.heap ∧ s'.os = s.os ∧ AllBare s'.gens) s := by
  have hK : K.In (hidT s.heap H) := fun b o e => hidT_get (KX b o e) (L.free KX e)
  obtain ⟨mc, l1, l2⟩ := hlim
  have e0 : Env0 P w K mg (hidT s.heap H) callerA [] s H := {
    frames := rfl
    mod := ⟨hK, L.nsp ha hns, ⟨mb, L.nsp ha hb, hbb⟩, ⟨mc, L.nsp ha l1, l2⟩⟩
    bs := fun b o e => of_hidT e
    bsz := Nat.le_of_eq (hidT_size _ _)
    funs := trivial
    frf := fun b hb => absurd (show b ∈ ([] : List Addr) from hb) List.not_mem_nil
    hok := hok
    bare := .of_eq hg }
  have sp : spLaw K [.ref a] H (fun v _ => v = .bl true) fun _ _ _ => False := ⟨a, ns, rfl, hS, hl, fun _ => rfl⟩
  refine codeAny_mono ((F _ hK (L.nsp ha hns)).run callerA [] s H ⟨[.ref a], []⟩ [.ref a] [.ref a] _ _ hr e0 (hbind s (.ref a)) (.cons rfl .nil) sp) ?_
  intro r s' h
  match r, h with
  | .error e, h => exact (cx_no h).elim
  | .ok .next, h => exact False.elim h
  | .ok .brk, h => exact False.elim h
  | .ok .cont, h => exact False.elim h
  | .ok (.ret u), ⟨v, H', os, bare, un, hok', rv, q⟩ =>
    obtain rfl : v = .bl true := q
    obtain rfl : u = Value.bool true := rv
    refine ⟨rfl, OldK.of_keep fun b o e => ?_, os, bare⟩
    rcases L b with q | ⟨_, _, ob, xs, q⟩
    · exact un.keep b o e q (fun z => absurd (show b ∈ ([] : List Addr) from z) List.not_mem_nil) List.not_mem_nil
    · have e1 := (hok b _ q).1
      have e2 := (hok' b _ (un.frzs b ob _ q)).1
      rw [e] at e1
      cases e1
      exact e2
/-- the call of the law -/
theorem law_callG (KX : K.In s.heap) (hns : s.heap.Ns mainGlobals mg) (hb : s.heap.Ns builtinsNs mb) (hbb : ∀ x : Str, x ≠ "__name__" → mb x = bootBuiltins x) (hlim : s.heap.NoLimit) (hg : s.gens = #[])
    (ha : s.heap.get? a = some { cls := .type "list", data := .seq vs.toArray }) (hi : IntsAre vs ns) (hl : ns.length ≤ 63) (hr : RoomG k callerA) (F : ∀ base : Heap, K.In base → base.Ns mainGlobals mg → FnG P w K mg base (L2.CX P w) k fa fd [x] (spLaw K))
    (hbind : ∀ (s : Shared) (u : Value), BindsTo s fd ⟨[u], []⟩ [(x, u)]) :
    codeAny (model P w) callerA (.call (.ref fa) ⟨[.ref a], []⟩) (fun r s' => r = .ok (.ret (.bool true)) ∧ OldK s.heap s'.heap ∧ s'.os = s.os ∧ AllBare s'.gens) s := by
  have rv := vals_ints hi
  have hz : ns.length ≤ sizeLine := Nat.le_trans hl (by decide)
  by_cases hk : K.lookup a = none
  · let H : Hp := fun b => if b = a then some (.frz { cls := .type "list", data := .seq vs.toArray } (.lst (ns.map V.int))) else none
    have Ha : H a = some (.frz { cls := .type "list", data := .seq vs.toArray } (.lst (ns.map V.int))) := if_pos rfl
    refine lone_call (H := H) (ns := ns) (vs := vs) (fun b => ?_) KX hns hb hbb hlim hg ha hr F hbind (.inl (.inr ⟨_, Ha⟩)) hl fun b u z => ?_
    · by_cases hb : b = a
      · subst hb
        exact .inr ⟨rfl, hk, _, _, Ha⟩
      · exact .inl (if_neg hb)
    · by_cases hb : b = a
      · subst hb
        rw [Ha] at z
        cases z
        exact ⟨ha, by rw [List.length_map]; exact hz, vs, _, rv, ha⟩
      · rw [show H b = none from if_neg hb] at z
        cases z
  · obtain ⟨o, ho⟩ := Option.ne_none_iff_exists'.mp hk
    have e := KX a o ho
    rw [ha] at e
    cases e
    refine lone_call (H := fun _ => none) (ns := ns) (vs := vs) (fun b => .inl rfl) KX hns hb hbb hlim hg ha hr F hbind ?_ hl fun b u z => nomatch z
    exact .inr ⟨_, vs.toArray, _, ho, rfl, rfl, rfl, by rw [List.size_toArray, hi.length]; exact hz, by simpa using rv⟩
end
theorem walkG_of {l : PySem.W.OpenLaw} {k : Nat} {q : Program} {loose : List Str} {XP : (Str → Option Value) → Heap → Prop} {YP : World → Heap → Prop} {d : DefRec} {K : Params → Frag} {x : Str}
    (hn : l.most = some 63) (hdf : d.params.defaults = []) (hr : Room k callerA) (hY : ∀ (w : World) (h : Heap), YP w h → (K w.params).In h)
    (F : ∀ (w : World) (mg : Str → Option Value) (fa : Addr) (h : Heap), (K w.params).In h → h.Ns mainGlobals mg → mg d.name = some (.ref fa) →
      ∃ fd : FuncData, (∀ (s : Shared) (u : Value), BindsTo s fd ⟨[u], []⟩ [(x, u)]) ∧
        ∀ base : Heap, (K w.params).In base → base.Ns mainGlobals mg → FnG l.prog w (K w.params) mg base (L2.CX l.prog w) k fa fd [x] (spLaw (K w.params))) :
    PySem.W.WalkO q loose XP YP l.row.toRowW d [] (fun f vs => PySem.call f vs) := by
  refine Att.attach_call hn hdf fun w s₀ s₁ mg mb fa o pm cd doc a vs ns G Y ho hd hcd hmg hobj hints hlen hg => ?_
  obtain ⟨fd, hb, hF⟩ := F w mg fa _ (hY w _ Y) G.T.g hmg
  exact law_callG (hY w _ Y) G.T.g G.T.b G.T.builtins G.T.nolimit hg hobj hints hlen (roomG_top hr) hF hb
end Dm
-- text DmRepr
namespace Dm
open PySem L2 PySem.Spec PyProof.Rows
open PySem.W (Frag)
/-! ### repr of plain data -/
def reprOk (d : PyData) : Prop := d.showable = true ∧ d.hasDict = false ∧ d.shown.length ≤ sizeLine ∧ d.depth ≤ 64
def rRepr (K : Frag) : List V → Hp → VK → Prop := fun xs H Q => ∃ x d, xs = [x] ∧ Dp K H x d ∧ reprOk d ∧ Q (.str d.shown) H
/-! cells within, their items plain -/
mutual
def toPyC (S : Sto) : D → Option PyData
  | .non => some .none
  | .bl b => some (.bool b)
  | .int i => some (.int i)
  | .str x => some (.str x)
  | .tup ds => (toPysC S ds).map .tuple
  | .lst ds => (toPysC S ds).map .list
  | .cell n => match S[n]? with
    | some (.lst ds) => (toPys ds).map .list
    | _ => none
  | .glo _ => none
  | .exn _ _ => none
def toPysC (S : Sto) : List D → Option (List PyData)
  | [] => some []
  | d :: ds => (toPyC S d).bind fun p => (toPysC S ds).map fun ps => p :: ps
end
section
variable {F : Fx} {μ : List Addr} {H : Hp} {S : Sto}
mutual
theorem dpC_of (s : RS F μ H S) : ∀ {v : V} (d : D) {p : PyData}, RD F μ H v d → toPyC S d = some p → Dp F.K H v p
  | _, .non, p, r, e => by cases r; cases e; exact .non
  | _, .bl b, p, r, e => by cases r; cases e; exact .bl b
  | _, .int i, p, r, e => by cases r; cases e; exact .int i
  | _, .str x, p, r, e => by cases r; cases e; exact .str x
  | _, .tup ds, p, r, e => by
    cases r with
    | tup f r =>
      unfold toPyC at e
      cases q : toPysC S ds with
      | none => rw [q] at e; exact nomatch e
      | some ps =>
        rw [q] at e; cases e
        exact .tup f.sq (dpsC_of s ds r q)
  | _, .lst ds, p, r, e => by
    cases r with
    | lst f r =>
      unfold toPyC at e
      cases q : toPysC S ds with
      | none => rw [q] at e; exact nomatch e
      | some ps =>
        rw [q] at e; cases e
        exact .lst f.sq (dpsC_of s ds r q)
  | _, .cell n, p, r, e => dpS_of s r (by unfold toPyC at e; unfold toPyS; exact e)
  | _, .glo _, p, r, e => nomatch e
  | _, .exn _ _, p, r, e => nomatch e
theorem dpsC_of (s : RS F μ H S) : ∀ {vs : List V} (ds : List D) {ps : List PyData}, RDs F μ H vs ds → toPysC S ds = some ps → DpAll F.K H vs ps
  | _, [], ps, r, e => by cases r; cases e; exact .nil
  | _, d :: ds, ps, r, e => by
    cases r with
    | cons a b =>
      unfold toPysC at e
      cases q : toPyC S d with
      | none => rw [q] at e; exact nomatch e
      | some p =>
        rw [q] at e
        cases q' : toPysC S ds with
        | none => rw [q'] at e; exact nomatch e
        | some ps' =>
          rw [q'] at e; cases e
          exact .cons (dpC_of s d a q) (dpsC_of s ds b q')
end
end
open Classical in
noncomputable def gRepr : Sto → List D → Option D := fun S ds => match ds with
  | [x] => match toPyC S x with
    | some d => if reprOk d then some (.str d.shown) else none
    | none => none
  | _ => none
section
variable {X : Cx}
theorem cr_repr {k : Nat} (hr : RoomG k X.A) : CallR X (.builtin "repr") (rRepr X.K) := by
  intro pins s σ H xs us Q I r h
  obtain ⟨x, d, rfl, hd, ⟨h1, h2, h3, h4⟩, q⟩ := h
  obtain ⟨u, rfl, rx⟩ := vals1 r
  obtain ⟨as, rd⟩ := Dp.reads I d x u hd rx
  have hu : X.A.units + (d.depth + 1) < cLine := by
    have := hr.toRoom.un
    omega
  have done : ∀ (h' : Heap) (t : Tok) (tk : Nat), (∀ b o, s.heap.get? b = some o → h'.get? b = some o) → EP X pins σ Q (.str d.shown t) { s with heap := h', toks := tk } := fun h' t tk hk => ⟨.str d.shown, H, I.kept hk, ⟨t, rfl⟩, q⟩
  cases rd with
  | none =>
    simp only [PyData.shown] at done
    exact PySem.P.repr_of_none (done s.heap _ _ fun _ _ e => e)
  | bool b =>
    simp only [PyData.shown] at done
    exact PySem.P.repr_of_bool (done s.heap _ _ fun _ _ e => e)
  | int i t =>
    simp only [PyData.shown] at done
    exact PySem.P.repr_of_int (by simpa [PyData.showable] using h1) (done s.heap _ _ fun _ _ e => e)
  | str y t =>
    simp only [PyData.shown] at done h3
    exact PySem.P.repr_of_str (done s.heap _ _ fun _ _ e => e) h3
  | list a1 a2 a3 a4 => exact repr_of_reads' (.list a1 a2 a3 a4) h1 (fun z => by rw [h2] at z; cases z) hr.gd hu (fun _ _ e => e) (fun h' t tk hk => done h' t tk hk) h3
  | tuple a1 a2 a3 a4 => exact repr_of_reads' (.tuple a1 a2 a3 a4) h1 (fun z => by rw [h2] at z; cases z) hr.gd hu (fun _ _ e => e) (fun h' t tk hk => done h' t tk hk) h3
  | dict a1 a2 a3 a4 a5 => simp only [PyData.hasDict] at h2; cases h2
theorem c_repr : CallD X (rRepr X.K) gRepr := by
  intro ξ μ H S ds vs z Q s r e k
  unfold gRepr at e
  cases r with
  | nil => exact nomatch e
  | @cons v vs d ds r rr =>
    cases rr with
    | cons _ _ => exact nomatch e
    | nil =>
      simp only at e
      cases q : toPyC S d with
      | none => simp only [q] at e; exact nomatch e
      | some p =>
        simp only [q] at e
        split at e
        · rename_i hp
          cases e
          exact ⟨v, p, rfl, dpC_of s d r q, hp, k _ μ H .refl s (.str _)⟩
        · exact nomatch e
end
end Dm
-- text DmPar3
namespace Dm
open PySem L2 PySem.Spec PyProof.Rows
open PySem.W (Frag)
/-! ### x, y, z = a, b, c -/
def mPar3 (i j l : Nat) (a : MA) : MS := fun ρ S => ofRes (a ρ S) ρ fun ds S1 => match ds with
  | [d, d', d''] => .nx (((ρ.set i (some d)).set j (some d')).set l (some d'')) S1
  | _ => .bad
section
variable {X : Cx} {W : WX} {a b c : Expr} {mr : MA} {pos : Pos}
theorem ds_par3 (i j l : Nat) {x y z : Str} {px py pz pt pt2 : Pos} {kt k2 : Nat} (hc : X.calm = true) (hN : X.N.Nodup) (ha : DA X W [a, b, c] mr) (hij : i ≠ j := by decide) (hil : i ≠ l := by decide) (hjl : j ≠ l := by decide) (hi : X.N[i]? = some x := by rfl) (hj : X.N[j]? = some y := by rfl) (hl : X.N[l]? = some z := by rfl)
    (hx : X.env.scope.names.lookup x = some .local := by rfl) (hy : X.env.scope.names.lookup y = some .local := by rfl) (hz : X.env.scope.names.lookup z = some .local := by rfl)
    (hw : swappedStores [.Tuple [.Name x px, .Name y py, .Name z pz] kt pt] (.Tuple [a, b, c] k2 pt2) X.env = pure (some [x, y, z]) := by rfl)
    (hs : swapsWithSole [.Tuple [.Name x px, .Name y py, .Name z pz] kt pt] (.Tuple [a, b, c] k2 pt2) pos.line X.env = pure false := by rfl) :
    DS X W (.Assign [.Tuple [.Name x px, .Name y py, .Name z pz] kt pt] (.Tuple [a, b, c] k2 pt2) pos) (mPar3 i j l mr) := by
  obtain ⟨ta, pa, ka⟩ := ha
  refine ⟨_, ps_par3 hc hN hi hj hl hij hil hjl hx hy hz pa hw hs, fun ξ μ σ H ρ S D g s h => ka ξ μ σ H ρ S _ g s (WS'.bind g h fun ds S1 vs μ1 H1 u1 s1 r1 h1 => ?_)⟩
  match ds, r1, h1 with
  | [d, d', d''], .cons r (.cons r2 (.cons r3 .nil)), h1 => exact ⟨_, _, _, rfl, h1 _ μ1 H1 .refl s1 ((((g.up u1).set i r).set j r2).set l r3)⟩
  | [], _, h1 => exact h1.elim
  | [_], _, h1 => exact h1.elim
  | [_, _], _, h1 => exact h1.elim
  | _ :: _ :: _ :: _ :: _, _, h1 => exact h1.elim
end
section
variable {S : Sto} {ρ : Rho} {N B C : Rho → Sto → Prop} {R : D → Sto → Prop} {E : EX} {EO : EXO}
@[simp] theorem does_par3 {i j l : Nat} {a : MA} : (mPar3 i j l a ρ S).DoesE EO N R B C = (a ρ S).DoesE (eAt EO ρ) fun ds S1 => match ds with
    | [d, d', d''] => N (((ρ.set i (some d)).set j (some d')).set l (some d'')) S1
    | _ => False := by
  unfold mPar3
  rw [does_ofRes]; congr 1; funext ds S1
  match ds with
  | [] => rfl
  | [_] => rfl
  | [_, _] => rfl
  | [_, _, _] => rfl
  | _ :: _ :: _ :: _ :: _ => rfl
@[simp] theorem does_tbin {neg : Bool} {kvs : List (Str × D)} {a : ME} {Q : D → Sto → Prop} : (mTbIn neg kvs a ρ S).DoesE E Q = (a ρ S).DoesE E fun x S1 => match x with
    | .str z => Q (.bl (if neg then !(tbLook kvs z).isSome else (tbLook kvs z).isSome)) S1
    | _ => False := by
  unfold mTbIn
  rw [does_bind]; congr 1; funext x S1
  cases x <;> rfl
@[simp] theorem does_tbix {kvs : List (Str × D)} {a : ME} {Q : D → Sto → Prop} : (mTbIx kvs a ρ S).DoesE E Q = (a ρ S).DoesE E fun x S1 => match x with
    | .str z => ∃ d, tbLook kvs z = some d ∧ Q d S1
    | _ => False := by
  unfold mTbIx
  rw [does_bind]; congr 1; funext x S1
  cases x with
  | str z =>
    simp only
    cases e : tbLook kvs z with
    | some d => simp
    | none => exact propext ⟨fun h => h.elim, fun ⟨_, h, _⟩ => nomatch h⟩
  | _ => rfl
end
end Dm
-- text Hw7
namespace Dm
open PySem L2
noncomputable section
def m_is_zones : List D → Sto → Res D := mDef 1 2 (mSeq (mIfS (mOr (mNot (mIsi .tup (mVar 0))) (mNot (mChain gLe gLe (mK (.int 1)) (mCallB gLen (mCons (mVar 0) mNil)) (mK (.int 2))))) (mRet (mK (.bl false))) mNop) (mRet (mCallB gAll (mCons (mFz (mLcA (mVar 0) (tgN 1) mYes (mCall m_is_zone (mCons (mVar 1) mNil)) [1])) mNil))))
def m_need_zones : List D → Sto → Res D := mDef 1 1 (mIfS (mNot (mCall m_is_zones (mCons (mVar 0) mNil))) (mRaise "InvalidZones") mNop)
def m_is_part : List D → Sto → Res D := mDef 4 4 (mSeq (mIfS (mOp gEq (mVar 2) (mK (.str "fold"))) (mRet (mAnd (mIsi .str (mVar 3)) (mOp (gIn false) (mVar 3) (mK (.tup [(.str "early"), (.str "late"), (.str "refuse")]))))) mNop) (mSeq (mIfS (mOp gEq (mVar 2) (mK (.str "gap"))) (mRet (mAnd (mIsi .str (mVar 3)) (mOp (gIn false) (mVar 3) (mK (.tup [(.str "ahead"), (.str "behind"), (.str "refuse")]))))) mNop) (mSeq (mIfS (mNot (mCall m_is_integer (mCons (mVar 3) mNil))) (mRet (mK (.bl false))) mNop) (mSeq (mIfS (mOp gEq (mVar 2) (mK (.str "place"))) (mRet (mChain gLe gLt (mK (.int 0)) (mVar 3) (mCallB gLen (mCons (mVar 0) mNil)))) mNop) (mSeq (mIfS (mOp gEq (mVar 2) (mK (.str "minutes"))) (mRet (mChain gLe gLe (mUn gNeg (mK (.int 100000))) (mVar 3) (mK (.int 100000)))) mNop) (mSeq (mIfS (mNot (mChain gLe gLt (mK (.int 0)) (mVar 3) (mCallB gLen (mCons (mVar 1) mNil)))) (mRet (mK (.bl false))) mNop) (mSeq (mIfS (mOp gEq (mVar 2) (mK (.str "point"))) (mRet (mOp gNe (mOp gIx (mVar 1) (mVar 3)) (mK (.str "span")))) mNop) (mRet (mOp gEq (mOp gIx (mVar 1) (mVar 3)) (mVar 2))))))))))
def m_is_step : List D → Sto → Res D := mDef 3 6 (mSeq (mIfS (mOr (mNot (mIsi .tup (mVar 2))) (mOp gEq (mCallB gLen (mCons (mVar 2) mNil)) (mK (.int 0)))) (mRet (mK (.bl false))) mNop) (mSeq (mIfS (mOr (mNot (mIsi .str (mOp gIx (mVar 2) (mK (.int 0))))) (mTbIn true [("read", (.tup [(.str "moment"), (.str "place")])), ("find", (.tup [(.str "reading"), (.str "place"), (.str "fold"), (.str "gap")])), ("offset", (.tup [(.str "moment"), (.str "place")])), ("edition", (.tup [(.str "moment"), (.str "place")])), ("plus", (.tup [(.str "moment"), (.str "span")])), ("less", (.tup [(.str "reading"), (.str "span")])), ("add", (.tup [(.str "point"), (.str "minutes")]))] (mOp gIx (mVar 2) (mK (.int 0))))) (mRet (mK (.bl false))) mNop) (mSeq (mAsg 3 (mTbIx [("read", (.tup [(.str "moment"), (.str "place")])), ("find", (.tup [(.str "reading"), (.str "place"), (.str "fold"), (.str "gap")])), ("offset", (.tup [(.str "moment"), (.str "place")])), ("edition", (.tup [(.str "moment"), (.str "place")])), ("plus", (.tup [(.str "moment"), (.str "span")])), ("less", (.tup [(.str "reading"), (.str "span")])), ("add", (.tup [(.str "point"), (.str "minutes")]))] (mOp gIx (mVar 2) (mK (.int 0))))) (mSeq (mIfS (mOp gNe (mCallB gLen (mCons (mVar 2) mNil)) (mOp gAdd (mCallB gLen (mCons (mVar 3) mNil)) (mK (.int 1)))) (mRet (mK (.bl false))) mNop) (mRet (mCallB gAll (mCons (mFz (mLc (iEnumS (mVar 3)) (tgU 2 (tgCons (tgN 4) (tgCons (tgN 5) tgNil))) mYes (mCall m_is_part (mCons (mVar 0) (mCons (mVar 1) (mCons (mVar 5) (mCons (mOp gIx (mVar 2) (mOp gAdd (mVar 4) (mK (.int 1)))) mNil))))) [4, 5])) mNil)))))))
def m_kind_made : List D → Sto → Res D := mDef 2 2 (mSeq (mIfS (mOp gEq (mOp gIx (mVar 1) (mK (.int 0))) (mK (.str "add"))) (mRet (mOp gIx (mVar 0) (mOp gIx (mVar 1) (mK (.int 1))))) mNop) (mRet (mTbIx [("read", (.str "reading")), ("find", (.str "moment")), ("offset", (.str "span")), ("edition", (.str "moment")), ("plus", (.str "reading")), ("less", (.str "moment"))] (mOp gIx (mVar 1) (mK (.int 0))))))
def m_is_program : List D → Sto → Res D := mDef 2 4 (mSeq (mDrop (mCall m_need_zones (mCons (mVar 0) mNil))) (mSeq (mIfS (mOr (mNot (mIsi .tup (mVar 1))) (mOp gGt (mCallB gLen (mCons (mVar 1) mNil)) (mK (.int 8)))) (mRet (mK (.bl false))) mNop) (mSeq (mAsg 2 (mNew (mLst (mCons (mK (.str "moment")) mNil)))) (mSeq (mForA (mVar 1) (tgN 3) (mSeq (mIfS (mNot (mCall m_is_step (mCons (mVar 0) (mCons (mVar 2) (mCons (mVar 3) mNil))))) (mRet (mK (.bl false))) mNop) (mApp (mVar 2) (mCall m_kind_made (mCons (mVar 2) (mCons (mVar 3) mNil)))))) (mRet (mOp gLt (mCallB gLen (mCons (mFz (mLcA (mVar 1) (tgN 3) (mOp gEq (mOp gIx (mVar 3) (mK (.int 0))) (mK (.str "edition"))) (mVar 3) [3])) mNil)) (mK (.int 2))))))))
def m_need_program : List D → Sto → Res D := mDef 2 2 (mIfS (mNot (mCall m_is_program (mCons (mVar 0) (mCons (mVar 1) mNil)))) (mRaise "InvalidProgram") mNop)
def m_law_bag_of : List D → Sto → Res D := mDef 1 1 (mRet (mNew (mLst (mCons (mCallB gMax2 (mCons (mK (.int 0)) (mCons (mOp gSub (mVar 0) (mK (.int 1000000000000000000))) mNil))) (mCons (mOp gMod (mCallB gInt1 (mCons (mVar 0) mNil)) (mK (.int 2305843009213693951))) (mCons (mK (.int 0)) mNil))))))
def m_law_pick : List D → Sto → Res D := mDef 2 3 (mSeq (mIfS (mOp gGt (mOp gIx (mVar 0) (mK (.int 0))) (mK (.int 0))) (mSeq (mAsg 2 (mOp gMod (mCallB gInt1 (mCons (mOp gIx (mVar 0) (mK (.int 0))) mNil)) (mVar 1))) (mSeq (mSetIx (mOp gFdiv (mOp gIx (mVar 0) (mK (.int 0))) (mVar 1)) (mVar 0) (mK (.int 0))) (mRet (mVar 2)))) mNop) (mSeq (mSetIx (mOp gAdd (mOp gIx (mVar 0) (mK (.int 2))) (mK (.int 1))) (mVar 0) (mK (.int 2))) (mSeq (mAsg 2 (mOp gMul (mOp gAdd (mOp gIx (mVar 0) (mK (.int 1))) (mOp gMul (mK (.int 104729)) (mOp gIx (mVar 0) (mK (.int 2))))) (mOp gAdd (mOp gAdd (mOp gIx (mVar 0) (mK (.int 1))) (mOp gMul (mK (.int 15485863)) (mOp gIx (mVar 0) (mK (.int 2))))) (mK (.int 11))))) (mSeq (mAsg 2 (mOp gMod (mCallB gInt1 (mCons (mVar 2) mNil)) (mK (.int 2305843009213693951)))) (mSeq (mAsg 2 (mOp gAdd (mOp gMul (mVar 2) (mVar 2)) (mOp gMul (mK (.int 7)) (mOp gIx (mVar 0) (mK (.int 2)))))) (mRet (mOp gMod (mCallB gInt1 (mCons (mOp gFdiv (mOp gMod (mCallB gInt1 (mCons (mVar 2) mNil)) (mK (.int 2305843009213693951))) (mK (.int 4099))) mNil)) (mVar 1))))))))
def m_law_any_belt : List D → Sto → Res D := mDef 2 10 (mSeq (mAsg 2 (mCallB gMin2 (mCons (mVar 1) (mCons (mOp gIx (mFz (mLst (mCons (mK (.int 2)) (mCons (mK (.int 3)) (mCons (mK (.int 2)) (mCons (mK (.int 1)) (mCons (mK (.int 3)) (mCons (mK (.int 2)) mNil)))))))) (mCall m_law_pick (mCons (mVar 0) (mCons (mK (.int 6)) mNil)))) mNil)))) (mSeq (mAsg 3 (mOp gIx (mFz (mLst (mCons (mK (.int 1)) (mCons (mK (.int 60)) (mCons (mK (.int 3)) (mCons (mK (.int 600)) (mCons (mK (.int 20)) (mCons (mK (.int 1800)) mNil)))))))) (mCall m_law_pick (mCons (mVar 0) (mCons (mK (.int 6)) mNil))))) (mSeq (mAsg 3 (mCallB gMax2 (mCons (mK (.int 1)) (mCons (mOp gFdiv (mVar 3) (mCallB gMax2 (mCons (mK (.int 1)) (mCons (mOp gSub (mVar 2) (mK (.int 1))) mNil)))) mNil)))) (mSeq (mAsg 4 (mFz (mLc (iRange1 (mCons (mOp gSub (mVar 2) (mK (.int 1))) mNil)) (tgN 9) mYes (mOp gSub (mVar 3) (mOp gMul (mCall m_law_pick (mCons (mVar 0) (mCons (mVar 3) mNil))) (mCall m_law_pick (mCons (mVar 0) (mCons (mK (.int 2)) mNil))))) [9]))) (mSeq (mAsg 5 (mNew (mLst (mCons (mOp gSub (mCall m_law_pick (mCons (mVar 0) (mCons (mOp gSub (mK (.int 1801)) (mCallB gSum (mCons (mVar 4) mNil))) mNil))) (mK (.int 900))) mNil)))) (mSeq (mForA (mVar 4) (tgN 6) (mApp (mVar 5) (mOp gAdd (mOp gIx (mVar 5) (mK (.int (-1)))) (mVar 6)))) (mSeq (mAsg 7 (mOp gAdd (mCallB gSum (mCons (mVar 4) mNil)) (mK (.int 1)))) (mSeq (mAsg 8 (mFz (mLst (mCons (mK (.int 0)) (mCons (mK (.int 1)) (mCons (mK (.int 40)) (mCons (mOp gSub (mK (.int 1000000)) (mVar 7)) (mCons (mCall m_law_pick (mCons (mVar 0) (mCons (mK (.int 2000)) mNil))) (mCons (mK (.int 100)) (mCons (mCall m_law_pick (mCons (mVar 0) (mCons (mOp gSub (mK (.int 1000001)) (mVar 7)) mNil))) mNil)))))))))) (mRet (mTup (mCons (mCallB gTuple (mCons (mVar 5) mNil)) (mCons (mOp gAdd (mVar 7) (mOp gIx (mVar 8) (mCall m_law_pick (mCons (mVar 0) (mCons (mK (.int 7)) mNil))))) mNil))))))))))))
def m_law_same_v2 : List D → Sto → Res D := mDef 2 2 (mRet (mOp gEq (mCallB gRepr (mCons (mVar 0) mNil)) (mCallB gRepr (mCons (mVar 1) mNil))))
def m_law_minutes : List D → Sto → Res D := mDef 3 8 (mSeq (mIfS (mOp gEq (mVar 2) (mK (.int 1))) (mRet (mOp gSub (mCall m_law_pick (mCons (mVar 0) (mCons (mK (.int 5)) mNil))) (mK (.int 2)))) mNop) (mSeq (mAsgG (tgU 2 (tgCons (tgN 3) (tgCons (tgN 4) tgNil))) (mOp gIx (mVar 1) (mCall m_law_pick (mCons (mVar 0) (mCons (mCallB gLen (mCons (mVar 1) mNil)) mNil))))) (mSeq (mAsg 5 (mOp gSub (mOp gIx (mVar 3) (mK (.int (-1)))) (mOp gIx (mVar 3) (mK (.int 0))))) (mSeq (mAsg 6 (mFz (mLst (mCons (mK (.int 1)) (mCons (mVar 4) (mCons (mVar 5) (mCons (mK (.int 60)) (mCons (mK (.int 100000)) (mCons (mCall m_law_pick (mCons (mVar 0) (mCons (mK (.int 100000)) mNil))) (mCons (mK (.int 300)) (mCons (mOp gSub (mVar 4) (mVar 5)) (mCons (mOp gAdd (mVar 4) (mVar 5)) mNil)))))))))))) (mSeq (mAsg 7 (mCallB gMin2 (mCons (mK (.int 100000)) (mCons (mOp gSub (mOp gAdd (mOp gIx (mVar 6) (mCall m_law_pick (mCons (mVar 0) (mCons (mK (.int 9)) mNil)))) (mCall m_law_pick (mCons (mVar 0) (mCons (mK (.int 3)) mNil)))) (mK (.int 1))) mNil)))) (mRet (mOp gMul (mVar 7) (mOp gSub (mK (.int 1)) (mOp gMul (mK (.int 2)) (mCall m_law_pick (mCons (mVar 0) (mCons (mK (.int 2)) mNil))))))))))))
def m_law_any_rules : List D → Sto → Res D := mDef 1 1 (mRet (mTup (mCons (mOp gIx (mFz (mLst (mCons (mK (.str "early")) (mCons (mK (.str "late")) (mCons (mK (.str "refuse")) mNil))))) (mCall m_law_pick (mCons (mVar 0) (mCons (mK (.int 3)) mNil)))) (mCons (mOp gIx (mFz (mLst (mCons (mK (.str "ahead")) (mCons (mK (.str "behind")) (mCons (mK (.str "refuse")) mNil))))) (mCall m_law_pick (mCons (mVar 0) (mCons (mK (.int 3)) mNil)))) mNil))))
end
end Dm
-- text DmMin
namespace Dm
open PySem L2 PySem.Spec PyProof.Rows
open PySem.W (Frag)
/-! ### min of a list of ints -/
section
variable {X : Cx} {W : WX}
/-! ### key in a dict -/
/-! ### xs.clear() -/
def mClear (o : ME) : MS := fun ρ S => ofRes (o ρ S) ρ fun x S1 => match x with
  | .cell n => match S1[n]? with
    | some (.lst _) => .nx ρ (S1.set n (.lst []))
    | _ => .bad
  | _ => .bad
end
section
variable {S : Sto} {ρ : Rho} {N B C : Rho → Sto → Prop} {R : D → Sto → Prop} {E : EX} {EO : EXO}
@[simp] theorem does_clear {o : ME} : (mClear o ρ S).DoesE EO N R B C = (o ρ S).DoesE (eAt EO ρ) fun x S1 => match x with
    | .cell n => (∃ xs, S1[n]? = some (.lst xs)) ∧ N ρ (S1.set n (.lst []))
    | _ => False := by
  unfold mClear
  rw [does_ofRes]; congr 1; funext x S1
  cases x with
  | cell n =>
    simp only
    cases q : S1[n]? with
    | none => exact propext ⟨fun h => h.elim, fun ⟨⟨_, h⟩, _⟩ => nomatch h⟩
    | some c =>
      cases c with
      | lst ds => exact propext ⟨fun h => ⟨⟨_, rfl⟩, h⟩, fun h => h.2⟩
      | _ => exact propext ⟨fun h => h.elim, fun ⟨⟨_, h⟩, _⟩ => nomatch h⟩
  | _ => rfl
end
end Dm
-- text DmTry
/-! try .. except X (as n): the caught exception stands in the heap as a value -/
namespace Dm
open PySem L2 PySem.Spec PyProof.Rows
open PySem.W (Frag)
/-! ### the words -/
/-- of the program's error classes all stand directly under HourError -/
def xSub (c h : Str) : Bool := c == h || h == "HourError" || h == "ValueError" || h == "Exception"
def intFsOf : List (Str × D) → Option (List (Str × Int))
  | [] => some []
  | (f, .int i) :: r => (intFsOf r).map fun l => (f, i) :: l
  | _ :: _ => none
def setI (oi : Option Nat) (ρ : Rho) (d : D) : Rho := match oi with
  | none => ρ
  | some i => ρ.set i (some d)
def clearI (oi : Option Nat) (ρ : Rho) : Rho := match oi with
  | none => ρ
  | some i => ρ.set i none
def dropI (oi : Option Nat) : Out → Out
  | .nx ρ S => .nx (clearI oi ρ) S
  | .rt d S => .rt d S
  | .bk ρ S => .bk (clearI oi ρ) S
  | .ct ρ S => .ct (clearI oi ρ) S
  | .exc _ _ _ _ => .bad
  | .bad => .bad
def catchD (c : Str) (fs : List (Str × D)) (ns : List (Str × Int)) : List (Str × Option Nat × MS) → Rho → Sto → Out
  | [], ρ, S => .exc c fs ρ S
  | (h, oi, ms) :: r, ρ, S => if xSub c h = true then dropI oi (ms (setI oi ρ (.exn c ns)) S) else catchD c fs ns r ρ S
def mTry (cs : List Str) (hs : List (Str × Option Nat × MS)) (mb : MS) : MS := fun ρ S => match mb ρ S with
  | .exc c fs ρ1 S1 => match intFsOf fs with
    | some ns => if c ∈ cs then catchD c fs ns hs ρ1 S1 else .bad
    | none => .bad
  | o => o
end Dm
-- text DmRaise
/-! raise X(e, ..) of a class with its own __init__; e.f; isinstance(e, X) -/
namespace Dm
open PySem L2 PySem.Spec PyProof.Rows
open PySem.W (Frag)
theorem _root_.L2.Room.u66 {k : Nat} {A : Around} (r : L2.Room k A) : A.units + 66 < cLine := by
  have := r.un
  omega
/-! ### H.__init__(self, ..), H a class of the program over ValueError -/
/-! ### the class's own __init__ -/
def mRaiseX (c : Str) (ns : List Str) (ma : MA) : MS := fun ρ S => ofRes (ma ρ S) ρ fun ds S1 => if ds.length = ns.length then .exc c (ns.zip ds).reverse ρ S1 else .bad
section
variable {X : Cx} {W : WX} {e : Expr} {es : List Expr} {mr : MA} {m : ME} {p p1 p2 pos pos2 : Pos}
/-! ### e.f -/
def gXf (c f : Str) (_ : Sto) : D → Option D
  | .exn c' fs => if c' = c then (fs.lookup f).map D.int else none
  | _ => none
end
/-! ### isinstance(e, X) -/
/-! ### X(e, ..) as a value -/
def newFs (ns : List Str) (ds : List D) : List (Str × Int) := (intFsOf (ns.zip ds).reverse).getD []
def mNewX (c : Str) (ns : List Str) (ma : MA) : ME := fun ρ S => (ma ρ S).bind fun ds S1 => if ds.length = ns.length then .ok (.exn c (newFs ns ds)) S1 else .bad
def mNew0 (c : Str) : ME := fun _ S => .ok (.exn c []) S
section
variable {S : Sto} {ρ : Rho} {E : EX} {Q : D → Sto → Prop}
@[simp] theorem does_new0 {c : Str} : (mNew0 c ρ S).DoesE E Q = Q (.exn c []) S := rfl
@[simp] theorem does_newX {c : Str} {ns : List Str} {ma : MA} : (mNewX c ns ma ρ S).DoesE E Q = (ma ρ S).DoesE E fun ds S1 => ds.length = ns.length ∧ Q (.exn c (newFs ns ds)) S1 := by
  unfold mNewX
  rw [does_bind]; congr 1; funext ds S1
  by_cases h : ds.length = ns.length
  · rw [if_pos h]; simp [h]
  · rw [if_neg h]; simp [h, Res.DoesE]
end
end Dm
-- text Hw8
namespace Dm
open PySem L2
noncomputable section
def m_asked_moments : List D → Sto → Res D := mDef 3 5 (mSeq (mAsg 3 (mOp gIx (mVar 2) (mOp gIx (mVar 1) (mK (.int 1))))) (mSeq (mIfS (mOr (mOp gEq (mOp gIx (mVar 1) (mK (.int 0))) (mK (.str "read"))) (mOp gEq (mOp gIx (mVar 1) (mK (.int 0))) (mK (.str "offset")))) (mRet (mFz (mLst (mCons (mVar 3) mNil)))) mNop) (mSeq (mIfS (mOp gEq (mOp gIx (mVar 1) (mK (.int 0))) (mK (.str "find"))) (mRet (mFz (mLcA (mBackA (mOp gIx (mOp gIx (mVar 0) (mOp gIx (mVar 1) (mK (.int 2)))) (mK (.int 0)))) (tgN 4) mYes (mOp gSub (mVar 3) (mVar 4)) [4]))) mNop) (mSeq (mIfS (mOp gEq (mOp gIx (mVar 1) (mK (.int 0))) (mK (.str "edition"))) (mRet (mFz (mLst (mCons (mOp gSub (mVar 3) (mK (.int 1))) mNil)))) mNop) (mRet (mFz (mLst mNil)))))))
def m_value_made : List D → Sto → Res D := mDef 4 5 (mSeq (mAsg 4 (mOp gIx (mVar 2) (mOp gIx (mVar 1) (mK (.int 1))))) (mSeq (mIfS (mOp gEq (mOp gIx (mVar 1) (mK (.int 0))) (mK (.str "read"))) (mRet (mOp gAdd (mVar 4) (mOp gDIx (mVar 3) (mVar 4)))) mNop) (mSeq (mIfS (mOp gEq (mOp gIx (mVar 1) (mK (.int 0))) (mK (.str "offset"))) (mRet (mOp gDIx (mVar 3) (mVar 4))) mNop) (mSeq (mIfS (mOp gEq (mOp gIx (mVar 1) (mK (.int 0))) (mK (.str "find"))) (mRet (mCall m_found_by (mCons (mOp gIx (mOp gIx (mVar 0) (mOp gIx (mVar 1) (mK (.int 2)))) (mK (.int 0))) (mCons (mVar 3) (mCons (mVar 4) (mCons (mOp gIx (mVar 1) (mK (.int 3))) (mCons (mOp gIx (mVar 1) (mK (.int 4))) mNil))))))) mNop) (mSeq (mIfS (mOp gEq (mOp gIx (mVar 1) (mK (.int 0))) (mK (.str "edition"))) (mRet (mVar 4)) mNop) (mSeq (mIfS (mOp gEq (mOp gIx (mVar 1) (mK (.int 0))) (mK (.str "plus"))) (mRet (mOp gAdd (mVar 4) (mOp gIx (mVar 2) (mOp gIx (mVar 1) (mK (.int 2)))))) mNop) (mSeq (mIfS (mOp gEq (mOp gIx (mVar 1) (mK (.int 0))) (mK (.str "less"))) (mRet (mOp gSub (mVar 4) (mOp gIx (mVar 2) (mOp gIx (mVar 1) (mK (.int 2)))))) mNop) (mRet (mOp gAdd (mVar 4) (mOp gIx (mVar 1) (mK (.int 2))))))))))))
end
end Dm
-- text Hw9
namespace Dm
open PySem L2
end Dm
-- text DmLc2
namespace Dm
open PySem L2
open PySem.W (Frag)
/-! ### comprehensions of two generators -/
def lcL2 (f : D → Rho → Option Rho) (mt : ME) (mi1 : ME) (f1 : D → Rho → Option Rho) (mt1 me : ME) (vs1 : List Nat) (ρ : Rho) : List D → Sto → Option (List D × Sto)
  | [], S => some ([], S)
  | d :: r, S => match f d ρ with
    | none => none
    | some ρ1 => match mt ρ1 S with
      | .ok (.bl true) S1 => match iAny mi1 ρ1 S1 with
        | .ok p1 S2 => match lcA p1.1 f1 mt1 me (wipeD ρ1 vs1) (p1.2 + 1) 0 S2 with
          | some (ys, S3) => match lcL2 f mt mi1 f1 mt1 me vs1 ρ r S3 with
            | some (zs, S4) => some (ys ++ zs, S4)
            | none => none
          | none => none
        | _ => none
      | .ok (.bl false) S1 => lcL2 f mt mi1 f1 mt1 me vs1 ρ r S1
      | _ => none
def mLc2 (mi : MA) (f : D → Rho → Option Rho) (mt : ME) (mi1 : ME) (f1 : D → Rho → Option Rho) (mt1 me : ME) (vs vs1 : List Nat) : MA := fun ρ S => (mi ρ S).bind fun ds S1 => match lcL2 f mt mi1 f1 mt1 me vs1 (wipeD ρ vs) ds S1 with
  | some (ys, S2) => if ys.length ≤ 16777216 then .ok ys S2 else .bad
  | none => .bad
def lcA2 (d : D) (f : D → Rho → Option Rho) (mt : ME) (mi1 : ME) (f1 : D → Rho → Option Rho) (mt1 me : ME) (vs1 : List Nat) (ρ : Rho) : Nat → Nat → Sto → Option (List D × Sto)
  | 0, _, _ => none
  | k + 1, i, S => match seqOf S d with
    | none => none
    | some ds => match ds[i]? with
      | none => if i = ds.length then some ([], S) else none
      | some x => match f x ρ with
        | none => none
        | some ρ1 => match mt ρ1 S with
          | .ok (.bl true) S1 => match iAny mi1 ρ1 S1 with
            | .ok p1 S2 => match lcA p1.1 f1 mt1 me (wipeD ρ1 vs1) (p1.2 + 1) 0 S2 with
              | some (ys, S3) => match lcA2 d f mt mi1 f1 mt1 me vs1 ρ k (i + 1) S3 with
                | some (zs, S4) => some (ys ++ zs, S4)
                | none => none
              | none => none
            | _ => none
          | .ok (.bl false) S1 => lcA2 d f mt mi1 f1 mt1 me vs1 ρ k (i + 1) S1
          | _ => none
def mLcA2 (m : ME) (f : D → Rho → Option Rho) (mt : ME) (mi1 : ME) (f1 : D → Rho → Option Rho) (mt1 me : ME) (vs vs1 : List Nat) : MA := fun ρ S => (iAny m ρ S).bind fun p S1 => match lcA2 p.1 f mt mi1 f1 mt1 me vs1 (wipeD ρ vs) (p.2 + 1) 0 S1 with
  | some (ys, S2) => if ys.length ≤ 16777216 then .ok ys S2 else .bad
  | none => .bad
/-- an iterator that changes nothing: its items are there as its source stands at each turn -/
def ItA2 (F : Fx) (μ : List Addr) (H : Hp) (J : It) (p : D × Nat) : Prop := p.2 ≤ 16777216 ∧
  ∀ (μ' : List Addr) (H' : Hp) (S' : Sto) (i : Nat), Mv F μ H F μ' H' → RS F μ' H' S' → ∀ ds, seqOf S' p.1 = some ds →
    (∀ x, ds[i]? = some x → J.go i H' ∧ ∀ v H'', J.yld i H' v H'' → H'' = H' ∧ RD F μ' H' v x) ∧ (i = ds.length → J.stop i H')
structure DIA2 (X : Cx) (W : WX) (tg iter : Expr) (m : MP) : Prop where
  ex : ∃ wi, PI X tg iter wi ∧ ∀ ξ μ σ H ρ S R, RG (fx X ξ) μ H σ ρ → RS (fx X ξ) μ H S → WR (fx X ξ) (fun μ H (J : It) (p : D × Nat) => ItA2 (fx X ξ) μ H J p) (m ρ S) R (fun cls dd H' => W cls dd σ H') μ H → wi σ H R
theorem itA2_tup {F : Fx} {μ : List Addr} {H : Hp} {a : Addr} {xs : List V} {ds : List D} (f : FzT F μ H a xs) (r : RDs F μ H xs ds) (z : Sized F.K H) : ItA2 F μ H (Itt F.K a) (.tup ds, ds.length) := by
  refine ⟨by rw [← r.length]; exact z a xs (.inr f.sq), fun μ' H' S' i m s es h => ?_⟩
  cases h
  refine ⟨fun d hd => ?_, fun hi => ⟨xs, (m.t f).sq, by rw [r.length, hi]; exact Nat.le_refl _⟩⟩
  obtain ⟨v, h1, h2⟩ := r.get hd
  refine ⟨⟨xs, v, (m.t f).sq, h1⟩, fun x H'' y => ?_⟩
  obtain ⟨e1, y⟩ := y
  subst e1
  have q := y xs (m.t f).sq
  rw [h1] at q; cases q
  exact ⟨rfl, h2.mv m⟩
theorem itA2_lst {F : Fx} {μ : List Addr} {H : Hp} {v : V} {d : D} {ds : List D} {S : Sto} {a : Addr} (ev : v = .ref a) (s : RS F μ H S) (r : RD F μ H v d) (e : lstOf S d = some ds) (z : Sized F.K H) : ItA2 F μ H (Itl F.K a) (d, ds.length) := by
  obtain ⟨a', xs, e1, h1, h2⟩ := RD.lstS s r e
  rw [ev] at e1; cases e1
  refine ⟨by rw [← h2.length]; exact z _ _ (.inl h1), fun μ' H' S' i m s' es h => ?_⟩
  have r' : RD F μ' H' v d := r.mv m
  have eL : lstOf S' d = some es := by
    cases d with
    | tup _ => exact nomatch e
    | lst _ => exact h
    | cell n => exact h
    | _ => exact nomatch e
  obtain ⟨a2, ys, e2, h3, h4⟩ := RD.lstS s' r' eL
  rw [ev] at e2; cases e2
  refine ⟨fun x hx => ?_, fun hi => ⟨ys, h3, by rw [h4.length, hi]; exact Nat.le_refl _⟩⟩
  obtain ⟨w, h5, h6⟩ := h4.get hx
  refine ⟨⟨ys, w, h3, h5⟩, fun v' H'' y => ?_⟩
  obtain ⟨e3, y⟩ := y
  have q := y ys h3
  rw [h5] at q; cases q
  exact ⟨e3, h6⟩
theorem dia2_any {X : Cx} {W : WX} {tg e : Expr} {m : ME} (h : DE X W e m) : DIA2 X W tg e (iAny m) := by
  obtain ⟨te, pe, k⟩ := h
  refine ⟨_, piOr (piSized (pi_tup pe)) (piSized (pi_list pe)), fun ξ μ σ H ρ S R g s h => ?_⟩
  cases e1 : m ρ S with
  | bad => unfold iAny at h; rw [e1] at h; exact h.elim
  | exc c fs S1 =>
    unfold iAny at h; rw [e1] at h
    refine .inl (k ξ μ σ H ρ S _ g s ?_)
    rw [e1]; exact h
  | ok d S1 =>
    unfold iAny at h
    rw [e1] at h
    have h : WR (fx X ξ) (fun μ H (J : It) (p : D × Nat) => ItA2 (fx X ξ) μ H J p) (match seqOf S1 d with | some ds => .ok (d, ds.length) S1 | none => .bad) R (fun cls dd H' => W cls dd σ H') μ H := h
    by_cases c : ∃ ds, d = .tup ds
    · obtain ⟨ds, rfl⟩ := c
      refine .inl (k ξ μ σ H ρ S _ g s ?_)
      rw [e1]
      intro v μ1 H1 u1 s1 r1
      cases r1 with
      | @tup a xs _ f r => exact ⟨a, rfl, ⟨xs, f.sq⟩, fun z => h _ μ1 H1 u1 s1 (itA2_tup f r z)⟩
    · cases q : seqOf S1 d with
      | none => rw [q] at h; exact h.elim
      | some ds =>
        rw [q] at h
        refine .inr (k ξ μ σ H ρ S _ g s ?_)
        rw [e1]
        have eL : lstOf S1 d = some ds := by
          cases d with
          | tup es => exact absurd ⟨es, rfl⟩ c
          | lst _ => exact q
          | cell n => exact q
          | _ => exact nomatch q
        intro v μ1 H1 u1 s1 r1
        obtain ⟨a, xs, rfl, h3, h4⟩ := RD.lstS s1 r1 eL
        exact ⟨a, rfl, ⟨xs, h3⟩, fun z => h _ μ1 H1 u1 s1 (itA2_lst rfl s1 r1 eL z)⟩
theorem Mv.comp {F : Fx} {μ μ1 μ2 : List Addr} {H H1 H2 : Hp} (a : Mv F μ H F μ1 H1) (b : Mv F μ1 H1 F μ2 H2) : Mv F μ H F μ2 H2 := ⟨fun h => b.t (a.t h), fun h => b.l (a.l h), fun h => b.c (a.c h), rfl, fun h => b.x (a.x h)⟩
theorem Up.mv2 {F : Fx} {μ μ1 : List Addr} {H H1 : Hp} (u : Up μ H μ1 H1) : Mv F μ H F μ1 H1 := Mv.ext .refl u
theorem di2_all {ι : Type} {Xf : ι → Cx} {tg e : Expr} {W : WX} {m : MP} {K : Frag} {mg : Str → Option Value} {w : World} (hK : ∀ i, (Xf i).K = K) (hg : ∀ i, ((Xf i).mg, (Xf i).w) = (mg, w)) (h : ∀ i, DIA2 (Xf i) W tg e m) :
    ∃ wi, (∀ i, PI (Xf i) tg e wi) ∧ ∀ ξ μ σ H ρ S R, RG ⟨K, mg, ξ, w⟩ μ H σ ρ → RS ⟨K, mg, ξ, w⟩ μ H S → WR ⟨K, mg, ξ, w⟩ (fun μ H (J : It) (p : D × Nat) => ItA2 ⟨K, mg, ξ, w⟩ μ H J p) (m ρ S) R (fun cls dd H' => W cls dd σ H') μ H → wi σ H R := by
  refine ⟨fun σ H R => ∀ i, ∃ wi, PI (Xf i) tg e wi ∧ wi σ H R, fun i => ⟨fun pins s σ H R I hw => ?_⟩, fun ξ μ σ H ρ S R g s hw i => ?_⟩
  · obtain ⟨wi, p, q⟩ := hw i
    exact p.run pins s σ H R I q
  · obtain ⟨wi, p, k⟩ := h i
    refine ⟨wi, p, k ξ μ σ H ρ S R ?_ ?_ ?_⟩
    all_goals (rw [fx_fam hK hg]; assumption)
theorem wipe_twice {σ : L2.St} {vs : List Nat} : wipe (wipe σ vs) vs = wipe σ vs := by
  refine List.ext_getElem? fun k => ?_
  rw [wipe_get, wipe_get, wipe_length]
  by_cases q : k ∈ vs ∧ k < σ.length
  · rw [if_pos q, if_pos q]
  · rw [if_neg q, if_neg q]
theorem rds_len {F : Fx} {μ : List Addr} {H : Hp} {xs : List V} : ∀ {ds : List D}, RDs F μ H xs ds → xs.length = ds.length := by
  intro ds r
  induction xs generalizing ds with
  | nil => cases r; rfl
  | cons x xs ih =>
    cases r with
    | cons a b => rw [List.length_cons, List.length_cons, ih b]
section
variable {X : Cx} {W : WX} {tg e tg1 e1 : Expr} {mi : MA} {mi1 : ME} {pos : Pos}
theorem lcA2_read {wi wi1 : TI} {tg' tg1' : TG} {tt tt1 : TT} {te : TE} {f f1 : D → Rho → Option Rho} {is is1 vs vs1 : List Nat} {ξ μ : List Addr} {σ : L2.St} {H : Hp} {ρ : Rho} {S : Sto} {Q : VK} {Wx : Value → Option Addr → Hp → Prop} {m mt mt1 me : ME}
    (ki : ∀ R, WR (fx X ξ) (fun μ H (J : It) (p : D × Nat) => ItA (fx X ξ) μ H J p) (iAny m ρ S) R Wx μ H → wi σ H R)
    (kg : ∀ ξ μ σ H ρ v d ρ' (Q : L2.St → Hp → Prop), RG (fx X ξ) μ H σ ρ → RD (fx X ξ) μ H v d → f d ρ = some ρ' → (∀ σ', RG (fx X ξ) μ H σ' ρ' → (∀ js : List Nat, (∀ i ∈ is, i ∈ js) → wipe σ' js = wipe σ js) → Q σ' H) → tg' v σ H Q)
    (kt : ∀ ξ μ σ H ρ S Q, RG (fx X ξ) μ H σ ρ → RS (fx X ξ) μ H S → WT' (fx X ξ) (mt ρ S) Q (fun cls dd H' => W0 cls dd σ H') μ H → tt σ H Q)
    (ki1 : ∀ ξ μ σ H ρ S R, RG (fx X ξ) μ H σ ρ → RS (fx X ξ) μ H S → WR (fx X ξ) (fun μ H (J : It) (p : D × Nat) => ItA2 (fx X ξ) μ H J p) (iAny mi1 ρ S) R (fun cls dd H' => W0 cls dd σ H') μ H → wi1 σ H R)
    (kg1 : ∀ ξ μ σ H ρ v d ρ' (Q : L2.St → Hp → Prop), RG (fx X ξ) μ H σ ρ → RD (fx X ξ) μ H v d → f1 d ρ = some ρ' → (∀ σ', RG (fx X ξ) μ H σ' ρ' → (∀ js : List Nat, (∀ i ∈ is1, i ∈ js) → wipe σ' js = wipe σ js) → Q σ' H) → tg1' v σ H Q)
    (kt1 : ∀ ξ μ σ H ρ S Q, RG (fx X ξ) μ H σ ρ → RS (fx X ξ) μ H S → WT' (fx X ξ) (mt1 ρ S) Q (fun cls dd H' => W0 cls dd σ H') μ H → tt1 σ H Q)
    (ke : ∀ ξ μ σ H ρ S Q, RG (fx X ξ) μ H σ ρ → RS (fx X ξ) μ H S → WE' (fx X ξ) (me ρ S) Q (fun cls dd H' => W0 cls dd σ H') μ H → te σ H Q)
    (hv : ∀ i ∈ is, i ∈ vs) (hv1 : ∀ i ∈ is1, i ∈ vs1) (g : RG (fx X ξ) μ H σ ρ) (s : RS (fx X ξ) μ H S) (h : WL' (fx X ξ) (mLcA2 m f mt mi1 f1 mt1 me vs vs1 ρ S) Q Wx μ H) : tLc2 wi tg' tt wi1 tg1' tt1 te vs vs1 σ H Q := by
  refine ki _ (WL'.bind h fun p S1 J μ1 H1 u1 s1 r1 h1 => ?_)
  obtain ⟨d, n0⟩ := p
  intro L0 hD
  obtain ⟨hz, r1⟩ := r1
  have n1 : L0 ∉ μ1 := s1.out hD
  have x1 : L0 ∉ ξ := s1.outX hD
  have ext : Ext (fx X ξ) ((fx X ξ).hold L0) H1 := ⟨rfl, rfl, fun a ha => (List.mem_cons.mp ha).elim (fun z => .inr (by rw [z]; exact hD)) .inl⟩
  have main : WL' (fx X ξ) (match lcA2 d f mt mi1 f1 mt1 me vs1 (wipeD ρ vs) (n0 + 1) 0 S1 with
    | some (ys, S2) => if ys.length ≤ 16777216 then Res.ok ys S2 else .bad
    | none => .bad) Q Wx μ1 H1 := h1
  let Fin : List D → List D → Sto → Prop := fun dacc ys S2 => ∀ μ2 H2 xs, Up μ1 H1 μ2 H2 → RS ((fx X ξ).hold L0) μ2 H2 S2 → RDs ((fx X ξ).hold L0) μ2 H2 xs (dacc ++ ys) → H2 L0 = some (.lst xs) → Q (.ref L0) H2
  let St0 : Nat → Nat → Hp → Prop := fun k i H' => ∃ μ' S' acc dacc, Up μ1 H1 μ' H' ∧ RS ((fx X ξ).hold L0) μ' H' S' ∧ H' L0 = some (.lst acc) ∧ RDs ((fx X ξ).hold L0) μ' H' acc dacc ∧
      ∃ ys S2, lcA2 d f mt mi1 f1 mt1 me vs1 (wipeD ρ vs) k i S' = some (ys, S2) ∧ dacc.length + ys.length ≤ 16777216 ∧ Fin dacc ys S2
  refine ⟨fun i k H' => St0 k i H', ⟨n0 + 1, μ1, S1, [], [], .fresh hD, s1.holds hD, upd_same, .nil, ?_⟩, ?_⟩
  · cases q : lcA2 d f mt mi1 f1 mt1 me vs1 (wipeD ρ vs) (n0 + 1) 0 S1 with
    | none => rw [q] at main; exact main.elim
    | some r =>
      obtain ⟨ys, S2⟩ := r
      rw [q] at main
      simp only at main
      by_cases c : ys.length ≤ 16777216
      · rw [if_pos c] at main
        exact ⟨ys, S2, rfl, by simpa using c, fun μ2 H2 xs u2 s2 r2 e2 => main L0 xs μ2 H2 u2 hD s2 r2 e2⟩
      · rw [if_neg c] at main; exact main.elim
  rintro i k H' ⟨μ', S', acc, dacc, u', s', hacc, racc, ys, S2, eL, hlim, fin⟩
  cases k with
  | zero => exact nomatch eL
  | succ k =>
  unfold lcA2 at eL
  cases q' : seqOf S' d with
  | none => rw [q'] at eL; exact nomatch eL
  | some es =>
  rw [q'] at eL
  simp only at eL
  obtain ⟨t1, t2⟩ := r1 ((fx X ξ).hold L0) μ' H' S' i ext u' s' es q'
  cases q2 : es[i]? with
  | none =>
    rw [q2] at eL
    simp only at eL
    by_cases e : i = es.length
    · rw [if_pos e] at eL
      cases eL
      exact .inl ⟨t2 e, fin μ' H' acc u' s' (by rw [List.append_nil]; exact racc) hacc⟩
    · rw [if_neg e] at eL; exact nomatch eL
  | some x0 =>
    rw [q2] at eL
    simp only at eL
    obtain ⟨go, yl⟩ := t1 x0 q2
    cases ef : f x0 (wipeD ρ vs) with
    | none => rw [ef] at eL; exact nomatch eL
    | some ρ1 =>
      rw [ef] at eL
      simp only at eL
      refine .inr ⟨go, fun H2 => St0 k (i + 1) H2, fun H2 a => ⟨k, Nat.lt_succ_self k, a⟩, fun x H2 y => ?_⟩
      obtain ⟨eH, r2⟩ := yl x H2 y
      subst eH
      have s2 := s'
      have g2 : RG (fx X (L0 :: ξ)) μ' H2 (wipe σ vs) (wipeD ρ vs) := (((g.up u1).mv (.ext ext u'))).wipe vs
      refine kg (L0 :: ξ) μ' (wipe σ vs) H2 (wipeD ρ vs) x _ ρ1 _ g2 r2 ef fun σ3 g3 w3 => ?_
      have nD : L0 ∉ μ' := (s'.xi L0 List.mem_cons_self).1
      have eD : H2 L0 = some (.lst acc) := hacc
      refine ⟨by rw [w3 vs hv, wipe_twice], ?_⟩
      refine kt (L0 :: ξ) μ' σ3 H2 ρ1 S' _ g3 s2 ?_
      have racc2 := racc
      cases et : mt ρ1 S' with
      | bad => rw [et] at eL; exact nomatch eL
      | exc c fs S3 => rw [et] at eL; exact nomatch eL
      | ok d S3 =>
        rw [et] at eL
        cases d with
        | bl b =>
          intro μ3 H3 u3 s3
          have eD3 : H3 L0 = some (.lst acc) := u3.keep _ _ eD nD
          cases b with
          | false => exact ⟨μ3, S3, acc, dacc, u'.trans u3, s3, eD3, racc2.up u3, ys, S2, eL, hlim, fin⟩
          | true =>
            simp only at eL
            refine ki1 (L0 :: ξ) μ3 σ3 H3 ρ1 S3 _ (g3.up u3) s3 ?_
            cases ei : iAny mi1 ρ1 S3 with
            | bad => rw [ei] at eL; exact nomatch eL
            | exc c fs S4 => rw [ei] at eL; exact nomatch eL
            | ok p1 S4 =>
              rw [ei] at eL
              simp only at eL
              intro J1 μ4 H4 u4 s4 j1
              obtain ⟨d1, n1'⟩ := p1
              obtain ⟨hz1, j1⟩ := j1
              have nD3 : L0 ∉ μ3 := (s3.xi L0 List.mem_cons_self).1
              have eD4 : H4 L0 = some (.lst acc) := u4.keep _ _ eD3 nD3
              cases e5 : lcA d1 f1 mt1 me (wipeD ρ1 vs1) (n1' + 1) 0 S4 with
              | none => rw [e5] at eL; exact nomatch eL
              | some q5 =>
                obtain ⟨ys1, S5⟩ := q5
                rw [e5] at eL
                simp only at eL
                cases e6 : lcA2 d f mt mi1 f1 mt1 me vs1 (wipeD ρ vs) k (i + 1) S5 with
                | none => rw [e6] at eL; exact nomatch eL
                | some q6 =>
                  obtain ⟨zs, S6⟩ := q6
                  rw [e6] at eL
                  cases eL
                  have U14 : Up μ1 H1 μ4 H4 := u'.trans (u3.trans u4)
                  let St1 : Nat → Nat → Hp → Prop := fun k j H' => ∃ μ' S' acc dacc, Mv ((fx X ξ).hold L0) μ4 H4 ((fx X ξ).hold L0) μ' H' ∧ Up μ1 H1 μ' H' ∧ RS ((fx X ξ).hold L0) μ' H' S' ∧ H' L0 = some (.lst acc) ∧ RDs ((fx X ξ).hold L0) μ' H' acc dacc ∧
                    ∃ ys, lcA d1 f1 mt1 me (wipeD ρ1 vs1) k j S' = some (ys, S5) ∧ dacc.length + (ys ++ zs).length ≤ 16777216 ∧ Fin dacc (ys ++ zs) S2
                  refine ⟨fun j k H' => St1 k j H', ⟨n1' + 1, μ4, S4, acc, dacc, Up.mv2 .refl, U14, s4, eD4, (racc2.up u3).up u4, ys1, e5, hlim, fin⟩, ?_⟩
                  rintro j k' H' ⟨μ5, S5', acc5, dacc5, mv5, U15, s5, eD5, racc5, ys5, eL5, hlim5, fin5⟩
                  cases k' with
                  | zero => exact nomatch eL5
                  | succ k' =>
                  unfold lcA at eL5
                  cases q5' : seqOf S5' d1 with
                  | none => rw [q5'] at eL5; exact nomatch eL5
                  | some es1 =>
                  rw [q5'] at eL5
                  simp only at eL5
                  obtain ⟨t3, t4⟩ := j1 μ5 H' S5' j mv5 s5 es1 q5'
                  cases qx : es1[j]? with
                  | some x1 =>
                    rw [qx] at eL5
                    simp only at eL5
                    obtain ⟨go1, yl1⟩ := t3 x1 qx
                    cases ef1 : f1 x1 (wipeD ρ1 vs1) with
                    | none => rw [ef1] at eL5; exact nomatch eL5
                    | some ρ2 =>
                      rw [ef1] at eL5
                      simp only at eL5
                      refine .inr ⟨go1, fun H2 => St1 k' (j + 1) H2, fun H2 a => ⟨k', Nat.lt_succ_self k', a⟩, fun x H2 y => ?_⟩
                      obtain ⟨eH, r2⟩ := yl1 x H2 y
                      subst eH
                      have g4 : RG (fx X (L0 :: ξ)) μ5 H2 (wipe σ3 vs1) (wipeD ρ1 vs1) := ((((g3.up u3).up u4).mv mv5)).wipe vs1
                      refine kg1 (L0 :: ξ) μ5 (wipe σ3 vs1) H2 (wipeD ρ1 vs1) x _ ρ2 _ g4 r2 ef1 fun σ4 g5 w4 => ?_
                      have nD5 : L0 ∉ μ5 := (s5.xi L0 List.mem_cons_self).1
                      refine ⟨by rw [w4 vs1 hv1, wipe_twice], ?_⟩
                      refine kt1 (L0 :: ξ) μ5 σ4 H2 ρ2 S5' _ g5 s5 ?_
                      cases et1 : mt1 ρ2 S5' with
                      | bad => rw [et1] at eL5; exact nomatch eL5
                      | exc c fs S7 => rw [et1] at eL5; exact nomatch eL5
                      | ok d1 S7 =>
                        rw [et1] at eL5
                        cases d1 with
                        | bl b1 =>
                          intro μ7 H7 u7 s7
                          have eD7 : H7 L0 = some (.lst acc5) := u7.keep _ _ eD5 nD5
                          cases b1 with
                          | false =>
                            simp only at eL5
                            exact ⟨μ7, S7, acc5, dacc5, mv5.comp u7.mv2, U15.trans u7, s7, eD7, racc5.up u7, ys5, eL5, hlim5, fin5⟩
                          | true =>
                            simp only at eL5
                            refine ke (L0 :: ξ) μ7 σ4 H7 ρ2 S7 _ (g5.up u7) s7 ?_
                            cases ee : me ρ2 S7 with
                            | bad => rw [ee] at eL5; exact nomatch eL5
                            | exc c fs S8 => rw [ee] at eL5; exact nomatch eL5
                            | ok y8 S8 =>
                              rw [ee] at eL5
                              intro v μ8 H8 u8 s8 r8
                              simp only at eL5
                              cases er : lcA d1 f1 mt1 me (wipeD ρ1 vs1) k' (j + 1) S8 with
                              | none => rw [er] at eL5; exact nomatch eL5
                              | some q8 =>
                                obtain ⟨ys8, S9⟩ := q8
                                rw [er] at eL5
                                cases eL5
                                have nD7 : L0 ∉ μ7 := (s7.xi L0 List.mem_cons_self).1
                                have eD8 : H8 L0 = some (.lst acc5) := u8.keep _ _ eD7 nD7
                                have hacc : acc5.length = dacc5.length := rds_len racc5
                                have hlim8 : dacc5.length + ((y8 :: ys8) ++ zs).length ≤ 16777216 := hlim5
                                simp only [List.cons_append, List.length_cons] at hlim8
                                refine ⟨acc5, eD8, by rw [sizeLine_eq]; omega, μ8, S8, acc5 ++ [v], dacc5 ++ [y8], (mv5.comp (u7.mv2.comp u8.mv2)).comp (Mv.wr (F := fx X ξ) (p := L0)), ?_, RS.wr (F := fx X ξ) (p := L0) s8, upd_same, RDs.mv (Mv.wr (F := fx X ξ) (p := L0)) _ (RDs.append (F := (fx X ξ).hold L0) ((racc5.up u7).up u8) (.cons r8 .nil)), ys8, er, ?_, ?_⟩
                                · have U := U15.trans (u7.trans u8)
                                  exact ⟨U.pre, U.new, fun a o ha na => by
                                    rw [upd_ne (ne_of_none ha hD)]
                                    exact U.keep a o ha na⟩
                                · rw [List.length_append, List.length_singleton]
                                  omega
                                · intro μ2 H2 xs u2 s2 r2 e2
                                  refine fin5 μ2 H2 xs u2 s2 ?_ e2
                                  have e9 : dacc5 ++ [y8] ++ (ys8 ++ zs) = dacc5 ++ (y8 :: ys8 ++ zs) := by simp
                                  rw [e9] at r2
                                  exact r2
                        | _ => exact nomatch eL5
                  | none =>
                    rw [qx] at eL5
                    simp only at eL5
                    by_cases ej : j = es1.length
                    rotate_left
                    · rw [if_neg ej] at eL5; exact nomatch eL5
                    rw [if_pos ej] at eL5
                    cases eL5
                    exact .inl ⟨t4 ej, μ5, _, acc5, dacc5, U15, s5, eD5, racc5, zs, S2, e6, by simpa using hlim5, by simpa using fin5⟩
        | _ => exact nomatch eL
theorem ds_setLcA2 (i : Nat) {m : ME} {y : Str} {py spos : Pos} {elt : Expr} {ifs ifs1 : List Expr} {scope : Scope} {own : List (Str × Nat)} {vs1 : List Nat} {f f1 : D → Rho → Option Rho} {is is1 : List Nat} {mt mt1 me : ME} {mw : MA → ME} (hw : ∀ {te : TE} {mr : MA}, RdL X W te mr → RdE X W te (mw mr)) (hc : X.calm = true) (hN : X.N.Nodup) (hi : DE X W e m) (ok : BlkOk X.N X.env.scope scope own)
    (hg : ∀ (s : Shared) (H : Hp) (C : Addr) (cl : List (Str × Addr)) (fp : List Addr), DG (X.blk s H scope (compEnvC scope cl C X.env) fp) tg f is)
    (ht : ∀ (s : Shared) (H : Hp) (C : Addr) (cl : List (Str × Addr)) (fp : List Addr), DTs (X.blk s H scope (compEnvC scope cl C X.env) fp) W0 ifs mt)
    (hi1 : ∀ (s : Shared) (H : Hp) (C : Addr) (cl : List (Str × Addr)) (fp : List Addr), DIA2 (X.blk s H scope (compEnvC scope cl C X.env) fp) W0 tg1 e1 (iAny mi1))
    (hg1 : ∀ (s : Shared) (H : Hp) (C : Addr) (cl : List (Str × Addr)) (fp : List Addr), DG (X.blk s H scope (compEnvC scope cl C X.env) fp) tg1 f1 is1)
    (ht1 : ∀ (s : Shared) (H : Hp) (C : Addr) (cl : List (Str × Addr)) (fp : List Addr), DTs (X.blk s H scope (compEnvC scope cl C X.env) fp) W0 ifs1 mt1)
    (he : ∀ (s : Shared) (H : Hp) (C : Addr) (cl : List (Str × Addr)) (fp : List Addr), DE (X.blk s H scope (compEnvC scope cl C X.env) fp) W0 elt me)
    (hv01 : ∀ i ∈ vs1, i ∈ own.map (·.2) := by decide) (hv : ∀ i ∈ is, i ∈ own.map (·.2) := by decide) (hv1 : ∀ i ∈ is1, i ∈ vs1 := by decide) (hy : X.N[i]? = some y := by rfl) (hyl : X.env.scope.names.lookup y = some .local := by rfl)
    (hsw : swapsWith (.ListComp elt [⟨tg, e, ifs, 0⟩, ⟨tg1, e1, ifs1, 0⟩] scope pos) (some (.Name y py)) spos.line X.env = pure true := by rfl) (hs : ∀ x, foldedSetIterable e X.env x = pure x := by intro _; rfl) (hs1 : ∀ env x, foldedSetIterable e1 env x = pure x := by intro _ _; rfl) :
    DS X W (.Assign [.Name y py] (.ListComp elt [⟨tg, e, ifs, 0⟩, ⟨tg1, e1, ifs1, 0⟩] scope pos) spos) (mAsg i (mw (mLcA2 m f mt mi1 f1 mt1 me (own.map (·.2)) vs1))) := by
  obtain ⟨wi, pi, ki⟩ := dia_any (tg := tg) hi
  obtain ⟨tg', pg, kg⟩ := dg_all (Xf := blkOf X scope) (K := X.K) (mg := X.mg) (fun _ => rfl) (fun _ => rfl) fun i => hg i.1 i.2.1 i.2.2.1 i.2.2.2.1 i.2.2.2.2
  obtain ⟨tt, pt, kt⟩ := dts_all (Xf := blkOf X scope) (K := X.K) (mg := X.mg) (fun _ => rfl) (fun _ => rfl) fun i => ht i.1 i.2.1 i.2.2.1 i.2.2.2.1 i.2.2.2.2
  obtain ⟨wi1, pi1, ki1⟩ := di2_all (Xf := blkOf X scope) (K := X.K) (mg := X.mg) (fun _ => rfl) (fun _ => rfl) fun i => hi1 i.1 i.2.1 i.2.2.1 i.2.2.2.1 i.2.2.2.2
  obtain ⟨tg1', pg1, kg1⟩ := dg_all (Xf := blkOf X scope) (K := X.K) (mg := X.mg) (fun _ => rfl) (fun _ => rfl) fun i => hg1 i.1 i.2.1 i.2.2.1 i.2.2.2.1 i.2.2.2.2
  obtain ⟨tt1, pt1, kt1⟩ := dts_all (Xf := blkOf X scope) (K := X.K) (mg := X.mg) (fun _ => rfl) (fun _ => rfl) fun i => ht1 i.1 i.2.1 i.2.2.1 i.2.2.2.1 i.2.2.2.2
  obtain ⟨te, pe, ke⟩ := de_all (Xf := blkOf X scope) (K := X.K) (mg := X.mg) (fun _ => rfl) (fun _ => rfl) fun i => he i.1 i.2.1 i.2.2.1 i.2.2.2.1 i.2.2.2.2
  have rd : RdL X W (tLc2 wi tg' tt wi1 tg1' tt1 te (own.map (·.2)) vs1) (mLcA2 m f mt mi1 f1 mt1 me (own.map (·.2)) vs1) := fun ξ μ σ H ρ S Q g s h => lcA2_read (fun R => ki ξ μ σ H ρ S R g s) kg kt ki1 kg1 kt1 ke hv hv1 g s h
  refine ⟨_, ps_setLc2 (i := i) (vs1 := vs1) hc hN hy hyl hsw pi ok hv01 (fun s H C cl fp => pg (s, H, C, cl, fp)) (fun s H C cl fp => pt (s, H, C, cl, fp)) (fun s H C cl fp => pi1 (s, H, C, cl, fp)) (fun s H C cl fp => pg1 (s, H, C, cl, fp)) (fun s H C cl fp => pt1 (s, H, C, cl, fp)) (fun s H C cl fp => pe (s, H, C, cl, fp)) hs hs1, fun ξ μ σ H ρ S D g s h => ?_⟩
  exact hw rd ξ μ σ H ρ S _ g s (WS'.bind g h fun x S1 v μ1 H1 u1 s1 r1 h1 => h1 _ μ1 H1 .refl s1 ((g.up u1).set i r1))
end
/-! ### what they do -/
section
variable {S : Sto} {ρ : Rho} {f f1 : D → Rho → Option Rho} {mt mt1 me : ME} {mi : MA} {mi1 : ME} {E : EX}
def LcQ2 (f : D → Rho → Option Rho) (mt : ME) (mi1 : ME) (f1 : D → Rho → Option Rho) (mt1 me : ME) (vs1 : List Nat) (ρ : Rho) (ds : List D) (S : Sto) (Q : List D → Sto → Prop) : Prop := ∃ ys S2, lcL2 f mt mi1 f1 mt1 me vs1 ρ ds S = some (ys, S2) ∧ Q ys S2
@[simp] theorem does_lc2 {vs vs1 : List Nat} {Q : List D → Sto → Prop} : (mLc2 mi f mt mi1 f1 mt1 me vs vs1 ρ S).DoesE E Q = (mi ρ S).DoesE E fun ds S1 => LcQ2 f mt mi1 f1 mt1 me vs1 (wipeD ρ vs) ds S1 fun ys S2 => ys.length ≤ 16777216 ∧ Q ys S2 := by
  unfold mLc2
  rw [does_bind]
  congr 1
  funext ds S1
  unfold LcQ2
  cases e : lcL2 f mt mi1 f1 mt1 me vs1 (wipeD ρ vs) ds S1 with
  | none => refine propext ⟨fun h => h.elim, fun ⟨_, _, h, _⟩ => nomatch h⟩
  | some r =>
    obtain ⟨ys, S2⟩ := r
    refine propext ⟨fun q => ?_, ?_⟩
    · simp only at q
      by_cases c : ys.length ≤ 16777216
      · rw [if_pos c] at q
        exact ⟨ys, S2, rfl, c, q⟩
      · rw [if_neg c] at q
        exact q.elim
    · rintro ⟨ys', S2', e', c, q⟩
      cases e'
      simp only
      rw [if_pos c]
      exact q
def LcAQ2 (d : D) (f : D → Rho → Option Rho) (mt : ME) (mi1 : ME) (f1 : D → Rho → Option Rho) (mt1 me : ME) (vs1 : List Nat) (ρ : Rho) (n : Nat) (S : Sto) (Q : List D → Sto → Prop) : Prop := ∃ ys S2, lcA2 d f mt mi1 f1 mt1 me vs1 ρ (n + 1) 0 S = some (ys, S2) ∧ Q ys S2
@[simp] theorem does_lcA2 {m : ME} {vs vs1 : List Nat} {Q : List D → Sto → Prop} : (mLcA2 m f mt mi1 f1 mt1 me vs vs1 ρ S).DoesE E Q = (m ρ S).DoesE E fun d S1 => match seqOf S1 d with
    | some ds => LcAQ2 d f mt mi1 f1 mt1 me vs1 (wipeD ρ vs) ds.length S1 fun ys S2 => ys.length ≤ 16777216 ∧ Q ys S2
    | none => False := by
  unfold mLcA2 iAny
  rw [does_bind, does_bind]
  congr 1
  funext d S1
  cases seqOf S1 d with
  | none => rfl
  | some ds =>
    simp only [does_ok]
    unfold LcAQ2
    cases e : lcA2 d f mt mi1 f1 mt1 me vs1 (wipeD ρ vs) (ds.length + 1) 0 S1 with
    | none => refine propext ⟨fun h => h.elim, fun ⟨_, _, h, _⟩ => nomatch h⟩
    | some r =>
      obtain ⟨ys, S2⟩ := r
      refine propext ⟨fun q => ?_, ?_⟩
      · simp only at q
        by_cases c : ys.length ≤ 16777216
        · rw [if_pos c] at q
          exact ⟨ys, S2, rfl, c, q⟩
        · rw [if_neg c] at q
          exact q.elim
      · rintro ⟨ys', S2', e', c, q⟩
        cases e'
        simp only
        rw [if_pos c]
        exact q
theorem lcAQ2_inv {α : Type} {d : D} {vs1 : List Nat} {i : α → D} {g : α → List D} (I : Sto → Prop) {as0 : List α} (hI : ∀ S, I S → seqOf S d = some (as0.map i))
    (h : ∀ a, a ∈ as0 → ∀ S1, I S1 → ∃ ρ1, f (i a) ρ = some ρ1 ∧ (mt ρ1 S1).Does (fun d S2 => d = .bl true ∧ (mi1 ρ1 S2).Does fun d1 S3 => ∃ ds1, seqOf S3 d1 = some ds1 ∧ LcAQ d1 f1 mt1 me (wipeD ρ1 vs1) ds1.length S3 fun ys S4 => ys = g a ∧ I S4)) :
    ∀ {as pre : List α} {S : Sto} {Q : List D → Sto → Prop}, as0 = pre ++ as → I S → (∀ S', I S' → Q (as.flatMap g) S') → ∃ ys S', lcA2 d f mt mi1 f1 mt1 me vs1 ρ (as.length + 1) pre.length S = some (ys, S') ∧ Q ys S'
  | [], pre, S, Q, e, hS, q => by
    refine ⟨[], S, ?_, q S hS⟩
    unfold lcA2
    rw [hI S hS]
    have e1 : (as0.map i)[pre.length]? = none := by rw [e, List.append_nil]; exact List.getElem?_eq_none (by rw [List.length_map]; exact Nat.le_refl _)
    simp only [e1]
    rw [if_pos (by rw [e, List.append_nil, List.length_map])]
  | a :: as, pre, S, Q, e, hS, q => by
    have ha : a ∈ as0 := by rw [e]; exact List.mem_append.mpr (.inr List.mem_cons_self)
    obtain ⟨ρ1, ef, k1⟩ := h a ha S hS
    have e1 : (as0.map i)[pre.length]? = some (i a) := by rw [List.getElem?_map, e, List.getElem?_append_right (Nat.le_refl _), Nat.sub_self] <;> rfl
    have en : as0 = (pre ++ [a]) ++ as := by rw [e, List.append_assoc] <;> rfl
    have lp : (pre ++ [a]).length = pre.length + 1 := by rw [List.length_append, List.length_singleton]
    obtain ⟨d1, S1, e2, rfl, k2⟩ := k1.eq
    obtain ⟨d1', S2, e3, ds1, e3', ys, S3, e4, rfl, hI3⟩ := k2.eq
    have e3 : iAny mi1 ρ1 S1 = .ok (d1', ds1.length) S2 := by
      unfold iAny
      rw [e3]
      show (match seqOf S2 d1' with | some ds => Res.ok (d1', ds.length) S2 | none => .bad) = _
      rw [e3']
    obtain ⟨zs, S4, e5, q5⟩ := lcAQ2_inv I hI h (as := as) (pre := pre ++ [a]) (S := S3) (Q := fun zs S' => Q (g a ++ zs) S') en hI3 (fun S' hS' => by
      have := q S' hS'
      rw [List.flatMap_cons] at this
      exact this)
    rw [lp] at e5
    refine ⟨g a ++ zs, S4, ?_, q5⟩
    unfold lcA2
    rw [hI S hS]
    simp only [e1, ef, e2, e3, e4]
    have e5' : lcA2 d f mt mi1 f1 mt1 me vs1 ρ (a :: as).length (pre.length + 1) S3 = some (zs, S4) := e5
    rw [e5']
/-- all items of the first generator, one after another; I holds of the stores -/
theorem lcAQ2_ext {α : Type} {d : D} {vs1 : List Nat} {as : List α} {i : α → D} {g : α → List D} {n : Nat} (hn : n = as.length) (I : Sto → Prop) {Q : List D → Sto → Prop} (hI : ∀ S, I S → seqOf S d = some (as.map i)) (hS : I S)
    (h : ∀ a, a ∈ as → ∀ S1, I S1 → ∃ ρ1, f (i a) ρ = some ρ1 ∧ (mt ρ1 S1).Does (fun d S2 => d = .bl true ∧ (mi1 ρ1 S2).Does fun d1 S3 => ∃ ds1, seqOf S3 d1 = some ds1 ∧ LcAQ d1 f1 mt1 me (wipeD ρ1 vs1) ds1.length S3 fun ys S4 => ys = g a ∧ I S4))
    (q : ∀ S', I S' → Q (as.flatMap g) S') : LcAQ2 d f mt mi1 f1 mt1 me vs1 ρ n S Q := by
  subst hn
  exact lcAQ2_inv I hI h (pre := []) rfl hS q
end
end Dm
-- text Hw10
namespace Dm
open PySem L2
noncomputable section
def m_edition_at : List D → Sto → Res D := mDef 3 5 (mSeq (mFor (iEnumS (mSlT (mVar 0) mNoPart (mPart (mOp gSub (mCallB gLen (mCons (mVar 1) mNil)) (mK (.int 1)))))) (tgU 2 (tgCons (tgN 3) (tgCons (tgN 4) tgNil))) (mIfS (mAnd (mOp gEq (mOp gIx (mVar 4) (mK (.int 0))) (mK (.str "edition"))) (mOp gEq (mOp gIx (mVar 4) (mK (.int 2))) (mVar 2))) (mRet (mOp gIx (mVar 1) (mOp gAdd (mVar 3) (mK (.int 1))))) mNop)) (mRet (mK .non)))
def m_looks_in : List D → Sto → Res D := mDef 3 4 (mRet (mCallB gTuple (mCons (mFz (mCallBL gSort (mCons (mFz (mLcA (mVar 0) (tgN 3) (mOp gEq (mSlT (mVar 3) mNoPart (mPart (mK (.int 2)))) (mTup (mCons (mVar 1) (mCons (mVar 2) mNil)))) (mSlT (mVar 3) (mPart (mK (.int 2))) mNoPart) [3])) mNil))) mNil)))
def m_later_looks : List D → Sto → Res D := mDef 3 4 (mRet (mOp gAdd (mCallB gTuple (mCons (mFz (mLcA (mCall m_looks_in (mCons (mVar 0) (mCons (mVar 1) (mCons (mK (.int 0)) mNil)))) (tgN 3) (mOp gLt (mOp gIx (mVar 3) (mK (.int 0))) (mVar 2)) (mVar 3) [3])) mNil)) (mCall m_looks_in (mCons (mVar 0) (mCons (mVar 1) (mCons (mK (.int 1)) mNil))))))
def m_edition_of : List D → Sto → Res D := mDef 2 2 (mRet (mCallB gInt1 (mCons (mAnd (mOp (gIsN true) (mVar 0) (mK .non)) (mOp gGe (mVar 1) (mVar 0))) mNil)))
def m_offset_known : List D → Sto → Res D := mDef 4 6 (mSeq (mAsg 4 (mCall m_edition_of (mCons (mVar 2) (mCons (mVar 3) mNil)))) (mSeq (mForA (mVar 0) (tgN 5) (mIfS (mOp gEq (mSlT (mVar 5) mNoPart (mPart (mK (.int 3)))) (mTup (mCons (mVar 1) (mCons (mVar 4) (mCons (mVar 3) mNil))))) (mRet (mOp gIx (mVar 5) (mK (.int 3)))) mNop)) (mRet (mK .non))))
def m_both_fit : List D → Sto → Res D := mDef 4 4 (mSeq (mIfS (mNot (mCall m_looks_fit (mCons (mVar 0) (mCons (mCall m_looks_in (mCons (mVar 1) (mCons (mVar 2) (mCons (mK (.int 0)) mNil)))) mNil)))) (mRet (mK (.bl false))) mNop) (mRet (mOr (mOp (gIsN false) (mVar 3) (mK .non)) (mCall m_looks_fit (mCons (mVar 0) (mCons (mCall m_later_looks (mCons (mVar 1) (mCons (mVar 2) (mCons (mVar 3) mNil)))) mNil))))))
def m_longer_looked : List D → Sto → Res D := mDef 5 8 (mSeq (mIfS (mOp (gIsN true) (mCall m_offset_known (mCons (mVar 1) (mCons (mVar 2) (mCons (mVar 3) (mCons (mVar 4) mNil))))) (mK .non)) (mRet (mFz (mLst (mCons (mVar 1) mNil)))) mNop) (mSeq (mAsg 5 (mFz (mLcA (mOp gIx (mOp gIx (mVar 0) (mVar 2)) (mK (.int 0))) (tgN 6) mYes (mOp gAdd (mVar 1) (mTup (mCons (mTup (mCons (mVar 2) (mCons (mCall m_edition_of (mCons (mVar 3) (mCons (mVar 4) mNil))) (mCons (mVar 4) (mCons (mVar 6) mNil))))) mNil))) [6]))) (mRet (mFz (mLcA (mVar 5) (tgN 7) (mCall m_both_fit (mCons (mOp gIx (mVar 0) (mVar 2)) (mCons (mVar 7) (mCons (mVar 2) (mCons (mVar 3) mNil))))) (mVar 7) [7])))))
def m_cases_behind : List D → Sto → Res D := mDef 4 17 (mSeq (mAsgG (tgU 3 (tgCons (tgN 4) (tgCons (tgN 5) (tgCons (tgN 6) tgNil)))) (mVar 3)) (mSeq (mIfS (mOp (gIsN true) (mVar 6) (mK .non)) (mRet (mFz (mLst (mCons (mVar 3) mNil)))) mNop) (mSeq (mAsg 7 (mOp gIx (mVar 1) (mVar 2))) (mSeq (mAsg 8 (mCall m_asked_moments (mCons (mVar 0) (mCons (mVar 7) (mCons (mVar 5) mNil))))) (mSeq (mAsg 9 (mIf (mOp gEq (mVar 8) (mFz (mLst mNil))) (mK .non) (mCall m_edition_at (mCons (mVar 1) (mCons (mVar 5) (mCons (mOp gIx (mVar 7) (mK (.int 2))) mNil)))))) (mSeq (mAsg 10 (mFz (mLst (mCons (mVar 4) mNil)))) (mSeq (mForA (mVar 8) (tgN 11) (mAsg 10 (mFz (mLcA2 (mVar 10) (tgN 13) mYes (mCall m_longer_looked (mCons (mVar 0) (mCons (mVar 13) (mCons (mOp gIx (mVar 7) (mK (.int 2))) (mCons (mVar 9) (mCons (mVar 11) mNil)))))) (tgN 16) mYes (mVar 16) [13, 16] [16])))) (mSeq (mAsg 12 (mNew (mLst mNil))) (mSeq (mForA (mVar 10) (tgN 13) (mSeq (mAsg 14 (mDcA (mVar 8) (tgN 11) mYes (mVar 11) (mCall m_offset_known (mCons (mVar 13) (mCons (mOp gIx (mVar 7) (mK (.int 2))) (mCons (mVar 9) (mCons (mVar 11) mNil))))) [11])) (mSeq (mAsg 15 (mCall m_value_made (mCons (mVar 0) (mCons (mVar 7) (mCons (mVar 5) (mCons (mVar 14) mNil)))))) (mApp (mVar 12) (mIf (mOp (gIsN false) (mVar 15) (mK .non)) (mTup (mCons (mVar 13) (mCons (mVar 5) (mCons (mVar 2) mNil)))) (mTup (mCons (mVar 13) (mCons (mOp gAdd (mVar 5) (mTup (mCons (mVar 15) mNil))) (mCons (mK .non) mNil))))))))) (mRet (mVar 12)))))))))))
def m_cases_from : List D → Sto → Res D := mDef 3 7 (mSeq (mAsg 3 (mNew (mLst (mCons (mTup (mCons (mVar 2) (mCons (mTup (mCons (mK (.int 0)) mNil)) (mCons (mK .non) mNil)))) mNil)))) (mSeq (mFor (iRange1 (mCons (mCallB gLen (mCons (mVar 1) mNil)) mNil)) (tgN 4) (mAsg 3 (mNew (mLcA2 (mVar 3) (tgN 5) mYes (mCall m_cases_behind (mCons (mVar 0) (mCons (mVar 1) (mCons (mVar 4) (mCons (mVar 5) mNil))))) (tgN 6) mYes (mVar 6) [5, 6] [6])))) (mRet (mVar 3))))
def m_cases : List D → Sto → Res D := mDef 2 2 (mSeq (mDrop (mCall m_need_zones (mCons (mVar 0) mNil))) (mSeq (mDrop (mCall m_need_program (mCons (mVar 0) (mCons (mVar 1) mNil)))) (mRet (mCall m_cases_from (mCons (mVar 0) (mCons (mVar 1) (mCons (mTup mNil) mNil)))))))
end
end Dm
-- text DmPop
namespace Dm
open PySem L2
open PySem.W (Frag)
/-! ### xs.pop(), xs.reverse() as statements -/
section
variable {X : Cx} {W : WX}
def mPopS (o : ME) : MS := fun ρ S => ofRes (o ρ S) ρ fun x S1 => match x with
  | .cell n => match S1[n]? with
    | some (.lst ds) => if ds = [] then .bad else .nx ρ (S1.set n (.lst ds.dropLast))
    | _ => .bad
  | _ => .bad
def mRevS (o : ME) : MS := fun ρ S => ofRes (o ρ S) ρ fun x S1 => match x with
  | .cell n => match S1[n]? with
    | some (.lst ds) => .nx ρ (S1.set n (.lst ds.reverse))
    | _ => .bad
  | _ => .bad
end
section
variable {S : Sto} {ρ : Rho} {N B C : Rho → Sto → Prop} {R : D → Sto → Prop} {EO : EXO}
@[simp] theorem does_popS {o : ME} : (mPopS o ρ S).DoesE EO N R B C = (o ρ S).DoesE (eAt EO ρ) fun x S1 => match x with
    | .cell n => ∃ xs, S1[n]? = some (.lst xs) ∧ xs ≠ [] ∧ N ρ (S1.set n (.lst xs.dropLast))
    | _ => False := by
  unfold mPopS
  rw [does_ofRes]; congr 1; funext x S1
  cases x with
  | cell n =>
    simp only
    cases q : S1[n]? with
    | none => exact propext ⟨fun h => h.elim, fun ⟨_, h, _⟩ => nomatch h⟩
    | some c =>
      cases c with
      | lst ds =>
        by_cases hd : ds = []
        · simp only [if_pos hd]
          refine propext ⟨fun h => h.elim, fun ⟨xs, h, h2, _⟩ => ?_⟩
          cases h
          exact absurd hd h2
        · simp only [if_neg hd]
          refine propext ⟨fun h => ⟨ds, rfl, hd, h⟩, fun ⟨xs, h, _, h3⟩ => ?_⟩
          cases h
          exact h3
      | _ => exact propext ⟨fun h => h.elim, fun ⟨_, h, _⟩ => nomatch h⟩
  | _ => rfl
@[simp] theorem does_revS {o : ME} : (mRevS o ρ S).DoesE EO N R B C = (o ρ S).DoesE (eAt EO ρ) fun x S1 => match x with
    | .cell n => ∃ xs, S1[n]? = some (.lst xs) ∧ N ρ (S1.set n (.lst xs.reverse))
    | _ => False := by
  unfold mRevS
  rw [does_ofRes]; congr 1; funext x S1
  cases x with
  | cell n =>
    simp only
    cases q : S1[n]? with
    | none => exact propext ⟨fun h => h.elim, fun ⟨_, h, _⟩ => nomatch h⟩
    | some c =>
      cases c with
      | lst ds =>
        refine propext ⟨fun h => ⟨ds, rfl, h⟩, fun ⟨xs, h, h3⟩ => ?_⟩
        cases h
        exact h3
      | _ => exact propext ⟨fun h => h.elim, fun ⟨_, h, _⟩ => nomatch h⟩
  | _ => rfl
end
end Dm
-- text Hw11
namespace Dm
open PySem L2
end Dm
-- text DmCatW
namespace Dm
open PySem L2 PySem.Spec PyProof.Rows
open PySem.W (Frag)
section
variable {X : Cx} {W : WX} {tg a b : Expr} {ma mb : ME} {pos : Pos} {E : EX}
/-- two lists that stand, one behind the other -/
def mCatW (a b : ME) : MA := fun ρ S => (a ρ S).bind fun x S1 => (b ρ S1).bind fun y S2 => match lstOf S2 x, lstOf S2 y with
  | some xs, some ys => if xs.length + ys.length ≤ 16777216 then .ok (xs ++ ys) S2 else .bad
  | _, _ => .bad
variable {ρ : Rho} {S : Sto}
@[simp] theorem does_catW {a b : ME} {Q : List D → Sto → Prop} : (mCatW a b ρ S).DoesE E Q = (a ρ S).DoesE E fun x S1 => (b ρ S1).DoesE E fun y S2 => match lstOf S2 x, lstOf S2 y with
    | some xs, some ys => xs.length + ys.length ≤ 16777216 ∧ Q (xs ++ ys) S2
    | _, _ => False := by
  unfold mCatW
  rw [does_bind]; congr 1; funext x S1
  rw [does_bind]; congr 1; funext y S2
  cases e : lstOf S2 x with
  | none => simp [Res.DoesE]
  | some xs =>
    cases e' : lstOf S2 y with
    | none => simp [Res.DoesE]
    | some ys =>
      simp only
      by_cases h : xs.length + ys.length ≤ 16777216
      · rw [if_pos h]; simp [h]
      · rw [if_neg h]; simp [h, Res.DoesE]
end
end Dm
-- text Hw12
namespace Dm
open PySem L2
end Dm
-- text DmTupMul
namespace Dm
open PySem L2 PySem.Spec PyProof.Rows
open PySem.W (Frag)
/-! ### a tuple some times -/
def gMulT : Sto → D → D → Option D := fun _ x y => match x, y with
  | .tup ds, .int k => if ds.length ≠ 0 ∧ 2 ≤ k ∧ k ≤ 1000 ∧ ds.length ≤ 1000 then some (.tup (List.replicate k.toNat ds).flatten) else none
  | _, _ => none
section
variable {X : Cx}
theorem op_repF : OpR X (binaryOp .Mult) (rRepF X.K) := by
  rintro pins s σ H x y v u Q I rx ry ⟨l, k, xs, rfl, rfl, hT, hne, h1, h2, hz, q⟩
  cases rx
  obtain ⟨t, rfl⟩ := ry
  obtain ⟨its, r, ⟨⟨cls, dd, data, sl⟩, ho, hc, n, hd⟩, hs⟩ := I.tuple hT
  simp only at hc hd
  subst hc hd
  have hl : its.length = xs.length := r.length.symm
  have hi : its.toArray.isEmpty = false := by
    cases its with
    | nil => exact absurd (List.eq_nil_of_length_eq_zero hl.symm) hne
    | cons _ _ => rfl
  have h0 : its.toArray.size = xs.length := by rw [List.size_toArray, hl]
  have hx : ((xs.length : Nat) : Int) * k ≤ 1000000 := by
    have a1 : ((xs.length : Nat) : Int) * k ≤ 1000 * k := Int.mul_le_mul_of_nonneg_right (by omega) (by omega)
    omega
  have hm : ((its.toArray.size : Nat) : Int) * k ≤ 1000000 := by rw [h0]; exact hx
  have a2 : k.toNat * xs.length ≤ 1000 * 1000 := Nat.mul_le_mul (by omega) hz
  have fl : (List.replicate k.toNat its).flatten.length ≤ sizeLine := by rw [PyProof.Rows.lm_len_rep_flat, hl, sizeLine_eq]; omega
  have f2 : (List.replicate k.toNat xs).flatten.length ≤ sizeLine := by rw [PyProof.Rows.lm_len_rep_flat, sizeLine_eq]; omega
  have c0 : (decide (k < -(2 ^ 63)) || decide (k ≥ 2 ^ 63)) = false := by rw [decide_eq_false (by omega), decide_eq_false (by omega), Bool.or_false]
  have c1 : (its.toArray.isEmpty || k == 1) = false := by rw [hi, Bool.false_or, beq_eq_false_iff_ne]; omega
  have c2 : (decide (k ≤ 0) || its.toArray.isEmpty) = false := by rw [hi, Bool.or_false, decide_eq_false_iff_not]; omega
  have c4 : Builtin.Tuple.tupleTooMany (((its.toArray.size : Nat) : Int) * k) = false := by unfold Builtin.Tuple.tupleTooMany; rw [sizeLine_eq, decide_eq_false_iff_not]; omega
  have fin := tup_here I f2 (r.rep k.toNat) q
  rw [← size_rep] at fin
  have tl : s.TypeIs (.ref l) "tuple" := ⟨_, ho, rfl⟩
  have ml := call_meets (prog := X.prog) (w := X.w) (A := X.A) (E := X.xe) (s := s) (Q := EP X pins σ Q) F.slot_tuple_mul tl F.entry_tuple_mul (F.args_tuple_mul_2 _ _) (tuple_mulW l its.toArray n dd sl k t c0 c1 c2 (by omega) c4 (by rw [size_rep, List.size_toArray]; exact fl)) ⟨ho, fin⟩
  exact wpAny_binaryOp_repeat_ref (T := "tuple") (U := "int") (by decide) tl (fun s' => typeIs_int s' k t) noFill_tuple_mul F.fills_int_mul F.slot_int_rmul repeat_tuple F.slot_int_index.lookup (call_meets F.slot_int_rmul (typeIs_int s k t) F.entry_int_rmul (F.args_int_rmul_2 _ _) (int_rmul_tuple k t l its.toArray n dd sl) ⟨ho, rfl, tl, ml⟩)
end
@[simp] theorem gMulT_tup {S : Sto} {ds : List D} {k : Int} : gMulT S (.tup ds) (.int k) = if ds.length ≠ 0 ∧ 2 ≤ k ∧ k ≤ 1000 ∧ ds.length ≤ 1000 then some (.tup (List.replicate k.toNat ds).flatten) else none := rfl
end Dm
-- text Hw13
namespace Dm
open PySem L2
end Dm
-- text DmGet
namespace Dm
open PySem L2 PySem.Spec PyProof.Rows
open PySem.W (Frag)
section
variable {X : Cx} {W : WX} {a o e f : Expr} {mo me mf ma : ME} {apos cpos pos p2 : Pos}
/-! ### d.get(k, x) -/
def mGet2 (mo mk mx : ME) : ME := fun ρ S => (mo ρ S).bind fun d S1 => match dicOf S1 d with
  | none => .bad
  | some _ => (mk ρ S1).bind fun y S2 => (mx ρ S2).bind fun z S3 => match dicOf S3 d, keyD y with
    | some kvs, some k => .ok ((valD kvs k).getD z) S3
    | _, _ => .bad
/-! ### texts: s + t, s[i:j] -/
def gCatS : Sto → D → D → Option D := fun _ x y => match x, y with
  | .str a, .str b => if a.length + b.length ≤ 16777216 then some (.str (a ++ b)) else none
  | _, _ => none
variable {lo hi : Option Expr} {ml mh : MO}
def mSlS (a : ME) (lo hi : MO) : ME := fun ρ S => (a ρ S).bind fun x S1 => (lo ρ S1).bind fun l S2 => (hi ρ S2).bind fun h S3 => match x with
  | .str z => if z.length ≤ 16777216 then .ok (.str (cutS z l h)) S3 else .bad
  | _ => .bad
end
section
variable {S : Sto} {ρ : Rho} {E : EX} {Q : D → Sto → Prop}
@[simp] theorem does_get2 {mo mk mx : ME} : (mGet2 mo mk mx ρ S).DoesE E Q = (mo ρ S).DoesE E fun d S1 => match dicOf S1 d with
    | none => False
    | some _ => (mk ρ S1).DoesE E fun y S2 => (mx ρ S2).DoesE E fun z S3 => match dicOf S3 d, keyD y with
      | some kvs, some k => Q ((valD kvs k).getD z) S3
      | _, _ => False := by
  unfold mGet2
  rw [does_bind]; congr 1; funext d S1
  cases dicOf S1 d with
  | none => rfl
  | some kvs0 =>
    simp only
    rw [does_bind]; congr 1; funext y S2
    rw [does_bind]; congr 1; funext z S3
    cases dicOf S3 d with
    | none => rfl
    | some kvs =>
      cases keyD y with
      | none => rfl
      | some k => rfl
@[simp] theorem gCatS_str {a b : Str} : gCatS S (.str a) (.str b) = if a.length + b.length ≤ 16777216 then some (.str (a ++ b)) else none := rfl
@[simp] theorem does_slS {a : ME} {lo hi : MO} : (mSlS a lo hi ρ S).DoesE E Q = (a ρ S).DoesE E fun x S1 => (lo ρ S1).DoesE E fun l S2 => (hi ρ S2).DoesE E fun h S3 => match x with
    | .str z => z.length ≤ 16777216 ∧ Q (.str (cutS z l h)) S3
    | _ => False := by
  unfold mSlS
  rw [does_bind]; congr 1; funext x S1
  rw [does_bind]; congr 1; funext l S2
  rw [does_bind]; congr 1; funext h S3
  cases x with
  | str z =>
    simp only
    by_cases c : z.length ≤ 16777216
    · rw [if_pos c]; simp [c]
    · rw [if_neg c]; simp [c, Res.DoesE]
  | _ => rfl
end
end Dm
-- text Hw14
namespace Dm
open PySem L2
end Dm
-- text DmTupMul1
namespace Dm
open PySem L2 PySem.Spec PyProof.Rows
open PySem.W (Frag)
/-! ### a tuple some times, once too -/
def gMulU : Sto → D → D → Option D := fun S x y => match x, y with
  | .tup ds, .int k => if k = 1 then some (.tup ds) else gMulT S (.tup ds) (.int k)
  | _, _ => none
@[simp] theorem gMulU_tup {S : Sto} {ds : List D} {k : Int} : gMulU S (.tup ds) (.int k) = if k = 1 then some (.tup ds) else if ds.length ≠ 0 ∧ 2 ≤ k ∧ k ≤ 1000 ∧ ds.length ≤ 1000 then some (.tup (List.replicate k.toNat ds).flatten) else none := rfl
end Dm
-- text Hw15
namespace Dm
open PySem L2
end Dm
-- text Hw16
namespace Dm
open PySem L2
end Dm
-- text DmStr
namespace Dm
open PySem L2 PySem.Spec PyProof.Rows
/-! ### str of a number -/
end Dm
-- text Hw17
namespace Dm
open PySem L2
end Dm
-- text Hw18
namespace Dm
open PySem L2
end Dm
-- text DmUpper
namespace Dm
open PySem L2 PySem.Spec PyProof.Rows
/-! ### text.upper() -/
end Dm
-- text Hw19
namespace Dm
open PySem L2
end Dm
-- text DmPopE
namespace Dm
open PySem L2 PySem.Spec PyProof.Rows
open PySem.W (Frag)
/-! ### xs.pop() as a value -/
section
variable {X : Cx} {W : WX}
def mPopE (o : ME) : ME := fun ρ S => (o ρ S).bind fun x S1 => match x with
  | .cell n => match S1[n]? with
    | some (.lst ds) => match ds[ds.length - 1]? with
      | some d => .ok d (S1.set n (.lst ds.dropLast))
      | none => .bad
    | _ => .bad
  | _ => .bad
end
section
variable {S : Sto} {ρ : Rho} {Q : D → Sto → Prop} {E : EX}
@[simp] theorem does_popE {o : ME} : (mPopE o ρ S).DoesE E Q = (o ρ S).DoesE E fun x S1 => match x with
    | .cell n => ∃ xs, S1[n]? = some (.lst xs) ∧ ∃ d, xs[xs.length - 1]? = some d ∧ Q d (S1.set n (.lst xs.dropLast))
    | _ => False := by
  unfold mPopE
  rw [does_bind]; congr 1; funext x S1
  cases x with
  | cell n =>
    simp only
    cases q : S1[n]? with
    | none => exact propext ⟨fun h => h.elim, fun ⟨_, h, _⟩ => nomatch h⟩
    | some c =>
      cases c with
      | lst ds =>
        cases hd : ds[ds.length - 1]? with
        | none =>
          simp only
          refine propext ⟨fun h => ?_, fun ⟨xs, h, d, h2, _⟩ => ?_⟩
          · rw [hd] at h; exact h.elim
          · cases h
            rw [hd] at h2
            cases h2
        | some d =>
          simp only
          refine propext ⟨fun h => ?_, fun ⟨xs, h, d', h2, h3⟩ => ?_⟩
          · rw [hd] at h
            exact ⟨ds, rfl, d, hd, h⟩
          · cases h
            rw [hd] at h2
            cases h2
            rw [hd]
            exact h3
      | _ => exact propext ⟨fun h => h.elim, fun ⟨_, h, _⟩ => nomatch h⟩
  | _ => rfl
end
/-! ### d.get(k) -/
end Dm
-- text DmIdx
namespace Dm
open PySem L2 PySem.Spec PyProof.Rows
open PySem.W (Frag)
theorem resMonoI {α : Type} {r : Res α} {E : EX} {Q Q' : α → Sto → Prop} (h : r.DoesE E Q) (hQ : ∀ a S, Q a S → Q' a S) : r.DoesE E Q' := by
  cases r with
  | ok a S => exact hQ _ _ h
  | exc c fs S => exact h
  | bad => exact h
/-! ### xs.index(y), flat items -/
section
variable {X : Cx} {W : WX} {o e : Expr} {mo me : ME} {apos cpos : Pos}
def mIdx (mo me : ME) : ME := fun ρ S => (mo ρ S).bind fun x S1 => match lstOf S1 x with
  | none => .bad
  | some _ => (me ρ S1).bind fun y S2 => match lstOf S2 x with
    | some ds => if flatD y = true ∧ ds.all flatD = true then match ds.findIdx? (eqF · y) with
      | some j => .ok (.int (j : Nat)) S2
      | none => .bad
      else .bad
    | none => .bad
end
section
variable {S : Sto} {ρ : Rho} {Q : D → Sto → Prop} {E : EX}
@[simp] theorem does_idx {o m : ME} : (mIdx o m ρ S).DoesE E Q = (o ρ S).DoesE E fun x S1 => (∃ l, lstOf S1 x = some l) ∧ (m ρ S1).DoesE E fun y S2 => ∃ ds, lstOf S2 x = some ds ∧ (flatD y = true ∧ ds.all flatD = true) ∧ ∃ j, ds.findIdx? (eqF · y) = some j ∧ Q (.int (j : Nat)) S2 := by
  unfold mIdx
  rw [does_bind]; congr 1; funext x S1
  cases q : lstOf S1 x with
  | none => exact propext ⟨fun h => h.elim, fun ⟨⟨_, h⟩, _⟩ => nomatch h⟩
  | some l =>
    simp only
    rw [does_bind]
    refine propext ⟨fun h => ⟨⟨l, rfl⟩, ?_⟩, fun ⟨_, h⟩ => ?_⟩
    · refine resMonoI h fun y S2 h2 => ?_
      cases q1 : lstOf S2 x with
      | none => rw [q1] at h2; exact h2.elim
      | some ds =>
        rw [q1] at h2
        simp only at h2
        by_cases c : flatD y = true ∧ ds.all flatD = true
        · rw [if_pos c] at h2
          cases q2 : ds.findIdx? (eqF · y) with
          | none => rw [q2] at h2; exact h2.elim
          | some j => rw [q2] at h2; exact ⟨ds, rfl, c, j, q2, h2⟩
        · rw [if_neg c] at h2; exact h2.elim
    · refine resMonoI h fun y S2 h2 => ?_
      obtain ⟨ds, q1, c, j, q2, h3⟩ := h2
      rw [q1]
      simp only
      rw [if_pos c, q2]
      exact h3
end
end Dm
-- text DmExt
namespace Dm
open PySem L2
open PySem.W (Frag)
/-! ### xs.extend(a new list) -/
section
variable {X : Cx} {W : WX}
def mExt (o : ME) (nb : MA) : MS := fun ρ S => ofRes (o ρ S) ρ fun x S1 => match x with
  | .cell n => match S1[n]? with
    | some (.lst _) => ofRes (nb ρ S1) ρ fun es S2 => match S2[n]? with
      | some (.lst ds) => if ds.length + es.length ≤ 16777216 then .nx ρ (S2.set n (.lst (ds ++ es))) else .bad
      | _ => .bad
    | _ => .bad
  | _ => .bad
theorem WSL.bind {F : Fx} {E : Ends} {W : WX} {Q1 : VK} {μ : List Addr} {H : Hp} {σ : L2.St} {ρ : Rho} {r : Res (List D)} {f : List D → Sto → Out} (g : RG F μ H σ ρ) (h : WS' F (ofRes r ρ f) E W μ H)
    (k : ∀ ds S1 p xs μ1 H1, Up μ H μ1 H1 → H p = none → RS (F.hold p) μ1 H1 S1 → RDs (F.hold p) μ1 H1 xs ds → H1 p = some (.lst xs) → WS' F (f ds S1) E W μ1 H1 → Q1 (.ref p) H1) : WL' F r Q1 (fun cls dd H' => W cls dd σ H') μ H := by
  cases r with
  | ok x S1 => exact fun p xs μ1 H1 u1 hp s1 r1 e1 => k x S1 p xs μ1 H1 u1 hp s1 r1 e1 (WS'.shift u1 h)
  | exc c fs S => exact fun cls dd μ' H' u' s' x' => h cls dd σ μ' H' u' s' (g.up u') x'
  | bad => exact h
end
section
variable {S : Sto} {ρ : Rho} {N B C : Rho → Sto → Prop} {R : D → Sto → Prop} {EO : EXO}
@[simp] theorem does_ext {o : ME} {nb : MA} : (mExt o nb ρ S).DoesE EO N R B C = (o ρ S).DoesE (eAt EO ρ) fun x S1 => match x with
    | .cell n => (∃ ds0, S1[n]? = some (.lst ds0)) ∧ (nb ρ S1).DoesE (eAt EO ρ) fun es S2 => ∃ ds, S2[n]? = some (.lst ds) ∧ ds.length + es.length ≤ 16777216 ∧ N ρ (S2.set n (.lst (ds ++ es)))
    | _ => False := by
  unfold mExt
  rw [does_ofRes]; congr 1; funext x S1
  cases x with
  | cell n =>
    simp only
    cases e : S1[n]? with
    | none => exact propext ⟨fun h => h.elim, fun ⟨⟨_, h⟩, _⟩ => nomatch h⟩
    | some c =>
      cases c with
      | lst ds0 =>
        simp only
        rw [does_ofRes]
        refine propext ⟨fun h => ⟨⟨ds0, rfl⟩, resMonoI h fun es S2 h2 => ?_⟩, fun ⟨_, h⟩ => resMonoI h fun es S2 h2 => ?_⟩
        · cases q : S2[n]? with
          | none => rw [q] at h2; exact h2.elim
          | some c2 =>
            rw [q] at h2
            cases c2 with
            | lst ds =>
              simp only at h2
              by_cases l : ds.length + es.length ≤ 16777216
              · rw [if_pos l] at h2; exact ⟨ds, rfl, l, h2⟩
              · rw [if_neg l] at h2; exact h2.elim
            | _ => exact h2.elim
        · obtain ⟨ds, q, l, h3⟩ := h2
          rw [q]
          simp only
          rw [if_pos l]
          exact h3
      | _ => exact propext ⟨fun h => h.elim, fun ⟨⟨_, h⟩, _⟩ => nomatch h⟩
  | _ => rfl
end
end Dm
-- text Hw20
namespace Dm
open PySem L2
end Dm
-- text Hw21
namespace Dm
open PySem L2
end Dm
-- text Hw22
namespace Dm
open PySem L2
end Dm
-- text Hw23
namespace Dm
open PySem L2
end Dm
-- text DmEqC
namespace Dm
open PySem L2 PySem.Spec PyProof.Rows
open PySem.W (Frag)
/-! ### == of data that holds cells -/
end Dm
-- text Hw24
namespace Dm
open PySem L2
end Dm
-- text Hw25
namespace Dm
open PySem L2
end Dm
-- text Hw26
namespace Dm
open PySem L2
end Dm
-- text DmSetG
namespace Dm
open PySem L2
open PySem.W (Frag)
/-! ### sets of ints that grow: set(), xs.add(x), sorted(xs) -/
section
variable {X : Cx} {W : WX} {pos p p1 : Pos}
/-- set() -/
def mSNew : ME := fun _ S => .ok (.cell S.length) (S ++ [.set []])
def insS (k : Int) (ns : List Int) : List Int := if k ∈ ns then ns else ns ++ [k]
/-- xs.add(x) -/
def mSAdd (o m : ME) : MS := fun ρ S => ofRes (o ρ S) ρ fun x S1 => match x with
  | .cell n => match S1[n]? with
    | some (.set _) => ofRes (m ρ S1) ρ fun d S2 => match d, S2[n]? with
      | .int k, some (.set ns) => if ns.length ≤ 4000 then .nx ρ (S2.set n (.set (insS k ns))) else .bad
      | _, _ => .bad
    | _ => .bad
  | _ => .bad
/-- sorted(xs), a set -/
def mSortG (m : ME) : MA := fun ρ S => (m ρ S).bind fun d S1 => match d with
  | .cell n => match S1[n]? with
    | some (.set ns) => if ns.length ≤ 4000 then .ok ((uniq ns).map .int) S1 else .bad
    | _ => .bad
  | _ => .bad
end
section
variable {S : Sto} {ρ : Rho} {Q : D → Sto → Prop} {N B C : Rho → Sto → Prop} {R : D → Sto → Prop} {E : EX} {EO : EXO}
@[simp] theorem does_snew : (mSNew ρ S).DoesE E Q = Q (.cell S.length) (S ++ [.set []]) := rfl
@[simp] theorem does_sadd {o m : ME} : (mSAdd o m ρ S).DoesE EO N R B C = (o ρ S).DoesE (eAt EO ρ) fun x S1 => match x with
    | .cell n => (∃ ns0, S1[n]? = some (.set ns0)) ∧ (m ρ S1).DoesE (eAt EO ρ) fun d S2 => ∃ k ns, d = .int k ∧ S2[n]? = some (.set ns) ∧ ns.length ≤ 4000 ∧ N ρ (S2.set n (.set (insS k ns)))
    | _ => False := by
  unfold mSAdd
  rw [does_ofRes]; congr 1; funext x S1
  cases x with
  | cell n =>
    simp only
    cases h : S1[n]? with
    | none => simp [Out.DoesE]
    | some c =>
      cases c with
      | set ns0 =>
        simp only
        rw [does_ofRes]
        simp only [Option.some.injEq, Cell.set.injEq, exists_eq', true_and]
        congr 1; funext d S2
        cases d with
        | int k =>
          cases h2 : S2[n]? with
          | none => simp [Out.DoesE]
          | some c2 =>
            cases c2 with
            | set ns =>
              simp only
              by_cases l : ns.length ≤ 4000
              · rw [if_pos l]; simp [Out.DoesE, l]
              · rw [if_neg l]; simp [Out.DoesE, l]
            | _ => simp [Out.DoesE]
        | _ => simp [Out.DoesE]
      | _ => simp [Out.DoesE]
  | _ => simp [Out.DoesE]
@[simp] theorem does_sortG {m : ME} {Q : List D → Sto → Prop} : (mSortG m ρ S).DoesE E Q = (m ρ S).DoesE E fun d S1 => match d with
    | .cell n => ∃ ns, S1[n]? = some (.set ns) ∧ ns.length ≤ 4000 ∧ Q ((uniq ns).map .int) S1
    | _ => False := by
  unfold mSortG
  rw [does_bind]; congr 1; funext d S1
  cases d with
  | cell n =>
    simp only
    cases h : S1[n]? with
    | none => simp [Res.DoesE]
    | some c =>
      cases c with
      | set ns =>
        simp only
        by_cases l : ns.length ≤ 4000
        · rw [if_pos l]; simp [Res.DoesE, l]
        · rw [if_neg l]; simp [Res.DoesE, l]
      | _ => simp [Res.DoesE]
  | _ => simp [Res.DoesE]
end
end Dm
-- text Hw27
namespace Dm
open PySem L2
end Dm
-- text DmGen1
set_option maxHeartbeats 1000000
/-! ### a for loop in the body of a generator def -/
namespace Dm
open PySem PySem.Spec PyProof.Rows GenW L2
end Dm
-- text DmGen2
set_option maxHeartbeats 1000000
/-! ### generator defs over plain data; list(g(..)) -/
namespace Dm
open PySem L2 PySem.Spec PyProof.Rows GenW
open PySem.W (Frag)
inductive GOut where
  | nx (ys : List D) (ρ : Rho) (S : Sto) | rt (ys : List D) (d : D) (S : Sto) | bk (ys : List D) (ρ : Rho) (S : Sto) | ct (ys : List D) (ρ : Rho) (S : Sto)
  | exc (c : Str) (fs : List (Str × D)) (ρ : Rho) (S : Sto) | bad
def gOf (ys : List D) : Out → GOut
  | .nx ρ S => .nx ys ρ S
  | .rt d S => .rt ys d S
  | .bk ρ S => .bk ys ρ S
  | .ct ρ S => .ct ys ρ S
  | .exc c fs ρ S => .exc c fs ρ S
  | .bad => .bad
def WG' (F : Fx) (r : GOut) (E : GEnds) (W : WX) (μ : List Addr) (H : Hp) : Prop := match r with
  | .nx ys ρ S => ∀ vs σ μ' H', Up μ H μ' H' → RS F μ' H' S → RG F μ' H' σ ρ → RDs F μ' H' vs ys → E.nx vs σ H'
  | .rt ys d S => ∀ vs v μ' H', Up μ H μ' H' → RS F μ' H' S → RD F μ' H' v d → RDs F μ' H' vs ys → E.rt vs v H'
  | .bk ys ρ S => ∀ vs σ μ' H', Up μ H μ' H' → RS F μ' H' S → RG F μ' H' σ ρ → RDs F μ' H' vs ys → E.bk vs σ H'
  | .ct ys ρ S => ∀ vs σ μ' H', Up μ H μ' H' → RS F μ' H' S → RG F μ' H' σ ρ → RDs F μ' H' vs ys → E.ct vs σ H'
  | .exc c fs ρ S => ∀ cls dd σ μ' H', Up μ H μ' H' → RS F μ' H' S → RG F μ' H' σ ρ → XR F μ' H' cls dd c fs → W cls dd σ H'
  | .bad => False
section
variable {F : Fx} {μ μ1 : List Addr} {H H1 : Hp} {E : GEnds} {W : WX}
theorem WG'.shift {r : GOut} (u : Up μ H μ1 H1) (h : WG' F r E W μ H) : WG' F r E W μ1 H1 := by
  cases r with
  | nx ys ρ S => exact fun vs σ μ' H' u' => h vs σ μ' H' (u.trans u')
  | rt ys d S => exact fun vs v μ' H' u' => h vs v μ' H' (u.trans u')
  | bk ys ρ S => exact fun vs σ μ' H' u' => h vs σ μ' H' (u.trans u')
  | ct ys ρ S => exact fun vs σ μ' H' u' => h vs σ μ' H' (u.trans u')
  | exc c fs ρ S => exact fun cls dd σ μ' H' u' => h cls dd σ μ' H' (u.trans u')
  | bad => exact h
theorem WG'.plain {o : Out} {vs : List V} {ys : List D} (r : RDs F μ H vs ys) (h : WG' F (gOf ys o) E W μ H) : WS' F o (E.at vs) W μ H := by
  cases o with
  | nx ρ S => exact fun σ μ' H' u s g => h vs σ μ' H' u s g (r.up u)
  | rt d S => exact fun v μ' H' u s g => h vs v μ' H' u s g (r.up u)
  | bk ρ S => exact fun σ μ' H' u s g => h vs σ μ' H' u s g (r.up u)
  | ct ρ S => exact fun σ μ' H' u s g => h vs σ μ' H' u s g (r.up u)
  | exc c fs ρ S => exact h
  | bad => exact h
end
/-! ### the promise -/
section
variable {P : Program} {w : World} {K : Frag} {mg : Str → Option Value} {base : Heap}
theorem GFn.mono {j k : Nat} {f : Addr} {fd : FuncData} {ps : List Str} {sp : SpG} (F : GFn P w K mg base j f fd ps sp) (h : j ≤ k) : GFn P w K mg base k f fd ps sp := by
  refine ⟨F.len, fun A outer s H args us vs Q E hr he hb hv hs => codeAny_mono (F.run A outer s H args us vs Q E (hr.mono h) he hb hv hs) fun r s' q => ?_⟩
  cases r with
  | error e => exact q
  | ok fl =>
    cases fl with
    | ret u =>
      obtain ⟨a, g, c, h1, h2, h3, h4, h5, h6, h7, h8, h9, wake⟩ := q
      exact ⟨a, g, c, h1, h2, h3, h4, h5, h6, h7, h8, h9, fun A S s2 hr => wake A S s2 (hr.mono h)⟩
    | _ => exact q
end
/-! ### list(g(..)) -/
section
variable {X : Cx} {W : WX} {e : Expr} {es : List Expr} {st : Stmt} {k : Nat} {tg : TGen} {E : L2.St → XK} {mr : MA} {pos p p1 pos' : Pos}
def oneOf {α : Type} (cs : List Str) (r : Res α) : Res α := match r with
  | .exc c fs S => if c ∈ cs then .exc c fs S else .bad
  | r => r
/-- the words: the arguments, then all that is handed out -/
def mListG (cs : List Str) (f : List D → Sto → Res (List D)) (a : MA) : MA := fun ρ S => (a ρ S).bind fun ds S1 => oneOf cs (f ds S1)
end
end Dm
-- text DmGen3
set_option maxHeartbeats 1000000
namespace Dm
open PySem L2 PySem.Spec PyProof.Rows GenW
open PySem.W (Frag)
/-! ### the words -/
section
variable {S : Sto} {ρ : Rho} {E : EX} {EO : EXO}
/-- what is wanted of a generator's statement -/
def GOut.DoesE (o : GOut) (EO : EXO) (N : List D → Rho → Sto → Prop) : Prop := match o with
  | .nx ys ρ S => N ys ρ S
  | .exc c fs ρ S => EO c fs ρ S
  | _ => False
@[simp] theorem listG_does {cs : List Str} {f : List D → Sto → Res (List D)} {a : MA} {Q : List D → Sto → Prop} : (mListG cs f a ρ S).DoesE E Q = (a ρ S).DoesE E fun ds S1 => (oneOf cs (f ds S1)).DoesE E Q := by
  unfold mListG
  rw [does_bind]
end
end Dm
-- text DmGen4
set_option maxHeartbeats 1000000
/-! ### list(g(k = v, ..)) -/
namespace Dm
open PySem L2 PySem.Spec PyProof.Rows GenW
open PySem.W (Frag)
section
variable {X : Cx} {W : WX} {e : Expr} {es : List Expr} {kws : List Keyword} {st : Stmt} {k : Nat} {mr mk : MA} {pos p p1 pos' : Pos}
def mListGK (cs : List Str) (f : List D → Sto → Res (List D)) (q : Nat) (perm : List Nat) (a : MA) : MA := fun ρ S => (a ρ S).bind fun zs S1 => if zs.length = q then oneOf cs (f (perm.filterMap (zs[·]?)) S1) else .bad
@[simp] theorem listGK_does {S : Sto} {ρ : Rho} {E : EX} {cs : List Str} {f : List D → Sto → Res (List D)} {a : MA} {q : Nat} {perm : List Nat} {Q : List D → Sto → Prop} : (mListGK cs f q perm a ρ S).DoesE E Q = (a ρ S).DoesE E fun zs S1 => zs.length = q ∧ (oneOf cs (f (perm.filterMap (zs[·]?)) S1)).DoesE E Q := by
  unfold mListGK
  rw [does_bind]
  congr 1
  funext zs S1
  by_cases c : zs.length = q
  · rw [if_pos c]; simp [c]
  · rw [if_neg c]; simp [c, Res.DoesE]
end
end Dm
-- text Hw28
namespace Dm
open PySem L2
end Dm
-- text DmCnt
namespace Dm
open PySem L2 PySem.Spec PyProof.Rows
open PySem.W (Frag)
/-! ### xs.count(y), flat items -/
section
variable {X : Cx} {W : WX} {o e : Expr} {mo me : ME} {apos cpos : Pos}
def mCnt (mo me : ME) : ME := fun ρ S => (mo ρ S).bind fun x S1 => match lstOf S1 x with
  | none => .bad
  | some _ => (me ρ S1).bind fun y S2 => match lstOf S2 x with
    | some ds => if flatD y = true ∧ ds.all flatD = true then .ok (.int ((ds.countP (eqF · y) : Nat) : Int)) S2 else .bad
    | none => .bad
end
section
variable {S : Sto} {ρ : Rho} {Q : D → Sto → Prop} {E : EX}
@[simp] theorem does_cnt {o m : ME} : (mCnt o m ρ S).DoesE E Q = (o ρ S).DoesE E fun x S1 => (∃ l, lstOf S1 x = some l) ∧ (m ρ S1).DoesE E fun y S2 => ∃ ds, lstOf S2 x = some ds ∧ (flatD y = true ∧ ds.all flatD = true) ∧ Q (.int ((ds.countP (eqF · y) : Nat) : Int)) S2 := by
  unfold mCnt
  rw [does_bind]; congr 1; funext x S1
  cases q : lstOf S1 x with
  | none => exact propext ⟨fun h => h.elim, fun ⟨⟨_, h⟩, _⟩ => nomatch h⟩
  | some l =>
    simp only
    rw [does_bind]
    refine propext ⟨fun h => ⟨⟨l, rfl⟩, ?_⟩, fun ⟨_, h⟩ => ?_⟩
    · refine resMonoI h fun y S2 h2 => ?_
      cases q1 : lstOf S2 x with
      | none => rw [q1] at h2; exact h2.elim
      | some ds =>
        rw [q1] at h2
        simp only at h2
        by_cases c : flatD y = true ∧ ds.all flatD = true
        · rw [if_pos c] at h2
          exact ⟨ds, rfl, c, h2⟩
        · rw [if_neg c] at h2; exact h2.elim
    · refine resMonoI h fun y S2 h2 => ?_
      obtain ⟨ds, q1, c, h3⟩ := h2
      rw [q1]
      simp only
      rw [if_pos c]
      exact h3
end
end Dm
-- text Hw29
namespace Dm
open PySem L2
end Dm
-- text Hw30
namespace Dm
open PySem L2
end Dm
-- text DmSortD
namespace Dm
open PySem L2 PySem.Spec PyProof.Rows
open PySem.W (Frag AllAlike Sortable dataLe dataLt alike alikeAll keyToks keyToksAll EachIs)
/-! ### sorted of nested data (alike, tuples or lists) -/
def rSortedD (K : Frag) : List V → Hp → VK → Prop := fun vs H Q => ∃ (a : Addr) (xs : List V) (bs : List (D × PyData)) (R : V → D × PyData → Prop), vs = [V.ref a] ∧ (SqL K H a xs ∨ SqT K H a xs) ∧ Paired R xs bs ∧ (∀ x b, R x b → Dp K H x b.2 ∧ ∃ t, x = V.ref t) ∧
  AllAlike (bs.map Prod.snd) ∧ Sortable (bs.map Prod.snd) ∧ (∀ b ∈ bs, b.2.depth ≤ 60) ∧
  ∀ ys p, Paired R ys (bs.mergeSort (dataLe false Prod.snd)) → H p = none → Q (.ref p) (upd H p (.lst ys))
section
open PySem.W PySem.Calls
variable {prog : Program} {w : World} {A : Around} {E : Value → Shared → Prop} {s : Shared}
theorem collect_tupleS {l : Addr} {vs : List Value} {Q : List Value → Shared → Prop} (hl : s.heap.IsTuple l vs.toArray)
    (h : Q vs { s with heap := (s.heap.push (seqObj "list" #[] 0)).update s.heap.objs.size (Obj.mapSeq (· ++ vs.toArray)) }) (hsz : vs.length ≤ sizeLine) :
    wpAny (model prog w) A (collect (.ref l)) Q E s := by
  obtain ⟨o, ho, hc, n, hd⟩ := id hl
  unfold collect
  refine wpAny_bind (wpAny_runValue (codeAny_builtin entry_proto_collect' ?_))
  show wpAny _ _ (do again (.builtin "list.__iadd__" ⟨[← newList [], .ref l], []⟩)) _ _ s
  refine wpAny_bind (wpAny_newList (wpAny_pure ⟨Code.quiet_builtin _ (by decide +kernel), codeAny_builtin entry_list_iadd' ?_⟩))
  show wpAny _ _ (Builtin.List.listExtendWith (.ref s.heap.objs.size) (.ref l) (.ref s.heap.objs.size)) _ _ { s with heap := s.heap.push (seqObj "list" #[] 0) }
  unfold Builtin.List.listExtendWith
  have ho' : (s.heap.push (seqObj "list" #[] 0)).get? l = some o := Heap.get?_push_of_some _ ho
  refine wpAny_bind (wpAny_typeOf (T := "tuple") ⟨o, ho', hc⟩ ?_)
  have ht : (Value.type "tuple" == Value.type "tuple") = true := by rfl
  rw [if_pos (by rw [ht]; simp)]
  refine wpAny_bind (listItems_at ho' hd ?_)
  refine wpAny_bind (listItems_at (xs := #[]) (n := 0) (Heap.get?_push_size _ rfl) rfl ?_)
  rw [if_neg (by simp)]
  refine wpAny_bind (listUpdate_at (xs := #[]) (n := 0) (Heap.get?_push_size _ rfl) rfl ?_ (Nat.zero_le _) (by show (#[] ++ vs.toArray).size ≤ sizeLine + 1; simp only [Array.size_append, List.size_toArray, List.length_nil]; omega))
  refine wpAny_pure ?_
  show wpAny (model prog w) A (do
      let o ← load s.heap.objs.size
      match o.data with
      | .seq xs _ => pure xs.toList
      | _ => unsupported "internal:collect") Q E { s with heap := (s.heap.push (seqObj "list" #[] 0)).update s.heap.objs.size (Obj.mapSeq (· ++ vs.toArray)) }
  refine wpAny_bind (wpAny_load (get?_update_seq (Heap.get?_push_size _ rfl) _) ?_)
  show wpAny _ _ (pure ((#[] : Array Value) ++ vs.toArray).toList) Q E _
  rw [show ((#[] : Array Value) ++ vs.toArray).toList = vs by simp]
  exact wpAny_pure h
theorem sorted_tup_sort {l : Addr} {vs : List Value} {Q : Value → Shared → Prop} (hl : s.heap.IsTuple l vs.toArray) (hL : vs.length ≤ sizeLine)
    (body : ∀ E' : Value → Shared → Prop, wpAny (model prog w) A.in1.in1 (Builtin.«list.sort» ⟨[.ref (s.heap.objs.size + 1)], []⟩) (fun f s' => f = .done (.ret .none) ∧ Q (.ref (s.heap.objs.size + 1)) s') E' { s with heap := copyHeap s.heap vs }) :
    wpAny (model prog w) A (call (.builtin "sorted") [.ref l] []) Q E s := by
  refine call_function_entry_kw kind_sorted plain_sorted entry_sorted (args_sorted1 _) ?_
  unfold Builtin.«sorted»
  refine wpAny_bind (m := checkCount "sorted" 1 1 _) (wpAny_pure ?_)
  refine wpAny_bind (collect_tupleS hl ?_ hL)
  refine wpAny_bind (wpAny_newList ?_ hL)
  have hsz : ((s.heap.push (seqObj "list" #[] 0)).update s.heap.objs.size (Obj.mapSeq (· ++ vs.toArray))).objs.size = s.heap.objs.size + 1 := by
    rw [Heap.size_update, size_push']
  show wpAny _ _ _ _ _ { s with heap := copyHeap s.heap vs }
  rw [hsz]
  refine wpAny_bind (wpAny_holding (wpAny_call_entry_kw slot_list_sort ⟨_, copyHeap_at s.heap vs, rfl⟩ entry_list_sort ?body (args_list_sort _)))
  case body =>
    show wpAny (model prog w) A.in1.in1 (Builtin.«list.sort» ⟨[.ref (s.heap.objs.size + 1)], []⟩) _ _ _
    refine wpAny_mono (body _) (fun f s' hf => ?_) fun _ _ e => e
    obtain ⟨rfl, hq⟩ := hf
    exact ⟨_, rfl, wpAny_pure ⟨_, rfl, hq⟩⟩
theorem sorted_tup_data {β : Type} {vs : List Value} {bs : List β} {enc : β → PyData} {R : Value → β → Prop} {l : Addr} {Q : Value → Shared → Prop} (hl : s.heap.IsTuple l vs.toArray) (e : EachIs R vs bs) (er : EachIs (fun v b => ∃ as, Reads s.heap v (enc b) as) vs bs) (hal : AllAlike (bs.map enc)) (hk : Sortable (bs.map enc)) (hL : bs.length ≤ sizeLine)
    (hu : ∀ b, b ∈ bs → A.units + 2 + (enc b).depth < cLine) (h : ∀ out, out.length = bs.length → EachIs R out (bs.mergeSort (dataLe false enc)) → Q (.ref (s.heap.objs.size + 1)) { s with heap := sortedAll s.heap vs (List.toArray out) }) :
    wpAny (model prog w) A (call (.builtin "sorted") [.ref l]) Q E s := by
  have er' : EachIs (fun v b => ∃ as, Reads (sortingHeap (copyHeap s.heap vs) (s.heap.objs.size + 1) vs) v (enc b) as) vs bs := er.mono fun _ _ ⟨as, r⟩ => ⟨as, PyProof.Rows.Reads.keeps (fun _ _ => sorting_copy_old) r⟩
  have hL' : vs.length ≤ sizeLine := by rw [e.length]; exact hL
  have S : SortsAt prog w A.in1.in1 { s with heap := sortingHeap (copyHeap s.heap vs) (s.heap.objs.size + 1) vs } _ vs := SortsAt.data (s := { s with heap := sortingHeap (copyHeap s.heap vs) (s.heap.objs.size + 1) vs }) (each_map (R := fun v d => ∃ as, Reads (sortingHeap (copyHeap s.heap vs) (s.heap.objs.size + 1) vs) v d as) enc er') hal hk (bound_map hu)
  exact sorted_tup_sort hl hL' fun _ => list_sort_vals (s := { s with heap := copyHeap s.heap vs }) (copyHeap_at s.heap vs) S hL' ⟨rfl, h _ (by rw [sortVals_length false rfl]; exact e.length) (sortVals_data false e er' hal)⟩
end
section
variable {X : Cx}
theorem each_of_two {R : V → D × PyData → Prop} (hr : ∀ x b, R x b → ∃ t, x = V.ref t) : ∀ {xs : List V} {us : List Value} {bs : List (D × PyData)}, Paired R xs bs → Vals xs us → EachIs (fun u b => ∃ t, u = Value.ref t ∧ R (.ref t) b) us bs
  | _, _, _, .nil, .nil => .nil
  | _, _, _, .cons a b, .cons c d => by
    obtain ⟨t, rfl⟩ := hr _ _ a
    cases c
    exact .cons ⟨t, rfl, a⟩ (each_of_two hr b d)
theorem back_each {R : V → D × PyData → Prop} : ∀ {us : List Value} {bs : List (D × PyData)}, EachIs (fun u b => ∃ t, u = Value.ref t ∧ R (.ref t) b) us bs → Paired R (us.map backV) bs
  | _, _, .nil => .nil
  | _, _, .cons ⟨t, e, a⟩ b => by
    subst e
    exact .cons a (back_each b)
theorem cr_sortedD (hu : X.A.units + 66 < cLine) : CallR X (.builtin "sorted") (rSortedD X.K) := by
  intro pins s σ H vs us Q I r h
  obtain ⟨a, xs, bs, R, rfl, hs, hp, hR, hal, hk, hd, q⟩ := h
  obtain ⟨u, rfl, ru⟩ := vals1 r
  obtain rfl : u = Value.ref a := ru
  have main : ∀ its : List Value, Vals xs its → its.length ≤ sizeLine → EachIs (fun u b => ∃ t, u = Value.ref t ∧ R (.ref t) b) its bs ∧ EachIs (fun v b => ∃ as, Reads s.heap v b.2 as) its bs ∧ its.length = bs.length ∧
      ∀ out : List Value, out.length = bs.length → EachIs (fun u b => ∃ t, u = Value.ref t ∧ R (.ref t) b) out (bs.mergeSort (dataLe false Prod.snd)) → EP X pins σ Q (.ref (s.heap.objs.size + 1)) { s with heap := sortedAll s.heap its out.toArray } := by
    intro its rv hz
    have e := each_of_two (fun x b h => (hR x b h).2) hp rv
    have er : EachIs (fun v b => ∃ as, Reads s.heap v b.2 as) its bs := e.mono fun u b ⟨t, e1, e2⟩ => by
      subst e1
      exact Dp.reads I b.2 (.ref t) (.ref t) (hR _ _ e2).1 rfl
    have lb : its.length = bs.length := e.length
    refine ⟨e, er, lb, fun out hlen ho => ?_⟩
    have h3 : ∀ u ∈ out, ∃ a, u = Value.ref a := fun u hu => by
      obtain ⟨b, _, t, e1, _⟩ := ho.left u hu
      exact ⟨t, e1⟩
    have kp : ∀ b o, s.heap.get? b = some o → (sortedAll s.heap its out.toArray).get? b = some o := fun b o e => sortedAll_old e
    obtain ⟨n, hn⟩ := sortedAll_at s.heap its out.toArray
    refine ⟨.ref _, upd H _ (.lst (out.map backV)), I.laid (t' := s.toks) kp (Nat.le_succ _) ⟨?_, out, n, vals_back h3, hn⟩, rfl, q _ _ (back_each ho) (I.hok.fresh (Nat.le_succ _))⟩
    rw [List.length_map, hlen, ← lb]
    exact hz
  rcases hs with hs | hs
  · obtain ⟨its, rv, hl, hz⟩ := I.list hs
    have hz' : its.length ≤ sizeLine := by rw [← rv.length]; exact hz
    obtain ⟨e, er, lb, k⟩ := main its rv hz'
    exact PySem.W.sorted_data (enc := Prod.snd) hl.isList e er hal hk (by rw [← lb]; exact hz') (fun b hb => by have := hd b hb; omega) k
  · obtain ⟨its, rv, hl, hz⟩ := I.tuple hs
    have hz' : its.length ≤ sizeLine := by rw [← rv.length]; exact hz
    obtain ⟨e, er, lb, k⟩ := main its rv hz'
    obtain ⟨o, ho, hc, n, hd2⟩ := hl
    exact sorted_tup_data (enc := Prod.snd) ⟨o, ho, hc, n, hd2⟩ e er hal hk (by rw [← lb]; exact hz') (fun b hb => by have := hd b hb; omega) k
def okS (ps : List PyData) : Prop := AllAlike ps ∧ Sortable ps ∧ (∀ p ∈ ps, p.depth ≤ 60) ∧ ∀ p ∈ ps, (∃ l, p = .tuple l) ∨ ∃ l, p = .list l
def srtD (es : List D) (ps : List PyData) : List D := ((es.zip ps).mergeSort (dataLe false Prod.snd)).map Prod.fst
open Classical in
noncomputable def gSortD : Sto → List D → Option (List D) := fun S ds => match ds with
  | [d] => (seqOf S d).bind fun es => (toPysC S es).bind fun ps => if okS ps then some (srtD es ps) else none
  | _ => none
theorem toPysC_len {S : Sto} : ∀ {es : List D} {ps : List PyData}, toPysC S es = some ps → es.length = ps.length
  | [], ps, e => by cases e; rfl
  | d :: es, ps, e => by
    unfold toPysC at e
    cases q : toPyC S d with
    | none => rw [q] at e; exact nomatch e
    | some p =>
      rw [q] at e
      cases q' : toPysC S es with
      | none => rw [q'] at e; exact nomatch e
      | some ps' =>
        rw [q'] at e; cases e
        rw [List.length_cons, List.length_cons, toPysC_len q']
theorem pair_rds {F : Fx} {μ : List Addr} {H : Hp} {S : Sto} (s : RS F μ H S) : ∀ {vs : List V} {es : List D} {ps : List PyData}, RDs F μ H vs es → toPysC S es = some ps →
    Paired (fun v b => RD F μ H v b.1 ∧ toPyC S b.1 = some b.2) vs (es.zip ps)
  | _, [], ps, r, e => by cases r; cases e; exact .nil
  | _, d :: es, ps, r, e => by
    cases r with
    | cons a b =>
      unfold toPysC at e
      cases q : toPyC S d with
      | none => rw [q] at e; exact nomatch e
      | some p =>
        rw [q] at e
        cases q' : toPysC S es with
        | none => rw [q'] at e; exact nomatch e
        | some ps' =>
          rw [q'] at e; cases e
          exact .cons ⟨a, q⟩ (pair_rds s b q')
theorem rds_of_pair {F : Fx} {μ : List Addr} {H : Hp} {P : V → D × PyData → Prop} (h : ∀ v b, P v b → RD F μ H v b.1) : ∀ {vs : List V} {bs : List (D × PyData)}, Paired P vs bs → RDs F μ H vs (bs.map Prod.fst)
  | _, _, .nil => .nil
  | _, _, .cons a b => .cons (h _ _ a) (rds_of_pair h b)
theorem ref_of_seq {S : Sto} {F : Fx} {μ : List Addr} {H : Hp} {v : V} {d : D} {p : PyData} (r : RD F μ H v d) (e : toPyC S d = some p) (h : (∃ l, p = .tuple l) ∨ ∃ l, p = .list l) : ∃ t, v = V.ref t := by
  cases r with
  | non => unfold toPyC at e; cases e; rcases h with ⟨l, h⟩ | ⟨l, h⟩ <;> cases h
  | bl b => unfold toPyC at e; cases e; rcases h with ⟨l, h⟩ | ⟨l, h⟩ <;> cases h
  | int i => unfold toPyC at e; cases e; rcases h with ⟨l, h⟩ | ⟨l, h⟩ <;> cases h
  | str x => unfold toPyC at e; cases e; rcases h with ⟨l, h⟩ | ⟨l, h⟩ <;> cases h
  | _ => exact ⟨_, rfl⟩
theorem seq_of {S : Sto} {F : Fx} {μ : List Addr} {H : Hp} (s : RS F μ H S) {v : V} {d : D} {es : List D} (r : RD F μ H v d) (q : seqOf S d = some es) : ∃ (a : Addr) (xs : List V), v = .ref a ∧ (SqL F.K H a xs ∨ SqT F.K H a xs) ∧ RDs F μ H xs es := by
  cases d with
  | tup ds =>
    cases q
    cases r with
    | tup f rr => exact ⟨_, _, rfl, .inr f.sq, rr⟩
  | _ =>
    obtain ⟨a, xs, e, h1, h2⟩ := RD.lstS s r (by simpa [seqOf] using q)
    exact ⟨a, xs, e, .inl h1, h2⟩
theorem paired_and {α β : Type} {P : α → β → Prop} {Q : β → Prop} : ∀ {xs : List α} {bs : List β}, Paired P xs bs → (∀ b ∈ bs, Q b) → Paired (fun v b => P v b ∧ Q b) xs bs
  | _, _, .nil, _ => .nil
  | _, _, .cons a b, h => .cons ⟨a, h _ List.mem_cons_self⟩ (paired_and b fun c hc => h c (List.mem_cons_of_mem _ hc))
theorem c_sortD : CallDL X (rSortedD X.K) gSortD := by
  intro ξ μ H S ds vs z Q s r e k
  unfold gSortD at e
  cases r with
  | nil => exact nomatch e
  | @cons v vs d ds r rr =>
    cases rr with
    | cons _ _ => exact nomatch e
    | nil =>
      simp only at e
      cases q : seqOf S d with
      | none => rw [q] at e; exact nomatch e
      | some es =>
        rw [q] at e
        simp only [Option.bind_some] at e
        obtain ⟨a, xs, rfl, h5, h6⟩ : ∃ (a : Addr) (xs : List V), v = .ref a ∧ (SqL (fx X ξ).K H a xs ∨ SqT (fx X ξ).K H a xs) ∧ RDs (fx X ξ) μ H xs es := seq_of s r q
        cases qp : toPysC S es with
        | none => rw [qp] at e; exact nomatch e
        | some ps =>
          rw [qp] at e
          simp only [Option.bind_some] at e
          split at e
          · rename_i hok
            cases e
            obtain ⟨h1, h2, h3, h4⟩ := hok
            have hl := toPysC_len qp
            have es2 : (es.zip ps).map Prod.snd = ps := List.map_snd_zip (by omega)
            refine ⟨a, xs, es.zip ps, fun v b => (RD (fx X ξ) μ H v b.1 ∧ toPyC S b.1 = some b.2) ∧ b.2 ∈ ps, rfl, h5, ?_, fun x b hx => ?_, by rw [es2]; exact h1, by rw [es2]; exact h2, fun b hb => h3 b.2 (List.of_mem_zip hb).2, fun ys l hy hl2 => ?_⟩
            · have := pair_rds s h6 qp
              exact paired_and this fun b hb => (List.of_mem_zip hb).2
            · obtain ⟨⟨hx1, hx2⟩, hx3⟩ := hx
              exact ⟨dpC_of s b.1 hx1 hx2, ref_of_seq hx1 hx2 (h4 _ hx3)⟩
            · have hr := rds_of_pair (F := fx X ξ) (μ := μ) (H := H) (fun v b (h : (RD (fx X ξ) μ H v b.1 ∧ toPyC S b.1 = some b.2) ∧ b.2 ∈ ps) => h.1.1) hy
              exact k l _ μ _ (.fresh hl2) hl2 (s.holds hl2) (hr.mv (.holds hl2)) upd_same
          · exact nomatch e
end
/-! ### the sorted list, plain -/
theorem lt_irr (x : PyData) : dataLt x x = false := PyProof.Rows.lex_irrefl _
mutual
theorem eqv_eq : ∀ (x y : PyData), alike x y = true → PyData.eqv x y = true → x = y
  | .none, y, h, e => by
    cases y with
    | none => rfl
    | _ => exact absurd h (by simp [alike])
  | .bool a, y, h, e => by
    cases y with
    | bool b =>
      have e' : a = b := by simpa [PyData.eqv] using e
      rw [e']
    | _ => exact absurd h (by simp [alike])
  | .int a, y, h, e => by
    cases y with
    | int b =>
      have e' : a = b := by simpa [PyData.eqv] using e
      rw [e']
    | _ => exact absurd h (by simp [alike])
  | .str a, y, h, e => by
    cases y with
    | str b =>
      have e' : a = b := by simpa [PyData.eqv] using e
      rw [e']
    | _ => exact absurd h (by simp [alike])
  | .list xs, y, h, e => by
    cases y with
    | list ys =>
      rw [eqvAll_eq xs ys (by simpa [alike] using h) (by simpa [PyData.eqv] using e)]
    | _ => exact absurd h (by simp [alike])
  | .tuple xs, y, h, e => by
    cases y with
    | tuple ys =>
      rw [eqvAll_eq xs ys (by simpa [alike] using h) (by simpa [PyData.eqv] using e)]
    | _ => exact absurd h (by simp [alike])
  | .dict _, y, h, _ => absurd h (by cases y <;> simp [alike])
theorem eqvAll_eq : ∀ (xs ys : List PyData), alikeAll xs ys = true → PyData.eqvAll xs ys = true → xs = ys
  | [], [], _, _ => rfl
  | [], y :: ys, _, e => by simp [PyData.eqvAll] at e
  | x :: xs, [], _, e => by simp [PyData.eqvAll] at e
  | x :: xs, y :: ys, h, e => by
    obtain ⟨h1, h2⟩ := PySem.W.alike_all_cons h
    rw [PySem.W.eqv_all_cons, Bool.and_eq_true] at e
    rw [eqv_eq x y h1 e.1, eqvAll_eq xs ys h2 e.2]
end
theorem toks_eq {x y : PyData} (h : alike x y = true) (e : keyToks x = keyToks y) : x = y := by
  refine eqv_eq x y h ?_
  cases q : PyData.eqv x y with
  | true => rfl
  | false =>
    have h2 := (PySem.W.toks_eqv x y h).2 q [.inl 0] [.inl 1]
    rw [e, PySem.W.lex_pre] at h2
    have h3 : PyProof.Rows.lexLt PyProof.Rows.itemOrd (keyToks y) (keyToks y) = false := lt_irr y
    rw [h3] at h2
    exact absurd h2 (by decide)
theorem le_anti {x y : PyData} (h : alike x y = true) (h1 : dataLe false id x y = true) (h2 : dataLe false id y x = true) : x = y := by
  refine toks_eq h ?_
  have a1 : PyProof.Rows.lexLt PyProof.Rows.itemOrd (keyToks y) (keyToks x) = false := by
    have : (!PyProof.Rows.lexLt PyProof.Rows.itemOrd (keyToks y) (keyToks x)) = true := h1
    simpa using this
  have a2 : PyProof.Rows.lexLt PyProof.Rows.itemOrd (keyToks x) (keyToks y) = false := by
    have : (!PyProof.Rows.lexLt PyProof.Rows.itemOrd (keyToks x) (keyToks y)) = true := h2
    simpa using this
  exact (PyProof.Rows.listOrd PyProof.Rows.itemOrd).total _ _ a2 a1
theorem gSortD_some {S : Sto} {d : D} {es : List D} {ps : List PyData} (h : seqOf S d = some es) (h2 : toPysC S es = some ps) (ok : okS ps) : gSortD S [d] = some (srtD es ps) := by
  show (seqOf S d).bind _ = _
  rw [h]
  simp only [Option.bind_some]
  rw [h2]
  simp only [Option.bind_some]
  rw [if_pos ok]
end Dm
-- text Hw31
namespace Dm
open PySem L2
end Dm
-- text DmNewK
/-! ### type.__call__ on an own error class, keywords too -/
namespace PySem
end PySem
namespace Dm
open PySem L2 PySem.Spec PyProof.Rows
open PySem.W (Frag)
/-! ### X(k = v, ..) of an own class with its own __init__ -/
def mNewXK (c : Str) (ns : List Str) (q : Nat) (perm : List Nat) (ma : MA) : ME := fun ρ S => (ma ρ S).bind fun zs S1 => if zs.length = q then (if (perm.filterMap (zs[·]?)).length = ns.length then .ok (.exn c (newFs ns (perm.filterMap (zs[·]?)))) S1 else .bad) else .bad
section
variable {S : Sto} {ρ : Rho} {E : EX} {Q : D → Sto → Prop}
@[simp] theorem does_newXK {c : Str} {ns : List Str} {q : Nat} {perm : List Nat} {ma : MA} : (mNewXK c ns q perm ma ρ S).DoesE E Q = (ma ρ S).DoesE E fun zs S1 => zs.length = q ∧ (perm.filterMap (zs[·]?)).length = ns.length ∧ Q (.exn c (newFs ns (perm.filterMap (zs[·]?)))) S1 := by
  unfold mNewXK
  rw [does_bind]; congr 1; funext zs S1
  by_cases h : zs.length = q
  · rw [if_pos h]
    by_cases h2 : (perm.filterMap (zs[·]?)).length = ns.length
    · rw [if_pos h2]; simp [h, h2]
    · rw [if_neg h2]; simp [h, h2, Res.DoesE]
  · rw [if_neg h]; simp [h, Res.DoesE]
end
/-! ### X(m), m any value -/
def mNewV (c : Str) (me : ME) : ME := fun ρ S => (me ρ S).bind fun _ S1 => .ok (.exn c []) S1
section
variable {S : Sto} {ρ : Rho} {E : EX} {Q : D → Sto → Prop}
@[simp] theorem does_newV {c : Str} {m : ME} : (mNewV c m ρ S).DoesE E Q = (m ρ S).DoesE E fun _ S1 => Q (.exn c []) S1 := by
  unfold mNewV
  rw [does_bind]; rfl
end
/-! ### isinstance(e, T), T a built-in error class -/
end Dm
-- text Hw32
namespace Dm
open PySem L2
end Dm
-- text DmTxt
namespace Dm
open PySem L2 PySem.Spec PyProof.Rows
open PySem.W (Frag)
/-! ### texts: join, split, isdigit, removeprefix, str, int -/
def strsOf : List D → Option (List Str)
  | [] => some []
  | .str x :: ds => (strsOf ds).map (x :: ·)
  | _ :: _ => none
@[simp] theorem strsOf_map {ns : List Str} : strsOf (ns.map .str) = some ns := by
  induction ns with
  | nil => rfl
  | cons n ns ih => rw [List.map_cons]; show (strsOf _).map _ = _; rw [ih] <;> rfl
def joinFit (a : Str) (ys : List Str) : Prop := (ys.map (·.length)).sum + ys.length * a.length ≤ 16777216
instance {a : Str} {ys : List Str} : Decidable (joinFit a ys) := inferInstanceAs (Decidable (_ ≤ _))
/-- o.join(e), o a text, e texts -/
def mJoin (mo me : ME) : ME := fun ρ S => (mo ρ S).bind fun x S1 => match x with
  | .str a => (me ρ S1).bind fun y S2 => match (seqOf S2 y).bind strsOf with
    | some ys => if joinFit a ys then .ok (.str (Txt.join a ys)) S2 else .bad
    | none => .bad
  | _ => .bad
/-- o.split(e) -/
def mSplit (mo me : ME) : MA := fun ρ S => (mo ρ S).bind fun x S1 => match x with
  | .str a => (me ρ S1).bind fun y S2 => match y with
    | .str b => if (b.length == 0) = false ∧ a.length + 2 ≤ sizeLine then .ok ((Txt.split a b).map .str) S2 else .bad
    | _ => .bad
  | _ => .bad
/-- o.removeprefix(e) -/
def mRmPre (mo me : ME) : ME := fun ρ S => (mo ρ S).bind fun x S1 => match x with
  | .str a => (me ρ S1).bind fun y S2 => match y with
    | .str b => if a.length ≤ sizeLine then .ok (.str (Txt.removeprefix a b)) S2 else .bad
    | _ => .bad
  | _ => .bad
section
variable {S : Sto} {ρ : Rho} {E : EX} {mo me : ME}
@[simp] theorem does_join {Q : D → Sto → Prop} : (mJoin mo me ρ S).DoesE E Q = (mo ρ S).DoesE E fun x S1 => match x with
  | .str a => (me ρ S1).DoesE E fun y S2 => match (seqOf S2 y).bind strsOf with
    | some ys => joinFit a ys ∧ Q (.str (Txt.join a ys)) S2
    | none => False
  | _ => False := by
  unfold mJoin
  rw [does_bind]; congr 1; funext x S1
  cases x with
  | str a =>
    simp only
    rw [does_bind]; congr 1; funext y S2
    cases (seqOf S2 y).bind strsOf with
    | none => rfl
    | some ys =>
      simp only
      by_cases c : joinFit a ys
      · rw [if_pos c]; simp [c]
      · rw [if_neg c]; simp [c, Res.DoesE]
  | _ => rfl
@[simp] theorem does_split {Q : List D → Sto → Prop} : (mSplit mo me ρ S).DoesE E Q = (mo ρ S).DoesE E fun x S1 => match x with
  | .str a => (me ρ S1).DoesE E fun y S2 => match y with
    | .str b => ((b.length == 0) = false ∧ a.length + 2 ≤ sizeLine) ∧ Q ((Txt.split a b).map .str) S2
    | _ => False
  | _ => False := by
  unfold mSplit
  rw [does_bind]; congr 1; funext x S1
  cases x with
  | str a =>
    simp only
    rw [does_bind]; congr 1; funext y S2
    cases y with
    | str b =>
      simp only
      by_cases c : (b.length == 0) = false ∧ a.length + 2 ≤ sizeLine
      · rw [if_pos c]; simp [c]
      · rw [if_neg c]
        have : ((b.length == 0) = false ∧ a.length + 2 ≤ sizeLine) = False := eq_false c
        simp only [this, false_and]; rfl
    | _ => rfl
  | _ => rfl
@[simp] theorem does_rmpre {Q : D → Sto → Prop} : (mRmPre mo me ρ S).DoesE E Q = (mo ρ S).DoesE E fun x S1 => match x with
  | .str a => (me ρ S1).DoesE E fun y S2 => match y with
    | .str b => a.length ≤ sizeLine ∧ Q (.str (Txt.removeprefix a b)) S2
    | _ => False
  | _ => False := by
  unfold mRmPre
  rw [does_bind]; congr 1; funext x S1
  cases x with
  | str a =>
    simp only
    rw [does_bind]; congr 1; funext y S2
    cases y with
    | str b =>
      simp only
      by_cases c : a.length ≤ sizeLine
      · rw [if_pos c]; simp [c]
      · rw [if_neg c]
        have : (a.length ≤ sizeLine) = False := eq_false c
        simp only [this, false_and]; rfl
    | _ => rfl
  | _ => rfl
end
end Dm
-- text Hw33
namespace Dm
open PySem L2
end Dm
-- text Hw34
namespace Dm
open PySem L2
end Dm
-- text DmTxt2
namespace Dm
open PySem L2 PySem.Spec PyProof.Rows
open PySem.W (Frag)
/-! ### texts: each sign of one, a sign in one, one times a number -/
def chr1 (c : Nat) : Str := ⟨#[c]⟩
def chrsD (x : Str) : List D := x.cps.toList.map fun c => D.str (chr1 c)
/-- over the signs of a text -/
def iChr (m : ME) : MA := fun ρ S => (m ρ S).bind fun d S1 => match d with
  | .str x => if x.length ≤ 16777216 then .ok (chrsD x) S1 else .bad
  | _ => .bad
section
variable {S : Sto} {ρ : Rho} {E : EX} {Q : List D → Sto → Prop}
@[simp] theorem does_chr {m : ME} : (iChr m ρ S).DoesE E Q = (m ρ S).DoesE E fun d S1 => match d with
    | .str x => x.length ≤ 16777216 ∧ Q (chrsD x) S1
    | _ => False := by
  unfold iChr
  rw [does_bind]; congr 1; funext d S1
  cases d with
  | str x =>
    simp only
    by_cases c : x.length ≤ 16777216
    · rw [if_pos c]; simp [c]
    · rw [if_neg c]; simp [c, Res.DoesE]
  | _ => rfl
end
end Dm
-- text Hw35
namespace Dm
open PySem L2
end Dm
-- text Hw36
namespace Dm
open PySem L2
end Dm
-- text Hw37
namespace Dm
open PySem L2
end Dm
-- text Hw38
namespace Dm
open PySem L2
end Dm
-- text DmObj
/-! Instances of own classes: a cell with fields. -/
namespace Dm
open PySem L2 PySem.Spec PyProof.Rows
open PySem.W (Frag)
/-! ### fields -/
def putFD (f : Str) (y : D) : List (Str × D) → List (Str × D)
  | [] => [(f, y)]
  | (g, x) :: r => if g = f then (g, y) :: r else (g, x) :: putFD f y r
/-- in each of these classes the name is no attribute of the class -/
structure FldOk (K : Frag) (mg : Str → Option Value) (cs : List Str) (f : Str) : Prop where
  ex : ∀ c, c ∈ cs → mg c = none ∨ ∃ C : Addr, mg c = some (.ref C) ∧ Cls K C ∧ NoAttr K C f
theorem FldOk.at {K : Frag} {mg : Str → Option Value} {cs : List Str} {f c : Str} {C : Addr} (T : FldOk K mg cs f) (hc : c ∈ cs) (e : mg c = some (.ref C)) : Cls K C ∧ NoAttr K C f := by
  rcases T.ex c hc with z | ⟨C', k1, k2, k3⟩
  · rw [e] at z; cases z
  · have z := k1.symm.trans e
    cases z
    exact ⟨k2, k3⟩
def mSetF (cs : List Str) (f : Str) (m o : ME) : MS := fun ρ S => ofRes (m ρ S) ρ fun y S1 => ofRes (o ρ S1) ρ fun x S2 => match x with
  | .cell n => match S2[n]? with
    | some (.obj c fs) => if c ∈ cs ∧ fs.length < 1000 then .nx ρ (S2.set n (.obj c (putFD f y fs))) else .bad
    | _ => .bad
  | _ => .bad
/-! ### defs within a class -/
structure FnQ (P : Program) (w : World) (K : Frag) (mg : Str → Option Value) (base : Heap) (k : Nat) (nm qual : Str) (st : Stmt) (f : Addr) (ps : List Str) (m : List D → Sto → Res D) : Prop where
  ex : ∃ fd, Fun K nm qual st f fd ∧ Binds K fd ps [] ∧ FnOk P w K mg base (L2.CX P w) k f fd ps (spD w K mg m)
section
variable {P : Program} {w : World} {K : Frag} {mg : Str → Option Value} {base : Heap}
theorem FnQ.mono {j k : Nat} {nm qual : Str} {st : Stmt} {f : Addr} {ps : List Str} {m : List D → Sto → Res D} (F : FnQ P w K mg base j nm qual st f ps m) (h : j ≤ k) : FnQ P w K mg base k nm qual st f ps m :=
  let ⟨fd, a, b, c⟩ := F; ⟨fd, a, b, c.mono h⟩
end
/-! ### methods: by the instance's class -/
abbrev MTb := List (Str × (List D → Sto → Res D))
/-- of the instance at x: the def of its class -/
def defOf (tb : MTb) (m : Str) (S : Sto) (x : D) : Option (List D → Sto → Res D) := match x with
  | .cell n => match S[n]? with
    | some (.obj c fs) => if fs.lookup m = none then tb.lookup c else none
    | _ => none
  | _ => none
instance {fs : List (Str × D)} {m : Str} : Decidable (fs.lookup m = none) := match h : fs.lookup m with
  | none => isTrue rfl
  | some _ => isFalse (fun e => nomatch e)
def mMeth (tb : MTb) (m : Str) (o : ME) (a : MA) : ME := fun ρ S => (o ρ S).bind fun x S1 => match defOf tb m S1 x with
  | some f => (a ρ S1).bind fun ds S2 => f (x :: ds) S2
  | none => .bad
def mMethK (tb : MTb) (m : Str) (q : Nat) (perm : List Nat) (o : ME) (a : MA) : ME := fun ρ S => (o ρ S).bind fun x S1 => match defOf tb m S1 x with
  | some f => (a ρ S1).bind fun ds S2 => if ds.length = q then f (perm.filterMap ((x :: ds)[·]?)) S2 else .bad
  | none => .bad
/-! with keywords -/
end Dm
-- text DmObj2
/-! Instances of own classes: making one, properties, len, [], in; a def reached by the class's name. -/
namespace Dm
open PySem L2 PySem.Spec PyProof.Rows
open PySem.W (Frag)
/-! ### C(..) -/
def mMake (c : Str) (f : List D → Sto → Res D) (n q : Nat) (perm : List Nat) (dd : List D) (a k : MA) : ME := fun ρ S => (a ρ S).bind fun xs S1 => (k ρ S1).bind fun zs S2 => if xs.length = n ∧ zs.length = q then
    (f (perm.filterMap ((.cell S2.length :: (xs ++ zs ++ dd))[·]?)) (S2 ++ [.obj c []])).bind fun d S3 => match d with
      | .non => .ok (.cell S2.length) S3
      | _ => .bad
  else .bad
/-! ### where nothing may be raised -/
def noX {α : Type} (r : Res α) : Res α := match r with
  | .ok d S => .ok d S
  | _ => .bad
/-! ### e.p, a property -/
def clsOf (tb : MTb) (S : Sto) (x : D) : Option (List D → Sto → Res D) := match x with
  | .cell n => match S[n]? with
    | some (.obj c _) => tb.lookup c
    | _ => none
  | _ => none
def mProp (tb : MTb) (o : ME) : ME := fun ρ S => (o ρ S).bind fun x S1 => match clsOf tb S1 x with
  | some f => noX (f [x] S1)
  | none => .bad
section
variable {X : Cx} {W : WX} {e o : Expr} {mo ma mb : ME} {pos p : Pos} {tb : MTb} {j k : Nat}
/-! ### len, in, [] -/
def mLenO (tb : MTb) (o : ME) : ME := fun ρ S => (o ρ S).bind fun x S1 => match defOf tb "__len__" S1 x with
  | some f => (noX (f [x] S1)).bind fun d S2 => match d with
    | .int i => if 0 ≤ i ∧ i < 9223372036854775808 then .ok (.int i) S2 else .bad
    | _ => .bad
  | none => .bad
/-- y in x, x an instance -/
def mInO (neg : Bool) (tb : MTb) (a b : ME) : ME := fun ρ S => (a ρ S).bind fun y S1 => (b ρ S1).bind fun x S2 => match defOf tb "__contains__" S2 x with
  | some f => (noX (f [x, y] S2)).bind fun d S3 => match d with
    | .bl k => .ok (.bl (neg ^^ k)) S3
    | _ => .bad
  | none => .bad
variable {a b : Expr}
/-- x[y] -/
def mIxO (tb : MTb) (a b : ME) : ME := fun ρ S => (a ρ S).bind fun x S1 => (b ρ S1).bind fun y S2 => match defOf tb "__getitem__" S2 x with
  | some f => f [x, y] S2
  | none => .bad
end
/-! ### C.m(x, ..): a def by its class -/
end Dm
-- text DmSet2D
/-! d[k], e[l] = a pair -/
namespace Dm
open PySem L2 PySem.Spec PyProof.Rows
open PySem.W (Frag)
end Dm
-- text DmIn3
namespace Dm
open PySem L2 PySem.Spec PyProof.Rows
open PySem.W (Frag)
/-! ### x in a tuple of nested plain data -/
end Dm
-- text Hw39
namespace Dm
open PySem L2
end Dm
-- text Hw40
namespace Dm
open PySem L2
end Dm
-- text Hw41
namespace Dm
open PySem L2
end Dm
-- text DmBackV
/-! x[::e], a list, e = 1 or -1. -/
namespace Dm
open PySem L2 PySem.Spec PyProof.Rows
section
variable {X : Cx} {W : WX} {e b : Expr} {m k : ME} {te tk : TE} {p3 pos : Pos}
def mBackV (m k : ME) : ME := fun ρ S => (m ρ S).bind fun x S1 => (k ρ S1).bind fun y S2 => match lstOf S2 x, y with
  | some ds, .int j => if j = 1 then .ok (.lst ds) S2 else if j = -1 then .ok (.lst ds.reverse) S2 else .bad
  | _, _ => .bad
end
section
variable {S : Sto} {ρ : Rho} {Q : D → Sto → Prop} {E : EX} {EO : EXO}
@[simp] theorem does_backV {m k : ME} : (mBackV m k ρ S).DoesE E Q = (m ρ S).DoesE E fun x S1 => (k ρ S1).DoesE E fun y S2 => match lstOf S2 x, y with
    | some ds, .int j => j = 1 ∧ Q (.lst ds) S2 ∨ j = -1 ∧ Q (.lst ds.reverse) S2
    | _, _ => False := by
  unfold mBackV
  rw [does_bind]; congr 1; funext x S1
  rw [does_bind]; congr 1; funext y S2
  cases lstOf S2 x with
  | none => simp [Res.DoesE]
  | some ds =>
    cases y with
    | int j =>
      simp only
      by_cases j1 : j = 1
      · subst j1; simp
      · by_cases j2 : j = -1
        · subst j2; simp
        · simp [j1, j2, Res.DoesE]
    | _ => simp [Res.DoesE]
end
end Dm
-- text DmObjW
namespace Dm
open PySem L2
section
variable {S : Sto} {ρ : Rho} {Q : D → Sto → Prop} {E : EX} {EO : EXO} {N B C : Rho → Sto → Prop} {R : D → Sto → Prop} {cs : List Str} {f m : Str} {tb : MTb}
@[simp] theorem does_setF {v o : ME} : (mSetF cs f v o ρ S).DoesE EO N R B C = (v ρ S).DoesE (eAt EO ρ) fun y S1 => (o ρ S1).DoesE (eAt EO ρ) fun x S2 => match x with
    | .cell n => ∃ c fs, S2[n]? = some (.obj c fs) ∧ (c ∈ cs ∧ fs.length < 1000) ∧ N ρ (S2.set n (.obj c (putFD f y fs)))
    | _ => False := by
  unfold mSetF
  rw [does_ofRes]; congr 1; funext y S1
  rw [does_ofRes]; congr 1; funext x S2
  cases x with
  | cell n =>
    simp only
    cases e : S2[n]? with
    | none => simp [Out.DoesE]
    | some cc =>
      cases cc with
      | obj c fs =>
        simp only
        by_cases h : c ∈ cs ∧ fs.length < 1000
        · rw [if_pos h]
          refine propext ⟨fun z => ⟨c, fs, rfl, h, z⟩, fun ⟨c', fs', e', _, z⟩ => ?_⟩
          cases e'
          exact z
        · rw [if_neg h]
          refine propext ⟨fun z => z.elim, fun ⟨c', fs', e', h', z⟩ => ?_⟩
          cases e'
          exact (h h').elim
      | _ => simp [Out.DoesE]
  | _ => rfl
@[simp] theorem does_meth {o : ME} {a : MA} : (mMeth tb m o a ρ S).DoesE E Q = (o ρ S).DoesE E fun x S1 => ∃ g, defOf tb m S1 x = some g ∧ (a ρ S1).DoesE E fun ds S2 => (g (x :: ds) S2).DoesE E Q := by
  unfold mMeth
  rw [does_bind]; congr 1; funext x S1
  cases e : defOf tb m S1 x with
  | none => exact propext ⟨fun z => z.elim, fun ⟨_, z, _⟩ => nomatch z⟩
  | some g =>
    simp only
    rw [does_bind]
    refine propext ⟨fun z => ⟨g, rfl, z⟩, fun ⟨g', e', z⟩ => ?_⟩
    cases e'
    exact z
@[simp] theorem does_methK {q : Nat} {perm : List Nat} {o : ME} {a : MA} : (mMethK tb m q perm o a ρ S).DoesE E Q = (o ρ S).DoesE E fun x S1 => ∃ g, defOf tb m S1 x = some g ∧ (a ρ S1).DoesE E fun ds S2 => ds.length = q ∧ (g (perm.filterMap ((x :: ds)[·]?)) S2).DoesE E Q := by
  unfold mMethK
  rw [does_bind]; congr 1; funext x S1
  cases e : defOf tb m S1 x with
  | none => exact propext ⟨fun z => z.elim, fun ⟨_, z, _⟩ => nomatch z⟩
  | some g =>
    simp only
    rw [does_bind]
    have ee : ∀ ds S2, (if ds.length = q then g (perm.filterMap ((x :: ds)[·]?)) S2 else Res.bad).DoesE E Q = (ds.length = q ∧ (g (perm.filterMap ((x :: ds)[·]?)) S2).DoesE E Q) := fun ds S2 => by
      by_cases h : ds.length = q
      · rw [if_pos h]; simp [h]
      · rw [if_neg h]; simp [h, Res.DoesE]
    refine propext ⟨fun z => ⟨g, rfl, ?_⟩, fun ⟨g', e', z⟩ => ?_⟩
    · exact Res.DoesE.mono z fun ds S2 h => Eq.mp (ee ds S2) h
    · cases e'
      exact Res.DoesE.mono z fun ds S2 h => Eq.mpr (ee ds S2) h
@[simp] theorem does_make {c : Str} {g : List D → Sto → Res D} {n q : Nat} {perm : List Nat} {dd : List D} {a k : MA} : (mMake c g n q perm dd a k ρ S).DoesE E Q = (a ρ S).DoesE E fun xs S1 => (k ρ S1).DoesE E fun zs S2 => (xs.length = n ∧ zs.length = q) ∧
    (g (perm.filterMap ((.cell S2.length :: (xs ++ zs ++ dd))[·]?)) (S2 ++ [.obj c []])).DoesE E fun d S3 => d = .non ∧ Q (.cell S2.length) S3 := by
  unfold mMake
  rw [does_bind]; congr 1; funext xs S1
  rw [does_bind]; congr 1; funext zs S2
  by_cases h : xs.length = n ∧ zs.length = q
  · rw [if_pos h, does_bind]
    simp only [h, and_self, true_and]
    congr 1; funext d S3
    cases d <;> simp [Res.DoesE]
  · rw [if_neg h]; simp [h, Res.DoesE]
theorem noX_does {r : Res D} : (noX r).DoesE E Q = r.Does Q := by
  cases r <;> rfl
@[simp] theorem does_prop {o : ME} : (mProp tb o ρ S).DoesE E Q = (o ρ S).DoesE E fun x S1 => ∃ g, clsOf tb S1 x = some g ∧ (g [x] S1).Does Q := by
  unfold mProp
  rw [does_bind]; congr 1; funext x S1
  cases e : clsOf tb S1 x with
  | none => exact propext ⟨fun z => z.elim, fun ⟨_, z, _⟩ => nomatch z⟩
  | some g =>
    simp only
    rw [noX_does]
    refine propext ⟨fun z => ⟨g, rfl, z⟩, fun ⟨g', e', z⟩ => ?_⟩
    cases e'
    exact z
@[simp] theorem does_lenO {o : ME} : (mLenO tb o ρ S).DoesE E Q = (o ρ S).DoesE E fun x S1 => ∃ g, defOf tb "__len__" S1 x = some g ∧ (g [x] S1).Does fun d S2 => ∃ i : Int, d = .int i ∧ (0 ≤ i ∧ i < 9223372036854775808) ∧ Q (.int i) S2 := by
  unfold mLenO
  rw [does_bind]; congr 1; funext x S1
  cases e : defOf tb "__len__" S1 x with
  | none => exact propext ⟨fun z => z.elim, fun ⟨_, z, _⟩ => nomatch z⟩
  | some g =>
    simp only
    rw [does_bind, noX_does]
    have ee : ∀ (d : D) (S2 : Sto), (match d with | .int i => if 0 ≤ i ∧ i < 9223372036854775808 then Res.ok (.int i) S2 else .bad | _ => .bad : Res D).DoesE E Q = (∃ i : Int, d = .int i ∧ (0 ≤ i ∧ i < 9223372036854775808) ∧ Q (.int i) S2) := fun d S2 => by
      cases d with
      | int i =>
        simp only
        by_cases h : 0 ≤ i ∧ i < 9223372036854775808
        · rw [if_pos h]; exact propext ⟨fun z => ⟨i, rfl, h, z⟩, fun ⟨j, ej, _, z⟩ => by cases ej; exact z⟩
        · rw [if_neg h]; exact propext ⟨fun z => z.elim, fun ⟨j, ej, h', z⟩ => by cases ej; exact (h h').elim⟩
      | _ => exact propext ⟨fun z => z.elim, fun ⟨j, ej, _⟩ => nomatch ej⟩
    refine propext ⟨fun z => ⟨g, rfl, ?_⟩, fun ⟨g', e', z⟩ => ?_⟩
    · exact Res.DoesE.mono z fun d S2 h => Eq.mp (ee d S2) h
    · cases e'
      exact Res.DoesE.mono z fun d S2 h => Eq.mpr (ee d S2) h
@[simp] theorem does_inO {neg : Bool} {a b : ME} : (mInO neg tb a b ρ S).DoesE E Q = (a ρ S).DoesE E fun y S1 => (b ρ S1).DoesE E fun x S2 => ∃ g, defOf tb "__contains__" S2 x = some g ∧ (g [x, y] S2).Does fun d S3 => ∃ k : Bool, d = .bl k ∧ Q (.bl (neg ^^ k)) S3 := by
  unfold mInO
  rw [does_bind]; congr 1; funext y S1
  rw [does_bind]; congr 1; funext x S2
  cases e : defOf tb "__contains__" S2 x with
  | none => exact propext ⟨fun z => z.elim, fun ⟨_, z, _⟩ => nomatch z⟩
  | some g =>
    simp only
    rw [does_bind, noX_does]
    have ee : ∀ (d : D) (S3 : Sto), (match d with | .bl k => Res.ok (.bl (neg ^^ k)) S3 | _ => .bad : Res D).DoesE E Q = (∃ k : Bool, d = .bl k ∧ Q (.bl (neg ^^ k)) S3) := fun d S3 => by
      cases d with
      | bl k => exact propext ⟨fun z => ⟨k, rfl, z⟩, fun ⟨j, ej, z⟩ => by cases ej; exact z⟩
      | _ => exact propext ⟨fun z => z.elim, fun ⟨j, ej, _⟩ => nomatch ej⟩
    refine propext ⟨fun z => ⟨g, rfl, ?_⟩, fun ⟨g', e', z⟩ => ?_⟩
    · exact Res.DoesE.mono z fun d S2 h => Eq.mp (ee d S2) h
    · cases e'
      exact Res.DoesE.mono z fun d S2 h => Eq.mpr (ee d S2) h
@[simp] theorem does_ixO {a b : ME} : (mIxO tb a b ρ S).DoesE E Q = (a ρ S).DoesE E fun x S1 => (b ρ S1).DoesE E fun y S2 => ∃ g, defOf tb "__getitem__" S2 x = some g ∧ (g [x, y] S2).DoesE E Q := by
  unfold mIxO
  rw [does_bind]; congr 1; funext x S1
  rw [does_bind]; congr 1; funext y S2
  cases e : defOf tb "__getitem__" S2 x with
  | none => exact propext ⟨fun z => z.elim, fun ⟨_, z, _⟩ => nomatch z⟩
  | some g =>
    simp only
    refine propext ⟨fun z => ⟨g, rfl, z⟩, fun ⟨g', e', z⟩ => ?_⟩
    cases e'
    exact z
end
end Dm
-- text DmObj3
/-! isinstance of instances of own classes; x == y by an own __eq__. -/
namespace Dm
open PySem L2 PySem.Spec PyProof.Rows
open PySem.W (Frag)
/-! ### isinstance(x, C) -/
/-! ### x == y, two instances of one class -/
def sameCls (S : Sto) : D → D → Bool
  | .cell n, .cell k => match S[n]?, S[k]? with
    | some (.obj c _), some (.obj c' _) => c == c'
    | _, _ => false
  | _, _ => false
def mEqO (tb : MTb) (a b : ME) : ME := fun ρ S => (a ρ S).bind fun x S1 => (b ρ S1).bind fun y S2 => match defOf tb "__eq__" S2 x, sameCls S2 x y with
  | some f, true => (noX (f [x, y] S2)).bind fun d S3 => match d with
    | .bl k => .ok (.bl k) S3
    | _ => .bad
  | _, _ => .bad
section
variable {S : Sto} {ρ : Rho} {Q : D → Sto → Prop} {E : EX} {EO : EXO} {tb : MTb}
@[simp] theorem does_eqO {a b : ME} : (mEqO tb a b ρ S).DoesE E Q = (a ρ S).DoesE E fun x S1 => (b ρ S1).DoesE E fun y S2 => ∃ g, (defOf tb "__eq__" S2 x = some g ∧ sameCls S2 x y = true) ∧ (g [x, y] S2).Does fun d S3 => ∃ k : Bool, d = .bl k ∧ Q (.bl k) S3 := by
  unfold mEqO
  rw [does_bind]; congr 1; funext x S1
  rw [does_bind]; congr 1; funext y S2
  cases e : defOf tb "__eq__" S2 x with
  | none => exact propext ⟨fun z => z.elim, fun ⟨_, ⟨z, _⟩, _⟩ => nomatch z⟩
  | some g =>
    cases e2 : sameCls S2 x y with
    | false => exact propext ⟨fun z => z.elim, fun ⟨_, ⟨_, z⟩, _⟩ => nomatch z⟩
    | true =>
      simp only
      rw [does_bind, noX_does]
      have ee : ∀ (d : D) (S3 : Sto), (match d with | .bl k => Res.ok (.bl k) S3 | _ => .bad : Res D).DoesE E Q = (∃ k : Bool, d = .bl k ∧ Q (.bl k) S3) := fun d S3 => by
        cases d with
        | bl k => exact propext ⟨fun z => ⟨k, rfl, z⟩, fun ⟨j, ej, z⟩ => by cases ej; exact z⟩
        | _ => exact propext ⟨fun z => z.elim, fun ⟨j, ej, _⟩ => nomatch ej⟩
      refine propext ⟨fun z => ⟨g, by simp, ?_⟩, fun ⟨g', ⟨e', _⟩, z⟩ => ?_⟩
      · exact Res.DoesE.mono z fun d S3 h => Eq.mp (ee d S3) h
      · cases e'
        exact Res.DoesE.mono z fun d S3 h => Eq.mpr (ee d S3) h
end
end Dm
-- text Hw42
namespace Dm
open PySem L2
end Dm
-- text Hw43
namespace Dm
open PySem L2
end Dm
-- text Hw44
namespace Dm
open PySem L2
end Dm
-- text DmObjOr
/-! x | y by an own __or__, the class of y below that of x. -/
namespace Dm
open PySem L2 PySem.Spec PyProof.Rows
open PySem.W (Frag Looks InstAt findIn findCls readsIn typeIn subIn)
end Dm
namespace Dm
open PySem L2 PySem.Spec PyProof.Rows
open PySem.W (Frag)
def mOrO (tb : MTb) (a b : ME) : ME := fun ρ S => (a ρ S).bind fun x S1 => (b ρ S1).bind fun y S2 => match defOf tb "__or__" S2 x, defOf tb "__or__" S2 y with
  | some f, some _ => f [x, y] S2
  | _, _ => .bad
section
variable {S : Sto} {ρ : Rho} {Q : D → Sto → Prop} {E : EX} {EO : EXO} {tb : MTb}
@[simp] theorem does_orO {a b : ME} : (mOrO tb a b ρ S).DoesE E Q = (a ρ S).DoesE E fun x S1 => (b ρ S1).DoesE E fun y S2 => ∃ g, (defOf tb "__or__" S2 x = some g ∧ (∃ g', defOf tb "__or__" S2 y = some g')) ∧ (g [x, y] S2).DoesE E Q := by
  unfold mOrO
  rw [does_bind]; congr 1; funext x S1
  rw [does_bind]; congr 1; funext y S2
  cases e : defOf tb "__or__" S2 x with
  | none => exact propext ⟨fun z => z.elim, fun ⟨_, ⟨z, _⟩, _⟩ => nomatch z⟩
  | some g =>
    cases e2 : defOf tb "__or__" S2 y with
    | none => exact propext ⟨fun z => z.elim, fun ⟨_, ⟨_, _, z⟩, _⟩ => nomatch z⟩
    | some g' => exact propext ⟨fun z => ⟨g, ⟨rfl, g', rfl⟩, z⟩, fun ⟨g0, ⟨e0, _⟩, z⟩ => by cases e0; exact z⟩
end
end Dm
-- text Hw45
namespace Dm
open PySem L2
end Dm
-- text DmObjAny
/-! x | y by an own __or__, y of any kind; isinstance(y, C), y of any kind. -/
namespace Dm
open PySem L2 PySem.Spec PyProof.Rows
open PySem.W (Frag Looks InstAt findIn subIn clsIn)
def okR (tb : MTb) (ecs : List Str) (S : Sto) (y : D) : Bool := match y with
  | .exn c _ => decide (c ∈ ecs)
  | .glo _ => false
  | .cell n => (defOf tb "__or__" S (.cell n)).isSome
  | _ => true
def mOrA (tb : MTb) (ecs : List Str) (a b : ME) : ME := fun ρ S => (a ρ S).bind fun x S1 => (b ρ S1).bind fun y S2 => match defOf tb "__or__" S2 x with
  | some f => if okR tb ecs S2 y = true then f [x, y] S2 else .bad
  | none => .bad
section
variable {S : Sto} {ρ : Rho} {Q : D → Sto → Prop} {E : EX} {EO : EXO} {tb : MTb} {ecs : List Str}
@[simp] theorem does_orA {a b : ME} : (mOrA tb ecs a b ρ S).DoesE E Q = (a ρ S).DoesE E fun x S1 => (b ρ S1).DoesE E fun y S2 => ∃ g, (defOf tb "__or__" S2 x = some g ∧ okR tb ecs S2 y = true) ∧ (g [x, y] S2).DoesE E Q := by
  unfold mOrA
  rw [does_bind]; congr 1; funext x S1
  rw [does_bind]; congr 1; funext y S2
  cases e : defOf tb "__or__" S2 x with
  | none => exact propext ⟨fun z => z.elim, fun ⟨_, ⟨z, _⟩, _⟩ => nomatch z⟩
  | some g =>
    by_cases e2 : okR tb ecs S2 y = true
    · simp only [if_pos e2]
      exact propext ⟨fun z => ⟨g, ⟨rfl, e2⟩, z⟩, fun ⟨g0, ⟨e0, _⟩, z⟩ => by cases e0; exact z⟩
    · simp only [if_neg e2]
      exact propext ⟨fun z => z.elim, fun ⟨_, ⟨_, z⟩, _⟩ => absurd z e2⟩
end
/-! ### isinstance(y, C), y of any kind -/
end Dm
-- text Hw46
namespace Dm
open PySem L2
end Dm
-- text DmObjEq
/-! x == y by an own __eq__, y of any kind; where y's class is below x's, y is asked first. -/
namespace Dm
open PySem L2 PySem.Spec PyProof.Rows
open PySem.W (Frag Looks InstAt findIn subIn clsIn)
def okQ (tb : MTb) (ecs : List Str) (S : Sto) (y : D) : Bool := match y with
  | .exn c _ => decide (c ∈ ecs)
  | .glo _ => false
  | .cell n => (defOf tb "__eq__" S (.cell n)).isSome
  | _ => true
/-- the class of an object -/
def clsD (S : Sto) (x : D) : Option Str := match x with
  | .cell n => match S[n]? with
    | some (.obj c _) => some c
    | _ => none
  | _ => none
def lowD (lo : List (Str × Str)) (S : Sto) (x y : D) : Bool := match clsD S x, clsD S y with
  | some c, some c' => decide ((c', c) ∈ lo)
  | _, _ => false
def mEqA (tb : MTb) (lo : List (Str × Str)) (ecs : List Str) (a b : ME) : ME := fun ρ S => (a ρ S).bind fun x S1 => (b ρ S1).bind fun y S2 => match defOf tb "__eq__" S2 x with
  | some f => if okQ tb ecs S2 y = true then (if lowD lo S2 x y = true then (match defOf tb "__eq__" S2 y with | some f' => f' [y, x] S2 | none => .bad) else f [x, y] S2) else .bad
  | none => .bad
section
variable {S : Sto} {ρ : Rho} {Q : D → Sto → Prop} {E : EX} {EO : EXO} {tb : MTb} {lo : List (Str × Str)} {ecs : List Str}
@[simp] theorem does_eqA {a b : ME} : (mEqA tb lo ecs a b ρ S).DoesE E Q = (a ρ S).DoesE E fun x S1 => (b ρ S1).DoesE E fun y S2 => ∃ g, (defOf tb "__eq__" S2 x = some g ∧ okQ tb ecs S2 y = true) ∧
    ((lowD lo S2 x y = false ∧ (g [x, y] S2).DoesE E Q) ∨ (lowD lo S2 x y = true ∧ ∃ g', defOf tb "__eq__" S2 y = some g' ∧ (g' [y, x] S2).DoesE E Q)) := by
  unfold mEqA
  rw [does_bind]; congr 1; funext x S1
  rw [does_bind]; congr 1; funext y S2
  cases e : defOf tb "__eq__" S2 x with
  | none => exact propext ⟨fun z => z.elim, fun ⟨_, ⟨z, _⟩, _⟩ => nomatch z⟩
  | some g =>
    by_cases e2 : okQ tb ecs S2 y = true
    · simp only [if_pos e2]
      cases e3 : lowD lo S2 x y with
      | false =>
        simp only [Bool.false_eq_true, if_false]
        exact propext ⟨fun z => ⟨g, ⟨rfl, e2⟩, .inl ⟨True.intro, z⟩⟩, fun ⟨g0, ⟨e0, _⟩, z⟩ => by cases e0; exact z.elim (·.2) fun z => (nomatch z.1)⟩
      | true =>
        simp only [if_true]
        cases e4 : defOf tb "__eq__" S2 y with
        | none => exact propext ⟨fun z => z.elim, fun ⟨g0, _, z⟩ => z.elim (fun z => nomatch z.1) fun ⟨_, _, z, _⟩ => nomatch z⟩
        | some g' => exact propext ⟨fun z => ⟨g, ⟨rfl, e2⟩, .inr ⟨True.intro, g', rfl, z⟩⟩, fun ⟨g0, _, z⟩ => z.elim (fun z => nomatch z.1) fun ⟨_, g1, z, q⟩ => by cases z; exact q⟩
    · simp only [if_neg e2]
      exact propext ⟨fun z => z.elim, fun ⟨_, ⟨_, z⟩, _⟩ => absurd z e2⟩
end
end Dm
-- text Hw47
namespace Dm
open PySem L2
end Dm
-- text DmFStr
/-! f-strings of texts and ints; a star in a tuple or list display. -/
namespace Dm
open PySem L2 PySem.Spec PyProof.Rows
open PySem.W (Frag)
def gFmt : Sto → D → Option D := fun _ d => match d with
  | .str y => if y.length ≤ 16777216 then some (.str y) else none
  | .int i => if i.natAbs.log2 < 1920 then some (.str (toString i)) else none
  | _ => none
def jsD : List ME → Str → ME
  | [], acc => fun _ S => .ok (.str acc) S
  | m :: ms, acc => fun ρ S => (m ρ S).bind fun x S1 => match x with
    | .str y => if (acc ++ y).length ≤ 16777216 then jsD ms (acc ++ y) ρ S1 else .bad
    | _ => .bad
def mStar (m : ME) (r : MA) : MA := fun ρ S => (m ρ S).bind fun x S1 => match seqOf S1 x with
  | some ds => (r ρ S1).bind fun xs S2 => .ok (ds ++ xs) S2
  | none => .bad
section
variable {S : Sto} {ρ : Rho} {E : EX}
@[simp] theorem gFmt_str {y : Str} : gFmt S (.str y) = if y.length ≤ 16777216 then some (.str y) else none := rfl
@[simp] theorem gFmt_int {i : Int} : gFmt S (.int i) = if i.natAbs.log2 < 1920 then some (.str (toString i)) else none := rfl
@[simp] theorem does_js_nil {acc : Str} {Q : D → Sto → Prop} : (jsD [] acc ρ S).DoesE E Q = Q (.str acc) S := rfl
@[simp] theorem does_js_cons {m : ME} {ms : List ME} {acc : Str} {Q : D → Sto → Prop} : (jsD (m :: ms) acc ρ S).DoesE E Q = (m ρ S).DoesE E fun x S1 => match x with
    | .str y => (acc ++ y).length ≤ 16777216 ∧ (jsD ms (acc ++ y) ρ S1).DoesE E Q
    | _ => False := by
  rw [jsD, does_bind]
  congr 1; funext x S1
  cases x with
  | str y =>
    by_cases c : (acc ++ y).length ≤ 16777216
    · show (if _ then _ else _ : Res D).DoesE E Q = (_ ∧ _)
      rw [if_pos c]
      exact propext ⟨fun z => ⟨c, z⟩, fun z => z.2⟩
    · show (if _ then _ else _ : Res D).DoesE E Q = (_ ∧ _)
      rw [if_neg c]
      exact propext ⟨fun z => z.elim, fun z => absurd z.1 c⟩
  | _ => rfl
@[simp] theorem does_star {m : ME} {r : MA} {Q : List D → Sto → Prop} : (mStar m r ρ S).DoesE E Q = (m ρ S).DoesE E fun x S1 => match seqOf S1 x with
    | some ds => (r ρ S1).DoesE E fun xs S2 => Q (ds ++ xs) S2
    | none => False := by
  unfold mStar
  rw [does_bind]
  congr 1; funext x S1
  cases seqOf S1 x with
  | none => rfl
  | some ds =>
    simp only
    rw [does_bind]; rfl
end
end Dm
-- text Hw48
namespace Dm
open PySem L2
end Dm
-- text Hw49
namespace Dm
open PySem L2
end Dm
-- text DmIdxT
namespace Dm
open PySem L2 PySem.Spec PyProof.Rows
open PySem.W (Frag)
/-! ### t.index(y), a tuple's items data of any depth -/
def rIndexT (K : Frag) : V → List V → Hp → VK → Prop := fun x xs H Q => ∃ (a : Addr) (y : V) (d : PyData) (ds : List PyData) (j : Nat) (z : PyData), x = V.ref a ∧ xs = [y] ∧ Dp K H (V.ref a) (.tuple ds) ∧ Dp K H y d ∧
  SeqAt.shaped (.tuple ds) = true ∧ SeqAt.shaped d = true ∧ ds[j]? = some z ∧ PyData.eqv z d = true ∧ (∀ (m : Nat) (z' : PyData), m < j → ds[m]? = some z' → PyData.eqv z' d = false) ∧ Q (.int (j : Nat)) H
section
variable {X : Cx} {W : WX} {o e : Expr} {mo me : ME} {apos cpos : Pos}
theorem mt_indexT (hu : X.A.units + 65 < cLine) : MtR X "tuple.index" (rIndexT X.K) := by
  intro pins s σ H x xs v us Q I rx rxs h
  obtain ⟨a, y, d, ds, j, z, rfl, rfl, hl, hy, sl, sd, hz, hzj, hno, q⟩ := h
  cases rx
  cases rxs with
  | cons ry rt =>
    rename_i uy ut
    cases rt
    obtain ⟨bs, r1⟩ := Dp.reads I d y uy hy ry
    have hxs : PyData.canLayAll0 ds = true := SeqAt.canLay_of_shaped sl
    have hroom : X.A.units + 1 + min (PyData.depthAll ds) d.depth < cLine := room_in_shaped sd hu
    cases hl with
    | tup hs ha =>
      obtain ⟨its, rv, pl, hz2⟩ := I.tuple hs
      obtain ⟨⟨cls, dd, dt, sls⟩, ho, hc, n, hd⟩ := pl
      simp only at hc hd
      subst hc
      subst hd
      obtain ⟨as, h4⟩ := Dp.readsAll I ds _ its ha rv
      have hn : its.length = ds.length := SeqAt.ReadsAll.length ds its as h4
      have hmap : its.map (SeqAt.readOf s.heap) = ds := SeqAt.readsAll_map ds its as hxs h4
      obtain ⟨hjd, _⟩ := List.getElem?_eq_some_iff.mp hz
      have hjl : j < its.length := by omega
      have hj : j < its.toArray.size := by simpa using hjl
      have at_ : ∀ (m : Nat) (hm : m < its.toArray.size) (z' : PyData), ds[m]? = some z' → SeqAt.readOf s.heap its.toArray[m] = z' := by
        intro m hm z' hz'
        have hml : m < its.length := by simpa using hm
        rw [← hmap, List.getElem?_map, List.getElem?_eq_getElem hml] at hz'
        have e1 : SeqAt.readOf s.heap its[m] = z' := Option.some.inj (show some (SeqAt.readOf s.heap its[m]) = some z' from hz')
        simpa using e1
      refine call_meets PySem.F.slot_tuple_index ⟨_, ho, rfl⟩ PySem.F.entry_tuple_index (PySem.F.args_tuple_index_2 _ _)
        (TI.tuple_indexAt a its.toArray n dd sls uy (fun u => PyData.eqv (SeqAt.readOf s.heap u) d) j hj ?_ ?_) ⟨ho, SeqAt.items_eqAt (vs := its.toArray) (show ReadsAll s.heap its.toArray.toList ds as from h4) r1 hxs (SeqAt.canLay_of_shaped sd) hroom, ?_⟩
      · show PyData.eqv (SeqAt.readOf s.heap its.toArray[j]) d = true
        rw [at_ j hj z hz]
        exact hzj
      · intro m hm hmj
        have hmd : m < ds.length := by omega
        have hz' : ds[m]? = some ds[m] := List.getElem?_eq_getElem hmd
        show PyData.eqv (SeqAt.readOf s.heap its.toArray[m]) d = false
        rw [at_ m hm _ hz']
        exact hno m _ hmj hz'
      · exact ⟨.int (j : Nat), H, I.tok _, ⟨_, rfl⟩, q⟩
end
end Dm
-- text DmIdx3
namespace Dm
open PySem L2 PySem.Spec PyProof.Rows
open PySem.W (Frag)
/-! ### t.index(y) of a tuple made at run time (or written) -/
def TupM (K : Frag) (x : V) (H : Hp) : Prop := ∃ p, x = .ref p ∧ ((∃ (ob : Obj) (xs : List V), ob.dict = none ∧ H p = some (.frz ob (.tup xs))) ∨ ∃ o, K.lookup p = some o ∧ o.cls = .type "tuple" ∧ o.dict = none)
theorem FzT.tm {F : Fx} {μ : List Addr} {H : Hp} {p : Addr} {xs : List V} (h : FzT F μ H p xs) : TupM F.K (.ref p) H := ⟨p, rfl, h.imp (fun ⟨⟨o, d, e⟩, _⟩ => ⟨o, xs, d, e⟩) (fun ⟨o, _, _, e1, e2, e3, _⟩ => ⟨o, e1, e2, e3⟩)⟩
section
variable {X : Cx}
theorem tupM_is {pins : List (Addr × Obj)} {σ : L2.St} {H : Hp} {s : Shared} {x : V} {v : Value} (I : Inv X pins σ H s) (r : RelV x v) (ty : TupM X.K x H) :
    s.TypeIs v "tuple" ∧ ∀ a, v = .ref a → ∃ ob, s.heap.get? a = some ob ∧ ob.dict = none := by
  obtain ⟨p, rfl, h⟩ := ty
  cases r
  rcases h with ⟨ob, xs, d, e⟩ | ⟨o, hk, hc, hd⟩
  · obtain ⟨its, _, pl, _⟩ := I.tuple (.inl (.inr ⟨ob, e⟩))
    obtain ⟨o2, e2, c2, n, d2⟩ := pl
    have e3 : s.heap.get? p = some ob := (I.hok p _ e).1
    have : o2 = ob := Option.some.inj (e2.symm.trans e3)
    subst this
    refine ⟨⟨o2, e2, c2⟩, fun a ea => ?_⟩
    cases ea
    exact ⟨o2, e2, d⟩
  · refine ⟨⟨o, I.kIn p o hk, hc⟩, fun a e => ?_⟩
    cases e
    exact ⟨o, I.kIn _ o hk, hd⟩
def tBMT (K : Frag) (r : V → List V → Hp → VK → Prop) (to : TE) (t : TA) : TE := fun σ H Q => to σ H fun x H1 => TupM K x H1 ∧ t σ H1 fun xs H2 => r x xs H2 Q
variable {o e : Expr} {es : List Expr} {to : TE} {t : TA} {name : Str} {apos cpos : Pos} {id : String} {r : V → List V → Hp → VK → Prop}
theorem pe_bmT (pa : PlainAttrs "tuple") (slot : Slot "tuple" name id) (hty : typeOf (.builtin id) = pure (.type "method_descriptor")) (hm : MtR X id r) (ho : PE X o to) (ha : PA X (e :: es) t)
    (hbase : attributeBase o name X.env (eval o X.env) = eval o X.env := by rfl)
    (hfew : ((backTo cpos (starEach (e :: es) X.env)).all (fun x => !x.1) && (backToKw cpos (keywordEach [] X.env)).all (fun x => x.1.isSome)
      && decide ((e :: es).length + ([] : List Keyword).length + (if ([] : List Keyword).isEmpty then 0 else 1) < 30)) = true := by rfl)
    (hline : (apos.endLine == cpos.line) = true := by rfl) (hs : starEach (e :: es) X.env = (false, eval e X.env) :: starEach es X.env := by rfl) (hplain : (backTo cpos (starEach es X.env)).any (·.1) = false := by rfl) :
    PE X (.Call (.Attribute o name apos) (e :: es) [] cpos) (tBMT X.K r to t) := by
  refine ⟨fun pins s σ H Q I h => ?_⟩
  refine wpAny_Call_method_late hbase hfew hline rfl (thn (ho.run pins s σ H _ I h) fun v s1 ⟨x, H1, I1, r1, ty, q1⟩ => ?_)
  obtain ⟨h1, h2⟩ := tupM_is I1 r1 ty
  refine ⟨"tuple", id, pa, slot, hty, h1, h2, ?_⟩
  have hA := ha.run cpos pins s1 σ H1 _ I1 q1
  rw [hs] at hA ⊢
  refine Calls.callWith_builtin (by show (false || (backTo cpos (starEach es X.env)).any (·.1)) = false; rw [hplain] <;> rfl) (Calls.evalArgs_plain ?_)
  exact thn hA fun us s2 ⟨vs, H2, I2, r2, q2⟩ => hm pins s2 σ H2 x vs v us Q I2 r1 r2 q2
end
/-- the first place of an item like y -/
def ixT (S : Sto) (x y : D) : Option Nat := match toPyS S x, toPyS S y with
  | some (.tuple ds), some d => if SeqAt.shaped (.tuple ds) = true ∧ SeqAt.shaped d = true then ds.findIdx? (PyData.eqv · d) else none
  | _, _ => none
def mIdxT (mo me : ME) : ME := fun ρ S => (mo ρ S).bind fun x S1 => match x with
  | .tup _ => (me ρ S1).bind fun y S2 => match ixT S2 x y with
    | some j => .ok (.int (j : Nat)) S2
    | none => .bad
  | _ => .bad
section
variable {X : Cx} {W : WX} {o e : Expr} {mo me : ME} {apos cpos : Pos}
theorem d_idxT (hu : X.A.units + 66 < cLine) (ho : DE X W o mo) (he : DE X W e me) (hbase : attributeBase o "index" X.env (eval o X.env) = eval o X.env := by rfl)
    (hfew : ((backTo cpos (starEach (e :: []) X.env)).all (fun x => !x.1) && (backToKw cpos (keywordEach [] X.env)).all (fun x => x.1.isSome)
      && decide ((e :: ([] : List Expr)).length + ([] : List Keyword).length + (if ([] : List Keyword).isEmpty then 0 else 1) < 30)) = true := by rfl)
    (hline : (apos.endLine == cpos.line) = true := by rfl) (hs : starEach (e :: []) X.env = (false, eval e X.env) :: starEach [] X.env := by rfl) (hplain : (backTo cpos (starEach [] X.env)).any (·.1) = false := by rfl) :
    DE X W (.Call (.Attribute o "index" apos) [e] [] cpos) (mIdxT mo me) := by
  obtain ⟨to, po, ko⟩ := ho
  obtain ⟨te, pe, ke⟩ := he
  refine ⟨_, pe_bmT PySem.F.plainAttrs_tuple PySem.F.slot_tuple_index PySem.F.type_tuple_index (mt_indexT (by omega)) po (pa_cons pe pa_nil hs) hbase hfew hline hs hplain, fun ξ μ σ H ρ S Q g s h => ko ξ μ σ H ρ S _ g s (WR.bind h fun x S1 v μ1 H1 u1 s1 r1 w1 => ?_)⟩
  cases x with
  | tup ds0 =>
    simp only at w1
    cases r1 with
    | @tup a xs _ f rs =>
      refine ⟨f.tm, ke ξ μ1 σ H1 ρ S1 _ (g.up u1) s1 (WR.bind w1 fun y S2 w μ2 H2 u2 s2 r2 w2 => ?_)⟩
      cases q1 : ixT S2 (.tup ds0) y with
      | none => rw [q1] at w2; exact w2.elim
      | some j =>
        rw [q1] at w2
        unfold ixT at q1
        cases t1 : toPyS S2 (.tup ds0) with
        | none => rw [t1] at q1; exact nomatch q1
        | some p1 =>
          cases t2 : toPyS S2 y with
          | none =>
            rw [t1, t2] at q1
            cases p1 <;> exact nomatch q1
          | some d =>
            rw [t1, t2] at q1
            cases p1 with
            | tuple ds =>
              simp only at q1
              by_cases c : SeqAt.shaped (.tuple ds) = true ∧ SeqAt.shaped d = true
              · rw [if_pos c] at q1
                obtain ⟨hj, hp, hno⟩ := List.findIdx?_eq_some_iff_getElem.mp q1
                have rx : RD (fx X ξ) μ2 H2 (.ref a) (.tup ds0) := .tup (f.up u2) (RDs.up u2 _ rs)
                refine ⟨a, w, d, ds, j, ds[j], rfl, rfl, dpS_of s2 rx t1, dpS_of s2 r2 t2, c.1, c.2, List.getElem?_eq_getElem hj, hp, fun m z' hm hz' => ?_, w2 _ μ2 H2 .refl s2 (.int _)⟩
                have := hno m hm
                obtain ⟨hm2, e2⟩ := List.getElem?_eq_some_iff.mp hz'
                rw [e2] at this
                simpa using this
              · rw [if_neg c] at q1; exact nomatch q1
            | _ => exact nomatch q1
  | _ => exact w1.elim
end
section
variable {S : Sto} {ρ : Rho} {Q : D → Sto → Prop} {E : EX}
@[simp] theorem does_idxT {o m : ME} : (mIdxT o m ρ S).DoesE E Q = (o ρ S).DoesE E fun x S1 => (∃ l, x = .tup l) ∧ (m ρ S1).DoesE E fun y S2 => ∃ j, ixT S2 x y = some j ∧ Q (.int (j : Nat)) S2 := by
  unfold mIdxT
  rw [does_bind]; congr 1; funext x S1
  cases x with
  | tup l =>
    simp only
    rw [does_bind]
    refine propext ⟨fun h => ⟨⟨l, rfl⟩, resMonoI h fun y S2 h2 => ?_⟩, fun ⟨_, h⟩ => resMonoI h fun y S2 h2 => ?_⟩
    · cases q1 : ixT S2 (.tup l) y with
      | none => rw [q1] at h2; exact h2.elim
      | some j => rw [q1] at h2; exact ⟨j, rfl, h2⟩
    · obtain ⟨j, q1, h3⟩ := h2
      rw [q1]
      exact h3
  | _ => exact propext ⟨fun h => h.elim, fun ⟨⟨_, h⟩, _⟩ => nomatch h⟩
end
end Dm
-- text Hw50
namespace Dm
open PySem L2
end Dm
-- text Hw51
namespace Dm
open PySem L2
end Dm
-- text Hw52
namespace Dm
open PySem L2
end Dm
-- text DmPopAt
namespace Dm
open PySem L2 PySem.Spec PyProof.Rows
open PySem.W (Frag)
/-! ### xs.pop(i) as a value, i from 0 on -/
section
variable {X : Cx} {W : WX} {o e : Expr} {mo me : ME} {apos cpos : Pos}
def mPopAt (o m : ME) : ME := fun ρ S => (o ρ S).bind fun x S1 => match x with
  | .cell n => match S1[n]? with
    | some (.lst _) => (m ρ S1).bind fun y S2 => match y with
      | .int i => match S2[n]? with
        | some (.lst ds) => if 0 ≤ i ∧ i < 16777216 then match ds[i.toNat]? with
          | some d => .ok d (S2.set n (.lst (ds.eraseIdx i.toNat)))
          | none => .bad
          else .bad
        | _ => .bad
      | _ => .bad
    | _ => .bad
  | _ => .bad
end
section
variable {S : Sto} {ρ : Rho} {Q : D → Sto → Prop} {E : EX}
@[simp] theorem does_popAt {o m : ME} : (mPopAt o m ρ S).DoesE E Q = (o ρ S).DoesE E fun x S1 => ∃ n, x = .cell n ∧ (∃ l, S1[n]? = some (.lst l)) ∧ (m ρ S1).DoesE E fun y S2 => ∃ i, y = .int i ∧ ∃ ds, S2[n]? = some (.lst ds) ∧ (0 ≤ i ∧ i < 16777216) ∧ ∃ d, ds[i.toNat]? = some d ∧ Q d (S2.set n (.lst (ds.eraseIdx i.toNat))) := by
  unfold mPopAt
  rw [does_bind]; congr 1; funext x S1
  cases x with
  | cell n =>
    simp only
    cases q : S1[n]? with
    | none => exact propext ⟨fun h => h.elim, fun ⟨_, h, ⟨l, h2⟩, _⟩ => by cases h; rw [q] at h2; cases h2⟩
    | some c =>
      cases c with
      | lst l =>
        simp only
        rw [does_bind]
        refine propext ⟨fun h => ⟨n, rfl, ⟨l, q⟩, resMonoI h fun y S2 h2 => ?_⟩, fun ⟨_, h0, _, h⟩ => ?_⟩
        · cases y with
          | int i =>
            simp only at h2
            cases q2 : S2[n]? with
            | none => rw [q2] at h2; exact h2.elim
            | some c2 =>
              rw [q2] at h2
              cases c2 with
              | lst ds =>
                simp only at h2
                by_cases c : 0 ≤ i ∧ i < 16777216
                · rw [if_pos c] at h2
                  cases hd : ds[i.toNat]? with
                  | none => rw [hd] at h2; exact h2.elim
                  | some d => rw [hd] at h2; exact ⟨i, rfl, ds, rfl, c, d, hd, h2⟩
                · rw [if_neg c] at h2; exact h2.elim
              | _ => exact h2.elim
          | _ => exact h2.elim
        · cases h0
          refine resMonoI h fun y S2 h2 => ?_
          obtain ⟨i, rfl, ds, q2, c, d, hd, h3⟩ := h2
          simp only
          rw [q2]
          simp only
          rw [if_pos c, hd]
          exact h3
      | _ => exact propext ⟨fun h => h.elim, fun ⟨_, h, ⟨l, h2⟩, _⟩ => by cases h; rw [q] at h2; cases h2⟩
  | _ => exact propext ⟨fun h => h.elim, fun ⟨_, h, _⟩ => nomatch h⟩
end
end Dm
-- text Hw53
namespace Dm
open PySem L2
end Dm
-- text DmTupMul2
namespace Dm
open PySem L2 PySem.Spec PyProof.Rows
open PySem.W (Frag)
/-! ### a tuple any number of times, also once or never -/
theorem tuple_mulZ (l : Addr) (items : Array Value) (n : Nat) (dd : Option Addr) (sl : Array (Option Value)) (x : Int) (u : Tok) (c0 : (decide (x < -(2 ^ 63)) || decide (x ≥ 2 ^ 63)) = false) (c1 : (items.isEmpty || x == 1) = false) (c2 : (decide (x ≤ 0) || items.isEmpty) = true) :
    Meets (Builtin.«tuple.__mul__» ⟨[.ref l, .int x u], []⟩) (fun _ R s => s.heap.get? l = some { cls := .type "tuple", dict := dd, data := .seq items n, slots := sl } ∧
      R (.ok (.ret (Value.ref s.heap.objs.size))) { s with heap := s.heap.push { cls := Value.type "tuple", data := Data.seq #[] }, toks := s.toks }) :=
  .of_wp fun prog w A R s h => by
    obtain ⟨hp, g, d, tk, os⟩ := s
    obtain ⟨hl, h⟩ := h
    have f1 := AutoSeq1.idx_int
    wp_walk using wpAny_loadPart' hl
    repeat (first
      | (refine wpAny_ite_false (decide_eq_false (by rw [c0]; exact Bool.false_ne_true)) ?_; wp_walk using wpAny_loadPart' hl)
      | (refine wpAny_ite_false (decide_eq_false (by rw [c1]; exact Bool.false_ne_true)) ?_; wp_walk using wpAny_loadPart' hl)
      | (refine wpAny_ite_true (decide_eq_true (by rw [c2])) ?_; wp_walk using wpAny_loadPart' hl))
    exact ⟨_, rfl, h⟩
theorem tuple_mulO (l : Addr) (items : Array Value) (n : Nat) (dd : Option Addr) (sl : Array (Option Value)) (x : Int) (u : Tok) (c0 : (decide (x < -(2 ^ 63)) || decide (x ≥ 2 ^ 63)) = false) (c1 : (items.isEmpty || x == 1) = true) :
    Meets (Builtin.«tuple.__mul__» ⟨[.ref l, .int x u], []⟩) (fun _ R s => s.heap.get? l = some { cls := .type "tuple", dict := dd, data := .seq items n, slots := sl } ∧ R (.ok (.ret (Value.ref l))) s) :=
  .of_wp fun prog w A R s h => by
    obtain ⟨hp, g, d, tk, os⟩ := s
    obtain ⟨hl, h⟩ := h
    have f1 := AutoSeq1.idx_int
    wp_walk using wpAny_loadPart' hl
    repeat (first
      | (refine wpAny_ite_false (decide_eq_false (by rw [c0]; exact Bool.false_ne_true)) ?_; wp_walk using wpAny_loadPart' hl)
      | (refine wpAny_ite_true (decide_eq_true (by rw [c1])) ?_; wp_walk using wpAny_loadPart' hl))
    exact ⟨_, rfl, h⟩
def gMulA : Sto → D → D → Option D := fun _ x y => match x, y with
  | .tup ds, .int k => if ds.length ≠ 0 ∧ -1000 ≤ k ∧ k ≤ 1000 ∧ ds.length ≤ 1000 then some (.tup (List.replicate k.toNat ds).flatten) else none
  | _, _ => none
def rRepA (K : Frag) : R2 := fun x y H Q => ∃ l k xs, x = .ref l ∧ y = .int k ∧ SqT K H l xs ∧ xs ≠ [] ∧ -1000 ≤ k ∧ k ≤ 1000 ∧ xs.length ≤ 1000 ∧ (k = 1 → Q (.ref l) H) ∧ (k ≠ 1 → NwT H Q (List.replicate k.toNat xs).flatten)
section
variable {X : Cx}
theorem op_repA : OpR X (binaryOp .Mult) (rRepA X.K) := by
  rintro pins s σ H x y v u Q I rx ry ⟨l, k, xs, rfl, rfl, hT, hne, h1, h2, hz, q1, q2⟩
  by_cases hk : 2 ≤ k
  · exact op_repF pins s σ H _ _ v u Q I rx ry ⟨l, k, xs, rfl, rfl, hT, hne, hk, h2, hz, q2 (by omega)⟩
  cases rx
  obtain ⟨t, rfl⟩ := ry
  obtain ⟨its, r, ⟨⟨cls, dd, data, sl⟩, ho, hc, n, hd⟩, hs⟩ := I.tuple hT
  simp only at hc hd
  subst hc hd
  have hl : its.length = xs.length := r.length.symm
  have hi : its.toArray.isEmpty = false := by
    cases its with
    | nil => exact absurd (List.eq_nil_of_length_eq_zero hl.symm) hne
    | cons _ _ => rfl
  have c0 : (decide (k < -(2 ^ 63)) || decide (k ≥ 2 ^ 63)) = false := by rw [decide_eq_false (by omega), decide_eq_false (by omega), Bool.or_false]
  have tl : s.TypeIs (.ref l) "tuple" := ⟨_, ho, rfl⟩
  have fin : wpAny (model X.prog X.w) X.A (call (.builtin "tuple.__mul__") [.ref l, .int k t]) (EP X pins σ Q) X.xe s := by
    by_cases e1 : k = 1
    · refine call_meets F.slot_tuple_mul tl F.entry_tuple_mul (F.args_tuple_mul_2 _ _) (tuple_mulO l its.toArray n dd sl k t c0 (by rw [e1]; simp)) ⟨ho, ?_⟩
      exact ⟨.ref l, H, I, rfl, q1 e1⟩
    · refine call_meets F.slot_tuple_mul tl F.entry_tuple_mul (F.args_tuple_mul_2 _ _) (tuple_mulZ l its.toArray n dd sl k t c0 (by rw [hi, Bool.false_or, beq_eq_false_iff_ne]; exact e1) (by rw [hi, Bool.or_false, decide_eq_true_eq]; omega)) ⟨ho, ?_⟩
      have e0 : k.toNat = 0 := by omega
      have q3 := q2 e1
      rw [e0] at q3
      exact tup_here (its := []) I (Nat.zero_le _) .nil q3
  exact wpAny_binaryOp_repeat_ref (T := "tuple") (U := "int") (by decide) tl (fun s' => typeIs_int s' k t) noFill_tuple_mul F.fills_int_mul F.slot_int_rmul repeat_tuple F.slot_int_index.lookup (call_meets F.slot_int_rmul (typeIs_int s k t) F.entry_int_rmul (F.args_int_rmul_2 _ _) (int_rmul_tuple k t l its.toArray n dd sl) ⟨ho, rfl, tl, fin⟩)
theorem o_mulA : OpD X (rRepA X.K) gMulA := by
  intro ξ μ H S x y v u z Q s rx ry e k
  cases rx with
  | @tup a xs ds f r =>
    cases ry with
    | int i =>
      unfold gMulA at e
      simp only at e
      by_cases c : ds.length ≠ 0 ∧ -1000 ≤ i ∧ i ≤ 1000 ∧ ds.length ≤ 1000
      · rw [if_pos c] at e
        cases e
        refine ⟨a, i, xs, rfl, rfl, f.sq, fun q => c.1 (by rw [← r.length, q]; rfl), c.2.1, c.2.2.1, by rw [r.length]; exact c.2.2.2, fun e1 => ?_, fun _ p o hp ho => ?_⟩
        · subst e1
          have e2 : (List.replicate (1 : Int).toNat ds).flatten = ds := by simp
          rw [e2] at k
          exact k _ μ _ .refl s (.tup f r)
        · exact k _ μ _ (.fresh hp) (s.fresh hp) (.tup (.inl ⟨.new ho, s.out hp, s.outX hp⟩) ((RDs.rep r i.toNat).up (.fresh hp)))
      · rw [if_neg c] at e; exact nomatch e
    | _ => exact nomatch e
  | _ => cases ry <;> exact nomatch e
end
@[simp] theorem gMulA_tup {S : Sto} {ds : List D} {k : Int} : gMulA S (.tup ds) (.int k) = if ds.length ≠ 0 ∧ -1000 ≤ k ∧ k ≤ 1000 ∧ ds.length ≤ 1000 then some (.tup (List.replicate k.toNat ds).flatten) else none := rfl
end Dm
-- text Hw54
namespace Dm
open PySem L2
noncomputable section
def m_law_found_in : List D → Sto → Res D := mDef 5 7 (mSeq (mAsg 5 (mFz (mLcA (mBackA (mVar 0)) (tgN 6) (mOp gEq (mOp gIx (mVar 1) (mIdxT (mBackA (mVar 0)) (mVar 6))) (mVar 6)) (mOp gSub (mVar 2) (mVar 6)) [6]))) (mSeq (mIfS (mOp gEq (mVar 5) (mFz (mLst mNil))) (mRet (mOp gDIx (mDisp (mPCons (mK (.str "ahead")) (mOp gSub (mVar 2) (mOp gIx (mVar 1) (mK (.int 0)))) (mPCons (mK (.str "behind")) (mOp gSub (mVar 2) (mOp gIx (mVar 1) (mK (.int (-1))))) (mPCons (mK (.str "refuse")) (mK .non) mPNil)))) (mVar 4))) mNop) (mSeq (mIfS (mOp gEq (mCallB gLen (mCons (mVar 5) mNil)) (mK (.int 1))) (mRet (mOp gIx (mVar 5) (mK (.int 0)))) mNop) (mRet (mOp gDIx (mDisp (mPCons (mK (.str "early")) (mOp gIx (mVar 5) (mK (.int 0))) (mPCons (mK (.str "late")) (mOp gIx (mVar 5) (mK (.int 1))) (mPCons (mK (.str "refuse")) (mK .non) mPNil)))) (mVar 3))))))
def m_law_rows_of : List D → Sto → Res D := mDef 1 7 (mSeq (mAsg 1 (mCallB gLen (mCons (mVar 0) mNil))) (mSeq (mAsg 2 (mFz (mLcA (mVar 0) (tgN 5) mYes (mFz (mRepL (mLst (mCons (mVar 5) mNil)) (mVar 1))) [5]))) (mSeq (mForA (mVar 0) (tgN 3) (mFor (iSeq (mFz (mLcA (mVar 0) (tgN 5) (mOp gNe (mVar 5) (mVar 3)) (mVar 5) [5]))) (tgN 4) (mAsg 2 (mFz (mCatV (mVar 2) (mLc (iRange2 (mCons (mK (.int 1)) (mCons (mVar 1) mNil))) (tgN 6) mYes (mFz (mCatL (mRepL (mLst (mCons (mVar 3) mNil)) (mVar 6)) (mRepL (mLst (mCons (mVar 4) mNil)) (mOp gSub (mVar 1) (mVar 6))))) [6])))))) (mRet (mFz (mCallBL gSortD (mCons (mVar 2) mNil)))))))
def m_law_k29_cases_of_a_find : List D → Sto → Res D := mDef 1 19 (mSeq (mFor (iSeq (mFz (mCatL (mLst (mCons (mK (.int 502877146930451762288319045573081964427739165580324419)) mNil)) (mSlL (mVar 0) mNoPart (mPart (mK (.int 30))))))) (tgN 1) (mSeq (mAsg 2 (mCall m_law_bag_of (mCons (mVar 1) mNil))) (mSeq (mAsg 3 (mTup (mCons (mCall m_law_any_belt (mCons (mVar 2) (mCons (mK (.int 3)) mNil))) (mCons (mCall m_law_any_belt (mCons (mVar 2) (mCons (mK (.int 3)) mNil))) mNil)))) (mSeq (mPar3 4 5 6 (mCons (mCall m_law_pick (mCons (mVar 2) (mCons (mK (.int 2)) mNil))) (mCons (mCall m_law_minutes (mCons (mVar 2) (mCons (mVar 3) (mCons (mK (.int 0)) mNil)))) (mCons (mCall m_law_minutes (mCons (mVar 2) (mCons (mVar 3) (mCons (mK (.int 0)) mNil)))) mNil)))) (mSeq (mAsgG (tgU 2 (tgCons (tgN 7) (tgCons (tgN 8) tgNil))) (mCall m_law_any_rules (mCons (mVar 2) mNil))) (mSeq (mAsg 9 (mTup (mCons (mTup (mCons (mK (.str "add")) (mCons (mK (.int 0)) (mCons (mVar 5) mNil)))) (mCons (mTup (mCons (mK (.str "read")) (mCons (mK (.int 1)) (mCons (mVar 4) mNil)))) (mCons (mTup (mCons (mK (.str "add")) (mCons (mK (.int 2)) (mCons (mVar 6) mNil)))) (mCons (mTup (mCons (mK (.str "find")) (mCons (mK (.int 3)) (mCons (mOp gSub (mK (.int 1)) (mVar 4)) (mCons (mVar 7) (mCons (mVar 8) mNil)))))) mNil)))))) (mSeq (mAsg 9 (mOp gAdd (mVar 9) (mOp gMulA (mTup (mCons (mTup (mCons (mK (.str "add")) (mCons (mK (.int 4)) (mCons (mK (.int 5)) mNil)))) mNil)) (mCall m_law_pick (mCons (mVar 2) (mCons (mK (.int 2)) mNil)))))) (mSeq (mPar 10 11 (mCons (mNew (mLst mNil)) (mCons (mOp gIx (mOp gIx (mVar 3) (mOp gSub (mK (.int 1)) (mVar 4))) (mK (.int 0))) mNil))) (mSeq (mForA (mOp gIx (mOp gIx (mVar 3) (mVar 4)) (mK (.int 0))) (tgN 12) (mSeq (mAsg 13 (mOp gAdd (mOp gAdd (mVar 5) (mVar 12)) (mVar 6))) (mForA (mCall m_law_rows_of (mCons (mVar 11) mNil)) (tgN 14) (mSeq (mAsg 15 (mTup (mCons (mTup (mCons (mVar 4) (mCons (mK (.int 0)) (mCons (mVar 5) (mCons (mVar 12) mNil))))) mNil))) (mSeq (mFor (iRange1 (mCons (mCallB gLen (mCons (mVar 14) mNil)) mNil)) (tgN 16) (mAsg 15 (mOp gAdd (mVar 15) (mTup (mCons (mTup (mCons (mOp gSub (mK (.int 1)) (mVar 4)) (mCons (mK (.int 0)) (mCons (mOp gSub (mVar 13) (mOp gIx (mBackA (mVar 11)) (mVar 16))) (mCons (mOp gIx (mVar 14) (mVar 16)) mNil))))) mNil))))) (mSeq (mAsg 17 (mCall m_law_found_in (mCons (mVar 11) (mCons (mVar 14) (mCons (mVar 13) (mCons (mVar 7) (mCons (mVar 8) mNil))))))) (mSeq (mAsg 18 (mTup (mCons (mK (.int 0)) (mCons (mVar 5) (mCons (mOp gAdd (mVar 5) (mVar 12)) (mCons (mVar 13) mNil)))))) (mIfS (mOp (gIsN false) (mVar 17) (mK .non)) (mApp (mVar 10) (mTup (mCons (mVar 15) (mCons (mVar 18) (mCons (mK (.int 3)) mNil))))) (mApp (mVar 10) (mTup (mCons (mVar 15) (mCons (mSlT (mOp gAdd (mVar 18) (mTup (mCons (mVar 17) (mCons (mOp gAdd (mVar 17) (mK (.int 5))) mNil)))) mNoPart (mPart (mOp gAdd (mCallB gLen (mCons (mVar 9) mNil)) (mK (.int 1))))) (mCons (mK .non) mNil))))))))))))) (mIfS (mNot (mCall m_law_same_v2 (mCons (mCall m_cases (mCons (mVar 3) (mCons (mVar 9) mNil))) (mCons (mVar 10) mNil)))) (mRet (mK (.bl false))) mNop)))))))))) (mRet (mK (.bl true))))
end
end Dm
-- text V_k29
namespace V
open PySem L2 PySem.Spec PyProof.Rows Dm
open PySem.W (Frag)
theorem rvR {a : Addr} : L2.RelV (.ref a) (.ref a) := rfl
theorem rvS {x : Str} {t : Tok} : L2.RelV (.str x) (.str x t) := ⟨t, rfl⟩
def top (i : Nat) : Stmt := PySem.Challenge.pw_hoursmeant_k29_cases_of_a_find.main.body.getD i (.Pass ⟨0, 0, 0, 0⟩)
structure Txt (K : Frag) (mg : Str → Option Value) (w : World) : Prop where
  n_all : mg "all" = none
  n_bool : mg "bool" = none
  n_enumerate : mg "enumerate" = none
  n_int : mg "int" = none
  n_isinstance : mg "isinstance" = none
  n_len : mg "len" = none
  n_max : mg "max" = none
  n_min : mg "min" = none
  n_range : mg "range" = none
  n_repr : mg "repr" = none
  n_sorted : mg "sorted" = none
  n_str : mg "str" = none
  n_sum : mg "sum" = none
  n_tuple : mg "tuple" = none
  v_FOLDS : GlK K mg "FOLDS" (.tup [(.str "early"), (.str "late"), (.str "refuse")])
  v_GAPS : GlK K mg "GAPS" (.tup [(.str "ahead"), (.str "behind"), (.str "refuse")])
  v_MADE : GlT K w mg "MADE" [("read", (.str "reading")), ("find", (.str "moment")), ("offset", (.str "span")), ("edition", (.str "moment")), ("plus", (.str "reading")), ("less", (.str "moment"))]
  v_MOST_MINUTES : ∃ t, mg "MOST_MINUTES" = some (.int (100000) t)
  v_MOST_OFFSET : ∃ t, mg "MOST_OFFSET" = some (.int (900) t)
  v_MOST_SPACING : ∃ t, mg "MOST_SPACING" = some (.int (1000000) t)
  v_MOST_STEPS : ∃ t, mg "MOST_STEPS" = some (.int (8) t)
  v_PARTS : GlT K w mg "PARTS" [("read", (.tup [(.str "moment"), (.str "place")])), ("find", (.tup [(.str "reading"), (.str "place"), (.str "fold"), (.str "gap")])), ("offset", (.tup [(.str "moment"), (.str "place")])), ("edition", (.tup [(.str "moment"), (.str "place")])), ("plus", (.tup [(.str "moment"), (.str "span")])), ("less", (.tup [(.str "reading"), (.str "span")])), ("add", (.tup [(.str "point"), (.str "minutes")]))]
  x_InvalidProgram : XcOk K mg "InvalidProgram"
  x_InvalidZones : XcOk K mg "InvalidZones"
section
variable {P : Program} {w : World} {K : Frag} {mg : Str → Option Value} {base : Heap}
theorem Txt.c_FOLDS (T : Txt K mg w) {X : Cx} (hK : X.K = K := by rfl) (h : X.mg = mg := by rfl) : GlD X "FOLDS" (.tup [(.str "early"), (.str "late"), (.str "refuse")]) := T.v_FOLDS.glD hK h
theorem Txt.c_GAPS (T : Txt K mg w) {X : Cx} (hK : X.K = K := by rfl) (h : X.mg = mg := by rfl) : GlD X "GAPS" (.tup [(.str "ahead"), (.str "behind"), (.str "refuse")]) := T.v_GAPS.glD hK h
theorem Txt.c_MADE (T : Txt K mg w) {X : Cx} (hK : X.K = K := by rfl) (h : X.mg = mg := by rfl) (hw : X.w = w := by rfl) : GlT X.K X.w X.mg "MADE" [("read", (.str "reading")), ("find", (.str "moment")), ("offset", (.str "span")), ("edition", (.str "moment")), ("plus", (.str "reading")), ("less", (.str "moment"))] := by
  rw [hK, h, hw]
  exact T.v_MADE
theorem Txt.c_MOST_MINUTES (T : Txt K mg w) {X : Cx} (h : X.mg = mg := by rfl) : GlD X "MOST_MINUTES" (.int 100000) := by
  obtain ⟨t, e⟩ := T.v_MOST_MINUTES
  exact ⟨_, .int _, by rw [h]; exact e, ⟨t, rfl⟩, fun _ _ _ => .int _⟩
theorem Txt.c_MOST_OFFSET (T : Txt K mg w) {X : Cx} (h : X.mg = mg := by rfl) : GlD X "MOST_OFFSET" (.int 900) := by
  obtain ⟨t, e⟩ := T.v_MOST_OFFSET
  exact ⟨_, .int _, by rw [h]; exact e, ⟨t, rfl⟩, fun _ _ _ => .int _⟩
theorem Txt.c_MOST_SPACING (T : Txt K mg w) {X : Cx} (h : X.mg = mg := by rfl) : GlD X "MOST_SPACING" (.int 1000000) := by
  obtain ⟨t, e⟩ := T.v_MOST_SPACING
  exact ⟨_, .int _, by rw [h]; exact e, ⟨t, rfl⟩, fun _ _ _ => .int _⟩
theorem Txt.c_MOST_STEPS (T : Txt K mg w) {X : Cx} (h : X.mg = mg := by rfl) : GlD X "MOST_STEPS" (.int 8) := by
  obtain ⟨t, e⟩ := T.v_MOST_STEPS
  exact ⟨_, .int _, by rw [h]; exact e, ⟨t, rfl⟩, fun _ _ _ => .int _⟩
theorem Txt.c_PARTS (T : Txt K mg w) {X : Cx} (hK : X.K = K := by rfl) (h : X.mg = mg := by rfl) (hw : X.w = w := by rfl) : GlT X.K X.w X.mg "PARTS" [("read", (.tup [(.str "moment"), (.str "place")])), ("find", (.tup [(.str "reading"), (.str "place"), (.str "fold"), (.str "gap")])), ("offset", (.tup [(.str "moment"), (.str "place")])), ("edition", (.tup [(.str "moment"), (.str "place")])), ("plus", (.tup [(.str "moment"), (.str "span")])), ("less", (.tup [(.str "reading"), (.str "span")])), ("add", (.tup [(.str "point"), (.str "minutes")]))] := by
  rw [hK, h, hw]
  exact T.v_PARTS
abbrev s_is_integer : Stmt := top 9
theorem sc_is_integer : FnScope ["value"] ["value"] (defScope s_is_integer) := ⟨rfl, rfl, rfl, by decide +kernel, rfl, by decide +kernel, by decide +kernel⟩
theorem fn_is_integer (T : Txt K mg w) {f : Addr} {fd : FuncData} (hm : mg "is_integer" = some (.ref f)) (F : Fun K "is_integer" "is_integer" s_is_integer f fd) : FnDG P w K mg base 1 "is_integer" s_is_integer ["value"] m_is_integer := by
  refine fnd_mkG (np := 1) (nN := 1) (k := 0) hm F (F.binds fun _ _ _ _ _ _ us hl => match us, hl with | [_], _ => rfl) sc_is_integer rfl rfl fun cdv A outer s H E hr => ?_
  have tk : Takes (cxOf (L2.CX P w) P w K mg base ["value"] "is_integer" (defScope s_is_integer) f cdv A outer s H E) (fun cls d _ H => E cls d H) := takes_of rfl rfl rfl rfl
  exact (dss_one (ds_ret (d_and (d_isi .int (d_var 0) T.n_isinstance T.n_int) (d_one (d_not (d_isi .bl (d_var 0) T.n_isinstance T.n_bool))))))
abbrev s_is_zone : Stmt := top 10
theorem sc_is_zone : FnScope ["value", "offsets", "spacing", "offset", "k"] ["value"] (defScope s_is_zone) := ⟨rfl, rfl, rfl, by decide +kernel, rfl, by decide +kernel, by decide +kernel⟩
theorem fn_is_zone (T : Txt K mg w) {f : Addr} {fd : FuncData} (hm : mg "is_zone" = some (.ref f)) (F : Fun K "is_zone" "is_zone" s_is_zone f fd) (G_is_integer : FnDG P w K mg base 1 "is_integer" s_is_integer ["value"] m_is_integer) : FnDG P w K mg base 2 "is_zone" s_is_zone ["value"] m_is_zone := by
  refine fnd_mkG (np := 1) (nN := 5) (k := 1) hm F (F.binds fun _ _ _ _ _ _ us hl => match us, hl with | [_], _ => rfl) sc_is_zone rfl rfl fun cdv A outer s H E hr => ?_
  have tk : Takes (cxOf (L2.CX P w) P w K mg base ["value", "offsets", "spacing", "offset", "k"] "is_zone" (defScope s_is_zone) f cdv A outer s H E) (fun cls d _ H => E cls d H) := takes_of rfl rfl rfl rfl
  exact (dss_cons (ds_if (DT.w (dw_or (dt_not (dt_val (d_isi .tup (d_var 0) T.n_isinstance T.n_tuple))) (dw_or1 (dt_cmp (op_neA hr.units) o_ne (d_callB call_len c_len T.n_len (da_cons (d_var 0) da_nil)) d_int)))) (dss_one (ds_ret d_bl)) dss_nil) (dss_cons (ds_asg (d_var 0) (dg_tup rfl (dgs_cons (dg_name 1 sc_is_zone.nd) (dgs_cons (dg_name 2 sc_is_zone.nd) dgs_nil)))) (dss_cons (ds_if (DT.w (dw_or (dt_not (dt_val (d_isi .tup (d_var 1) T.n_isinstance T.n_tuple))) (dw_or1 (dt_not (dt_chain op_le op_le o_le o_le d_int (d_callB call_len c_len T.n_len (da_cons (d_var 1) da_nil)) d_int))))) (dss_one (ds_ret d_bl)) dss_nil) (dss_cons (ds_for (passes_of rfl) rfl (di_seq (d_var 1)) (dg_name 3 sc_is_zone.nd) (dss_one (ds_if (DT.w (dw_or (dt_not (dt_val (d_callG G_is_integer hr tk (da_cons (d_var 3) da_nil)))) (dw_or1 (dt_not (dt_chain op_le op_le o_le o_le (d_un un_neg o_neg (d_glob rfl (T.c_MOST_OFFSET))) (d_var 3) (d_glob rfl (T.c_MOST_OFFSET))))))) (dss_one (ds_ret d_bl)) dss_nil))) (dss_cons (ds_for (passes_of rfl) rfl (di_range2 (da_cons d_int (da_cons (d_callB call_len c_len T.n_len (da_cons (d_var 1) da_nil)) da_nil)) T.n_range) (dg_name 4 sc_is_zone.nd) (dss_one (ds_if (dt_cmp op_le o_le (d_ix ix_seq o_ix (d_var 1) (d_var 4)) (d_ix ix_seq o_ix (d_var 1) (d_op op_sub o_sub (d_var 4) d_int))) (dss_one (ds_ret d_bl)) dss_nil))) (dss_one (ds_ret (d_and (d_callG G_is_integer hr tk (da_cons (d_var 2) da_nil)) (d_one (d_chain op_lt op_le o_lt o_le (d_op op_sub o_sub (d_ix ix_seq o_ix (d_var 1) (d_fold (d := .int (-1)) (d_un un_neg o_neg d_int) (fun _ _ => rfl))) (d_ix ix_seq o_ix (d_var 1) d_int)) (d_var 2) (d_glob rfl (T.c_MOST_SPACING))))))))))))
abbrev s_is_zones : Stmt := top 11
theorem sc_is_zones : FnScope ["value", "zone"] ["value"] (defScope s_is_zones) := ⟨rfl, rfl, rfl, by decide +kernel, rfl, by decide +kernel, by decide +kernel⟩
theorem fn_is_zones (T : Txt K mg w) {f : Addr} {fd : FuncData} (hm : mg "is_zones" = some (.ref f)) (F : Fun K "is_zones" "is_zones" s_is_zones f fd) (G_is_zone : FnDG P w K mg base 2 "is_zone" s_is_zone ["value"] m_is_zone) : FnDG P w K mg base 3 "is_zones" s_is_zones ["value"] m_is_zones := by
  refine fnd_mkG (np := 1) (nN := 2) (k := 2) hm F (F.binds fun _ _ _ _ _ _ us hl => match us, hl with | [_], _ => rfl) sc_is_zones rfl rfl fun cdv A outer s H E hr => ?_
  have tk : Takes (cxOf (L2.CX P w) P w K mg base ["value", "zone"] "is_zones" (defScope s_is_zones) f cdv A outer s H E) (fun cls d _ H => E cls d H) := takes_of rfl rfl rfl rfl
  exact (dss_cons (ds_if (DT.w (dw_or (dt_not (dt_val (d_isi .tup (d_var 0) T.n_isinstance T.n_tuple))) (dw_or1 (dt_not (dt_chain op_le op_le o_le o_le d_int (d_callB call_len c_len T.n_len (da_cons (d_var 0) da_nil)) d_int))))) (dss_one (ds_ret d_bl)) dss_nil) (dss_one (ds_ret (d_callB (cr_all rfl) c_all T.n_all (da_cons (d_fz (dl_lcA (own := [("zone", 1)]) rfl sc_is_zones.nd (d_var 0) (blkOk_by (own := [("zone", 1)]) (N := ["value", "zone"]) (sc := defScope s_is_zones) (by decide +kernel)) (fun _ _ _ _ _ => (dg_name 1 sc_is_zones.nd)) (fun _ _ _ _ _ => dts_nil) (fun _ _ _ _ _ => (d_callG G_is_zone hr takes0 (da_cons (d_var 1) da_nil))))) da_nil)))))
abbrev s_need_zones : Stmt := top 12
theorem sc_need_zones : FnScope ["zones"] ["zones"] (defScope s_need_zones) := ⟨rfl, rfl, rfl, by decide +kernel, rfl, by decide +kernel, by decide +kernel⟩
theorem fn_need_zones (T : Txt K mg w) {f : Addr} {fd : FuncData} (hm : mg "need_zones" = some (.ref f)) (F : Fun K "need_zones" "need_zones" s_need_zones f fd) (G_is_zones : FnDG P w K mg base 3 "is_zones" s_is_zones ["value"] m_is_zones) : FnDG P w K mg base 4 "need_zones" s_need_zones ["zones"] m_need_zones := by
  refine fnd_mkG (np := 1) (nN := 1) (k := 3) hm F (F.binds fun _ _ _ _ _ _ us hl => match us, hl with | [_], _ => rfl) sc_need_zones rfl rfl fun cdv A outer s H E hr => ?_
  have tk : Takes (cxOf (L2.CX P w) P w K mg base ["zones"] "need_zones" (defScope s_need_zones) f cdv A outer s H E) (fun cls d _ H => E cls d H) := takes_of rfl rfl rfl rfl
  exact (dss_one (ds_if (dt_not (dt_val (d_callG G_is_zones hr tk (da_cons (d_var 0) da_nil)))) (dss_one (ds_raise T.x_InvalidZones rfl tk)) dss_nil))
abbrev s_found_by : Stmt := top 13
theorem sc_found_by : FnScope ["offsets", "held", "reading", "fold", "gap", "moments", "offset"] ["offsets", "held", "reading", "fold", "gap"] (defScope s_found_by) := ⟨rfl, rfl, rfl, by decide +kernel, rfl, by decide +kernel, by decide +kernel⟩
theorem fn_found_by (T : Txt K mg w) {f : Addr} {fd : FuncData} (hm : mg "found_by" = some (.ref f)) (F : Fun K "found_by" "found_by" s_found_by f fd) : FnDG P w K mg base 1 "found_by" s_found_by ["offsets", "held", "reading", "fold", "gap"] m_found_by := by
  refine fnd_mkG (np := 5) (nN := 7) (k := 0) hm F (F.binds fun _ _ _ _ _ _ us hl => match us, hl with | [_, _, _, _, _], _ => rfl) sc_found_by rfl rfl fun cdv A outer s H E hr => ?_
  have tk : Takes (cxOf (L2.CX P w) P w K mg base ["offsets", "held", "reading", "fold", "gap", "moments", "offset"] "found_by" (defScope s_found_by) f cdv A outer s H E) (fun cls d _ H => E cls d H) := takes_of rfl rfl rfl rfl
  exact (dss_cons (ds_setLcA (mw := mFz) 5 (own := [("offset", 6)]) (rd_fz) rfl sc_found_by.nd (d_back (d_var 0)) (blkOk_by (own := [("offset", 6)]) (N := ["offsets", "held", "reading", "fold", "gap", "moments", "offset"]) (sc := defScope s_found_by) (by decide +kernel)) (fun _ _ _ _ _ => (dg_name 6 sc_found_by.nd)) (fun _ _ _ _ _ => (dts_one (dt_cmp (op_eqA hr.units) o_eq (d_dix hr.units (d_var 1) (d_op op_sub o_sub (d_var 2) (d_var 6))) (d_var 6)))) (fun _ _ _ _ _ => (d_op op_sub o_sub (d_var 2) (d_var 6)))) (dss_cons (ds_if (dt_cmp (op_eqA hr.units) o_eq (d_callB call_len c_len T.n_len (da_cons (d_var 5) da_nil)) d_int) (dss_one (ds_ret (d_ix ix_seq o_ix (d_var 5) d_int))) dss_nil) (dss_cons (ds_if (dt_cmp (op_eqA hr.units) o_eq (d_callB call_len c_len T.n_len (da_cons (d_var 5) da_nil)) d_int) (dss_cons (ds_if (dt_cmp (op_eqA hr.units) o_eq (d_var 3) d_str) (dss_one (ds_ret d_non)) dss_nil) (dss_one (ds_ret (d_ifExp (dt_cmp (op_eqA hr.units) o_eq (d_var 3) d_str) (d_ix ix_seq o_ix (d_var 5) d_int) (d_ix ix_seq o_ix (d_var 5) d_int))))) dss_nil) (dss_cons (ds_if (dt_cmp (op_eqA hr.units) o_eq (d_var 4) d_str) (dss_one (ds_ret d_non)) dss_nil) (dss_cons (ds_if (dt_cmp (op_eqA hr.units) o_eq (d_var 4) d_str) (dss_one (ds_ret (d_op op_sub o_sub (d_var 2) (d_dix hr.units (d_var 1) (d_op op_sub o_sub (d_var 2) (d_ix ix_seq o_ix (d_var 0) (d_fold (d := .int (-1)) (d_un un_neg o_neg d_int) (fun _ _ => rfl)))))))) dss_nil) (dss_one (ds_ret (d_op op_sub o_sub (d_var 2) (d_dix hr.units (d_var 1) (d_op op_sub o_sub (d_var 2) (d_ix ix_seq o_ix (d_var 0) d_int)))))))))))
abbrev s_is_part : Stmt := top 19
theorem sc_is_part : FnScope ["zones", "before", "part", "value"] ["zones", "before", "part", "value"] (defScope s_is_part) := ⟨rfl, rfl, rfl, by decide +kernel, rfl, by decide +kernel, by decide +kernel⟩
theorem fn_is_part (T : Txt K mg w) {f : Addr} {fd : FuncData} (hm : mg "is_part" = some (.ref f)) (F : Fun K "is_part" "is_part" s_is_part f fd) (G_is_integer : FnDG P w K mg base 1 "is_integer" s_is_integer ["value"] m_is_integer) : FnDG P w K mg base 2 "is_part" s_is_part ["zones", "before", "part", "value"] m_is_part := by
  refine fnd_mkG (np := 4) (nN := 4) (k := 1) hm F (F.binds fun _ _ _ _ _ _ us hl => match us, hl with | [_, _, _, _], _ => rfl) sc_is_part rfl rfl fun cdv A outer s H E hr => ?_
  have tk : Takes (cxOf (L2.CX P w) P w K mg base ["zones", "before", "part", "value"] "is_part" (defScope s_is_part) f cdv A outer s H E) (fun cls d _ H => E cls d H) := takes_of rfl rfl rfl rfl
  exact (dss_cons (ds_if (dt_cmp (op_eqA hr.units) o_eq (d_var 2) d_str) (dss_one (ds_ret (d_and (d_isi .str (d_var 3) T.n_isinstance T.n_str) (d_one (d_cmp op_in_seq o_in (d_var 3) (d_glob rfl (T.c_FOLDS)) (by rfl)))))) dss_nil) (dss_cons (ds_if (dt_cmp (op_eqA hr.units) o_eq (d_var 2) d_str) (dss_one (ds_ret (d_and (d_isi .str (d_var 3) T.n_isinstance T.n_str) (d_one (d_cmp op_in_seq o_in (d_var 3) (d_glob rfl (T.c_GAPS)) (by rfl)))))) dss_nil) (dss_cons (ds_if (dt_not (dt_val (d_callG G_is_integer hr tk (da_cons (d_var 3) da_nil)))) (dss_one (ds_ret d_bl)) dss_nil) (dss_cons (ds_if (dt_cmp (op_eqA hr.units) o_eq (d_var 2) d_str) (dss_one (ds_ret (d_chain op_le op_lt o_le o_lt d_int (d_var 3) (d_callB call_len c_len T.n_len (da_cons (d_var 0) da_nil))))) dss_nil) (dss_cons (ds_if (dt_cmp (op_eqA hr.units) o_eq (d_var 2) d_str) (dss_one (ds_ret (d_chain op_le op_le o_le o_le (d_un un_neg o_neg (d_glob rfl (T.c_MOST_MINUTES))) (d_var 3) (d_glob rfl (T.c_MOST_MINUTES))))) dss_nil) (dss_cons (ds_if (dt_not (dt_chain op_le op_lt o_le o_lt d_int (d_var 3) (d_callB call_len c_len T.n_len (da_cons (d_var 1) da_nil)))) (dss_one (ds_ret d_bl)) dss_nil) (dss_cons (ds_if (dt_cmp (op_eqA hr.units) o_eq (d_var 2) d_str) (dss_one (ds_ret (d_cmp (op_neA hr.units) o_ne (d_ix ix_seq o_ix (d_var 1) (d_var 3)) d_str))) dss_nil) (dss_one (ds_ret (d_cmp (op_eqA hr.units) o_eq (d_ix ix_seq o_ix (d_var 1) (d_var 3)) (d_var 2)))))))))))
abbrev s_is_step : Stmt := top 20
theorem sc_is_step : FnScope ["zones", "before", "value", "parts", "k", "part"] ["zones", "before", "value"] (defScope s_is_step) := ⟨rfl, rfl, rfl, by decide +kernel, rfl, by decide +kernel, by decide +kernel⟩
theorem fn_is_step (T : Txt K mg w) {f : Addr} {fd : FuncData} (hm : mg "is_step" = some (.ref f)) (F : Fun K "is_step" "is_step" s_is_step f fd) (G_is_part : FnDG P w K mg base 2 "is_part" s_is_part ["zones", "before", "part", "value"] m_is_part) : FnDG P w K mg base 3 "is_step" s_is_step ["zones", "before", "value"] m_is_step := by
  refine fnd_mkG (np := 3) (nN := 6) (k := 2) hm F (F.binds fun _ _ _ _ _ _ us hl => match us, hl with | [_, _, _], _ => rfl) sc_is_step rfl rfl fun cdv A outer s H E hr => ?_
  have tk : Takes (cxOf (L2.CX P w) P w K mg base ["zones", "before", "value", "parts", "k", "part"] "is_step" (defScope s_is_step) f cdv A outer s H E) (fun cls d _ H => E cls d H) := takes_of rfl rfl rfl rfl
  exact (dss_cons (ds_if (DT.w (dw_or (dt_not (dt_val (d_isi .tup (d_var 2) T.n_isinstance T.n_tuple))) (dw_or1 (dt_cmp (op_eqA hr.units) o_eq (d_callB call_len c_len T.n_len (da_cons (d_var 2) da_nil)) d_int)))) (dss_one (ds_ret d_bl)) dss_nil) (dss_cons (ds_if (DT.w (dw_or (dt_not (dt_val (d_isi .str (d_ix ix_seq o_ix (d_var 2) d_int) T.n_isinstance T.n_str))) (dw_or1 (dt_tbnot rfl (T.c_PARTS) (d_ix ix_seq o_ix (d_var 2) d_int))))) (dss_one (ds_ret d_bl)) dss_nil) (dss_cons (ds_set 3 sc_is_step.nd (d_tbix (by rfl) (T.c_PARTS) (d_ix ix_seq o_ix (d_var 2) d_int))) (dss_cons (ds_if (dt_cmp (op_neA hr.units) o_ne (d_callB call_len c_len T.n_len (da_cons (d_var 2) da_nil)) (d_op op_addD o_add (d_callB call_len c_len T.n_len (da_cons (d_var 3) da_nil)) d_int)) (dss_one (ds_ret d_bl)) dss_nil) (dss_one (ds_ret (d_callB (cr_all rfl) c_all T.n_all (da_cons (d_fz (dl_lc (own := [("k", 4), ("part", 5)]) rfl sc_is_step.nd (di_enum (d_var 3) T.n_enumerate) (blkOk_by (own := [("k", 4), ("part", 5)]) (N := ["zones", "before", "value", "parts", "k", "part"]) (sc := defScope s_is_step) (by decide +kernel)) (fun _ _ _ _ _ => (dg_any rfl (dgs_cons (dg_name 4 sc_is_step.nd) (dgs_cons (dg_name 5 sc_is_step.nd) dgs_nil)))) (fun _ _ _ _ _ => dts_nil) (fun _ _ _ _ _ => (d_callG G_is_part hr takes0 (da_cons (d_var 0) (da_cons (d_var 1) (da_cons (d_var 5) (da_cons (d_ix ix_seq o_ix (d_var 2) (d_op op_addD o_add (d_var 4) d_int)) da_nil)))))))) da_nil))))))))
abbrev s_kind_made : Stmt := top 21
theorem sc_kind_made : FnScope ["before", "step"] ["before", "step"] (defScope s_kind_made) := ⟨rfl, rfl, rfl, by decide +kernel, rfl, by decide +kernel, by decide +kernel⟩
theorem fn_kind_made (T : Txt K mg w) {f : Addr} {fd : FuncData} (hm : mg "kind_made" = some (.ref f)) (F : Fun K "kind_made" "kind_made" s_kind_made f fd) : FnDG P w K mg base 1 "kind_made" s_kind_made ["before", "step"] m_kind_made := by
  refine fnd_mkG (np := 2) (nN := 2) (k := 0) hm F (F.binds fun _ _ _ _ _ _ us hl => match us, hl with | [_, _], _ => rfl) sc_kind_made rfl rfl fun cdv A outer s H E hr => ?_
  have tk : Takes (cxOf (L2.CX P w) P w K mg base ["before", "step"] "kind_made" (defScope s_kind_made) f cdv A outer s H E) (fun cls d _ H => E cls d H) := takes_of rfl rfl rfl rfl
  exact (dss_cons (ds_if (dt_cmp (op_eqA hr.units) o_eq (d_ix ix_seq o_ix (d_var 1) d_int) d_str) (dss_one (ds_ret (d_ix ix_seq o_ix (d_var 0) (d_ix ix_seq o_ix (d_var 1) d_int)))) dss_nil) (dss_one (ds_ret (d_tbix (by rfl) (T.c_MADE) (d_ix ix_seq o_ix (d_var 1) d_int)))))
abbrev s_is_program : Stmt := top 22
theorem sc_is_program : FnScope ["zones", "value", "before", "step"] ["zones", "value"] (defScope s_is_program) := ⟨rfl, rfl, rfl, by decide +kernel, rfl, by decide +kernel, by decide +kernel⟩
theorem fn_is_program (T : Txt K mg w) {f : Addr} {fd : FuncData} (hm : mg "is_program" = some (.ref f)) (F : Fun K "is_program" "is_program" s_is_program f fd) (G_kind_made : FnDG P w K mg base 1 "kind_made" s_kind_made ["before", "step"] m_kind_made) (G_is_step : FnDG P w K mg base 3 "is_step" s_is_step ["zones", "before", "value"] m_is_step) (G_need_zones : FnDG P w K mg base 4 "need_zones" s_need_zones ["zones"] m_need_zones) : FnDG P w K mg base 5 "is_program" s_is_program ["zones", "value"] m_is_program := by
  refine fnd_mkG (np := 2) (nN := 4) (k := 4) hm F (F.binds fun _ _ _ _ _ _ us hl => match us, hl with | [_, _], _ => rfl) sc_is_program rfl rfl fun cdv A outer s H E hr => ?_
  have tk : Takes (cxOf (L2.CX P w) P w K mg base ["zones", "value", "before", "step"] "is_program" (defScope s_is_program) f cdv A outer s H E) (fun cls d _ H => E cls d H) := takes_of rfl rfl rfl rfl
  exact (dss_cons (ds_expr (d_callG G_need_zones hr tk (da_cons (d_var 0) da_nil))) (dss_cons (ds_if (DT.w (dw_or (dt_not (dt_val (d_isi .tup (d_var 1) T.n_isinstance T.n_tuple))) (dw_or1 (dt_cmp op_gt o_gt (d_callB call_len c_len T.n_len (da_cons (d_var 1) da_nil)) (d_glob rfl (T.c_MOST_STEPS)))))) (dss_one (ds_ret d_bl)) dss_nil) (dss_cons (ds_set 2 sc_is_program.nd (d_new (dl_lst (da_cons d_str da_nil)))) (dss_cons (ds_forA (passes_of rfl) rfl (d_var 1) (dg_name 3 sc_is_program.nd) (dss_cons (ds_if (dt_not (dt_val (d_callG G_is_step hr tk (da_cons (d_var 0) (da_cons (d_var 2) (da_cons (d_var 3) da_nil)))))) (dss_one (ds_ret d_bl)) dss_nil) (dss_one (ds_app (d_var 2) (d_callG G_kind_made hr tk (da_cons (d_var 2) (da_cons (d_var 3) da_nil))) (fun a b => ps_expr (pe_bm PySem.F.plainAttrs_list PySem.F.slot_list_append PySem.F.type_list_append mt_append a (pa_cons b pa_nil))))))) (dss_one (ds_ret (d_cmp op_lt o_lt (d_callB call_len c_len T.n_len (da_cons (d_fz (dl_lcA (own := [("step", 3)]) rfl sc_is_program.nd (d_var 1) (blkOk_by (own := [("step", 3)]) (N := ["zones", "value", "before", "step"]) (sc := defScope s_is_program) (by decide +kernel)) (fun _ _ _ _ _ => (dg_name 3 sc_is_program.nd)) (fun _ _ _ _ _ => (dts_one (dt_cmp (op_eqA hr.units) o_eq (d_ix ix_seq o_ix (d_var 3) d_int) d_str))) (fun _ _ _ _ _ => (d_var 3)))) da_nil)) d_int)))))))
abbrev s_need_program : Stmt := top 23
theorem sc_need_program : FnScope ["zones", "program"] ["zones", "program"] (defScope s_need_program) := ⟨rfl, rfl, rfl, by decide +kernel, rfl, by decide +kernel, by decide +kernel⟩
theorem fn_need_program (T : Txt K mg w) {f : Addr} {fd : FuncData} (hm : mg "need_program" = some (.ref f)) (F : Fun K "need_program" "need_program" s_need_program f fd) (G_is_program : FnDG P w K mg base 5 "is_program" s_is_program ["zones", "value"] m_is_program) : FnDG P w K mg base 6 "need_program" s_need_program ["zones", "program"] m_need_program := by
  refine fnd_mkG (np := 2) (nN := 2) (k := 5) hm F (F.binds fun _ _ _ _ _ _ us hl => match us, hl with | [_, _], _ => rfl) sc_need_program rfl rfl fun cdv A outer s H E hr => ?_
  have tk : Takes (cxOf (L2.CX P w) P w K mg base ["zones", "program"] "need_program" (defScope s_need_program) f cdv A outer s H E) (fun cls d _ H => E cls d H) := takes_of rfl rfl rfl rfl
  exact (dss_one (ds_if (dt_not (dt_val (d_callG G_is_program hr tk (da_cons (d_var 0) (da_cons (d_var 1) da_nil))))) (dss_one (ds_raise T.x_InvalidProgram rfl tk)) dss_nil))
abbrev s_asked_moments : Stmt := top 24
theorem sc_asked_moments : FnScope ["zones", "step", "values", "base", "offset"] ["zones", "step", "values"] (defScope s_asked_moments) := ⟨rfl, rfl, rfl, by decide +kernel, rfl, by decide +kernel, by decide +kernel⟩
theorem fn_asked_moments (T : Txt K mg w) {f : Addr} {fd : FuncData} (hm : mg "asked_moments" = some (.ref f)) (F : Fun K "asked_moments" "asked_moments" s_asked_moments f fd) : FnDG P w K mg base 1 "asked_moments" s_asked_moments ["zones", "step", "values"] m_asked_moments := by
  refine fnd_mkG (np := 3) (nN := 5) (k := 0) hm F (F.binds fun _ _ _ _ _ _ us hl => match us, hl with | [_, _, _], _ => rfl) sc_asked_moments rfl rfl fun cdv A outer s H E hr => ?_
  have tk : Takes (cxOf (L2.CX P w) P w K mg base ["zones", "step", "values", "base", "offset"] "asked_moments" (defScope s_asked_moments) f cdv A outer s H E) (fun cls d _ H => E cls d H) := takes_of rfl rfl rfl rfl
  exact (dss_cons (ds_set 3 sc_asked_moments.nd (d_ix ix_seq o_ix (d_var 2) (d_ix ix_seq o_ix (d_var 1) d_int))) (dss_cons (ds_if (DT.w (dw_or (dt_cmp (op_eqA hr.units) o_eq (d_ix ix_seq o_ix (d_var 1) d_int) d_str) (dw_or1 (dt_cmp (op_eqA hr.units) o_eq (d_ix ix_seq o_ix (d_var 1) d_int) d_str)))) (dss_one (ds_ret (d_fz (dl_lst (da_cons (d_var 3) da_nil))))) dss_nil) (dss_cons (ds_if (dt_cmp (op_eqA hr.units) o_eq (d_ix ix_seq o_ix (d_var 1) d_int) d_str) (dss_one (ds_ret (d_fz (dl_lcA (own := [("offset", 4)]) rfl sc_asked_moments.nd (d_backA (d_ix ix_seq o_ix (d_ix ix_seq o_ix (d_var 0) (d_ix ix_seq o_ix (d_var 1) d_int)) d_int)) (blkOk_by (own := [("offset", 4)]) (N := ["zones", "step", "values", "base", "offset"]) (sc := defScope s_asked_moments) (by decide +kernel)) (fun _ _ _ _ _ => (dg_name 4 sc_asked_moments.nd)) (fun _ _ _ _ _ => dts_nil) (fun _ _ _ _ _ => (d_op op_sub o_sub (d_var 3) (d_var 4))))))) dss_nil) (dss_cons (ds_if (dt_cmp (op_eqA hr.units) o_eq (d_ix ix_seq o_ix (d_var 1) d_int) d_str) (dss_one (ds_ret (d_fz (dl_lst (da_cons (d_op op_sub o_sub (d_var 3) d_int) da_nil))))) dss_nil) (dss_one (ds_ret (d_fz (dl_lst da_nil))))))))
abbrev s_value_made : Stmt := top 25
theorem sc_value_made : FnScope ["zones", "step", "values", "held", "base"] ["zones", "step", "values", "held"] (defScope s_value_made) := ⟨rfl, rfl, rfl, by decide +kernel, rfl, by decide +kernel, by decide +kernel⟩
theorem fn_value_made (T : Txt K mg w) {f : Addr} {fd : FuncData} (hm : mg "value_made" = some (.ref f)) (F : Fun K "value_made" "value_made" s_value_made f fd) (G_found_by : FnDG P w K mg base 1 "found_by" s_found_by ["offsets", "held", "reading", "fold", "gap"] m_found_by) : FnDG P w K mg base 2 "value_made" s_value_made ["zones", "step", "values", "held"] m_value_made := by
  refine fnd_mkG (np := 4) (nN := 5) (k := 1) hm F (F.binds fun _ _ _ _ _ _ us hl => match us, hl with | [_, _, _, _], _ => rfl) sc_value_made rfl rfl fun cdv A outer s H E hr => ?_
  have tk : Takes (cxOf (L2.CX P w) P w K mg base ["zones", "step", "values", "held", "base"] "value_made" (defScope s_value_made) f cdv A outer s H E) (fun cls d _ H => E cls d H) := takes_of rfl rfl rfl rfl
  exact (dss_cons (ds_set 4 sc_value_made.nd (d_ix ix_seq o_ix (d_var 2) (d_ix ix_seq o_ix (d_var 1) d_int))) (dss_cons (ds_if (dt_cmp (op_eqA hr.units) o_eq (d_ix ix_seq o_ix (d_var 1) d_int) d_str) (dss_one (ds_ret (d_op op_addD o_add (d_var 4) (d_dix hr.units (d_var 3) (d_var 4))))) dss_nil) (dss_cons (ds_if (dt_cmp (op_eqA hr.units) o_eq (d_ix ix_seq o_ix (d_var 1) d_int) d_str) (dss_one (ds_ret (d_dix hr.units (d_var 3) (d_var 4)))) dss_nil) (dss_cons (ds_if (dt_cmp (op_eqA hr.units) o_eq (d_ix ix_seq o_ix (d_var 1) d_int) d_str) (dss_one (ds_ret (d_callG G_found_by hr tk (da_cons (d_ix ix_seq o_ix (d_ix ix_seq o_ix (d_var 0) (d_ix ix_seq o_ix (d_var 1) d_int)) d_int) (da_cons (d_var 3) (da_cons (d_var 4) (da_cons (d_ix ix_seq o_ix (d_var 1) d_int) (da_cons (d_ix ix_seq o_ix (d_var 1) d_int) da_nil)))))))) dss_nil) (dss_cons (ds_if (dt_cmp (op_eqA hr.units) o_eq (d_ix ix_seq o_ix (d_var 1) d_int) d_str) (dss_one (ds_ret (d_var 4))) dss_nil) (dss_cons (ds_if (dt_cmp (op_eqA hr.units) o_eq (d_ix ix_seq o_ix (d_var 1) d_int) d_str) (dss_one (ds_ret (d_op op_addD o_add (d_var 4) (d_ix ix_seq o_ix (d_var 2) (d_ix ix_seq o_ix (d_var 1) d_int))))) dss_nil) (dss_cons (ds_if (dt_cmp (op_eqA hr.units) o_eq (d_ix ix_seq o_ix (d_var 1) d_int) d_str) (dss_one (ds_ret (d_op op_sub o_sub (d_var 4) (d_ix ix_seq o_ix (d_var 2) (d_ix ix_seq o_ix (d_var 1) d_int))))) dss_nil) (dss_one (ds_ret (d_op op_addD o_add (d_var 4) (d_ix ix_seq o_ix (d_var 1) d_int)))))))))))
abbrev s_early_of : Stmt := top 27
theorem sc_early_of : FnScope ["zone", "looks", "jumps", "k", "at", "held"] ["zone", "looks"] (defScope s_early_of) := ⟨rfl, rfl, rfl, by decide +kernel, rfl, by decide +kernel, by decide +kernel⟩
theorem fn_early_of (T : Txt K mg w) {f : Addr} {fd : FuncData} (hm : mg "early_of" = some (.ref f)) (F : Fun K "early_of" "early_of" s_early_of f fd) : FnDG P w K mg base 1 "early_of" s_early_of ["zone", "looks"] m_early_of := by
  refine fnd_mkG (np := 2) (nN := 6) (k := 0) hm F (F.binds fun _ _ _ _ _ _ us hl => match us, hl with | [_, _], _ => rfl) sc_early_of rfl rfl fun cdv A outer s H E hr => ?_
  have tk : Takes (cxOf (L2.CX P w) P w K mg base ["zone", "looks", "jumps", "k", "at", "held"] "early_of" (defScope s_early_of) f cdv A outer s H E) (fun cls d _ H => E cls d H) := takes_of rfl rfl rfl rfl
  exact (dss_cons (ds_set 2 sc_early_of.nd (d_new (dl_lst da_nil))) (dss_cons (ds_for (passes_of rfl) rfl (di_range2 (da_cons d_int (da_cons (d_callB call_len c_len T.n_len (da_cons (d_var 1) da_nil)) da_nil)) T.n_range) (dg_name 3 sc_early_of.nd) (dss_one (ds_if (dt_cmp (op_neA hr.units) o_ne (d_ix ix_seq o_ix (d_ix ix_seq o_ix (d_var 1) (d_var 3)) d_int) (d_ix ix_seq o_ix (d_ix ix_seq o_ix (d_var 1) (d_op op_sub o_sub (d_var 3) d_int)) d_int)) (dss_cons (ds_set 4 sc_early_of.nd (d_op op_addD o_add (d_ix ix_seq o_ix (d_ix ix_seq o_ix (d_var 1) (d_op op_sub o_sub (d_var 3) d_int)) d_int) d_int)) (dss_cons (ds_if (dt_cmp op_gt o_gt (d_callB call_len c_len T.n_len (da_cons (d_var 2) da_nil)) d_int) (dss_one (ds_set 4 sc_early_of.nd (d_callB (call_max2 rfl) c_II T.n_max (da_cons (d_var 4) (da_cons (d_op op_addD o_add (d_ix ix_seq o_ix (d_ix ix_seq o_ix (d_var 2) (d_fold (d := .int (-1)) (d_un un_neg o_neg d_int) (fun _ _ => rfl))) d_int) (d_ix ix_seq o_ix (d_var 0) d_int)) da_nil))))) dss_nil) (dss_cons (ds_if (dt_cmp op_gt o_gt (d_var 4) (d_ix ix_seq o_ix (d_ix ix_seq o_ix (d_var 1) (d_var 3)) d_int)) (dss_one (ds_ret d_non)) dss_nil) (dss_one (ds_app (d_var 2) (d_tup (da_cons (d_var 4) (da_cons (d_ix ix_seq o_ix (d_ix ix_seq o_ix (d_var 1) (d_var 3)) d_int) da_nil))) (fun a b => ps_expr (pe_bm PySem.F.plainAttrs_list PySem.F.slot_list_append PySem.F.type_list_append mt_append a (pa_cons b pa_nil)))))))) dss_nil))) (dss_cons (ds_set 5 sc_early_of.nd (d_ifExp (dt_cmp (op_eqA hr.units) o_eq (d_callB call_len c_len T.n_len (da_cons (d_var 1) da_nil)) d_int) (d_ix ix_seq o_ix (d_ix ix_seq o_ix (d_var 0) d_int) d_int) (d_ix ix_seq o_ix (d_ix ix_seq o_ix (d_var 1) d_int) d_int))) (dss_one (ds_ret (d_tup (da_cons (d_var 5) (da_cons (d_callTy call_tupF c_tuple T.n_tuple (da_cons (d_var 2) da_nil)) da_nil))))))))
abbrev s_looks_fit : Stmt := top 28
theorem sc_looks_fit : FnScope ["zone", "looks"] ["zone", "looks"] (defScope s_looks_fit) := ⟨rfl, rfl, rfl, by decide +kernel, rfl, by decide +kernel, by decide +kernel⟩
theorem fn_looks_fit (T : Txt K mg w) {f : Addr} {fd : FuncData} (hm : mg "looks_fit" = some (.ref f)) (F : Fun K "looks_fit" "looks_fit" s_looks_fit f fd) (G_early_of : FnDG P w K mg base 1 "early_of" s_early_of ["zone", "looks"] m_early_of) : FnDG P w K mg base 2 "looks_fit" s_looks_fit ["zone", "looks"] m_looks_fit := by
  refine fnd_mkG (np := 2) (nN := 2) (k := 1) hm F (F.binds fun _ _ _ _ _ _ us hl => match us, hl with | [_, _], _ => rfl) sc_looks_fit rfl rfl fun cdv A outer s H E hr => ?_
  have tk : Takes (cxOf (L2.CX P w) P w K mg base ["zone", "looks"] "looks_fit" (defScope s_looks_fit) f cdv A outer s H E) (fun cls d _ H => E cls d H) := takes_of rfl rfl rfl rfl
  exact (dss_one (ds_ret (d_cmp op_notN o_notN (d_callG G_early_of hr tk (da_cons (d_var 0) (da_cons (d_var 1) da_nil))) d_non)))
abbrev s_edition_at : Stmt := top 30
theorem sc_edition_at : FnScope ["program", "values", "place", "index", "step"] ["program", "values", "place"] (defScope s_edition_at) := ⟨rfl, rfl, rfl, by decide +kernel, rfl, by decide +kernel, by decide +kernel⟩
theorem fn_edition_at (T : Txt K mg w) {f : Addr} {fd : FuncData} (hm : mg "edition_at" = some (.ref f)) (F : Fun K "edition_at" "edition_at" s_edition_at f fd) : FnDG P w K mg base 1 "edition_at" s_edition_at ["program", "values", "place"] m_edition_at := by
  refine fnd_mkG (np := 3) (nN := 5) (k := 0) hm F (F.binds fun _ _ _ _ _ _ us hl => match us, hl with | [_, _, _], _ => rfl) sc_edition_at rfl rfl fun cdv A outer s H E hr => ?_
  have tk : Takes (cxOf (L2.CX P w) P w K mg base ["program", "values", "place", "index", "step"] "edition_at" (defScope s_edition_at) f cdv A outer s H E) (fun cls d _ H => E cls d H) := takes_of rfl rfl rfl rfl
  exact (dss_cons (ds_for (passes_of rfl) rfl (di_enum (d_slT (d_var 0) do_none (do_some (d_op op_sub o_sub (d_callB call_len c_len T.n_len (da_cons (d_var 1) da_nil)) d_int))) T.n_enumerate) (dg_any rfl (dgs_cons (dg_name 3 sc_edition_at.nd) (dgs_cons (dg_name 4 sc_edition_at.nd) dgs_nil))) (dss_one (ds_if (DT.w (dw_and (dt_cmp (op_eqA hr.units) o_eq (d_ix ix_seq o_ix (d_var 4) d_int) d_str) (dw_and1 (dt_cmp (op_eqA hr.units) o_eq (d_ix ix_seq o_ix (d_var 4) d_int) (d_var 2))))) (dss_one (ds_ret (d_ix ix_seq o_ix (d_var 1) (d_op op_addD o_add (d_var 3) d_int)))) dss_nil))) (dss_one (ds_ret d_non)))
abbrev s_looks_in : Stmt := top 31
theorem sc_looks_in : FnScope ["looked", "place", "edition", "look"] ["looked", "place", "edition"] (defScope s_looks_in) := ⟨rfl, rfl, rfl, by decide +kernel, rfl, by decide +kernel, by decide +kernel⟩
theorem fn_looks_in (T : Txt K mg w) {f : Addr} {fd : FuncData} (hm : mg "looks_in" = some (.ref f)) (F : Fun K "looks_in" "looks_in" s_looks_in f fd) : FnDG P w K mg base 1 "looks_in" s_looks_in ["looked", "place", "edition"] m_looks_in := by
  refine fnd_mkG (np := 3) (nN := 4) (k := 0) hm F (F.binds fun _ _ _ _ _ _ us hl => match us, hl with | [_, _, _], _ => rfl) sc_looks_in rfl rfl fun cdv A outer s H E hr => ?_
  have tk : Takes (cxOf (L2.CX P w) P w K mg base ["looked", "place", "edition", "look"] "looks_in" (defScope s_looks_in) f cdv A outer s H E) (fun cls d _ H => E cls d H) := takes_of rfl rfl rfl rfl
  exact (dss_one (ds_ret (d_callTy call_tupF c_tuple T.n_tuple (da_cons (d_fz (dl_callB cr_sortA c_sort T.n_sorted (da_cons (d_fz (dl_lcA (own := [("look", 3)]) rfl sc_looks_in.nd (d_var 0) (blkOk_by (own := [("look", 3)]) (N := ["looked", "place", "edition", "look"]) (sc := defScope s_looks_in) (by decide +kernel)) (fun _ _ _ _ _ => (dg_name 3 sc_looks_in.nd)) (fun _ _ _ _ _ => (dts_one (dt_cmp (op_eqA hr.units) o_eq (d_slT (d_var 3) do_none (do_some d_int)) (d_tup (da_cons (d_var 1) (da_cons (d_var 2) da_nil)))))) (fun _ _ _ _ _ => (d_slT (d_var 3) (do_some d_int) do_none)))) da_nil))) da_nil))))
abbrev s_later_looks : Stmt := top 32
theorem sc_later_looks : FnScope ["looked", "place", "now", "look"] ["looked", "place", "now"] (defScope s_later_looks) := ⟨rfl, rfl, rfl, by decide +kernel, rfl, by decide +kernel, by decide +kernel⟩
theorem fn_later_looks (T : Txt K mg w) {f : Addr} {fd : FuncData} (hm : mg "later_looks" = some (.ref f)) (F : Fun K "later_looks" "later_looks" s_later_looks f fd) (G_looks_in : FnDG P w K mg base 1 "looks_in" s_looks_in ["looked", "place", "edition"] m_looks_in) : FnDG P w K mg base 2 "later_looks" s_later_looks ["looked", "place", "now"] m_later_looks := by
  refine fnd_mkG (np := 3) (nN := 4) (k := 1) hm F (F.binds fun _ _ _ _ _ _ us hl => match us, hl with | [_, _, _], _ => rfl) sc_later_looks rfl rfl fun cdv A outer s H E hr => ?_
  have tk : Takes (cxOf (L2.CX P w) P w K mg base ["looked", "place", "now", "look"] "later_looks" (defScope s_later_looks) f cdv A outer s H E) (fun cls d _ H => E cls d H) := takes_of rfl rfl rfl rfl
  exact (dss_one (ds_ret (d_op op_addD o_add (d_callTy call_tupF c_tuple T.n_tuple (da_cons (d_fz (dl_lcA (own := [("look", 3)]) rfl sc_later_looks.nd (d_callG G_looks_in hr tk (da_cons (d_var 0) (da_cons (d_var 1) (da_cons d_int da_nil)))) (blkOk_by (own := [("look", 3)]) (N := ["looked", "place", "now", "look"]) (sc := defScope s_later_looks) (by decide +kernel)) (fun _ _ _ _ _ => (dg_name 3 sc_later_looks.nd)) (fun _ _ _ _ _ => (dts_one (dt_cmp op_lt o_lt (d_ix ix_seq o_ix (d_var 3) d_int) (d_var 2)))) (fun _ _ _ _ _ => (d_var 3)))) da_nil)) (d_callG G_looks_in hr tk (da_cons (d_var 0) (da_cons (d_var 1) (da_cons d_int da_nil)))))))
abbrev s_edition_of : Stmt := top 34
theorem sc_edition_of : FnScope ["now", "moment"] ["now", "moment"] (defScope s_edition_of) := ⟨rfl, rfl, rfl, by decide +kernel, rfl, by decide +kernel, by decide +kernel⟩
theorem fn_edition_of (T : Txt K mg w) {f : Addr} {fd : FuncData} (hm : mg "edition_of" = some (.ref f)) (F : Fun K "edition_of" "edition_of" s_edition_of f fd) : FnDG P w K mg base 1 "edition_of" s_edition_of ["now", "moment"] m_edition_of := by
  refine fnd_mkG (np := 2) (nN := 2) (k := 0) hm F (F.binds fun _ _ _ _ _ _ us hl => match us, hl with | [_, _], _ => rfl) sc_edition_of rfl rfl fun cdv A outer s H E hr => ?_
  have tk : Takes (cxOf (L2.CX P w) P w K mg base ["now", "moment"] "edition_of" (defScope s_edition_of) f cdv A outer s H E) (fun cls d _ H => E cls d H) := takes_of rfl rfl rfl rfl
  exact (dss_one (ds_ret (d_callTy call_int1 c_int1 T.n_int (da_cons (d_and (d_cmp op_notN o_notN (d_var 0) d_non) (d_one (d_cmp op_ge o_ge (d_var 1) (d_var 0)))) da_nil))))
abbrev s_offset_known : Stmt := top 33
theorem sc_offset_known : FnScope ["looked", "place", "now", "moment", "edition", "look"] ["looked", "place", "now", "moment"] (defScope s_offset_known) := ⟨rfl, rfl, rfl, by decide +kernel, rfl, by decide +kernel, by decide +kernel⟩
theorem fn_offset_known (T : Txt K mg w) {f : Addr} {fd : FuncData} (hm : mg "offset_known" = some (.ref f)) (F : Fun K "offset_known" "offset_known" s_offset_known f fd) (G_edition_of : FnDG P w K mg base 1 "edition_of" s_edition_of ["now", "moment"] m_edition_of) : FnDG P w K mg base 2 "offset_known" s_offset_known ["looked", "place", "now", "moment"] m_offset_known := by
  refine fnd_mkG (np := 4) (nN := 6) (k := 1) hm F (F.binds fun _ _ _ _ _ _ us hl => match us, hl with | [_, _, _, _], _ => rfl) sc_offset_known rfl rfl fun cdv A outer s H E hr => ?_
  have tk : Takes (cxOf (L2.CX P w) P w K mg base ["looked", "place", "now", "moment", "edition", "look"] "offset_known" (defScope s_offset_known) f cdv A outer s H E) (fun cls d _ H => E cls d H) := takes_of rfl rfl rfl rfl
  exact (dss_cons (ds_set 4 sc_offset_known.nd (d_callG G_edition_of hr tk (da_cons (d_var 2) (da_cons (d_var 3) da_nil)))) (dss_cons (ds_forA (passes_of rfl) rfl (d_var 0) (dg_name 5 sc_offset_known.nd) (dss_one (ds_if (dt_cmp (op_eqA hr.units) o_eq (d_slT (d_var 5) do_none (do_some d_int)) (d_tup (da_cons (d_var 1) (da_cons (d_var 4) (da_cons (d_var 3) da_nil))))) (dss_one (ds_ret (d_ix ix_seq o_ix (d_var 5) d_int))) dss_nil))) (dss_one (ds_ret d_non))))
abbrev s_both_fit : Stmt := top 35
theorem sc_both_fit : FnScope ["zone", "looked", "place", "now"] ["zone", "looked", "place", "now"] (defScope s_both_fit) := ⟨rfl, rfl, rfl, by decide +kernel, rfl, by decide +kernel, by decide +kernel⟩
theorem fn_both_fit (T : Txt K mg w) {f : Addr} {fd : FuncData} (hm : mg "both_fit" = some (.ref f)) (F : Fun K "both_fit" "both_fit" s_both_fit f fd) (G_looks_fit : FnDG P w K mg base 2 "looks_fit" s_looks_fit ["zone", "looks"] m_looks_fit) (G_later_looks : FnDG P w K mg base 2 "later_looks" s_later_looks ["looked", "place", "now"] m_later_looks) (G_looks_in : FnDG P w K mg base 1 "looks_in" s_looks_in ["looked", "place", "edition"] m_looks_in) : FnDG P w K mg base 3 "both_fit" s_both_fit ["zone", "looked", "place", "now"] m_both_fit := by
  refine fnd_mkG (np := 4) (nN := 4) (k := 2) hm F (F.binds fun _ _ _ _ _ _ us hl => match us, hl with | [_, _, _, _], _ => rfl) sc_both_fit rfl rfl fun cdv A outer s H E hr => ?_
  have tk : Takes (cxOf (L2.CX P w) P w K mg base ["zone", "looked", "place", "now"] "both_fit" (defScope s_both_fit) f cdv A outer s H E) (fun cls d _ H => E cls d H) := takes_of rfl rfl rfl rfl
  exact (dss_cons (ds_if (dt_not (dt_val (d_callG G_looks_fit hr tk (da_cons (d_var 0) (da_cons (d_callG G_looks_in hr tk (da_cons (d_var 1) (da_cons (d_var 2) (da_cons d_int da_nil)))) da_nil))))) (dss_one (ds_ret d_bl)) dss_nil) (dss_one (ds_ret (d_or (d_cmp op_isN o_isN (d_var 3) d_non) (d_one (d_callG G_looks_fit hr tk (da_cons (d_var 0) (da_cons (d_callG G_later_looks hr tk (da_cons (d_var 1) (da_cons (d_var 2) (da_cons (d_var 3) da_nil)))) da_nil))))))))
abbrev s_longer_looked : Stmt := top 36
theorem sc_longer_looked : FnScope ["zones", "looked", "place", "now", "moment", "tried", "offset", "longer"] ["zones", "looked", "place", "now", "moment"] (defScope s_longer_looked) := ⟨rfl, rfl, rfl, by decide +kernel, rfl, by decide +kernel, by decide +kernel⟩
theorem fn_longer_looked (T : Txt K mg w) {f : Addr} {fd : FuncData} (hm : mg "longer_looked" = some (.ref f)) (F : Fun K "longer_looked" "longer_looked" s_longer_looked f fd) (G_both_fit : FnDG P w K mg base 3 "both_fit" s_both_fit ["zone", "looked", "place", "now"] m_both_fit) (G_edition_of : FnDG P w K mg base 1 "edition_of" s_edition_of ["now", "moment"] m_edition_of) (G_offset_known : FnDG P w K mg base 2 "offset_known" s_offset_known ["looked", "place", "now", "moment"] m_offset_known) : FnDG P w K mg base 4 "longer_looked" s_longer_looked ["zones", "looked", "place", "now", "moment"] m_longer_looked := by
  refine fnd_mkG (np := 5) (nN := 8) (k := 3) hm F (F.binds fun _ _ _ _ _ _ us hl => match us, hl with | [_, _, _, _, _], _ => rfl) sc_longer_looked rfl rfl fun cdv A outer s H E hr => ?_
  have tk : Takes (cxOf (L2.CX P w) P w K mg base ["zones", "looked", "place", "now", "moment", "tried", "offset", "longer"] "longer_looked" (defScope s_longer_looked) f cdv A outer s H E) (fun cls d _ H => E cls d H) := takes_of rfl rfl rfl rfl
  exact (dss_cons (ds_if (dt_cmp op_notN o_notN (d_callG G_offset_known hr tk (da_cons (d_var 1) (da_cons (d_var 2) (da_cons (d_var 3) (da_cons (d_var 4) da_nil))))) d_non) (dss_one (ds_ret (d_fz (dl_lst (da_cons (d_var 1) da_nil))))) dss_nil) (dss_cons (ds_setLcA (mw := mFz) 5 (own := [("offset", 6)]) (rd_fz) rfl sc_longer_looked.nd (d_ix ix_seq o_ix (d_ix ix_seq o_ix (d_var 0) (d_var 2)) d_int) (blkOk_by (own := [("offset", 6)]) (N := ["zones", "looked", "place", "now", "moment", "tried", "offset", "longer"]) (sc := defScope s_longer_looked) (by decide +kernel)) (fun _ _ _ _ _ => (dg_name 6 sc_longer_looked.nd)) (fun _ _ _ _ _ => dts_nil) (fun _ _ _ _ _ => (d_op op_addD o_add (d_var 1) (d_tup (da_cons (d_tup (da_cons (d_var 2) (da_cons (d_callG G_edition_of hr takes0 (da_cons (d_var 3) (da_cons (d_var 4) da_nil))) (da_cons (d_var 4) (da_cons (d_var 6) da_nil))))) da_nil))))) (dss_one (ds_ret (d_fz (dl_lcA (own := [("longer", 7)]) rfl sc_longer_looked.nd (d_var 5) (blkOk_by (own := [("longer", 7)]) (N := ["zones", "looked", "place", "now", "moment", "tried", "offset", "longer"]) (sc := defScope s_longer_looked) (by decide +kernel)) (fun _ _ _ _ _ => (dg_name 7 sc_longer_looked.nd)) (fun _ _ _ _ _ => (dts_one (dt_val (d_callG G_both_fit hr takes0 (da_cons (d_ix ix_seq o_ix (d_var 0) (d_var 2)) (da_cons (d_var 7) (da_cons (d_var 2) (da_cons (d_var 3) da_nil)))))))) (fun _ _ _ _ _ => (d_var 7))))))))
abbrev s_cases_behind : Stmt := top 37
theorem sc_cases_behind : FnScope ["zones", "program", "index", "case", "looked", "values", "refused", "step", "moments", "now", "branches", "moment", "behind", "branch", "held", "made", "longer"] ["zones", "program", "index", "case"] (defScope s_cases_behind) := ⟨rfl, rfl, rfl, by decide +kernel, rfl, by decide +kernel, by decide +kernel⟩
theorem fn_cases_behind (T : Txt K mg w) {f : Addr} {fd : FuncData} (hm : mg "cases_behind" = some (.ref f)) (F : Fun K "cases_behind" "cases_behind" s_cases_behind f fd) (G_value_made : FnDG P w K mg base 2 "value_made" s_value_made ["zones", "step", "values", "held"] m_value_made) (G_offset_known : FnDG P w K mg base 2 "offset_known" s_offset_known ["looked", "place", "now", "moment"] m_offset_known) (G_longer_looked : FnDG P w K mg base 4 "longer_looked" s_longer_looked ["zones", "looked", "place", "now", "moment"] m_longer_looked) (G_edition_at : FnDG P w K mg base 1 "edition_at" s_edition_at ["program", "values", "place"] m_edition_at) (G_asked_moments : FnDG P w K mg base 1 "asked_moments" s_asked_moments ["zones", "step", "values"] m_asked_moments) : FnDG P w K mg base 5 "cases_behind" s_cases_behind ["zones", "program", "index", "case"] m_cases_behind := by
  refine fnd_mkG (np := 4) (nN := 17) (k := 4) hm F (F.binds fun _ _ _ _ _ _ us hl => match us, hl with | [_, _, _, _], _ => rfl) sc_cases_behind rfl rfl fun cdv A outer s H E hr => ?_
  have tk : Takes (cxOf (L2.CX P w) P w K mg base ["zones", "program", "index", "case", "looked", "values", "refused", "step", "moments", "now", "branches", "moment", "behind", "branch", "held", "made", "longer"] "cases_behind" (defScope s_cases_behind) f cdv A outer s H E) (fun cls d _ H => E cls d H) := takes_of rfl rfl rfl rfl
  exact (dss_cons (ds_asg (d_var 3) (dg_any rfl (dgs_cons (dg_name 4 sc_cases_behind.nd) (dgs_cons (dg_name 5 sc_cases_behind.nd) (dgs_cons (dg_name 6 sc_cases_behind.nd) dgs_nil))))) (dss_cons (ds_if (dt_cmp op_notN o_notN (d_var 6) d_non) (dss_one (ds_ret (d_fz (dl_lst (da_cons (d_var 3) da_nil))))) dss_nil) (dss_cons (ds_set 7 sc_cases_behind.nd (d_ix ix_seq o_ix (d_var 1) (d_var 2))) (dss_cons (ds_set 8 sc_cases_behind.nd (d_callG G_asked_moments hr tk (da_cons (d_var 0) (da_cons (d_var 7) (da_cons (d_var 5) da_nil))))) (dss_cons (ds_set 9 sc_cases_behind.nd (d_ifExp (dt_cmp (op_eqA hr.units) o_eq (d_var 8) (d_fz (dl_lst da_nil))) d_non (d_callG G_edition_at hr tk (da_cons (d_var 1) (da_cons (d_var 5) (da_cons (d_ix ix_seq o_ix (d_var 7) d_int) da_nil)))))) (dss_cons (ds_set 10 sc_cases_behind.nd (d_fz (dl_lst (da_cons (d_var 4) da_nil)))) (dss_cons (ds_forA (passes_of rfl) rfl (d_var 8) (dg_name 11 sc_cases_behind.nd) (dss_one (ds_setLcA2 (mw := mFz) 10 (own := [("branch", 13), ("longer", 16)]) (vs1 := [16]) (rd_fz) rfl sc_cases_behind.nd (d_var 10) (blkOk_by (own := [("branch", 13), ("longer", 16)]) (N := ["zones", "program", "index", "case", "looked", "values", "refused", "step", "moments", "now", "branches", "moment", "behind", "branch", "held", "made", "longer"]) (sc := defScope s_cases_behind) (by decide +kernel)) (fun _ _ _ _ _ => (dg_name 13 sc_cases_behind.nd)) (fun _ _ _ _ _ => dts_nil) (fun _ _ _ _ _ => (dia2_any (d_callG G_longer_looked hr takes0 (da_cons (d_var 0) (da_cons (d_var 13) (da_cons (d_ix ix_seq o_ix (d_var 7) d_int) (da_cons (d_var 9) (da_cons (d_var 11) da_nil)))))))) (fun _ _ _ _ _ => (dg_name 16 sc_cases_behind.nd)) (fun _ _ _ _ _ => dts_nil) (fun _ _ _ _ _ => (d_var 16))))) (dss_cons (ds_set 12 sc_cases_behind.nd (d_new (dl_lst da_nil))) (dss_cons (ds_forA (passes_of rfl) rfl (d_var 10) (dg_name 13 sc_cases_behind.nd) (dss_cons (ds_setDc 14 (own := [("moment", 11)]) rfl sc_cases_behind.nd (d_var 8) (blkOk_by (own := [("moment", 11)]) (N := ["zones", "program", "index", "case", "looked", "values", "refused", "step", "moments", "now", "branches", "moment", "behind", "branch", "held", "made", "longer"]) (sc := defScope s_cases_behind) (by decide +kernel)) (fun _ _ _ _ _ => (dg_name 11 sc_cases_behind.nd)) (fun _ _ _ _ _ => dts_nil) (fun _ _ _ _ _ => (d_var 11)) (fun _ _ _ _ _ => (d_callG G_offset_known hr takes0 (da_cons (d_var 13) (da_cons (d_ix ix_seq o_ix (d_var 7) d_int) (da_cons (d_var 9) (da_cons (d_var 11) da_nil))))))) (dss_cons (ds_set 15 sc_cases_behind.nd (d_callG G_value_made hr tk (da_cons (d_var 0) (da_cons (d_var 7) (da_cons (d_var 5) (da_cons (d_var 14) da_nil)))))) (dss_one (ds_app (d_var 12) (d_ifExp (dt_cmp op_isN o_isN (d_var 15) d_non) (d_tup (da_cons (d_var 13) (da_cons (d_var 5) (da_cons (d_var 2) da_nil)))) (d_tup (da_cons (d_var 13) (da_cons (d_op op_addD o_add (d_var 5) (d_tup (da_cons (d_var 15) da_nil))) (da_cons d_non da_nil))))) (fun a b => ps_expr (pe_bm PySem.F.plainAttrs_list PySem.F.slot_list_append PySem.F.type_list_append mt_append a (pa_cons b pa_nil)))))))) (dss_one (ds_ret (d_var 12))))))))))))
abbrev s_cases_from : Stmt := top 38
theorem sc_cases_from : FnScope ["zones", "program", "looked", "tales", "index", "tale", "longer"] ["zones", "program", "looked"] (defScope s_cases_from) := ⟨rfl, rfl, rfl, by decide +kernel, rfl, by decide +kernel, by decide +kernel⟩
theorem fn_cases_from (T : Txt K mg w) {f : Addr} {fd : FuncData} (hm : mg "cases_from" = some (.ref f)) (F : Fun K "cases_from" "cases_from" s_cases_from f fd) (G_cases_behind : FnDG P w K mg base 5 "cases_behind" s_cases_behind ["zones", "program", "index", "case"] m_cases_behind) : FnDG P w K mg base 6 "cases_from" s_cases_from ["zones", "program", "looked"] m_cases_from := by
  refine fnd_mkG (np := 3) (nN := 7) (k := 5) hm F (F.binds fun _ _ _ _ _ _ us hl => match us, hl with | [_, _, _], _ => rfl) sc_cases_from rfl rfl fun cdv A outer s H E hr => ?_
  have tk : Takes (cxOf (L2.CX P w) P w K mg base ["zones", "program", "looked", "tales", "index", "tale", "longer"] "cases_from" (defScope s_cases_from) f cdv A outer s H E) (fun cls d _ H => E cls d H) := takes_of rfl rfl rfl rfl
  exact (dss_cons (ds_set 3 sc_cases_from.nd (d_new (dl_lst (da_cons (d_tup (da_cons (d_var 2) (da_cons (d_tup (da_cons d_int da_nil)) (da_cons d_non da_nil)))) da_nil)))) (dss_cons (ds_for (passes_of rfl) rfl (di_range1 (da_cons (d_callB call_len c_len T.n_len (da_cons (d_var 1) da_nil)) da_nil) T.n_range) (dg_name 4 sc_cases_from.nd) (dss_one (ds_setLcA2 (mw := mNew) 3 (own := [("tale", 5), ("longer", 6)]) (vs1 := [6]) (rd_new) rfl sc_cases_from.nd (d_var 3) (blkOk_by (own := [("tale", 5), ("longer", 6)]) (N := ["zones", "program", "looked", "tales", "index", "tale", "longer"]) (sc := defScope s_cases_from) (by decide +kernel)) (fun _ _ _ _ _ => (dg_name 5 sc_cases_from.nd)) (fun _ _ _ _ _ => dts_nil) (fun _ _ _ _ _ => (dia2_any (d_callG G_cases_behind hr takes0 (da_cons (d_var 0) (da_cons (d_var 1) (da_cons (d_var 4) (da_cons (d_var 5) da_nil))))))) (fun _ _ _ _ _ => (dg_name 6 sc_cases_from.nd)) (fun _ _ _ _ _ => dts_nil) (fun _ _ _ _ _ => (d_var 6))))) (dss_one (ds_ret (d_var 3)))))
abbrev s_cases : Stmt := top 39
theorem sc_cases : FnScope ["zones", "program"] ["zones", "program"] (defScope s_cases) := ⟨rfl, rfl, rfl, by decide +kernel, rfl, by decide +kernel, by decide +kernel⟩
theorem fn_cases (T : Txt K mg w) {f : Addr} {fd : FuncData} (hm : mg "cases" = some (.ref f)) (F : Fun K "cases" "cases" s_cases f fd) (G_cases_from : FnDG P w K mg base 6 "cases_from" s_cases_from ["zones", "program", "looked"] m_cases_from) (G_need_program : FnDG P w K mg base 6 "need_program" s_need_program ["zones", "program"] m_need_program) (G_need_zones : FnDG P w K mg base 4 "need_zones" s_need_zones ["zones"] m_need_zones) : FnDG P w K mg base 7 "cases" s_cases ["zones", "program"] m_cases := by
  refine fnd_mkG (np := 2) (nN := 2) (k := 6) hm F (F.binds fun _ _ _ _ _ _ us hl => match us, hl with | [_, _], _ => rfl) sc_cases rfl rfl fun cdv A outer s H E hr => ?_
  have tk : Takes (cxOf (L2.CX P w) P w K mg base ["zones", "program"] "cases" (defScope s_cases) f cdv A outer s H E) (fun cls d _ H => E cls d H) := takes_of rfl rfl rfl rfl
  exact (dss_cons (ds_expr (d_callG G_need_zones hr tk (da_cons (d_var 0) da_nil))) (dss_cons (ds_expr (d_callG G_need_program hr tk (da_cons (d_var 0) (da_cons (d_var 1) da_nil)))) (dss_one (ds_ret (d_callG G_cases_from hr tk (da_cons (d_var 0) (da_cons (d_var 1) (da_cons (d_tup da_nil) da_nil))))))))
abbrev s__law_bag_of : Stmt := top 41
theorem sc__law_bag_of : FnScope ["_law_cell"] ["_law_cell"] (defScope s__law_bag_of) := ⟨rfl, rfl, rfl, by decide +kernel, rfl, by decide +kernel, by decide +kernel⟩
theorem fn__law_bag_of (T : Txt K mg w) {f : Addr} {fd : FuncData} (hm : mg "_law_bag_of" = some (.ref f)) (F : Fun K "_law_bag_of" "_law_bag_of" s__law_bag_of f fd) : FnDG P w K mg base 1 "_law_bag_of" s__law_bag_of ["_law_cell"] m_law_bag_of := by
  refine fnd_mkG (np := 1) (nN := 1) (k := 0) hm F (F.binds fun _ _ _ _ _ _ us hl => match us, hl with | [_], _ => rfl) sc__law_bag_of rfl rfl fun cdv A outer s H E hr => ?_
  have tk : Takes (cxOf (L2.CX P w) P w K mg base ["_law_cell"] "_law_bag_of" (defScope s__law_bag_of) f cdv A outer s H E) (fun cls d _ H => E cls d H) := takes_of rfl rfl rfl rfl
  exact (dss_one (ds_ret (d_new (dl_lst (da_cons (d_callB (call_max2 rfl) c_II T.n_max (da_cons d_int (da_cons (d_op op_sub o_sub (d_var 0) (d_fold (d := .int 1000000000000000000) (d_op op_pow o_pow d_int d_int) (fun _ _ => rfl))) da_nil))) (da_cons (d_op op_mod o_mod (d_callTy call_int1 c_int1 T.n_int (da_cons (d_var 0) da_nil)) d_int) (da_cons d_int da_nil)))))))
abbrev s__law_pick : Stmt := top 42
theorem sc__law_pick : FnScope ["_law_bag", "_law_many", "_law_here"] ["_law_bag", "_law_many"] (defScope s__law_pick) := ⟨rfl, rfl, rfl, by decide +kernel, rfl, by decide +kernel, by decide +kernel⟩
theorem fn__law_pick (T : Txt K mg w) {f : Addr} {fd : FuncData} (hm : mg "_law_pick" = some (.ref f)) (F : Fun K "_law_pick" "_law_pick" s__law_pick f fd) : FnDG P w K mg base 1 "_law_pick" s__law_pick ["_law_bag", "_law_many"] m_law_pick := by
  refine fnd_mkG (np := 2) (nN := 3) (k := 0) hm F (F.binds fun _ _ _ _ _ _ us hl => match us, hl with | [_, _], _ => rfl) sc__law_pick rfl rfl fun cdv A outer s H E hr => ?_
  have tk : Takes (cxOf (L2.CX P w) P w K mg base ["_law_bag", "_law_many", "_law_here"] "_law_pick" (defScope s__law_pick) f cdv A outer s H E) (fun cls d _ H => E cls d H) := takes_of rfl rfl rfl rfl
  exact (dss_cons (ds_if (dt_cmp op_gt o_gt (d_ix ix_seq o_ix (d_var 0) d_int) d_int) (dss_cons (ds_set 2 sc__law_pick.nd (d_op op_mod o_mod (d_callTy call_int1 c_int1 T.n_int (da_cons (d_ix ix_seq o_ix (d_var 0) d_int) da_nil)) (d_var 1))) (dss_cons (ds_setIx (d_op op_fdivW o_fdiv (d_ix ix_seq o_ix (d_var 0) d_int) (d_var 1)) (d_var 0) d_int) (dss_one (ds_ret (d_var 2))))) dss_nil) (dss_cons (ds_setIx (d_op op_addD o_add (d_ix ix_seq o_ix (d_var 0) d_int) d_int) (d_var 0) d_int) (dss_cons (ds_set 2 sc__law_pick.nd (d_op op_mulW o_mul (d_op op_addD o_add (d_ix ix_seq o_ix (d_var 0) d_int) (d_op op_mulW o_mul d_int (d_ix ix_seq o_ix (d_var 0) d_int))) (d_op op_addD o_add (d_op op_addD o_add (d_ix ix_seq o_ix (d_var 0) d_int) (d_op op_mulW o_mul d_int (d_ix ix_seq o_ix (d_var 0) d_int))) d_int))) (dss_cons (ds_set 2 sc__law_pick.nd (d_op op_mod o_mod (d_callTy call_int1 c_int1 T.n_int (da_cons (d_var 2) da_nil)) d_int)) (dss_cons (ds_set 2 sc__law_pick.nd (d_op op_addD o_add (d_op op_mulW o_mul (d_var 2) (d_var 2)) (d_op op_mulW o_mul d_int (d_ix ix_seq o_ix (d_var 0) d_int)))) (dss_one (ds_ret (d_op op_mod o_mod (d_callTy call_int1 c_int1 T.n_int (da_cons (d_op op_fdivW o_fdiv (d_op op_mod o_mod (d_callTy call_int1 c_int1 T.n_int (da_cons (d_var 2) da_nil)) d_int) d_int) da_nil)) (d_var 1)))))))))
abbrev s__law_any_belt : Stmt := top 43
theorem sc__law_any_belt : FnScope ["_law_bag", "_law_upto", "_law_many", "_law_wide", "_law_gaps", "_law_shifts", "_law_gap_here", "_law_least", "_law_more", "_law_k"] ["_law_bag", "_law_upto"] (defScope s__law_any_belt) := ⟨rfl, rfl, rfl, by decide +kernel, rfl, by decide +kernel, by decide +kernel⟩
theorem fn__law_any_belt (T : Txt K mg w) {f : Addr} {fd : FuncData} (hm : mg "_law_any_belt" = some (.ref f)) (F : Fun K "_law_any_belt" "_law_any_belt" s__law_any_belt f fd) (G__law_pick : FnDG P w K mg base 1 "_law_pick" s__law_pick ["_law_bag", "_law_many"] m_law_pick) : FnDG P w K mg base 2 "_law_any_belt" s__law_any_belt ["_law_bag", "_law_upto"] m_law_any_belt := by
  refine fnd_mkG (np := 2) (nN := 10) (k := 1) hm F (F.binds fun _ _ _ _ _ _ us hl => match us, hl with | [_, _], _ => rfl) sc__law_any_belt rfl rfl fun cdv A outer s H E hr => ?_
  have tk : Takes (cxOf (L2.CX P w) P w K mg base ["_law_bag", "_law_upto", "_law_many", "_law_wide", "_law_gaps", "_law_shifts", "_law_gap_here", "_law_least", "_law_more", "_law_k"] "_law_any_belt" (defScope s__law_any_belt) f cdv A outer s H E) (fun cls d _ H => E cls d H) := takes_of rfl rfl rfl rfl
  exact (dss_cons (ds_set 2 sc__law_any_belt.nd (d_callB (call_min2 rfl) c_II T.n_min (da_cons (d_var 1) (da_cons (d_ix ix_seq o_ix (d_fz (dl_lst (da_cons d_int (da_cons d_int (da_cons d_int (da_cons d_int (da_cons d_int (da_cons d_int da_nil)))))))) (d_callG G__law_pick hr tk (da_cons (d_var 0) (da_cons d_int da_nil)))) da_nil)))) (dss_cons (ds_set 3 sc__law_any_belt.nd (d_ix ix_seq o_ix (d_fz (dl_lst (da_cons d_int (da_cons d_int (da_cons d_int (da_cons d_int (da_cons d_int (da_cons d_int da_nil)))))))) (d_callG G__law_pick hr tk (da_cons (d_var 0) (da_cons d_int da_nil))))) (dss_cons (ds_set 3 sc__law_any_belt.nd (d_callB (call_max2 rfl) c_II T.n_max (da_cons d_int (da_cons (d_op op_fdivW o_fdiv (d_var 3) (d_callB (call_max2 rfl) c_II T.n_max (da_cons d_int (da_cons (d_op op_sub o_sub (d_var 2) d_int) da_nil)))) da_nil)))) (dss_cons (ds_setLc (mw := mFz) 4 (own := [("_law_k", 9)]) (rd_fz) rfl sc__law_any_belt.nd (di_range1 (da_cons (d_op op_sub o_sub (d_var 2) d_int) da_nil) T.n_range) (blkOk_by (own := [("_law_k", 9)]) (N := ["_law_bag", "_law_upto", "_law_many", "_law_wide", "_law_gaps", "_law_shifts", "_law_gap_here", "_law_least", "_law_more", "_law_k"]) (sc := defScope s__law_any_belt) (by decide +kernel)) (fun _ _ _ _ _ => (dg_name 9 sc__law_any_belt.nd)) (fun _ _ _ _ _ => dts_nil) (fun _ _ _ _ _ => (d_op op_sub o_sub (d_var 3) (d_op op_mulW o_mul (d_callG G__law_pick hr takes0 (da_cons (d_var 0) (da_cons (d_var 3) da_nil))) (d_callG G__law_pick hr takes0 (da_cons (d_var 0) (da_cons d_int da_nil))))))) (dss_cons (ds_set 5 sc__law_any_belt.nd (d_new (dl_lst (da_cons (d_op op_sub o_sub (d_callG G__law_pick hr tk (da_cons (d_var 0) (da_cons (d_op op_sub o_sub d_int (d_callB (cr_sum rfl) c_sum T.n_sum (da_cons (d_var 4) da_nil))) da_nil))) d_int) da_nil)))) (dss_cons (ds_forA (passes_of rfl) rfl (d_var 4) (dg_name 6 sc__law_any_belt.nd) (dss_one (ds_app (d_var 5) (d_op op_addD o_add (d_ix ix_seq o_ix (d_var 5) (d_fold (d := .int (-1)) (d_un un_neg o_neg d_int) (fun _ _ => rfl))) (d_var 6)) (fun a b => ps_expr (pe_bm PySem.F.plainAttrs_list PySem.F.slot_list_append PySem.F.type_list_append mt_append a (pa_cons b pa_nil)))))) (dss_cons (ds_set 7 sc__law_any_belt.nd (d_op op_addD o_add (d_callB (cr_sum rfl) c_sum T.n_sum (da_cons (d_var 4) da_nil)) d_int)) (dss_cons (ds_set 8 sc__law_any_belt.nd (d_fz (dl_lst (da_cons d_int (da_cons d_int (da_cons d_int (da_cons (d_op op_sub o_sub d_int (d_var 7)) (da_cons (d_callG G__law_pick hr tk (da_cons (d_var 0) (da_cons d_int da_nil))) (da_cons d_int (da_cons (d_callG G__law_pick hr tk (da_cons (d_var 0) (da_cons (d_op op_sub o_sub d_int (d_var 7)) da_nil))) da_nil)))))))))) (dss_one (ds_ret (d_tup (da_cons (d_callTy call_tupF c_tuple T.n_tuple (da_cons (d_var 5) da_nil)) (da_cons (d_op op_addD o_add (d_var 7) (d_ix ix_seq o_ix (d_var 8) (d_callG G__law_pick hr tk (da_cons (d_var 0) (da_cons d_int da_nil))))) da_nil)))))))))))))
abbrev s__law_same : Stmt := top 44
theorem sc__law_same : FnScope ["_law_told", "_law_due"] ["_law_told", "_law_due"] (defScope s__law_same) := ⟨rfl, rfl, rfl, by decide +kernel, rfl, by decide +kernel, by decide +kernel⟩
theorem fn__law_same (T : Txt K mg w) {f : Addr} {fd : FuncData} (hm : mg "_law_same" = some (.ref f)) (F : Fun K "_law_same" "_law_same" s__law_same f fd) : FnDG P w K mg base 1 "_law_same" s__law_same ["_law_told", "_law_due"] m_law_same_v2 := by
  refine fnd_mkG (np := 2) (nN := 2) (k := 0) hm F (F.binds fun _ _ _ _ _ _ us hl => match us, hl with | [_, _], _ => rfl) sc__law_same rfl rfl fun cdv A outer s H E hr => ?_
  have tk : Takes (cxOf (L2.CX P w) P w K mg base ["_law_told", "_law_due"] "_law_same" (defScope s__law_same) f cdv A outer s H E) (fun cls d _ H => E cls d H) := takes_of rfl rfl rfl rfl
  exact (dss_one (ds_ret (d_cmp (op_eqA hr.units) o_eq (d_callB (cr_repr hr) c_repr T.n_repr (da_cons (d_var 0) da_nil)) (d_callB (cr_repr hr) c_repr T.n_repr (da_cons (d_var 1) da_nil)))))
abbrev s__law_minutes : Stmt := top 45
theorem sc__law_minutes : FnScope ["_law_bag", "_law_belts", "_law_tiny", "_law_shifts", "_law_apart", "_law_wide", "_law_near", "_law_amount"] ["_law_bag", "_law_belts", "_law_tiny"] (defScope s__law_minutes) := ⟨rfl, rfl, rfl, by decide +kernel, rfl, by decide +kernel, by decide +kernel⟩
theorem fn__law_minutes (T : Txt K mg w) {f : Addr} {fd : FuncData} (hm : mg "_law_minutes" = some (.ref f)) (F : Fun K "_law_minutes" "_law_minutes" s__law_minutes f fd) (G__law_pick : FnDG P w K mg base 1 "_law_pick" s__law_pick ["_law_bag", "_law_many"] m_law_pick) : FnDG P w K mg base 2 "_law_minutes" s__law_minutes ["_law_bag", "_law_belts", "_law_tiny"] m_law_minutes := by
  refine fnd_mkG (np := 3) (nN := 8) (k := 1) hm F (F.binds fun _ _ _ _ _ _ us hl => match us, hl with | [_, _, _], _ => rfl) sc__law_minutes rfl rfl fun cdv A outer s H E hr => ?_
  have tk : Takes (cxOf (L2.CX P w) P w K mg base ["_law_bag", "_law_belts", "_law_tiny", "_law_shifts", "_law_apart", "_law_wide", "_law_near", "_law_amount"] "_law_minutes" (defScope s__law_minutes) f cdv A outer s H E) (fun cls d _ H => E cls d H) := takes_of rfl rfl rfl rfl
  exact (dss_cons (ds_if (dt_cmp (op_eqA hr.units) o_eq (d_var 2) d_int) (dss_one (ds_ret (d_op op_sub o_sub (d_callG G__law_pick hr tk (da_cons (d_var 0) (da_cons d_int da_nil))) d_int))) dss_nil) (dss_cons (ds_asg (d_ix ix_seq o_ix (d_var 1) (d_callG G__law_pick hr tk (da_cons (d_var 0) (da_cons (d_callB call_len c_len T.n_len (da_cons (d_var 1) da_nil)) da_nil)))) (dg_any rfl (dgs_cons (dg_name 3 sc__law_minutes.nd) (dgs_cons (dg_name 4 sc__law_minutes.nd) dgs_nil)))) (dss_cons (ds_set 5 sc__law_minutes.nd (d_op op_sub o_sub (d_ix ix_seq o_ix (d_var 3) (d_fold (d := .int (-1)) (d_un un_neg o_neg d_int) (fun _ _ => rfl))) (d_ix ix_seq o_ix (d_var 3) d_int))) (dss_cons (ds_set 6 sc__law_minutes.nd (d_fz (dl_lst (da_cons d_int (da_cons (d_var 4) (da_cons (d_var 5) (da_cons d_int (da_cons d_int (da_cons (d_callG G__law_pick hr tk (da_cons (d_var 0) (da_cons d_int da_nil))) (da_cons d_int (da_cons (d_op op_sub o_sub (d_var 4) (d_var 5)) (da_cons (d_op op_addD o_add (d_var 4) (d_var 5)) da_nil)))))))))))) (dss_cons (ds_set 7 sc__law_minutes.nd (d_callB (call_min2 rfl) c_II T.n_min (da_cons d_int (da_cons (d_op op_sub o_sub (d_op op_addD o_add (d_ix ix_seq o_ix (d_var 6) (d_callG G__law_pick hr tk (da_cons (d_var 0) (da_cons d_int da_nil)))) (d_callG G__law_pick hr tk (da_cons (d_var 0) (da_cons d_int da_nil)))) d_int) da_nil)))) (dss_one (ds_ret (d_op op_mulW o_mul (d_var 7) (d_op op_sub o_sub d_int (d_op op_mulW o_mul d_int (d_callG G__law_pick hr tk (da_cons (d_var 0) (da_cons d_int da_nil)))))))))))))
abbrev s__law_any_rules : Stmt := top 46
theorem sc__law_any_rules : FnScope ["_law_bag"] ["_law_bag"] (defScope s__law_any_rules) := ⟨rfl, rfl, rfl, by decide +kernel, rfl, by decide +kernel, by decide +kernel⟩
theorem fn__law_any_rules (T : Txt K mg w) {f : Addr} {fd : FuncData} (hm : mg "_law_any_rules" = some (.ref f)) (F : Fun K "_law_any_rules" "_law_any_rules" s__law_any_rules f fd) (G__law_pick : FnDG P w K mg base 1 "_law_pick" s__law_pick ["_law_bag", "_law_many"] m_law_pick) : FnDG P w K mg base 2 "_law_any_rules" s__law_any_rules ["_law_bag"] m_law_any_rules := by
  refine fnd_mkG (np := 1) (nN := 1) (k := 1) hm F (F.binds fun _ _ _ _ _ _ us hl => match us, hl with | [_], _ => rfl) sc__law_any_rules rfl rfl fun cdv A outer s H E hr => ?_
  have tk : Takes (cxOf (L2.CX P w) P w K mg base ["_law_bag"] "_law_any_rules" (defScope s__law_any_rules) f cdv A outer s H E) (fun cls d _ H => E cls d H) := takes_of rfl rfl rfl rfl
  exact (dss_one (ds_ret (d_tup (da_cons (d_ix ix_seq o_ix (d_fz (dl_lst (da_cons d_str (da_cons d_str (da_cons d_str da_nil))))) (d_callG G__law_pick hr tk (da_cons (d_var 0) (da_cons d_int da_nil)))) (da_cons (d_ix ix_seq o_ix (d_fz (dl_lst (da_cons d_str (da_cons d_str (da_cons d_str da_nil))))) (d_callG G__law_pick hr tk (da_cons (d_var 0) (da_cons d_int da_nil)))) da_nil)))))
abbrev s__law_rows_of : Stmt := top 47
theorem sc__law_rows_of : FnScope ["_law_shifts", "_law_size", "_law_rows", "_law_ahead", "_law_behind", "_law_shift", "_law_k"] ["_law_shifts"] (defScope s__law_rows_of) := ⟨rfl, rfl, rfl, by decide +kernel, rfl, by decide +kernel, by decide +kernel⟩
theorem fn__law_rows_of (T : Txt K mg w) {f : Addr} {fd : FuncData} (hm : mg "_law_rows_of" = some (.ref f)) (F : Fun K "_law_rows_of" "_law_rows_of" s__law_rows_of f fd) : FnDG P w K mg base 1 "_law_rows_of" s__law_rows_of ["_law_shifts"] m_law_rows_of := by
  refine fnd_mkG (np := 1) (nN := 7) (k := 0) hm F (F.binds fun _ _ _ _ _ _ us hl => match us, hl with | [_], _ => rfl) sc__law_rows_of rfl rfl fun cdv A outer s H E hr => ?_
  have tk : Takes (cxOf (L2.CX P w) P w K mg base ["_law_shifts", "_law_size", "_law_rows", "_law_ahead", "_law_behind", "_law_shift", "_law_k"] "_law_rows_of" (defScope s__law_rows_of) f cdv A outer s H E) (fun cls d _ H => E cls d H) := takes_of rfl rfl rfl rfl
  exact (dss_cons (ds_set 1 sc__law_rows_of.nd (d_callB call_len c_len T.n_len (da_cons (d_var 0) da_nil))) (dss_cons (ds_setLcA (mw := mFz) 2 (own := [("_law_shift", 5)]) (rd_fz) rfl sc__law_rows_of.nd (d_var 0) (blkOk_by (own := [("_law_shift", 5)]) (N := ["_law_shifts", "_law_size", "_law_rows", "_law_ahead", "_law_behind", "_law_shift", "_law_k"]) (sc := defScope s__law_rows_of) (by decide +kernel)) (fun _ _ _ _ _ => (dg_name 5 sc__law_rows_of.nd)) (fun _ _ _ _ _ => dts_nil) (fun _ _ _ _ _ => (d_fz (dl_rep (dl_lst (da_cons (d_var 5) da_nil)) (d_var 1))))) (dss_cons (ds_forA (passes_of rfl) rfl (d_var 0) (dg_name 3 sc__law_rows_of.nd) (dss_one (ds_for (passes_of rfl) rfl (di_seq (d_fz (dl_lcA (own := [("_law_shift", 5)]) rfl sc__law_rows_of.nd (d_var 0) (blkOk_by (own := [("_law_shift", 5)]) (N := ["_law_shifts", "_law_size", "_law_rows", "_law_ahead", "_law_behind", "_law_shift", "_law_k"]) (sc := defScope s__law_rows_of) (by decide +kernel)) (fun _ _ _ _ _ => (dg_name 5 sc__law_rows_of.nd)) (fun _ _ _ _ _ => (dts_one (dt_cmp (op_neA hr.units) o_ne (d_var 5) (d_var 3)))) (fun _ _ _ _ _ => (d_var 5))))) (dg_name 4 sc__law_rows_of.nd) (dss_one (ds_set 2 sc__law_rows_of.nd (d_fz (dl_catV (d_var 2) (dl_lc (own := [("_law_k", 6)]) rfl sc__law_rows_of.nd (di_range2 (da_cons d_int (da_cons (d_var 1) da_nil)) T.n_range) (blkOk_by (own := [("_law_k", 6)]) (N := ["_law_shifts", "_law_size", "_law_rows", "_law_ahead", "_law_behind", "_law_shift", "_law_k"]) (sc := defScope s__law_rows_of) (by decide +kernel)) (fun _ _ _ _ _ => (dg_name 6 sc__law_rows_of.nd)) (fun _ _ _ _ _ => dts_nil) (fun _ _ _ _ _ => (d_fz (dl_cat (dl_rep (dl_lst (da_cons (d_var 3) da_nil)) (d_var 6)) (dl_rep (dl_lst (da_cons (d_var 4) da_nil)) (d_op op_sub o_sub (d_var 1) (d_var 6)))))))))))))) (dss_one (ds_ret (d_fz (dl_callB (cr_sortedD hr.u66) c_sortD T.n_sorted (da_cons (d_var 2) da_nil))))))))
abbrev s__law_found_in : Stmt := top 48
theorem sc__law_found_in : FnScope ["_law_shifts", "_law_row", "_law_hour", "_law_double", "_law_none", "_law_fits", "_law_shift"] ["_law_shifts", "_law_row", "_law_hour", "_law_double", "_law_none"] (defScope s__law_found_in) := ⟨rfl, rfl, rfl, by decide +kernel, rfl, by decide +kernel, by decide +kernel⟩
theorem fn__law_found_in (T : Txt K mg w) {f : Addr} {fd : FuncData} (hm : mg "_law_found_in" = some (.ref f)) (F : Fun K "_law_found_in" "_law_found_in" s__law_found_in f fd) : FnDG P w K mg base 1 "_law_found_in" s__law_found_in ["_law_shifts", "_law_row", "_law_hour", "_law_double", "_law_none"] m_law_found_in := by
  refine fnd_mkG (np := 5) (nN := 7) (k := 0) hm F (F.binds fun _ _ _ _ _ _ us hl => match us, hl with | [_, _, _, _, _], _ => rfl) sc__law_found_in rfl rfl fun cdv A outer s H E hr => ?_
  have tk : Takes (cxOf (L2.CX P w) P w K mg base ["_law_shifts", "_law_row", "_law_hour", "_law_double", "_law_none", "_law_fits", "_law_shift"] "_law_found_in" (defScope s__law_found_in) f cdv A outer s H E) (fun cls d _ H => E cls d H) := takes_of rfl rfl rfl rfl
  exact (dss_cons (ds_setLcA (mw := mFz) 5 (own := [("_law_shift", 6)]) (rd_fz) rfl sc__law_found_in.nd (d_backA (d_var 0)) (blkOk_by (own := [("_law_shift", 6)]) (N := ["_law_shifts", "_law_row", "_law_hour", "_law_double", "_law_none", "_law_fits", "_law_shift"]) (sc := defScope s__law_found_in) (by decide +kernel)) (fun _ _ _ _ _ => (dg_name 6 sc__law_found_in.nd)) (fun _ _ _ _ _ => (dts_one (dt_cmp (op_eqA hr.units) o_eq (d_ix ix_seq o_ix (d_var 1) (d_idxT hr.u66 (d_backA (d_var 0)) (d_var 6))) (d_var 6)))) (fun _ _ _ _ _ => (d_op op_sub o_sub (d_var 2) (d_var 6)))) (dss_cons (ds_if (dt_cmp (op_eqA hr.units) o_eq (d_var 5) (d_fz (dl_lst da_nil))) (dss_one (ds_ret (d_dix hr.units (d_disp (dps_cons d_str (d_op op_sub o_sub (d_var 2) (d_ix ix_seq o_ix (d_var 1) d_int)) (dps_cons d_str (d_op op_sub o_sub (d_var 2) (d_ix ix_seq o_ix (d_var 1) (d_fold (d := .int (-1)) (d_un un_neg o_neg d_int) (fun _ _ => rfl)))) (dps_cons d_str d_non dps_nil)))) (d_var 4)))) dss_nil) (dss_cons (ds_if (dt_cmp (op_eqA hr.units) o_eq (d_callB call_len c_len T.n_len (da_cons (d_var 5) da_nil)) d_int) (dss_one (ds_ret (d_ix ix_seq o_ix (d_var 5) d_int))) dss_nil) (dss_one (ds_ret (d_dix hr.units (d_disp (dps_cons d_str (d_ix ix_seq o_ix (d_var 5) d_int) (dps_cons d_str (d_ix ix_seq o_ix (d_var 5) d_int) (dps_cons d_str d_non dps_nil)))) (d_var 3)))))))
abbrev s_law : Stmt := top 49
theorem sc_law : FnScope ["_law_script", "_law_cell", "_law_bag", "_law_belts", "_law_eye", "_law_by", "_law_more", "_law_double", "_law_none", "_law_plan", "_law_due", "_law_shifts", "_law_shown", "_law_hour", "_law_row", "_law_looked", "_law_k", "_law_worth", "_law_made"] ["_law_script"] (defScope s_law) := ⟨rfl, rfl, rfl, by decide +kernel, rfl, by decide +kernel, by decide +kernel⟩
theorem fn_law (T : Txt K mg w) {f : Addr} {fd : FuncData} (hm : mg "law" = some (.ref f)) (F : Fun K "law" "law" s_law f fd) (G__law_same : FnDG P w K mg base 1 "_law_same" s__law_same ["_law_told", "_law_due"] m_law_same_v2) (G_cases : FnDG P w K mg base 7 "cases" s_cases ["zones", "program"] m_cases) (G__law_found_in : FnDG P w K mg base 1 "_law_found_in" s__law_found_in ["_law_shifts", "_law_row", "_law_hour", "_law_double", "_law_none"] m_law_found_in) (G__law_rows_of : FnDG P w K mg base 1 "_law_rows_of" s__law_rows_of ["_law_shifts"] m_law_rows_of) (G__law_pick : FnDG P w K mg base 1 "_law_pick" s__law_pick ["_law_bag", "_law_many"] m_law_pick) (G__law_any_rules : FnDG P w K mg base 2 "_law_any_rules" s__law_any_rules ["_law_bag"] m_law_any_rules) (G__law_minutes : FnDG P w K mg base 2 "_law_minutes" s__law_minutes ["_law_bag", "_law_belts", "_law_tiny"] m_law_minutes) (G__law_any_belt : FnDG P w K mg base 2 "_law_any_belt" s__law_any_belt ["_law_bag", "_law_upto"] m_law_any_belt) (G__law_bag_of : FnDG P w K mg base 1 "_law_bag_of" s__law_bag_of ["_law_cell"] m_law_bag_of) : FnDG P w K mg base 8 "law" s_law ["_law_script"] m_law_k29_cases_of_a_find := by
  refine fnd_mkG (np := 1) (nN := 19) (k := 7) hm F (F.binds fun _ _ _ _ _ _ us hl => match us, hl with | [_], _ => rfl) sc_law rfl rfl fun cdv A outer s H E hr => ?_
  have tk : Takes (cxOf (L2.CX P w) P w K mg base ["_law_script", "_law_cell", "_law_bag", "_law_belts", "_law_eye", "_law_by", "_law_more", "_law_double", "_law_none", "_law_plan", "_law_due", "_law_shifts", "_law_shown", "_law_hour", "_law_row", "_law_looked", "_law_k", "_law_worth", "_law_made"] "law" (defScope s_law) f cdv A outer s H E) (fun cls d _ H => E cls d H) := takes_of rfl rfl rfl rfl
  exact (dss_cons (ds_for (passes_of rfl) rfl (di_seq (d_fz (dl_cat (dl_lst (da_cons d_int da_nil)) (dl_slL (d_var 0) do_none (do_some d_int))))) (dg_name 1 sc_law.nd) (dss_cons (ds_set 2 sc_law.nd (d_callG G__law_bag_of hr tk (da_cons (d_var 1) da_nil))) (dss_cons (ds_set 3 sc_law.nd (d_tup (da_cons (d_callG G__law_any_belt hr tk (da_cons (d_var 2) (da_cons d_int da_nil))) (da_cons (d_callG G__law_any_belt hr tk (da_cons (d_var 2) (da_cons d_int da_nil))) da_nil)))) (dss_cons (ds_par3 4 5 6 rfl sc_law.nd (da_cons (d_callG G__law_pick hr tk (da_cons (d_var 2) (da_cons d_int da_nil))) (da_cons (d_callG G__law_minutes hr tk (da_cons (d_var 2) (da_cons (d_var 3) (da_cons d_int da_nil)))) (da_cons (d_callG G__law_minutes hr tk (da_cons (d_var 2) (da_cons (d_var 3) (da_cons d_int da_nil)))) da_nil)))) (dss_cons (ds_asg (d_callG G__law_any_rules hr tk (da_cons (d_var 2) da_nil)) (dg_any rfl (dgs_cons (dg_name 7 sc_law.nd) (dgs_cons (dg_name 8 sc_law.nd) dgs_nil)))) (dss_cons (ds_set 9 sc_law.nd (d_tup (da_cons (d_tup (da_cons d_str (da_cons d_int (da_cons (d_var 5) da_nil)))) (da_cons (d_tup (da_cons d_str (da_cons d_int (da_cons (d_var 4) da_nil)))) (da_cons (d_tup (da_cons d_str (da_cons d_int (da_cons (d_var 6) da_nil)))) (da_cons (d_tup (da_cons d_str (da_cons d_int (da_cons (d_op op_sub o_sub d_int (d_var 4)) (da_cons (d_var 7) (da_cons (d_var 8) da_nil)))))) da_nil)))))) (dss_cons (ds_set 9 sc_law.nd (d_op op_addD o_add (d_var 9) (d_op op_repA o_mulA (d_tup (da_cons (d_tup (da_cons d_str (da_cons d_int (da_cons d_int da_nil)))) da_nil)) (d_callG G__law_pick hr tk (da_cons (d_var 2) (da_cons d_int da_nil)))))) (dss_cons (ds_par 10 11 rfl sc_law.nd (da_cons (d_new (dl_lst da_nil)) (da_cons (d_ix ix_seq o_ix (d_ix ix_seq o_ix (d_var 3) (d_op op_sub o_sub d_int (d_var 4))) d_int) da_nil))) (dss_cons (ds_forA (passes_of rfl) rfl (d_ix ix_seq o_ix (d_ix ix_seq o_ix (d_var 3) (d_var 4)) d_int) (dg_name 12 sc_law.nd) (dss_cons (ds_set 13 sc_law.nd (d_op op_addD o_add (d_op op_addD o_add (d_var 5) (d_var 12)) (d_var 6))) (dss_one (ds_forA (passes_of rfl) rfl (d_callG G__law_rows_of hr tk (da_cons (d_var 11) da_nil)) (dg_name 14 sc_law.nd) (dss_cons (ds_set 15 sc_law.nd (d_tup (da_cons (d_tup (da_cons (d_var 4) (da_cons d_int (da_cons (d_var 5) (da_cons (d_var 12) da_nil))))) da_nil))) (dss_cons (ds_for (passes_of rfl) rfl (di_range1 (da_cons (d_callB call_len c_len T.n_len (da_cons (d_var 14) da_nil)) da_nil) T.n_range) (dg_name 16 sc_law.nd) (dss_one (ds_set 15 sc_law.nd (d_op op_addD o_add (d_var 15) (d_tup (da_cons (d_tup (da_cons (d_op op_sub o_sub d_int (d_var 4)) (da_cons d_int (da_cons (d_op op_sub o_sub (d_var 13) (d_ix ix_seq o_ix (d_backA (d_var 11)) (d_var 16))) (da_cons (d_ix ix_seq o_ix (d_var 14) (d_var 16)) da_nil))))) da_nil)))))) (dss_cons (ds_set 17 sc_law.nd (d_callG G__law_found_in hr tk (da_cons (d_var 11) (da_cons (d_var 14) (da_cons (d_var 13) (da_cons (d_var 7) (da_cons (d_var 8) da_nil))))))) (dss_cons (ds_set 18 sc_law.nd (d_tup (da_cons d_int (da_cons (d_var 5) (da_cons (d_op op_addD o_add (d_var 5) (d_var 12)) (da_cons (d_var 13) da_nil)))))) (dss_one (ds_if (dt_cmp op_isN o_isN (d_var 17) d_non) (dss_one (ds_app (d_var 10) (d_tup (da_cons (d_var 15) (da_cons (d_var 18) (da_cons d_int da_nil)))) (fun a b => ps_expr (pe_bm PySem.F.plainAttrs_list PySem.F.slot_list_append PySem.F.type_list_append mt_append a (pa_cons b pa_nil))))) (dss_one (ds_app (d_var 10) (d_tup (da_cons (d_var 15) (da_cons (d_slT (d_op op_addD o_add (d_var 18) (d_tup (da_cons (d_var 17) (da_cons (d_op op_addD o_add (d_var 17) d_int) da_nil)))) do_none (do_some (d_op op_addD o_add (d_callB call_len c_len T.n_len (da_cons (d_var 9) da_nil)) d_int))) (da_cons d_non da_nil)))) (fun a b => ps_expr (pe_bm PySem.F.plainAttrs_list PySem.F.slot_list_append PySem.F.type_list_append mt_append a (pa_cons b pa_nil))))))))))))))) (dss_one (ds_if (dt_not (dt_val (d_callG G__law_same hr tk (da_cons (d_callG G_cases hr tk (da_cons (d_var 3) (da_cons (d_var 9) da_nil))) (da_cons (d_var 10) da_nil))))) (dss_one (ds_ret d_bl)) dss_nil))))))))))) (dss_one (ds_ret d_bl)))
end
theorem all_mk {l : PySem.W.OpenLaw} {w : World} {K : Frag} {h : Heap} {mg : Str → Option Value} {fa : Addr} (hlaw : LawTrue m_law_k29_cases_of_a_find) (X : K.In h) (G : h.Ns mainGlobals mg) (hfa : mg "law" = some (.ref fa))
    {f0 : Addr} {od0 an0 : Option Addr} {sl0 : Array (Option Value)} {oc0 kV0 dc0 pm0 cd0 ct0 : Value} {f1 : Addr} {od1 an1 : Option Addr} {sl1 : Array (Option Value)} {oc1 kV1 dc1 pm1 cd1 ct1 : Value} {f2 : Addr} {od2 an2 : Option Addr} {sl2 : Array (Option Value)} {oc2 kV2 dc2 pm2 cd2 ct2 : Value} {f3 : Addr} {od3 an3 : Option Addr} {sl3 : Array (Option Value)} {oc3 kV3 dc3 pm3 cd3 ct3 : Value} {f4 : Addr} {od4 an4 : Option Addr} {sl4 : Array (Option Value)} {oc4 kV4 dc4 pm4 cd4 ct4 : Value} {f5 : Addr} {od5 an5 : Option Addr} {sl5 : Array (Option Value)} {oc5 kV5 dc5 pm5 cd5 ct5 : Value} {f6 : Addr} {od6 an6 : Option Addr} {sl6 : Array (Option Value)} {oc6 kV6 dc6 pm6 cd6 ct6 : Value} {f7 : Addr} {od7 an7 : Option Addr} {sl7 : Array (Option Value)} {oc7 kV7 dc7 pm7 cd7 ct7 : Value} {f8 : Addr} {od8 an8 : Option Addr} {sl8 : Array (Option Value)} {oc8 kV8 dc8 pm8 cd8 ct8 : Value} {f9 : Addr} {od9 an9 : Option Addr} {sl9 : Array (Option Value)} {oc9 kV9 dc9 pm9 cd9 ct9 : Value} {f10 : Addr} {od10 an10 : Option Addr} {sl10 : Array (Option Value)} {oc10 kV10 dc10 pm10 cd10 ct10 : Value} {f11 : Addr} {od11 an11 : Option Addr} {sl11 : Array (Option Value)} {oc11 kV11 dc11 pm11 cd11 ct11 : Value} {f12 : Addr} {od12 an12 : Option Addr} {sl12 : Array (Option Value)} {oc12 kV12 dc12 pm12 cd12 ct12 : Value} {f13 : Addr} {od13 an13 : Option Addr} {sl13 : Array (Option Value)} {oc13 kV13 dc13 pm13 cd13 ct13 : Value} {f14 : Addr} {od14 an14 : Option Addr} {sl14 : Array (Option Value)} {oc14 kV14 dc14 pm14 cd14 ct14 : Value} {f15 : Addr} {od15 an15 : Option Addr} {sl15 : Array (Option Value)} {oc15 kV15 dc15 pm15 cd15 ct15 : Value} {f16 : Addr} {od16 an16 : Option Addr} {sl16 : Array (Option Value)} {oc16 kV16 dc16 pm16 cd16 ct16 : Value} {f17 : Addr} {od17 an17 : Option Addr} {sl17 : Array (Option Value)} {oc17 kV17 dc17 pm17 cd17 ct17 : Value} {f18 : Addr} {od18 an18 : Option Addr} {sl18 : Array (Option Value)} {oc18 kV18 dc18 pm18 cd18 ct18 : Value} {f19 : Addr} {od19 an19 : Option Addr} {sl19 : Array (Option Value)} {oc19 kV19 dc19 pm19 cd19 ct19 : Value} {f20 : Addr} {od20 an20 : Option Addr} {sl20 : Array (Option Value)} {oc20 kV20 dc20 pm20 cd20 ct20 : Value} {f21 : Addr} {od21 an21 : Option Addr} {sl21 : Array (Option Value)} {oc21 kV21 dc21 pm21 cd21 ct21 : Value} {f22 : Addr} {od22 an22 : Option Addr} {sl22 : Array (Option Value)} {oc22 kV22 dc22 pm22 cd22 ct22 : Value} {f23 : Addr} {od23 an23 : Option Addr} {sl23 : Array (Option Value)} {oc23 kV23 dc23 pm23 cd23 ct23 : Value} {f24 : Addr} {od24 an24 : Option Addr} {sl24 : Array (Option Value)} {oc24 kV24 dc24 pm24 cd24 ct24 : Value} {f25 : Addr} {od25 an25 : Option Addr} {sl25 : Array (Option Value)} {oc25 kV25 dc25 pm25 cd25 ct25 : Value} {f26 : Addr} {od26 an26 : Option Addr} {sl26 : Array (Option Value)} {oc26 kV26 dc26 pm26 cd26 ct26 : Value} {f27 : Addr} {od27 an27 : Option Addr} {sl27 : Array (Option Value)} {oc27 kV27 dc27 pm27 cd27 ct27 : Value} {f28 : Addr} {od28 an28 : Option Addr} {sl28 : Array (Option Value)} {oc28 kV28 dc28 pm28 cd28 ct28 : Value} {f29 : Addr} {od29 an29 : Option Addr} {sl29 : Array (Option Value)} {oc29 kV29 dc29 pm29 cd29 ct29 : Value} {f30 : Addr} {od30 an30 : Option Addr} {sl30 : Array (Option Value)} {oc30 kV30 dc30 pm30 cd30 ct30 : Value} {f31 : Addr} {od31 an31 : Option Addr} {sl31 : Array (Option Value)} {oc31 kV31 dc31 pm31 cd31 ct31 : Value} {f32 : Addr} {od32 an32 : Option Addr} {sl32 : Array (Option Value)} {oc32 kV32 dc32 pm32 cd32 ct32 : Value} {Q0_1 : Addr} {nQ0_1 : Nat} {sQ0_1 : Array (Option Value)} {tQ0_2 : Tok} {tQ0_3 : Tok} {tQ0_4 : Tok} {Q1_1 : Addr} {nQ1_1 : Nat} {sQ1_1 : Array (Option Value)} {tQ1_2 : Tok} {tQ1_3 : Tok} {tQ1_4 : Tok} {Q2_t : Addr} {nQ2_t : Nat} {hQ2_0 : Int} {uQ2_0 : Tok} {tQ2_1 : Tok} {hQ2_1 : Int} {uQ2_1 : Tok} {tQ2_2 : Tok} {hQ2_2 : Int} {uQ2_2 : Tok} {tQ2_3 : Tok} {hQ2_3 : Int} {uQ2_3 : Tok} {tQ2_4 : Tok} {hQ2_4 : Int} {uQ2_4 : Tok} {tQ2_5 : Tok} {hQ2_5 : Int} {uQ2_5 : Tok} {tQ2_6 : Tok} {t3 : Tok} {t4 : Tok} {t5 : Tok} {t6 : Tok} {Q7_t : Addr} {nQ7_t : Nat} {hQ7_0 : Int} {uQ7_0 : Tok} {Q7_1 : Addr} {nQ7_1 : Nat} {sQ7_1 : Array (Option Value)} {tQ7_2 : Tok} {tQ7_3 : Tok} {hQ7_1 : Int} {uQ7_1 : Tok} {Q7_4 : Addr} {nQ7_4 : Nat} {sQ7_4 : Array (Option Value)} {tQ7_5 : Tok} {tQ7_6 : Tok} {tQ7_7 : Tok} {tQ7_8 : Tok} {hQ7_2 : Int} {uQ7_2 : Tok} {Q7_9 : Addr} {nQ7_9 : Nat} {sQ7_9 : Array (Option Value)} {tQ7_10 : Tok} {tQ7_11 : Tok} {hQ7_3 : Int} {uQ7_3 : Tok} {Q7_12 : Addr} {nQ7_12 : Nat} {sQ7_12 : Array (Option Value)} {tQ7_13 : Tok} {tQ7_14 : Tok} {hQ7_4 : Int} {uQ7_4 : Tok} {Q7_15 : Addr} {nQ7_15 : Nat} {sQ7_15 : Array (Option Value)} {tQ7_16 : Tok} {tQ7_17 : Tok} {hQ7_5 : Int} {uQ7_5 : Tok} {Q7_18 : Addr} {nQ7_18 : Nat} {sQ7_18 : Array (Option Value)} {tQ7_19 : Tok} {tQ7_20 : Tok} {hQ7_6 : Int} {uQ7_6 : Tok} {Q7_21 : Addr} {nQ7_21 : Nat} {sQ7_21 : Array (Option Value)} {tQ7_22 : Tok} {tQ7_23 : Tok} {C0 : Addr} {C1 : Addr}
    (a0 : PySem.W.nsIn K mainGlobals "is_integer" = some (some (.ref f0)))
    (l0 : K.lookup f0 = some ⟨oc0, od0, .func (PySem.W.fnOf "is_integer" "is_integer" (defArgs s_is_integer) (defBody s_is_integer) (defScope s_is_integer) .none kV0 dc0 pm0 an0 cd0 ct0), sl0⟩)
    (c0 : PySem.W.codeIn K cd0 "is_integer" = true)
    (k0 : PySem.W.keepIn K (.ref f0) = true)
    (a1 : PySem.W.nsIn K mainGlobals "is_zone" = some (some (.ref f1)))
    (l1 : K.lookup f1 = some ⟨oc1, od1, .func (PySem.W.fnOf "is_zone" "is_zone" (defArgs s_is_zone) (defBody s_is_zone) (defScope s_is_zone) .none kV1 dc1 pm1 an1 cd1 ct1), sl1⟩)
    (c1 : PySem.W.codeIn K cd1 "is_zone" = true)
    (k1 : PySem.W.keepIn K (.ref f1) = true)
    (a2 : PySem.W.nsIn K mainGlobals "is_zones" = some (some (.ref f2)))
    (l2 : K.lookup f2 = some ⟨oc2, od2, .func (PySem.W.fnOf "is_zones" "is_zones" (defArgs s_is_zones) (defBody s_is_zones) (defScope s_is_zones) .none kV2 dc2 pm2 an2 cd2 ct2), sl2⟩)
    (c2 : PySem.W.codeIn K cd2 "is_zones" = true)
    (k2 : PySem.W.keepIn K (.ref f2) = true)
    (a3 : PySem.W.nsIn K mainGlobals "need_zones" = some (some (.ref f3)))
    (l3 : K.lookup f3 = some ⟨oc3, od3, .func (PySem.W.fnOf "need_zones" "need_zones" (defArgs s_need_zones) (defBody s_need_zones) (defScope s_need_zones) .none kV3 dc3 pm3 an3 cd3 ct3), sl3⟩)
    (c3 : PySem.W.codeIn K cd3 "need_zones" = true)
    (k3 : PySem.W.keepIn K (.ref f3) = true)
    (a4 : PySem.W.nsIn K mainGlobals "found_by" = some (some (.ref f4)))
    (l4 : K.lookup f4 = some ⟨oc4, od4, .func (PySem.W.fnOf "found_by" "found_by" (defArgs s_found_by) (defBody s_found_by) (defScope s_found_by) .none kV4 dc4 pm4 an4 cd4 ct4), sl4⟩)
    (c4 : PySem.W.codeIn K cd4 "found_by" = true)
    (k4 : PySem.W.keepIn K (.ref f4) = true)
    (a5 : PySem.W.nsIn K mainGlobals "is_part" = some (some (.ref f5)))
    (l5 : K.lookup f5 = some ⟨oc5, od5, .func (PySem.W.fnOf "is_part" "is_part" (defArgs s_is_part) (defBody s_is_part) (defScope s_is_part) .none kV5 dc5 pm5 an5 cd5 ct5), sl5⟩)
    (c5 : PySem.W.codeIn K cd5 "is_part" = true)
    (k5 : PySem.W.keepIn K (.ref f5) = true)
    (a6 : PySem.W.nsIn K mainGlobals "is_step" = some (some (.ref f6)))
    (l6 : K.lookup f6 = some ⟨oc6, od6, .func (PySem.W.fnOf "is_step" "is_step" (defArgs s_is_step) (defBody s_is_step) (defScope s_is_step) .none kV6 dc6 pm6 an6 cd6 ct6), sl6⟩)
    (c6 : PySem.W.codeIn K cd6 "is_step" = true)
    (k6 : PySem.W.keepIn K (.ref f6) = true)
    (a7 : PySem.W.nsIn K mainGlobals "kind_made" = some (some (.ref f7)))
    (l7 : K.lookup f7 = some ⟨oc7, od7, .func (PySem.W.fnOf "kind_made" "kind_made" (defArgs s_kind_made) (defBody s_kind_made) (defScope s_kind_made) .none kV7 dc7 pm7 an7 cd7 ct7), sl7⟩)
    (c7 : PySem.W.codeIn K cd7 "kind_made" = true)
    (k7 : PySem.W.keepIn K (.ref f7) = true)
    (a8 : PySem.W.nsIn K mainGlobals "is_program" = some (some (.ref f8)))
    (l8 : K.lookup f8 = some ⟨oc8, od8, .func (PySem.W.fnOf "is_program" "is_program" (defArgs s_is_program) (defBody s_is_program) (defScope s_is_program) .none kV8 dc8 pm8 an8 cd8 ct8), sl8⟩)
    (c8 : PySem.W.codeIn K cd8 "is_program" = true)
    (k8 : PySem.W.keepIn K (.ref f8) = true)
    (a9 : PySem.W.nsIn K mainGlobals "need_program" = some (some (.ref f9)))
    (l9 : K.lookup f9 = some ⟨oc9, od9, .func (PySem.W.fnOf "need_program" "need_program" (defArgs s_need_program) (defBody s_need_program) (defScope s_need_program) .none kV9 dc9 pm9 an9 cd9 ct9), sl9⟩)
    (c9 : PySem.W.codeIn K cd9 "need_program" = true)
    (k9 : PySem.W.keepIn K (.ref f9) = true)
    (a10 : PySem.W.nsIn K mainGlobals "asked_moments" = some (some (.ref f10)))
    (l10 : K.lookup f10 = some ⟨oc10, od10, .func (PySem.W.fnOf "asked_moments" "asked_moments" (defArgs s_asked_moments) (defBody s_asked_moments) (defScope s_asked_moments) .none kV10 dc10 pm10 an10 cd10 ct10), sl10⟩)
    (c10 : PySem.W.codeIn K cd10 "asked_moments" = true)
    (k10 : PySem.W.keepIn K (.ref f10) = true)
    (a11 : PySem.W.nsIn K mainGlobals "value_made" = some (some (.ref f11)))
    (l11 : K.lookup f11 = some ⟨oc11, od11, .func (PySem.W.fnOf "value_made" "value_made" (defArgs s_value_made) (defBody s_value_made) (defScope s_value_made) .none kV11 dc11 pm11 an11 cd11 ct11), sl11⟩)
    (c11 : PySem.W.codeIn K cd11 "value_made" = true)
    (k11 : PySem.W.keepIn K (.ref f11) = true)
    (a12 : PySem.W.nsIn K mainGlobals "early_of" = some (some (.ref f12)))
    (l12 : K.lookup f12 = some ⟨oc12, od12, .func (PySem.W.fnOf "early_of" "early_of" (defArgs s_early_of) (defBody s_early_of) (defScope s_early_of) .none kV12 dc12 pm12 an12 cd12 ct12), sl12⟩)
    (c12 : PySem.W.codeIn K cd12 "early_of" = true)
    (k12 : PySem.W.keepIn K (.ref f12) = true)
    (a13 : PySem.W.nsIn K mainGlobals "looks_fit" = some (some (.ref f13)))
    (l13 : K.lookup f13 = some ⟨oc13, od13, .func (PySem.W.fnOf "looks_fit" "looks_fit" (defArgs s_looks_fit) (defBody s_looks_fit) (defScope s_looks_fit) .none kV13 dc13 pm13 an13 cd13 ct13), sl13⟩)
    (c13 : PySem.W.codeIn K cd13 "looks_fit" = true)
    (k13 : PySem.W.keepIn K (.ref f13) = true)
    (a14 : PySem.W.nsIn K mainGlobals "edition_at" = some (some (.ref f14)))
    (l14 : K.lookup f14 = some ⟨oc14, od14, .func (PySem.W.fnOf "edition_at" "edition_at" (defArgs s_edition_at) (defBody s_edition_at) (defScope s_edition_at) .none kV14 dc14 pm14 an14 cd14 ct14), sl14⟩)
    (c14 : PySem.W.codeIn K cd14 "edition_at" = true)
    (k14 : PySem.W.keepIn K (.ref f14) = true)
    (a15 : PySem.W.nsIn K mainGlobals "looks_in" = some (some (.ref f15)))
    (l15 : K.lookup f15 = some ⟨oc15, od15, .func (PySem.W.fnOf "looks_in" "looks_in" (defArgs s_looks_in) (defBody s_looks_in) (defScope s_looks_in) .none kV15 dc15 pm15 an15 cd15 ct15), sl15⟩)
    (c15 : PySem.W.codeIn K cd15 "looks_in" = true)
    (k15 : PySem.W.keepIn K (.ref f15) = true)
    (a16 : PySem.W.nsIn K mainGlobals "later_looks" = some (some (.ref f16)))
    (l16 : K.lookup f16 = some ⟨oc16, od16, .func (PySem.W.fnOf "later_looks" "later_looks" (defArgs s_later_looks) (defBody s_later_looks) (defScope s_later_looks) .none kV16 dc16 pm16 an16 cd16 ct16), sl16⟩)
    (c16 : PySem.W.codeIn K cd16 "later_looks" = true)
    (k16 : PySem.W.keepIn K (.ref f16) = true)
    (a17 : PySem.W.nsIn K mainGlobals "edition_of" = some (some (.ref f17)))
    (l17 : K.lookup f17 = some ⟨oc17, od17, .func (PySem.W.fnOf "edition_of" "edition_of" (defArgs s_edition_of) (defBody s_edition_of) (defScope s_edition_of) .none kV17 dc17 pm17 an17 cd17 ct17), sl17⟩)
    (c17 : PySem.W.codeIn K cd17 "edition_of" = true)
    (k17 : PySem.W.keepIn K (.ref f17) = true)
    (a18 : PySem.W.nsIn K mainGlobals "offset_known" = some (some (.ref f18)))
    (l18 : K.lookup f18 = some ⟨oc18, od18, .func (PySem.W.fnOf "offset_known" "offset_known" (defArgs s_offset_known) (defBody s_offset_known) (defScope s_offset_known) .none kV18 dc18 pm18 an18 cd18 ct18), sl18⟩)
    (c18 : PySem.W.codeIn K cd18 "offset_known" = true)
    (k18 : PySem.W.keepIn K (.ref f18) = true)
    (a19 : PySem.W.nsIn K mainGlobals "both_fit" = some (some (.ref f19)))
    (l19 : K.lookup f19 = some ⟨oc19, od19, .func (PySem.W.fnOf "both_fit" "both_fit" (defArgs s_both_fit) (defBody s_both_fit) (defScope s_both_fit) .none kV19 dc19 pm19 an19 cd19 ct19), sl19⟩)
    (c19 : PySem.W.codeIn K cd19 "both_fit" = true)
    (k19 : PySem.W.keepIn K (.ref f19) = true)
    (a20 : PySem.W.nsIn K mainGlobals "longer_looked" = some (some (.ref f20)))
    (l20 : K.lookup f20 = some ⟨oc20, od20, .func (PySem.W.fnOf "longer_looked" "longer_looked" (defArgs s_longer_looked) (defBody s_longer_looked) (defScope s_longer_looked) .none kV20 dc20 pm20 an20 cd20 ct20), sl20⟩)
    (c20 : PySem.W.codeIn K cd20 "longer_looked" = true)
    (k20 : PySem.W.keepIn K (.ref f20) = true)
    (a21 : PySem.W.nsIn K mainGlobals "cases_behind" = some (some (.ref f21)))
    (l21 : K.lookup f21 = some ⟨oc21, od21, .func (PySem.W.fnOf "cases_behind" "cases_behind" (defArgs s_cases_behind) (defBody s_cases_behind) (defScope s_cases_behind) .none kV21 dc21 pm21 an21 cd21 ct21), sl21⟩)
    (c21 : PySem.W.codeIn K cd21 "cases_behind" = true)
    (k21 : PySem.W.keepIn K (.ref f21) = true)
    (a22 : PySem.W.nsIn K mainGlobals "cases_from" = some (some (.ref f22)))
    (l22 : K.lookup f22 = some ⟨oc22, od22, .func (PySem.W.fnOf "cases_from" "cases_from" (defArgs s_cases_from) (defBody s_cases_from) (defScope s_cases_from) .none kV22 dc22 pm22 an22 cd22 ct22), sl22⟩)
    (c22 : PySem.W.codeIn K cd22 "cases_from" = true)
    (k22 : PySem.W.keepIn K (.ref f22) = true)
    (a23 : PySem.W.nsIn K mainGlobals "cases" = some (some (.ref f23)))
    (l23 : K.lookup f23 = some ⟨oc23, od23, .func (PySem.W.fnOf "cases" "cases" (defArgs s_cases) (defBody s_cases) (defScope s_cases) .none kV23 dc23 pm23 an23 cd23 ct23), sl23⟩)
    (c23 : PySem.W.codeIn K cd23 "cases" = true)
    (k23 : PySem.W.keepIn K (.ref f23) = true)
    (a24 : PySem.W.nsIn K mainGlobals "_law_bag_of" = some (some (.ref f24)))
    (l24 : K.lookup f24 = some ⟨oc24, od24, .func (PySem.W.fnOf "_law_bag_of" "_law_bag_of" (defArgs s__law_bag_of) (defBody s__law_bag_of) (defScope s__law_bag_of) .none kV24 dc24 pm24 an24 cd24 ct24), sl24⟩)
    (c24 : PySem.W.codeIn K cd24 "_law_bag_of" = true)
    (k24 : PySem.W.keepIn K (.ref f24) = true)
    (a25 : PySem.W.nsIn K mainGlobals "_law_pick" = some (some (.ref f25)))
    (l25 : K.lookup f25 = some ⟨oc25, od25, .func (PySem.W.fnOf "_law_pick" "_law_pick" (defArgs s__law_pick) (defBody s__law_pick) (defScope s__law_pick) .none kV25 dc25 pm25 an25 cd25 ct25), sl25⟩)
    (c25 : PySem.W.codeIn K cd25 "_law_pick" = true)
    (k25 : PySem.W.keepIn K (.ref f25) = true)
    (a26 : PySem.W.nsIn K mainGlobals "_law_any_belt" = some (some (.ref f26)))
    (l26 : K.lookup f26 = some ⟨oc26, od26, .func (PySem.W.fnOf "_law_any_belt" "_law_any_belt" (defArgs s__law_any_belt) (defBody s__law_any_belt) (defScope s__law_any_belt) .none kV26 dc26 pm26 an26 cd26 ct26), sl26⟩)
    (c26 : PySem.W.codeIn K cd26 "_law_any_belt" = true)
    (k26 : PySem.W.keepIn K (.ref f26) = true)
    (a27 : PySem.W.nsIn K mainGlobals "_law_same" = some (some (.ref f27)))
    (l27 : K.lookup f27 = some ⟨oc27, od27, .func (PySem.W.fnOf "_law_same" "_law_same" (defArgs s__law_same) (defBody s__law_same) (defScope s__law_same) .none kV27 dc27 pm27 an27 cd27 ct27), sl27⟩)
    (c27 : PySem.W.codeIn K cd27 "_law_same" = true)
    (k27 : PySem.W.keepIn K (.ref f27) = true)
    (a28 : PySem.W.nsIn K mainGlobals "_law_minutes" = some (some (.ref f28)))
    (l28 : K.lookup f28 = some ⟨oc28, od28, .func (PySem.W.fnOf "_law_minutes" "_law_minutes" (defArgs s__law_minutes) (defBody s__law_minutes) (defScope s__law_minutes) .none kV28 dc28 pm28 an28 cd28 ct28), sl28⟩)
    (c28 : PySem.W.codeIn K cd28 "_law_minutes" = true)
    (k28 : PySem.W.keepIn K (.ref f28) = true)
    (a29 : PySem.W.nsIn K mainGlobals "_law_any_rules" = some (some (.ref f29)))
    (l29 : K.lookup f29 = some ⟨oc29, od29, .func (PySem.W.fnOf "_law_any_rules" "_law_any_rules" (defArgs s__law_any_rules) (defBody s__law_any_rules) (defScope s__law_any_rules) .none kV29 dc29 pm29 an29 cd29 ct29), sl29⟩)
    (c29 : PySem.W.codeIn K cd29 "_law_any_rules" = true)
    (k29 : PySem.W.keepIn K (.ref f29) = true)
    (a30 : PySem.W.nsIn K mainGlobals "_law_rows_of" = some (some (.ref f30)))
    (l30 : K.lookup f30 = some ⟨oc30, od30, .func (PySem.W.fnOf "_law_rows_of" "_law_rows_of" (defArgs s__law_rows_of) (defBody s__law_rows_of) (defScope s__law_rows_of) .none kV30 dc30 pm30 an30 cd30 ct30), sl30⟩)
    (c30 : PySem.W.codeIn K cd30 "_law_rows_of" = true)
    (k30 : PySem.W.keepIn K (.ref f30) = true)
    (a31 : PySem.W.nsIn K mainGlobals "_law_found_in" = some (some (.ref f31)))
    (l31 : K.lookup f31 = some ⟨oc31, od31, .func (PySem.W.fnOf "_law_found_in" "_law_found_in" (defArgs s__law_found_in) (defBody s__law_found_in) (defScope s__law_found_in) .none kV31 dc31 pm31 an31 cd31 ct31), sl31⟩)
    (c31 : PySem.W.codeIn K cd31 "_law_found_in" = true)
    (k31 : PySem.W.keepIn K (.ref f31) = true)
    (a32 : PySem.W.nsIn K mainGlobals "law" = some (some (.ref f32)))
    (l32 : K.lookup f32 = some ⟨oc32, od32, .func (PySem.W.fnOf "law" "law" (defArgs s_law) (defBody s_law) (defScope s_law) .none kV32 dc32 pm32 an32 cd32 ct32), sl32⟩)
    (c32 : PySem.W.codeIn K cd32 "law" = true)
    (k32 : PySem.W.keepIn K (.ref f32) = true)
    (z0 : PySem.W.nsIn K mainGlobals "all" = some none)
    (z1 : PySem.W.nsIn K mainGlobals "bool" = some none)
    (z2 : PySem.W.nsIn K mainGlobals "enumerate" = some none)
    (z3 : PySem.W.nsIn K mainGlobals "int" = some none)
    (z4 : PySem.W.nsIn K mainGlobals "isinstance" = some none)
    (z5 : PySem.W.nsIn K mainGlobals "len" = some none)
    (z6 : PySem.W.nsIn K mainGlobals "max" = some none)
    (z7 : PySem.W.nsIn K mainGlobals "min" = some none)
    (z8 : PySem.W.nsIn K mainGlobals "range" = some none)
    (z9 : PySem.W.nsIn K mainGlobals "repr" = some none)
    (z10 : PySem.W.nsIn K mainGlobals "sorted" = some none)
    (z11 : PySem.W.nsIn K mainGlobals "str" = some none)
    (z12 : PySem.W.nsIn K mainGlobals "sum" = some none)
    (z13 : PySem.W.nsIn K mainGlobals "tuple" = some none)
    (v0 : PySem.W.nsIn K mainGlobals "FOLDS" = some (some (.ref Q0_1)))
    (q0_1 : K.lookup Q0_1 = some ⟨.type "tuple", none, .seq #[(.str "early" tQ0_2), (.str "late" tQ0_3), (.str "refuse" tQ0_4)] nQ0_1, sQ0_1⟩)
    (v1 : PySem.W.nsIn K mainGlobals "GAPS" = some (some (.ref Q1_1)))
    (q1_1 : K.lookup Q1_1 = some ⟨.type "tuple", none, .seq #[(.str "ahead" tQ1_2), (.str "behind" tQ1_3), (.str "refuse" tQ1_4)] nQ1_1, sQ1_1⟩)
    (v2 : PySem.W.nsIn K mainGlobals "MADE" = some (some (.ref Q2_t)))
    (tb2 : K.lookup Q2_t = some ⟨.type "dict", none, .dict #[⟨hQ2_0, (.str "read" uQ2_0), (.str "reading" tQ2_1)⟩, ⟨hQ2_1, (.str "find" uQ2_1), (.str "moment" tQ2_2)⟩, ⟨hQ2_2, (.str "offset" uQ2_2), (.str "span" tQ2_3)⟩, ⟨hQ2_3, (.str "edition" uQ2_3), (.str "moment" tQ2_4)⟩, ⟨hQ2_4, (.str "plus" uQ2_4), (.str "reading" tQ2_5)⟩, ⟨hQ2_5, (.str "less" uQ2_5), (.str "moment" tQ2_6)⟩] nQ2_t, #[]⟩)
    (hs2_0 : hQ2_0 = PyData.keyHash w.params "read")
    (hs2_1 : hQ2_1 = PyData.keyHash w.params "find")
    (hs2_2 : hQ2_2 = PyData.keyHash w.params "offset")
    (hs2_3 : hQ2_3 = PyData.keyHash w.params "edition")
    (hs2_4 : hQ2_4 = PyData.keyHash w.params "plus")
    (hs2_5 : hQ2_5 = PyData.keyHash w.params "less")
    (lw2 : (Q2_t == sysModules) = false)
    (v3 : PySem.W.nsIn K mainGlobals "MOST_MINUTES" = some (some (.int (100000) t3)))
    (v4 : PySem.W.nsIn K mainGlobals "MOST_OFFSET" = some (some (.int (900) t4)))
    (v5 : PySem.W.nsIn K mainGlobals "MOST_SPACING" = some (some (.int (1000000) t5)))
    (v6 : PySem.W.nsIn K mainGlobals "MOST_STEPS" = some (some (.int (8) t6)))
    (v7 : PySem.W.nsIn K mainGlobals "PARTS" = some (some (.ref Q7_t)))
    (tb7 : K.lookup Q7_t = some ⟨.type "dict", none, .dict #[⟨hQ7_0, (.str "read" uQ7_0), (.ref Q7_1)⟩, ⟨hQ7_1, (.str "find" uQ7_1), (.ref Q7_4)⟩, ⟨hQ7_2, (.str "offset" uQ7_2), (.ref Q7_9)⟩, ⟨hQ7_3, (.str "edition" uQ7_3), (.ref Q7_12)⟩, ⟨hQ7_4, (.str "plus" uQ7_4), (.ref Q7_15)⟩, ⟨hQ7_5, (.str "less" uQ7_5), (.ref Q7_18)⟩, ⟨hQ7_6, (.str "add" uQ7_6), (.ref Q7_21)⟩] nQ7_t, #[]⟩)
    (hs7_0 : hQ7_0 = PyData.keyHash w.params "read")
    (hs7_1 : hQ7_1 = PyData.keyHash w.params "find")
    (hs7_2 : hQ7_2 = PyData.keyHash w.params "offset")
    (hs7_3 : hQ7_3 = PyData.keyHash w.params "edition")
    (hs7_4 : hQ7_4 = PyData.keyHash w.params "plus")
    (hs7_5 : hQ7_5 = PyData.keyHash w.params "less")
    (hs7_6 : hQ7_6 = PyData.keyHash w.params "add")
    (lw7 : (Q7_t == sysModules) = false)
    (q7_1 : K.lookup Q7_1 = some ⟨.type "tuple", none, .seq #[(.str "moment" tQ7_2), (.str "place" tQ7_3)] nQ7_1, sQ7_1⟩)
    (q7_4 : K.lookup Q7_4 = some ⟨.type "tuple", none, .seq #[(.str "reading" tQ7_5), (.str "place" tQ7_6), (.str "fold" tQ7_7), (.str "gap" tQ7_8)] nQ7_4, sQ7_4⟩)
    (q7_9 : K.lookup Q7_9 = some ⟨.type "tuple", none, .seq #[(.str "moment" tQ7_10), (.str "place" tQ7_11)] nQ7_9, sQ7_9⟩)
    (q7_12 : K.lookup Q7_12 = some ⟨.type "tuple", none, .seq #[(.str "moment" tQ7_13), (.str "place" tQ7_14)] nQ7_12, sQ7_12⟩)
    (q7_15 : K.lookup Q7_15 = some ⟨.type "tuple", none, .seq #[(.str "moment" tQ7_16), (.str "span" tQ7_17)] nQ7_15, sQ7_15⟩)
    (q7_18 : K.lookup Q7_18 = some ⟨.type "tuple", none, .seq #[(.str "reading" tQ7_19), (.str "span" tQ7_20)] nQ7_18, sQ7_18⟩)
    (q7_21 : K.lookup Q7_21 = some ⟨.type "tuple", none, .seq #[(.str "point" tQ7_22), (.str "minutes" tQ7_23)] nQ7_21, sQ7_21⟩)
    (xa0 : PySem.W.nsIn K mainGlobals "InvalidProgram" = some (some (.ref C0)))
    (xq0 : PySem.W.excIn K C0 [.type "ValueError", .type "Exception", .type "BaseException", .type "object"] "ValueError.__new__" = true)
    (xk0 : PySem.W.keepIn K (.ref C0) = true)
    (xb0 : PySem.W.subIn K (.ref C0) (.type "BaseException") = some true)
    (xt0 : PySem.W.typeIn K (.ref C0) = some (.type "type"))
    (xa1 : PySem.W.nsIn K mainGlobals "InvalidZones" = some (some (.ref C1)))
    (xq1 : PySem.W.excIn K C1 [.type "ValueError", .type "Exception", .type "BaseException", .type "object"] "ValueError.__new__" = true)
    (xk1 : PySem.W.keepIn K (.ref C1) = true)
    (xb1 : PySem.W.subIn K (.ref C1) (.type "BaseException") = some true)
    (xt1 : PySem.W.typeIn K (.ref C1) = some (.type "type")) :
    ∃ fd : FuncData, (∀ (s : Shared) (v : Value), BindsTo s fd ⟨[v], []⟩ [("_law_script", v)]) ∧ ∀ base : Heap, K.In base → base.Ns mainGlobals mg → FnG l.prog w K mg base (L2.CX l.prog w) 8 fa fd ["_law_script"] (spLaw K) := by
  have e := hfa.symm.trans (PySem.W.mg_of X G a32)
  cases e
  have T : Txt K mg w := ⟨PySem.W.mg_none_of X G z0, PySem.W.mg_none_of X G z1, PySem.W.mg_none_of X G z2, PySem.W.mg_none_of X G z3, PySem.W.mg_none_of X G z4, PySem.W.mg_none_of X G z5, PySem.W.mg_none_of X G z6, PySem.W.mg_none_of X G z7, PySem.W.mg_none_of X G z8, PySem.W.mg_none_of X G z9, PySem.W.mg_none_of X G z10, PySem.W.mg_none_of X G z11, PySem.W.mg_none_of X G z12, PySem.W.mg_none_of X G z13, ⟨_, _, PySem.W.mg_of X G v0, rvR, (.tup (kt_mk q0_1 (Nat.le_of_ble_eq_true rfl) (.cons rvS (.cons rvS (.cons rvS .nil)))) (.cons (.str _) (.cons (.str _) (.cons (.str _) .nil))))⟩, ⟨_, _, PySem.W.mg_of X G v1, rvR, (.tup (kt_mk q1_1 (Nat.le_of_ble_eq_true rfl) (.cons rvS (.cons rvS (.cons rvS .nil)))) (.cons (.str _) (.cons (.str _) (.cons (.str _) .nil))))⟩, ⟨_, _, _, PySem.W.mg_of X G v2, tb2, lw2, (.cons rfl hs2_0 rvS (.str _) (.cons rfl hs2_1 rvS (.str _) (.cons rfl hs2_2 rvS (.str _) (.cons rfl hs2_3 rvS (.str _) (.cons rfl hs2_4 rvS (.str _) (.cons rfl hs2_5 rvS (.str _) .nil))))))⟩, ⟨t3, PySem.W.mg_of X G v3⟩, ⟨t4, PySem.W.mg_of X G v4⟩, ⟨t5, PySem.W.mg_of X G v5⟩, ⟨t6, PySem.W.mg_of X G v6⟩, ⟨_, _, _, PySem.W.mg_of X G v7, tb7, lw7, (.cons rfl hs7_0 rvR (.tup (kt_mk q7_1 (Nat.le_of_ble_eq_true rfl) (.cons rvS (.cons rvS .nil))) (.cons (.str _) (.cons (.str _) .nil))) (.cons rfl hs7_1 rvR (.tup (kt_mk q7_4 (Nat.le_of_ble_eq_true rfl) (.cons rvS (.cons rvS (.cons rvS (.cons rvS .nil))))) (.cons (.str _) (.cons (.str _) (.cons (.str _) (.cons (.str _) .nil))))) (.cons rfl hs7_2 rvR (.tup (kt_mk q7_9 (Nat.le_of_ble_eq_true rfl) (.cons rvS (.cons rvS .nil))) (.cons (.str _) (.cons (.str _) .nil))) (.cons rfl hs7_3 rvR (.tup (kt_mk q7_12 (Nat.le_of_ble_eq_true rfl) (.cons rvS (.cons rvS .nil))) (.cons (.str _) (.cons (.str _) .nil))) (.cons rfl hs7_4 rvR (.tup (kt_mk q7_15 (Nat.le_of_ble_eq_true rfl) (.cons rvS (.cons rvS .nil))) (.cons (.str _) (.cons (.str _) .nil))) (.cons rfl hs7_5 rvR (.tup (kt_mk q7_18 (Nat.le_of_ble_eq_true rfl) (.cons rvS (.cons rvS .nil))) (.cons (.str _) (.cons (.str _) .nil))) (.cons rfl hs7_6 rvR (.tup (kt_mk q7_21 (Nat.le_of_ble_eq_true rfl) (.cons rvS (.cons rvS .nil))) (.cons (.str _) (.cons (.str _) .nil))) .nil)))))))⟩, ⟨C0, PySem.W.mg_of X G xa0, xq0, xk0, xb0, xt0⟩, ⟨C1, PySem.W.mg_of X G xa1, xq1, xk1, xb1, xt1⟩⟩
  have F0 := fun_mk (st := s_is_integer) l0 c0 k0
  have F1 := fun_mk (st := s_is_zone) l1 c1 k1
  have F2 := fun_mk (st := s_is_zones) l2 c2 k2
  have F3 := fun_mk (st := s_need_zones) l3 c3 k3
  have F4 := fun_mk (st := s_found_by) l4 c4 k4
  have F5 := fun_mk (st := s_is_part) l5 c5 k5
  have F6 := fun_mk (st := s_is_step) l6 c6 k6
  have F7 := fun_mk (st := s_kind_made) l7 c7 k7
  have F8 := fun_mk (st := s_is_program) l8 c8 k8
  have F9 := fun_mk (st := s_need_program) l9 c9 k9
  have F10 := fun_mk (st := s_asked_moments) l10 c10 k10
  have F11 := fun_mk (st := s_value_made) l11 c11 k11
  have F12 := fun_mk (st := s_early_of) l12 c12 k12
  have F13 := fun_mk (st := s_looks_fit) l13 c13 k13
  have F14 := fun_mk (st := s_edition_at) l14 c14 k14
  have F15 := fun_mk (st := s_looks_in) l15 c15 k15
  have F16 := fun_mk (st := s_later_looks) l16 c16 k16
  have F17 := fun_mk (st := s_edition_of) l17 c17 k17
  have F18 := fun_mk (st := s_offset_known) l18 c18 k18
  have F19 := fun_mk (st := s_both_fit) l19 c19 k19
  have F20 := fun_mk (st := s_longer_looked) l20 c20 k20
  have F21 := fun_mk (st := s_cases_behind) l21 c21 k21
  have F22 := fun_mk (st := s_cases_from) l22 c22 k22
  have F23 := fun_mk (st := s_cases) l23 c23 k23
  have F24 := fun_mk (st := s__law_bag_of) l24 c24 k24
  have F25 := fun_mk (st := s__law_pick) l25 c25 k25
  have F26 := fun_mk (st := s__law_any_belt) l26 c26 k26
  have F27 := fun_mk (st := s__law_same) l27 c27 k27
  have F28 := fun_mk (st := s__law_minutes) l28 c28 k28
  have F29 := fun_mk (st := s__law_any_rules) l29 c29 k29
  have F30 := fun_mk (st := s__law_rows_of) l30 c30 k30
  have F31 := fun_mk (st := s__law_found_in) l31 c31 k31
  have F32 := fun_mk (st := s_law) l32 c32 k32
  refine ⟨PySem.W.fnOf "law" "law" (defArgs s_law) (defBody s_law) (defScope s_law) .none kV32 dc32 pm32 an32 cd32 ct32, fun s v => .of_eq rfl, fun base _ _ => ?_⟩
  have G_is_integer := fn_is_integer (P := l.prog) (w := w) (base := base) T (PySem.W.mg_of X G a0) F0  
  have G_is_zone := fn_is_zone (P := l.prog) (w := w) (base := base) T (PySem.W.mg_of X G a1) F1  G_is_integer
  have G_is_zones := fn_is_zones (P := l.prog) (w := w) (base := base) T (PySem.W.mg_of X G a2) F2  G_is_zone
  have G_need_zones := fn_need_zones (P := l.prog) (w := w) (base := base) T (PySem.W.mg_of X G a3) F3  G_is_zones
  have G_found_by := fn_found_by (P := l.prog) (w := w) (base := base) T (PySem.W.mg_of X G a4) F4  
  have G_is_part := fn_is_part (P := l.prog) (w := w) (base := base) T (PySem.W.mg_of X G a5) F5  G_is_integer
  have G_is_step := fn_is_step (P := l.prog) (w := w) (base := base) T (PySem.W.mg_of X G a6) F6  G_is_part
  have G_kind_made := fn_kind_made (P := l.prog) (w := w) (base := base) T (PySem.W.mg_of X G a7) F7  
  have G_is_program := fn_is_program (P := l.prog) (w := w) (base := base) T (PySem.W.mg_of X G a8) F8  G_kind_made G_is_step G_need_zones
  have G_need_program := fn_need_program (P := l.prog) (w := w) (base := base) T (PySem.W.mg_of X G a9) F9  G_is_program
  have G_asked_moments := fn_asked_moments (P := l.prog) (w := w) (base := base) T (PySem.W.mg_of X G a10) F10  
  have G_value_made := fn_value_made (P := l.prog) (w := w) (base := base) T (PySem.W.mg_of X G a11) F11  G_found_by
  have G_early_of := fn_early_of (P := l.prog) (w := w) (base := base) T (PySem.W.mg_of X G a12) F12  
  have G_looks_fit := fn_looks_fit (P := l.prog) (w := w) (base := base) T (PySem.W.mg_of X G a13) F13  G_early_of
  have G_edition_at := fn_edition_at (P := l.prog) (w := w) (base := base) T (PySem.W.mg_of X G a14) F14  
  have G_looks_in := fn_looks_in (P := l.prog) (w := w) (base := base) T (PySem.W.mg_of X G a15) F15  
  have G_later_looks := fn_later_looks (P := l.prog) (w := w) (base := base) T (PySem.W.mg_of X G a16) F16  G_looks_in
  have G_edition_of := fn_edition_of (P := l.prog) (w := w) (base := base) T (PySem.W.mg_of X G a17) F17  
  have G_offset_known := fn_offset_known (P := l.prog) (w := w) (base := base) T (PySem.W.mg_of X G a18) F18  G_edition_of
  have G_both_fit := fn_both_fit (P := l.prog) (w := w) (base := base) T (PySem.W.mg_of X G a19) F19  G_looks_fit G_later_looks G_looks_in
  have G_longer_looked := fn_longer_looked (P := l.prog) (w := w) (base := base) T (PySem.W.mg_of X G a20) F20  G_both_fit G_edition_of G_offset_known
  have G_cases_behind := fn_cases_behind (P := l.prog) (w := w) (base := base) T (PySem.W.mg_of X G a21) F21  G_value_made G_offset_known G_longer_looked G_edition_at G_asked_moments
  have G_cases_from := fn_cases_from (P := l.prog) (w := w) (base := base) T (PySem.W.mg_of X G a22) F22  G_cases_behind
  have G_cases := fn_cases (P := l.prog) (w := w) (base := base) T (PySem.W.mg_of X G a23) F23  G_cases_from G_need_program G_need_zones
  have G__law_bag_of := fn__law_bag_of (P := l.prog) (w := w) (base := base) T (PySem.W.mg_of X G a24) F24  
  have G__law_pick := fn__law_pick (P := l.prog) (w := w) (base := base) T (PySem.W.mg_of X G a25) F25  
  have G__law_any_belt := fn__law_any_belt (P := l.prog) (w := w) (base := base) T (PySem.W.mg_of X G a26) F26  G__law_pick
  have G__law_same := fn__law_same (P := l.prog) (w := w) (base := base) T (PySem.W.mg_of X G a27) F27  
  have G__law_minutes := fn__law_minutes (P := l.prog) (w := w) (base := base) T (PySem.W.mg_of X G a28) F28  G__law_pick
  have G__law_any_rules := fn__law_any_rules (P := l.prog) (w := w) (base := base) T (PySem.W.mg_of X G a29) F29  G__law_pick
  have G__law_rows_of := fn__law_rows_of (P := l.prog) (w := w) (base := base) T (PySem.W.mg_of X G a30) F30  
  have G__law_found_in := fn__law_found_in (P := l.prog) (w := w) (base := base) T (PySem.W.mg_of X G a31) F31  
  have G_law := fn_law (P := l.prog) (w := w) (base := base) T (PySem.W.mg_of X G a32) F32  G__law_same G_cases G__law_found_in G__law_rows_of G__law_pick G__law_any_rules G__law_minutes G__law_any_belt G__law_bag_of
  exact law_okG (PySem.W.mg_of X G a32) F32 G_law hlaw
theorem walk {l : PySem.W.OpenLaw} {q : Program} {loose : List Str} {XP : (Str → Option Value) → Heap → Prop} {YP : World → Heap → Prop} {d : DefRec} {K : Params → Frag} (hn : l.most = some 63) (hdf : d.params.defaults = [])
    (hY : ∀ (w : World) (h : Heap), YP w h → (K w.params).In h)
    (F : ∀ (w : World) (mg : Str → Option Value) (fa : Addr) (h : Heap), (K w.params).In h → h.Ns mainGlobals mg → mg d.name = some (.ref fa) →
      ∃ fd : FuncData, (∀ (s : Shared) (u : Value), BindsTo s fd ⟨[u], []⟩ [("_law_script", u)]) ∧ ∀ base : Heap, (K w.params).In base → base.Ns mainGlobals mg → FnG l.prog w (K w.params) mg base (L2.CX l.prog w) 8 fa fd ["_law_script"] (spLaw (K w.params))) :
    PySem.W.WalkO q loose XP YP l.row.toRowW d [] (fun f vs => PySem.call f vs) :=
  walkG_of (k := 8) hn hdf ⟨rfl, by decide, by decide⟩ hY F
end V
-- text HmBase
namespace Dm
open PySem L2
/-- a pot of digits stands at p -/
def Pot (p : Nat) (S : Sto) : Prop := ∃ k : Int, S[p]? = some (.lst [.int k])
/-- from S to S': the pot at p has turned, cells have come, all else is as it was -/
structure Go (p : Nat) (S S' : Sto) : Prop where
  len : S.length ≤ S'.length
  same : ∀ n, n < S.length → n ≠ p → S'[n]? = S[n]?
  pot : Pot p S'
theorem Pot.lt {p : Nat} {S : Sto} (h : Pot p S) : p < S.length := by
  obtain ⟨k, e⟩ := h
  exact (List.getElem?_eq_some_iff.mp e).1
theorem Go.refl {p : Nat} {S : Sto} (h : Pot p S) : Go p S S := ⟨Nat.le_refl _, fun _ _ _ => rfl, h⟩
theorem Go.trans {p : Nat} {S S1 S2 : Sto} (a : Go p S S1) (b : Go p S1 S2) : Go p S S2 :=
  ⟨Nat.le_trans a.len b.len, fun n h hn => (b.same n (Nat.lt_of_lt_of_le h a.len) hn).trans (a.same n h hn), b.pot⟩
theorem Go.push {p : Nat} {S S1 : Sto} (a : Go p S S1) (c : Cell) : Go p S (S1 ++ [c]) :=
  ⟨by rw [List.length_append]; exact Nat.le_trans a.len (Nat.le_add_right _ _), fun n h hn => by
    rw [List.getElem?_append_left (Nat.lt_of_lt_of_le h a.len)]
    exact a.same n h hn, by
    obtain ⟨k, e⟩ := a.pot
    exact ⟨k, by rw [List.getElem?_append_left (List.getElem?_eq_some_iff.mp e).1]; exact e⟩⟩
/-- a cell that is younger than S is written -/
theorem Go.setNew {p n : Nat} {S S1 : Sto} (hp : Pot p S) (a : Go p S S1) (hn : S.length ≤ n) (c : Cell) : Go p S (S1.set n c) :=
  ⟨by rw [List.length_set]; exact a.len, fun m h hm => by
    rw [List.getElem?_set_ne (by omega)]
    exact a.same m h hm, by
    obtain ⟨k, e⟩ := a.pot
    have := hp.lt
    exact ⟨k, by rw [List.getElem?_set_ne (by omega)]; exact e⟩⟩
theorem Go.get {p n : Nat} {S S1 : Sto} {c : Cell} (a : Go p S S1) (h : S[n]? = some c) (hn : n ≠ p) : S1[n]? = some c := by
  rw [a.same n (List.getElem?_eq_some_iff.mp h).1 hn]
  exact h
end Dm
-- text HmDig
namespace Dm
open PySem L2
theorem rngD_nil {lo : Int} : rngD lo 0 = [] := rfl
theorem rngD_cons {lo : Int} {n : Nat} : rngD lo (n + 1) = .int lo :: rngD (lo + 1) n := by
  unfold rngD
  rw [List.range_succ_eq_map, List.map_cons, List.map_map]
  congr 1
  · simp
  · refine List.map_congr_left fun i _ => ?_
    simp only [Function.comp]
    congr 1
    omega
end Dm
-- text HmZone
namespace Dm
open PySem L2
theorem seq_cut {ρ : Rho} {S : Sto} {N B C : Rho → Sto → Prop} {R : D → Sto → Prop} {EO : EXO} {a b : MS} (M : Rho → Sto → Prop) (h : ∀ M' : Rho → Sto → Prop, (∀ ρ S, M ρ S → M' ρ S) → (a ρ S).DoesE EO M' R B C) (k : ∀ ρ S, M ρ S → (b ρ S).DoesE EO N R B C) : (mSeq a b ρ S).DoesE EO N R B C := by
  rw [does_seq]
  exact (h M fun _ _ h => h).mono k (fun _ _ h => h) (fun _ _ h => h) (fun _ _ h => h)
/-- a zone of one, two or three offsets -/
inductive ZoneOK : List Int → Int → Prop
  | one (a s : Int) : -900 ≤ a → a ≤ 900 → 0 < s → s ≤ 1000000 → ZoneOK [a] s
  | two (a b s : Int) : -900 ≤ a → a < b → b ≤ 900 → b - a < s → s ≤ 1000000 → ZoneOK [a, b] s
  | three (a b c s : Int) : -900 ≤ a → a < b → b < c → c ≤ 900 → c - a < s → s ≤ 1000000 → ZoneOK [a, b, c] s
def zoneD (os : List Int) (s : Int) : D := .tup [.tup (os.map .int), .int s]
@[simp] theorem atI_last1 {α : Type} {x : α} : atI [x] (-1) = some x := rfl
@[simp] theorem atI_last2 {α : Type} {x y : α} : atI [x, y] (-1) = some y := rfl
@[simp] theorem atI_last3 {α : Type} {x y z : α} : atI [x, y, z] (-1) = some z := rfl
end Dm
-- text HmBag
namespace Dm
open PySem L2
/-- a bag of draws stands at p, n more can be drawn -/
def Bag (p n : Nat) (S : Sto) : Prop := ∃ a b c : Int, S[p]? = some (.lst [.int a, .int b, .int c]) ∧ 0 ≤ b ∧ b < 2305843009213693951 ∧ 0 ≤ c ∧ c + n ≤ 9223372036854775808
/-- from S to S': cells have come, all but p is as it was -/
structure GoB (p : Nat) (S S' : Sto) : Prop where
  len : S.length ≤ S'.length
  same : ∀ n, n < S.length → n ≠ p → S'[n]? = S[n]?
theorem Bag.lt {p n : Nat} {S : Sto} (h : Bag p n S) : p < S.length := by
  obtain ⟨a, b, c, e, _⟩ := h
  exact (List.getElem?_eq_some_iff.mp e).1
theorem Bag.mono {p n m : Nat} {S : Sto} (h : Bag p n S) (hm : m ≤ n) : Bag p m S := by
  obtain ⟨a, b, c, e, h1, h2, h3, h4⟩ := h
  exact ⟨a, b, c, e, h1, h2, h3, by omega⟩
theorem Bag.push {p n : Nat} {S : Sto} (h : Bag p n S) (c : Cell) : Bag p n (S ++ [c]) := by
  have hl := h.lt
  obtain ⟨a, b, c, e, r⟩ := h
  exact ⟨a, b, c, by rw [List.getElem?_append_left hl]; exact e, r⟩
theorem Bag.set {p n q : Nat} {S : Sto} (h : Bag p n S) (hq : q ≠ p) (c : Cell) : Bag p n (S.set q c) := by
  obtain ⟨a, b, c, e, r⟩ := h
  exact ⟨a, b, c, by rw [List.getElem?_set_ne hq]; exact e, r⟩
theorem GoB.refl {p : Nat} {S : Sto} : GoB p S S := ⟨Nat.le_refl _, fun _ _ _ => rfl⟩
theorem GoB.trans {p : Nat} {S S1 S2 : Sto} (a : GoB p S S1) (b : GoB p S1 S2) : GoB p S S2 :=
  ⟨Nat.le_trans a.len b.len, fun n h hn => (b.same n (Nat.lt_of_lt_of_le h a.len) hn).trans (a.same n h hn)⟩
theorem GoB.push {p : Nat} {S : Sto} (c : Cell) : GoB p S (S ++ [c]) := ⟨by rw [List.length_append]; omega, fun n h _ => List.getElem?_append_left h⟩
theorem GoB.setNew {p n : Nat} {S S1 : Sto} (a : GoB p S S1) (hn : S.length ≤ n) (c : Cell) : GoB p S (S1.set n c) :=
  ⟨by rw [List.length_set]; exact a.len, fun m h hm => by
    rw [List.getElem?_set_ne (by omega)]
    exact a.same m h hm⟩
theorem GoB.get {p n : Nat} {S S1 : Sto} {c : Cell} (a : GoB p S S1) (h : S[n]? = some c) (hn : n ≠ p) : S1[n]? = some c := by
  rw [a.same n (List.getElem?_eq_some_iff.mp h).1 hn]
  exact h
theorem bag_of_does {S : Sto} {c : Int} {Q : D → Sto → Prop} (q : ∀ S', Bag S.length 9223372036854775808 S' → GoB S.length S S' → Q (.cell S.length) S') : (m_law_bag_of [.int c] S).Does Q := by
  refine does_def rfl ?_
  have hc : CDivW c 2305843009213693951 := cdivw (by decide) (by decide)
  simp [hc]
  exact q _ ⟨_, _, 0, by rw [List.getElem?_append_right (Nat.le_refl _), Nat.sub_self]; rfl, Int.emod_nonneg c (by decide), Int.emod_lt_of_pos c (by decide), by decide, by decide⟩ (GoB.push _)
theorem pick_does {S : Sto} {p n : Nat} {u : Int} {Q : D → Sto → Prop} (hp : Bag p (n + 1) S) (h0 : 0 < u) (hb : u < 18446744073709551616)
    (q : ∀ r S', Bag p n S' → GoB p S S' → 0 ≤ r → r < u → Q (.int r) S') : (m_law_pick [.cell p, .int u] S).Does Q := by
  obtain ⟨a, b, c, e, b0, b1, c0, c1⟩ := id hp
  have hl := hp.lt
  refine does_def rfl ?_
  have hu : ∀ k : Int, CDivW k u := fun k => cdivw h0 hb
  have hm : ∀ k : Int, CDivW k 2305843009213693951 := fun k => cdivw (by decide) (by decide)
  have hd : ∀ k : Int, CDivW k 4099 := fun k => cdivw (by decide) (by decide)
  by_cases ha : 0 < a
  · simp [gIx_cell e, ha, hu]
    refine ⟨h0, _, e, 0, rfl, ?_⟩
    refine q _ _ ⟨a / u, b, c, by simp [hl], b0, b1, c0, by omega⟩ ⟨by rw [List.length_set]; exact Nat.le_refl _, fun n h hn => List.getElem?_set_ne (Ne.symm hn)⟩ (Int.emod_nonneg _ (by omega)) (Int.emod_lt_of_pos _ h0)
  · simp [gIx_cell e, ha]
    refine ⟨_, e, 2, rfl, ?_⟩
    have e2 : (S.set p (.lst ([.int a, .int b, .int c].set 2 (.int (c + 1)))))[p]? = some (.lst [.int a, .int b, .int (c + 1)]) := by
      rw [List.getElem?_set_self hl]; rfl
    have g1 : GoB p S (S.set p (.lst ([.int a, .int b, .int c].set 2 (.int (c + 1))))) := ⟨by rw [List.length_set]; exact Nat.le_refl _, fun n h hn => List.getElem?_set_ne (Ne.symm hn)⟩
    generalize S.set p (.lst ([.int a, .int b, .int c].set 2 (.int (c + 1)))) = S1 at e2 g1
    have w1 : CMulW 104729 (c + 1) := cmulw64 (by omega) (by omega)
    have w2 : CMulW 15485863 (c + 1) := cmulw64 (by omega) (by omega)
    have w3 : CMulW (b + 104729 * (c + 1)) (b + 15485863 * (c + 1) + 11) := cmulw 100 100 (by omega) (by omega) (by decide)
    have r0 : 0 ≤ ((b + 104729 * (c + 1)) * (b + 15485863 * (c + 1) + 11)) % 2305843009213693951 := Int.emod_nonneg _ (by decide)
    have r1 : ((b + 104729 * (c + 1)) * (b + 15485863 * (c + 1) + 11)) % 2305843009213693951 < 2305843009213693951 := Int.emod_lt_of_pos _ (by decide)
    have w5 : CMulW 7 (c + 1) := cmulw64 (by omega) (by omega)
    simp [gIx_cell e2, hu, hm, hd, w1, w2, w3, w5]
    generalize ((b + 104729 * (c + 1)) * (b + 15485863 * (c + 1) + 11)) % 2305843009213693951 = r at r0 r1
    have w4 : CMulW r r := cmulw64 (by omega) (by omega)
    exact ⟨w4, h0, q _ _ ⟨a, b, c + 1, e2, b0, b1, by omega, by omega⟩ g1 (Int.emod_nonneg _ (by omega)) (Int.emod_lt_of_pos _ h0)⟩
end Dm
-- text HmBelt
namespace Dm
open PySem L2
/-- gaps drawn: each at least 1 and at most w -/
def GapsOK (w : Int) (gs : List Int) : Prop := ∀ g, g ∈ gs → 1 ≤ g ∧ g ≤ w
theorem any_belt_does {S : Sto} {p n : Nat} {Q : D → Sto → Prop} (hp : Bag p (n + 20) S) (q : ∀ os s S', Bag p n S' → GoB p S S' → ZoneOK os s → Q (zoneD os s) S') : (m_law_any_belt [.cell p, .int 3] S).Does Q := by
  refine does_def rfl ?_
  -- how many
  refine seq_cut (fun ρ S' => ∃ k : Int, ρ = [some (.cell p), some (.int 3), some (.int k), none, none, none, none, none, none, none] ∧ Bag p (n + 19) S' ∧ GoB p S S' ∧ (k = 1 ∨ k = 2 ∨ k = 3)) (fun M hM => ?_) ?_
  · simp
    refine pick_does (n := n + 19) hp (by decide) (by decide) fun r S1 b1 g1 r0 r1 => ?_
    have e : r = 0 ∨ r = 1 ∨ r = 2 ∨ r = 3 ∨ r = 4 ∨ r = 5 := by omega
    rcases e with e | e | e | e | e | e <;> subst e <;> simp [atI, ixN] <;> exact hM _ _ ⟨_, rfl, b1, g1, by decide⟩
  rintro ρ S1 ⟨k, rfl, b1, g1, hk⟩
  -- how wide
  refine seq_cut (fun ρ S' => ∃ w : Int, ρ = [some (.cell p), some (.int 3), some (.int k), some (.int w), none, none, none, none, none, none] ∧ Bag p (n + 18) S' ∧ GoB p S S' ∧ 1 ≤ w ∧ w ≤ 1800) (fun M hM => ?_) ?_
  · simp
    refine pick_does (n := n + 18) b1 (by decide) (by decide) fun r S2 b2 g2 r0 r1 => ?_
    have e : r = 0 ∨ r = 1 ∨ r = 2 ∨ r = 3 ∨ r = 4 ∨ r = 5 := by omega
    rcases e with e | e | e | e | e | e <;> subst e <;> simp [atI, ixN] <;> exact hM _ _ ⟨_, rfl, b2, g1.trans g2, by decide, by decide⟩
  rintro ρ S2 ⟨w, rfl, b2, g2, w0, w1⟩
  refine seq_cut (fun ρ S' => S' = S2 ∧ ∃ w : Int, ρ = [some (.cell p), some (.int 3), some (.int k), some (.int w), none, none, none, none, none, none] ∧ 1 ≤ w ∧ w * (k - 1) ≤ 1800 ∧ w ≤ 1800) (fun M hM => ?_) ?_
  · rcases hk with rfl | rfl | rfl
    · have hc : CDivW w 1 := cdivw (by decide) (by decide)
      simp [hc]
      refine hM _ _ ⟨rfl, _, rfl, ?_, ?_, ?_⟩ <;> split <;> omega
    · have hc : CDivW w 1 := cdivw (by decide) (by decide)
      simp [hc]
      refine hM _ _ ⟨rfl, _, rfl, ?_, ?_, ?_⟩ <;> split <;> omega
    · have hc : CDivW w 2 := cdivw (by decide) (by decide)
      simp [hc]
      refine hM _ _ ⟨rfl, _, rfl, ?_, ?_, ?_⟩ <;> split <;> omega
  clear w0 w1
  rintro ρ _ ⟨rfl, w, rfl, w0, w1, w2⟩
  -- the gaps
  refine seq_cut (fun ρ S' => ∃ gs x9, ρ = [some (.cell p), some (.int 3), some (.int k), some (.int w), some (.lst (gs.map .int)), none, none, none, none, x9] ∧ Bag p (n + 14) S' ∧ GoB p S S' ∧ (gs : List Int).length = (k - 1).toNat ∧ GapsOK w gs) (fun M hM => ?_) ?_
  · have draw1 : ∀ {S' : Sto} {m : Nat} {Q : D → Sto → Prop}, Bag p (m + 2) S' → (∀ g S'', Bag p m S'' → GoB p S' S'' → 1 ≤ g → g ≤ w → Q (.int g) S'') →
        (m_law_pick [.cell p, .int w] S').Does fun y S1 => (m_law_pick [.cell p, .int 2] S1).Does fun y_1 S2 => OptQ (gMul S2 y y_1) fun z => OptQ (gSub S2 (.int w) z) fun z => Q z S2 := by
      intro S' m Q b' q'
      refine pick_does (n := m + 1) b' (by omega) (by omega) fun r S3 b3 g3 r0 r1 => ?_
      refine pick_does (n := m) b3 (by decide) (by decide) fun r' S4 b4 g4 r0' r1' => ?_
      have hc : CMulW r r' := cmulw64 (by omega) (by omega)
      simp [hc]
      have e : r' = 0 ∨ r' = 1 := by omega
      rcases e with rfl | rfl
      · exact q' _ _ b4 (g3.trans g4) (by omega) (by omega)
      · exact q' _ _ b4 (g3.trans g4) (by omega) (by omega)
    rcases hk with rfl | rfl | rfl
    · simp [rngD_nil]
      exact hM _ _ ⟨[], _, rfl, b2.mono (by omega), g2, rfl, fun _ h => nomatch h⟩
    · simp [rngD_cons, rngD_nil, wipeD]
      refine draw1 (m := n + 16) b2 fun a S3 b3 g3 a0 a1 => ?_
      exact hM _ _ ⟨[a], _, rfl, b3.mono (by omega), g2.trans g3, rfl, fun g h => by cases List.mem_singleton.mp h; exact ⟨a0, a1⟩⟩
    · simp [rngD_cons, rngD_nil, wipeD]
      refine draw1 (m := n + 16) b2 fun a S3 b3 g3 a0 a1 => ?_
      refine draw1 (m := n + 14) b3 fun b S4 b4 g4 c0 c1 => ?_
      exact hM _ _ ⟨[a, b], _, rfl, b4, g2.trans (g3.trans g4), rfl, fun g h => by simp at h; rcases h with rfl | rfl <;> constructor <;> assumption⟩
  rintro ρ S3 ⟨gs, x9, rfl, b3, g3, gl, gok⟩
  have hs : 0 ≤ gs.sum ∧ gs.sum ≤ 1800 := by
    rcases hk with rfl | rfl | rfl
    · match gs, gl with
      | [], _ => decide
    · match gs, gl, gok with
      | [a], _, gok =>
        have := gok a (by simp)
        simp
        omega
    · match gs, gl, gok with
      | [a, b], _, gok =>
        have := gok a (by simp)
        have := gok b (by simp)
        simp
        omega
  -- the offsets
  refine seq_cut (fun ρ S' => ∃ low q, ρ = [some (.cell p), some (.int 3), some (.int k), some (.int w), some (.lst (gs.map .int)), some (.cell q), none, none, none, x9] ∧ Bag p (n + 13) S' ∧ GoB p S S' ∧ S'[q]? = some (.lst [.int low]) ∧ S.length ≤ q ∧ -900 ≤ low ∧ low ≤ 900 - gs.sum) (fun M hM => ?_) ?_
  · simp [gSum_ints (S := S3) (d := .lst (gs.map .int)) (ns := gs) rfl]
    refine pick_does (n := n + 13) b3 (by omega) (by omega) fun r S4 b4 g4 r0 r1 => ?_
    simp
    have g := g3.trans g4
    exact hM _ _ ⟨_, _, rfl, b4.push _, g.trans (GoB.push _), by rw [List.getElem?_append_right (Nat.le_refl _), Nat.sub_self]; rfl, g.len, by omega, by omega⟩
  rintro ρ S4 ⟨low, q', rfl, b4, g4, e4, hq, l0, l1⟩
  have hpq : q' ≠ p := by have := hp.lt; omega
  have step : ∀ (S5 : Sto) (xs : List Int) (l a : Int), S5[q']? = some (.lst ((xs ++ [l]).map .int)) → gIx S5 (.cell q') (.int (-1)) = some (.int l) := by
    intro S5 xs l a e
    rw [gIx_cell e]
    have h1 : (1 : Int) ≤ ↑xs.length + 1 := by omega
    have h2 : (-1 + ((xs.length : Int) + 1)).toNat = xs.length := by omega
    simp [atI, ixN, h1, h2]
  refine seq_cut (fun ρ S' => ∃ os x6, ρ = [some (.cell p), some (.int 3), some (.int k), some (.int w), some (.lst (gs.map .int)), some (.cell q'), x6, none, none, x9] ∧ Bag p (n + 13) S' ∧ GoB p S S' ∧ S'[q']? = some (.lst ((os : List Int).map .int)) ∧ (∀ s, gs.sum < s → s ≤ 1000000 → ZoneOK os s)) (fun M hM => ?_) ?_
  · have grow : ∀ {S5 : Sto} {l : List D} (a : Int), S5[q']? = some (.lst l) → Bag p (n + 13) S5 → GoB p S S5 → Bag p (n + 13) (S5.set q' (.lst (l ++ [.int a]))) ∧ GoB p S (S5.set q' (.lst (l ++ [.int a]))) ∧ (S5.set q' (.lst (l ++ [.int a])))[q']? = some (.lst (l ++ [.int a])) :=
      fun a e b g => ⟨b.set hpq _, g.setNew hq _, List.getElem?_set_self (List.getElem?_eq_some_iff.mp e).1⟩
    rcases hk with rfl | rfl | rfl
    · match gs, gl, hs, l1 with
      | [], _, hs, l1 =>
        simp at l1 ⊢
        exact hM _ _ ⟨[low], _, rfl, b4, g4, e4, fun s h1 h2 => .one _ _ l0 (by omega) (by simpa using h1) h2⟩
    · match gs, gl, hs, l1, gok with
      | [a], _, hs, l1, gok =>
        have := gok a (by simp)
        simp at l1 hs ⊢
        simp [step S4 [] low a e4, e4]
        obtain ⟨b5, g5, e5⟩ := grow (low + a) e4 b4 g4
        exact hM _ _ ⟨[low, low + a], _, rfl, b5, g5, e5, fun s h1 h2 => .two _ _ _ l0 (by omega) (by omega) (by simp at h1; omega) h2⟩
    · match gs, gl, hs, l1, gok with
      | [a, b], _, hs, l1, gok =>
        have := gok a (by simp)
        have := gok b (by simp)
        simp at l1 hs ⊢
        simp [step S4 [] low a e4, e4]
        obtain ⟨b5, g5, e5⟩ := grow (low + a) e4 b4 g4
        have e5' : (S4.set q' (.lst ([D.int low] ++ [D.int (low + a)])))[q']? = some (.lst (([low] ++ [low + a]).map .int)) := e5
        simp at e5'
        simp [step _ [low] (low + a) b e5']
        refine ⟨⟨_, e5'⟩, _, e5', by simp, ?_⟩
        obtain ⟨b6, g6, e6⟩ := grow (low + a + b) e5' b5 g5
        rw [List.set_set] at b6 g6 e6
        exact hM _ _ ⟨[low, low + a, low + a + b], _, rfl, b6, g6, e6, fun s h1 h2 => .three _ _ _ _ l0 (by omega) (by omega) (by omega) (by simp at h1; omega) h2⟩
  rintro ρ S5 ⟨os, x6, rfl, b5, g5, e5, zz⟩
  -- the spacing
  refine seq_cut (fun ρ S' => S' = S5 ∧ ρ = [some (.cell p), some (.int 3), some (.int k), some (.int w), some (.lst (gs.map .int)), some (.cell q'), x6, some (.int (gs.sum + 1)), none, x9]) (fun M hM => ?_) ?_
  · simp [gSum_ints (S := S5) (d := .lst (gs.map .int)) (ns := gs) rfl]
    exact hM _ _ ⟨rfl, rfl⟩
  rintro ρ _ ⟨rfl, rfl⟩
  refine seq_cut (fun ρ S' => ∃ m1 m2 : Int, ρ = [some (.cell p), some (.int 3), some (.int k), some (.int w), some (.lst (gs.map .int)), some (.cell q'), x6, some (.int (gs.sum + 1)), some (.lst [.int 0, .int 1, .int 40, .int (1000000 - (gs.sum + 1)), .int m1, .int 100, .int m2]), x9] ∧ Bag p (n + 11) S' ∧ GoB p S S' ∧ S'[q']? = some (.lst (os.map .int)) ∧ 0 ≤ m1 ∧ m1 < 2000 ∧ 0 ≤ m2 ∧ m2 ≤ 1000000 - (gs.sum + 1)) (fun M hM => ?_) ?_
  · simp
    refine pick_does (n := n + 12) b5 (by decide) (by decide) fun r S6 b6 g6 r0 r1 => ?_
    refine pick_does (n := n + 11) b6 (by omega) (by omega) fun r' S7 b7 g7 r0' r1' => ?_
    exact hM _ _ ⟨_, _, rfl, b7, g5.trans (g6.trans g7), g7.get (g6.get e5 hpq) hpq, r0, r1, r0', by omega⟩
  rintro ρ S6 ⟨m1, m2, rfl, b6, g6, e6, m10, m11, m20, m21⟩
  simp [gTuple_cell e6]
  refine pick_does (n := n + 10) b6 (by decide) (by decide) fun r S7 b7 g7 r0 r1 => ?_
  have e : r = 0 ∨ r = 1 ∨ r = 2 ∨ r = 3 ∨ r = 4 ∨ r = 5 ∨ r = 6 := by omega
  rcases e with e | e | e | e | e | e | e <;> subst e <;> simp [atI, ixN] <;> exact q os _ _ (b7.mono (by omega)) (g6.trans g7) (zz _ (by omega) (by omega))
end Dm
-- text HmTab
namespace Dm
open PySem L2
theorem pure_of {α : Type} {r : Res α} {a : α} {S : Sto} (h : ∀ Q : α → Sto → Prop, Q a S → r.Does Q) : r = .ok a S := by
  obtain ⟨a', S', e, h1, h2⟩ := (h (fun x T => x = a ∧ T = S) ⟨rfl, rfl⟩).eq
  rw [e, h1, h2]
section
variable {S : Sto} {os : List Int} {s h m : Int} {js : List (Int × Int)}
theorem ZoneOK.len {os : List Int} {s : Int} (z : ZoneOK os s) : 1 ≤ os.length ∧ os.length ≤ 3 := by cases z <;> simp
theorem ZoneOK.sp (z : ZoneOK os s) : 0 < s ∧ s ≤ 1000000 := by cases z <;> constructor <;> omega
theorem ZoneOK.nodup (z : ZoneOK os s) : os.Nodup := by cases z <;> simp <;> omega
@[simp] theorem is_integer_int {i : Int} : m_is_integer [.int i] S = .ok (.bl true) S := by
  refine pure_of fun Q q => ?_
  refine does_def rfl ?_
  simpa [isTn] using q
theorem is_zone_ok (z : ZoneOK os s) : m_is_zone [zoneD os s] S = .ok (.bl true) S := by
  refine pure_of fun Q q => ?_
  refine does_def rfl ?_
  cases z with
  | one a s h1 h2 h3 h4 => simp [zoneD, isTn, rngD_cons, rngD_nil, h1, h2, h3, h4, q]
  | two a b s h1 h2 h3 h4 h5 =>
    have e1 : a ≤ 900 := by omega
    have e2 : -900 ≤ b := by omega
    have e3 : ¬ b ≤ a := by omega
    simp [zoneD, isTn, rngD_cons, rngD_nil, h1, h2, h3, h4, h5, e1, e2, e3, q]
  | three a b c s h1 h2 h3 h4 h5 h6 => 
    have e1 : a ≤ 900 := by omega
    have e2 : -900 ≤ b := by omega
    have e3 : ¬ b ≤ a := by omega
    have e4 : b ≤ 900 := by omega
    have e5 : -900 ≤ c := by omega
    have e6 : ¬ c ≤ b := by omega
    simp [zoneD, isTn, rngD_cons, rngD_nil, h1, h2, h3, h4, h5, h6, e1, e2, e3, e4, e5, e6, q]
@[simp] theorem need_zone_ok (z : ZoneOK os s) : m_need_zone [zoneD os s] S = .ok .non S := by
  refine pure_of fun Q q => ?_
  refine does_def rfl ?_
  simp [is_zone_ok z, q]
@[simp] theorem need_number_int {i : Int} : m_need_number [.int i] S = .ok .non S := by
  refine pure_of fun Q q => ?_
  refine does_def rfl ?_
  simp [q]
/-- a jump and a table, as data -/
def jmpD (j : Int × Int) : D := .tup [.int j.1, .int j.2]
def tabD (h : Int) (js : List (Int × Int)) : D := .tup [.int h, .tup (js.map jmpD)]
section
variable {j : Int × Int} {ρ : Rho} {f : List D → Rho → Option Rho}
@[simp] theorem ix_jmp0 : gIx S (jmpD j) (.int 0) = some (.int j.1) := by simp [jmpD]
@[simp] theorem ix_jmp1 : gIx S (jmpD j) (.int 1) = some (.int j.2) := by simp [jmpD]
@[simp] theorem ix_tab0 : gIx S (tabD h js) (.int 0) = some (.int h) := by simp [tabD]
@[simp] theorem ix_tab1 : gIx S (tabD h js) (.int 1) = some (.tup (js.map jmpD)) := by simp [tabD]
@[simp] theorem ix_zone0 : gIx S (zoneD os s) (.int 0) = some (.tup (os.map .int)) := by simp [zoneD]
@[simp] theorem ix_zone1 : gIx S (zoneD os s) (.int 1) = some (.int s) := by simp [zoneD]
@[simp] theorem len_jmp : gLen S [jmpD j] = some (.int 2) := rfl
@[simp] theorem len_tab : gLen S [tabD h js] = some (.int 2) := rfl
@[simp] theorem len_zone : gLen S [zoneD os s] = some (.int 2) := rfl
@[simp] theorem ty_jmp : tyOf S (jmpD j) = some .tup := rfl
@[simp] theorem ty_tab : tyOf S (tabD h js) = some .tup := rfl
@[simp] theorem ty_zone : tyOf S (zoneD os s) = some .tup := rfl
@[simp] theorem tg_jmp : tgT 2 f (jmpD j) ρ = f [.int j.1, .int j.2] ρ := rfl
@[simp] theorem tg_tab : tgT 2 f (tabD h js) ρ = f [.int h, .tup (js.map jmpD)] ρ := rfl
@[simp] theorem tg_zone : tgT 2 f (zoneD os s) ρ = f [.tup (os.map .int), .int s] ρ := rfl
end
/-- the jumps that may follow: the offset held, the moment of the jump before -/
def Chain (os : List Int) (s : Int) : Int → Option Int → List (Int × Int) → Prop
  | _, _, [] => True
  | h, p, (m, o) :: r => o ∈ os ∧ o ≠ h ∧ (∀ q, p = some q → q + s ≤ m) ∧ Chain os s o (some m) r
def endP : Option Int → List (Int × Int) → Option Int
  | p, [] => p
  | _, (m, _) :: r => endP (some m) r
theorem endP_snoc {m o : Int} : ∀ {p : Option Int} {js : List (Int × Int)}, endP p (js ++ [(m, o)]) = some m
  | _, [] => rfl
  | _, (m', o') :: r => endP_snoc (p := some m') (js := r)
structure TabOK (os : List Int) (s h : Int) (js : List (Int × Int)) : Prop where
  held : h ∈ os
  chain : Chain os s h none js
theorem flat_ints (os : List Int) : (os.map D.int).all flatD = true := by
  rw [List.all_map]
  exact List.all_eq_true.mpr fun _ _ => rfl
theorem any_ints (os : List Int) (o : Int) : (os.map D.int).any (eqF · (.int o)) = decide (o ∈ os) := by
  induction os with
  | nil => simp
  | cons a r ih =>
    rw [List.map_cons, List.any_cons, ih, eqF_int]
    have e : (a == o) = decide (o = a) := by
      by_cases h : o = a
      · subst h; simp
      · have h' : ¬ a = o := fun x => h x.symm
        simp [h, h']
    rw [e]
    simp
theorem gIn_ints {o : Int} : gIn false S (.int o) (.tup (os.map .int)) = some (.bl (decide (o ∈ os))) := by
  unfold gIn
  rw [seqOf_tup]
  simp only
  rw [if_pos ⟨rfl, flat_ints os⟩, any_ints]
  simp
theorem is_offset_int {o : Int} : m_is_offset [zoneD os s, .int o] S = .ok (.bl (decide (o ∈ os))) S := by
  refine pure_of fun Q q => ?_
  refine does_def rfl ?_
  simp [gIn_ints, q]
theorem is_mark_jmp {j : Int × Int} : m_is_mark [zoneD os s, jmpD j] S = .ok (.bl (decide (j.2 ∈ os))) S := by
  refine pure_of fun Q q => ?_
  refine does_def rfl ?_
  simp [isTn, is_offset_int, q]
def enumF (k : Nat) (ds : List D) : List D := (ds.zipIdx k).map fun p => .tup [.int (p.2 : Nat), p.1]
theorem enumD_eq {ds : List D} : enumD ds = enumF 0 ds := rfl
theorem enumF_cons {k : Nat} {d : D} {r : List D} : enumF k (d :: r) = .tup [.int k, d] :: enumF (k + 1) r := rfl
theorem is_table_ok (z : ZoneOK os s) (t : TabOK os s h js) : m_is_table [zoneD os s, tabD h js] S = .ok (.bl true) S := by
  refine pure_of fun Q q => ?_
  refine does_def rfl ?_
  simp [isTn, need_zone_ok z, is_offset_int, t.held, enumD_eq]
  refine forL_cut (fun ds ρ S' => S' = S ∧ ∃ (pre suf : List (Int × Int)) (h' : Int) (pm : Option Int) (x4 x5 : Option D), ρ = [some (zoneD os s), some (tabD h js), some (.int h'), some (.tup (js.map jmpD)), x4, x5]
    ∧ js = pre ++ suf ∧ ds = enumF pre.length (suf.map jmpD) ∧ Chain os s h' pm suf ∧ (pre ≠ [] → ∃ m o, pm = some m ∧ atI (js.map jmpD) ((pre.length : Int) - 1) = some (jmpD (m, o)))) _ ⟨rfl, [], js, h, none, none, none, rfl, rfl, rfl, t.chain, fun h => (h rfl).elim⟩ ?_ ?_
  · rintro d r ρ S' ⟨rfl, pre, suf, h', pm, x4, x5, rfl, ej, e, c, l⟩
    cases suf with
    | nil => cases e
    | cons j suf =>
      rw [List.map_cons, enumF_cons] at e
      injection e with e1 e2
      subst e1
      obtain ⟨c1, c2, c3, c4⟩ := c
      refine ⟨[some (zoneD os s), some (tabD h js), some (.int h'), some (.tup (js.map jmpD)), some (.int pre.length), some (jmpD j)], by simp, fun M hM => ?_⟩
      have last : some (jmpD j) = atI (js.map jmpD) (((pre ++ [j]).length : Int) - 1) := by
        rw [ej, atI_of (by simp) (by simp; omega)]
        simp
      have fin : M [some (zoneD os s), some (tabD h js), some (.int j.2), some (.tup (js.map jmpD)), some (.int pre.length), some (jmpD j)] S' :=
        hM _ _ ⟨rfl, pre ++ [j], suf, _, _, _, _, rfl, by rw [ej, List.append_assoc] <;> rfl, by rw [e2, List.length_append] <;> rfl, c4, fun _ => ⟨_, _, rfl, last.symm⟩⟩
      simp [is_mark_jmp, c1, c2]
      by_cases hp : pre = []
      · subst hp
        simpa using fin
      · obtain ⟨m, o, e3, e4⟩ := l hp
        have c5 := c3 m e3
        rw [e4]
        have c6 : ¬ j.1 - m < s := by omega
        simp [List.length_pos_iff, hp, c6]
        exact fin
  · rintro ρ S' ⟨rfl, pre, suf, h', pm, x4, x5, rfl, ej, e, c, l⟩
    simpa using q
end
end Dm
-- text HmChart
namespace Dm
open PySem L2
section
variable {S : Sto} {os : List Int} {s h m : Int} {js : List (Int × Int)} {p : Nat}
@[simp] theorem need_table_ok (z : ZoneOK os s) (t : TabOK os s h js) : m_need_table [zoneD os s, tabD h js] S = .ok .non S := by
  refine pure_of fun Q q => ?_
  refine does_def rfl ?_
  simp [is_table_ok z t, q]
/-- the offset at a moment: up to the first jump after it -/
def offAt : Int → List (Int × Int) → Int → Int
  | h, [], _ => h
  | h, (a, o) :: r, m => if m < a then h else offAt o r m
@[simp] theorem whole_int {i : Int} : m_law_whole [.int i] S = .ok (.bl true) S := by
  refine pure_of fun Q q => ?_
  refine does_def rfl ?_
  simpa [isTn] using q
theorem same_int {n : Nat} {i j : Int} : m_law_same (n + 1) [.int i, .int j] S = .ok (.bl (i == j)) S := by
  refine pure_of fun Q q => ?_
  unfold m_law_same
  refine does_def rfl ?_
  simpa [isTn] using q
@[simp] theorem same_int30 {i j : Int} : m_law_same 30 [.int i, .int j] S = .ok (.bl (i == j)) S := same_int
theorem ZoneOK.at (z : ZoneOK os s) {i : Int} (h0 : 0 ≤ i) (h1 : i < os.length) : ∃ o, atI (os.map D.int) i = some (.int o) ∧ o ∈ os ∧ os[i.toNat]? = some o := by
  have l : i.toNat < os.length := by omega
  refine ⟨os[i.toNat], ?_, List.getElem_mem l, List.getElem?_eq_getElem l⟩
  rw [atI_of h0 (by rw [List.length_map]; exact h1), List.getElem?_map, List.getElem?_eq_getElem l] <;> rfl
end
end Dm
-- text HmNear
namespace Dm
open PySem L2
section
variable {S : Sto} {os : List Int} {s h m : Int} {js : List (Int × Int)} {p : Nat}
theorem Pot.set {n : Nat} {c : Cell} (h : Pot p S) (hn : p ≠ n) : Pot p (S.set n c) := by
  obtain ⟨k, e⟩ := h
  exact ⟨k, by rw [List.getElem?_set_ne (Ne.symm hn)]; exact e⟩
end
theorem cut_len {ds : List D} {lo hi : Option Int} : (cutD ds lo hi).length ≤ ds.length := by
  unfold cutD
  rw [List.length_take, List.length_drop]
  omega
theorem cut_mem {ds : List D} {lo hi : Option Int} {d : D} (h : d ∈ cutD ds lo hi) : d ∈ ds := List.mem_of_mem_drop (List.mem_of_mem_take h)
/-- the loop over the cells of a script -/
theorem law_loop {nN : Nat} {C k : Int} {body : MS} (hn : 2 ≤ nN) (hb : ∀ c L (xs : List (Option D)) (S : Sto), xs.length = nN - 2 → (body (some L :: some (.int c) :: xs) S).Does (fun ρ S' => ∃ y xs', ρ = some L :: y :: xs' ∧ xs'.length = nN - 2) (fun _ _ => False) (fun _ _ => False) (fun _ _ => False)) :
    LawTrue (mDef 1 nN (mSeq (mFor (iSeq (mFz (mCatL (mLst (mCons (mK (.int C)) mNil)) (mSlL (mVar 0) mNoPart (mPart (mK (.int k))))))) (tgN 1) body) (mRet (mK (.bl true))))) := by
  intro ns hl
  obtain ⟨m, rfl⟩ : ∃ m, nN = m + 2 := ⟨nN - 2, by omega⟩
  have main : (mDef 1 (m + 2) (mSeq (mFor (iSeq (mFz (mCatL (mLst (mCons (mK (.int C)) mNil)) (mSlL (mVar 0) mNoPart (mPart (mK (.int k))))))) (tgN 1) body) (mRet (mK (.bl true)))) [.lst (ns.map .int)] []).Does fun d _ => d = .bl true := by
    refine does_def rfl ?_
    rw [does_seq, does_for]
    simp only [does_iSeq, does_fz, does_catL, does_lst, does_cons, does_k, does_nil, does_slL, does_var, List.map_cons, List.map_nil, List.singleton_append, List.getElem?_cons_zero, does_noPart, does_part, lstOf_lst]
    refine ⟨by simp, ?_⟩
    have cl : (cutD (ns.map .int) none (some k)).length ≤ 63 := Nat.le_trans cut_len (by rw [List.length_map]; exact hl)
    refine ⟨by simp only [List.length_cons, List.length_nil]; omega, ?_⟩
    refine forL_cut (fun ds ρ S' => (∀ d, d ∈ ds → ∃ c : Int, d = .int c) ∧ ∃ y xs', ρ = some (.lst (ns.map .int)) :: y :: xs' ∧ xs'.length = m) _ ⟨?_, none, List.replicate m none, rfl, List.length_replicate⟩ ?_ ?_
    · intro d hd
      rcases List.mem_cons.mp hd with rfl | hd
      · exact ⟨_, rfl⟩
      · obtain ⟨c, _, rfl⟩ := List.mem_map.mp (cut_mem hd)
        exact ⟨c, rfl⟩
    · rintro d r ρ S' ⟨hd, y, xs', rfl, hx⟩
      obtain ⟨c, rfl⟩ := hd d List.mem_cons_self
      refine ⟨_, rfl, fun M hM => ?_⟩
      refine (hb c _ xs' S' (by omega)).mono ?_ (fun _ _ h => h.elim) (fun _ _ h => h.elim) (fun _ _ h => h.elim)
      rintro ρ2 S2 ⟨y, xs2, rfl, h2⟩
      exact hM _ _ ⟨fun d h => hd d (List.mem_cons_of_mem _ h), y, xs2, rfl, by omega⟩
    · rintro ρ S' _
      rfl
  obtain ⟨d, S', e, rfl⟩ := main.eq
  exact ⟨S', e⟩
end Dm
-- text HmSame
namespace Dm
open PySem L2
/-- data that the law calls the same, of a depth -/
inductive Eqv (S : Sto) : Nat → D → D → Prop
  | non {n : Nat} : Eqv S n .non .non
  | int {n : Nat} {i : Int} : Eqv S n (.int i) (.int i)
  | bl {n : Nat} {b : Bool} : Eqv S n (.bl b) (.bl b)
  | str {n : Nat} {x : Str} : Eqv S n (.str x) (.str x)
  | tup {n : Nat} {ds es : List D} : ds.length = es.length → es.length ≤ 16777216 → (∀ (i : Nat) (d e : D), ds[i]? = some d → es[i]? = some e → Eqv S n d e) → Eqv S (n + 1) (.tup ds) (.tup es)
  | lst {n : Nat} {d e : D} {ds es : List D} : lstOf S d = some ds → lstOf S e = some es → ds.length = es.length → es.length ≤ 16777216 → (∀ (i : Nat) (d e : D), ds[i]? = some d → es[i]? = some e → Eqv S n d e) → Eqv S (n + 1) d e
section
variable {S : Sto}
theorem Eqv.up {n m : Nat} {d e : D} (h : Eqv S n d e) (hm : n ≤ m) : Eqv S m d e := by
  induction h generalizing m with
  | non => exact .non
  | int => exact .int
  | bl => exact .bl
  | str => exact .str
  | tup hl h16 _ ih =>
    obtain ⟨k, rfl⟩ : ∃ k, m = k + 1 := ⟨m - 1, by omega⟩
    exact .tup hl h16 fun i d e a b => ih i d e a b (by omega)
  | lst hd he hl h16 _ ih =>
    obtain ⟨k, rfl⟩ : ∃ k, m = k + 1 := ⟨m - 1, by omega⟩
    exact .lst hd he hl h16 fun i d e a b => ih i d e a b (by omega)
end
end Dm
-- text HmHours
namespace Dm
open PySem L2
section
variable {S : Sto} {os : List Int} {s h m r : Int} {js : List (Int × Int)} {p : Nat}
theorem ZoneOK.asc (z : ZoneOK os s) : os.Pairwise (· < ·) := by cases z <;> simp <;> omega
theorem off_mem : ∀ {js : List (Int × Int)} {h : Int} {p : Option Int}, h ∈ os → Chain os s h p js → offAt h js m ∈ os
  | [], _, _, hh, _ => hh
  | (a, o) :: t, h, p, hh, ⟨c1, _, _, c4⟩ => by
    rw [offAt]
    split
    · exact hh
    · exact off_mem c1 c4
/-- the moments of a reading, by the offsets -/
def momsOf (os : List Int) (h : Int) (js : List (Int × Int)) (r : Int) : List Int := (os.reverse.filter fun o => offAt h js (r - o) == o).map fun o => r - o
theorem moms_mem (hm : ∀ m, offAt h js m ∈ os) : m ∈ momsOf os h js r ↔ offAt h js m = r - m := by
  unfold momsOf
  rw [List.mem_map]
  constructor
  · rintro ⟨o, ho, rfl⟩
    obtain ⟨_, h2⟩ := List.mem_filter.mp ho
    have h3 : offAt h js (r - o) = o := by simpa using h2
    omega
  · intro e
    refine ⟨r - m, List.mem_filter.mpr ⟨List.mem_reverse.mpr (e ▸ hm m), ?_⟩, by omega⟩
    have : r - (r - m) = m := by omega
    simp [this, e]
theorem moms_asc (z : os.Pairwise (· < ·)) : (momsOf os h js r).Pairwise (· < ·) := by
  unfold momsOf
  rw [List.pairwise_map]
  refine List.Pairwise.imp ?_ ((List.pairwise_reverse.mpr z).filter _)
  intro a b hab
  omega
theorem set_new {c c' : Cell} : (S ++ [c]).set S.length c' = S ++ [c'] := by
  rw [List.set_append_right _ _ (Nat.le_refl _), Nat.sub_self] <;> rfl
theorem get_new {c : Cell} : (S ++ [c])[S.length]? = some c := by simp
theorem lcQ_filter {f : D → Rho → Option Rho} {mt me : ME} {ρ : Rho} {α : Type} {as : List α} {i : α → D} {S : Sto} {Q : List D → Sto → Prop} (t : α → Bool) (g : α → D) (h : ∀ a, a ∈ as → ∃ ρ1, f (i a) ρ = some ρ1 ∧ (∀ Q : D → Sto → Prop, Q (.bl (t a)) S → (mt ρ1 S).Does Q) ∧ ∀ Q : D → Sto → Prop, t a = true → Q (g a) S → (me ρ1 S).Does Q) (q : Q ((as.filter t).map g) S) : LcQ f mt me ρ (as.map i) S Q := by
  induction as generalizing Q with
  | nil => rw [List.map_nil, lcQ_nil]; exact q
  | cons a r ih =>
    obtain ⟨ρ1, e, k1, k2⟩ := h a List.mem_cons_self
    rw [List.map_cons, lcQ_cons, e]
    refine k1 _ ?_
    rw [blQ_bl]
    cases c : t a with
    | true =>
      rw [if_pos rfl]
      refine k2 _ c (ih (fun d hd => h d (List.mem_cons_of_mem _ hd)) ?_)
      rw [List.filter_cons, if_pos c] at q
      exact q
    | false =>
      rw [if_neg (by decide)]
      refine ih (fun d hd => h d (List.mem_cons_of_mem _ hd)) ?_
      rw [List.filter_cons, if_neg (by rw [c]; decide)] at q
      exact q
end
end Dm
-- text HmLooks
namespace Dm
open PySem L2
/-- from S to S': the pots of P have turned, all else is as it was -/
structure GoS (P : Nat → Prop) (S S' : Sto) : Prop where
  len : S.length ≤ S'.length
  same : ∀ n, n < S.length → ¬ P n → S'[n]? = S[n]?
  pot : ∀ n, P n → Pot n S'
section
variable {P : Nat → Prop} {S S1 S2 : Sto} {p q n : Nat} {os : List Int} {s : Int}
theorem GoS.refl (h : ∀ n, P n → Pot n S) : GoS P S S := ⟨Nat.le_refl _, fun _ _ _ => rfl, h⟩
theorem GoS.trans (a : GoS P S S1) (b : GoS P S1 S2) : GoS P S S2 :=
  ⟨Nat.le_trans a.len b.len, fun n h hn => (b.same n (Nat.lt_of_lt_of_le h a.len) hn).trans (a.same n h hn), b.pot⟩
theorem Pot.push {c : Cell} (h : Pot p S) : Pot p (S ++ [c]) := by
  obtain ⟨k, e⟩ := h
  exact ⟨k, by rw [List.getElem?_append_left (List.getElem?_eq_some_iff.mp e).1]; exact e⟩
theorem GoS.push (a : GoS P S S1) (c : Cell) : GoS P S (S1 ++ [c]) :=
  ⟨by rw [List.length_append]; exact Nat.le_trans a.len (Nat.le_add_right _ _), fun n h hn => by
    rw [List.getElem?_append_left (Nat.lt_of_lt_of_le h a.len)]
    exact a.same n h hn, fun n hn => (a.pot n hn).push⟩
theorem GoS.setNew (h : ∀ n, P n → Pot n S) (a : GoS P S S1) (hn : S.length ≤ n) (c : Cell) : GoS P S (S1.set n c) :=
  ⟨by rw [List.length_set]; exact a.len, fun m hm hp => by
    rw [List.getElem?_set_ne (by omega)]
    exact a.same m hm hp, fun m hm => by
    have := (h m hm).lt
    exact (a.pot m hm).set (by omega)⟩
theorem GoS.get {c : Cell} (a : GoS P S S1) (h : S[n]? = some c) (hn : ¬ P n) : S1[n]? = some c := by
  rw [a.same n (List.getElem?_eq_some_iff.mp h).1 hn]
  exact h
theorem Go.all (g : Go q S S1) (hq : P q) (h : ∀ n, P n → Pot n S) : GoS P S S1 :=
  ⟨g.len, fun n hn hp => g.same n hn fun e => hp (e ▸ hq), fun n hn => by
    by_cases e : n = q
    · subst e; exact g.pot
    · obtain ⟨k, z⟩ := h n hn
      exact ⟨k, g.get z e⟩⟩
theorem GoS.one (g : GoS (· = p) S S1) : Go p S S1 := ⟨g.len, fun n hn e => g.same n hn e, g.pot p rfl⟩
structure LooksOK (os : List Int) (ls : List (Int × Int)) : Prop where
  mem : ∀ l, l ∈ ls → l.2 ∈ os
  asc : ls.Pairwise fun a b => a.1 < b.1
def looksD (ls : List (Int × Int)) : D := .tup (ls.map jmpD)
end
end Dm
-- text HmCrowd
namespace Dm
open PySem L2
/-! ### looks by their places -/
def Hh (ls : List (Int × Int)) (i : Nat) : Int := (ls.getD i (0, 0)).1
def Oo (ls : List (Int × Int)) (i : Nat) : Int := (ls.getD i (0, 0)).2
def chg (ls : List (Int × Int)) (i : Nat) : Int := if Oo ls (i + 1) = Oo ls i then 0 else 1
def tal (ls : List (Int × Int)) : Nat → Int
  | 0 => 0
  | k + 1 => tal ls k + chg ls k
def cond (s : Int) (ls : List (Int × Int)) (i j : Nat) : Bool := decide (Hh ls j - Hh ls i - 1 < (tal ls j - tal ls i - 1) * s)
def crowAt (s : Int) (ls : List (Int × Int)) (j : Nat) : Option (Nat × Nat) := (List.range' 0 j).findSome? fun b => if cond s ls (j - 1 - b) j then some (j - 1 - b, j) else none
def crow (s : Int) (ls : List (Int × Int)) : Option (Nat × Nat) := (List.range' 0 ls.length).findSome? fun j => crowAt s ls j
section
variable {S : Sto} {os : List Int} {s : Int} {ls : List (Int × Int)} {n p : Nat}
theorem at_look {i : Nat} (h : i < ls.length) : atI (ls.map jmpD) (i : Int) = some (jmpD (Hh ls i, Oo ls i)) := by
  rw [atI_of (by omega) (by rw [List.length_map]; omega)]
  have e : ls.getD i (0, 0) = ls[i] := by simp [List.getD, List.getElem?_eq_getElem h]
  unfold Hh Oo
  rw [e]
  show (ls.map jmpD)[i]? = _
  rw [List.getElem?_map, List.getElem?_eq_getElem h] <;> rfl
theorem asc_get (h : ls.Pairwise fun a b => a.1 < b.1) {i j : Nat} (hij : i < j) (hj : j < ls.length) : Hh ls i < Hh ls j := by
  have q := List.pairwise_iff_getElem.mp h i j (by omega) hj hij
  unfold Hh
  simpa [List.getD, List.getElem?_eq_getElem hj, List.getElem?_eq_getElem (show i < ls.length by omega)] using q
@[simp] theorem ty_looks : tyOf S (looksD ls) = some .tup := rfl
@[simp] theorem len_looks : gLen S [looksD ls] = some (.int ls.length) := by simp [looksD]
@[simp] theorem ix_looks {i : Int} : gIx S (looksD ls) (.int i) = atI (ls.map jmpD) i := rfl
end
end Dm
-- text HmEarly
namespace Dm
open PySem L2
end Dm
-- text HmFit
namespace Dm
open PySem L2
/-- the earliest moment of the next jump -/
def bar (s : Int) (p : Option Int) (h : Int) : Int := match p with
  | none => h + 1
  | some q => if q + s > h + 1 then q + s else h + 1
def early (s : Int) : Option Int → Int × Int → List (Int × Int) → Option (List (Int × Int))
  | _, _, [] => some []
  | p, (h, o), (h', o') :: r => if o' = o then early s p (h', o') r else if bar s p h > h' then none else (early s (some (bar s p h)) (h', o') r).map ((bar s p h, o') :: ·)
def earlyT (os : List Int) (s : Int) : List (Int × Int) → Option (Int × List (Int × Int))
  | [] => some (os.headD 0, [])
  | l :: r => (early s none l r).map (l.2, ·)
def earlyD : Option (Int × List (Int × Int)) → D
  | none => .non
  | some (h, js) => tabD h js
section
variable {S : Sto} {os : List Int} {s : Int} {ls : List (Int × Int)} {n p : Nat}
/-! ### the bar by the places -/
def Bf (s : Int) (ls : List (Int × Int)) : Nat → Int
  | 0 => Hh ls 0 + 1
  | j + 1 => if Bf s ls j + chg ls j * s > Hh ls (j + 1) + 1 then Bf s ls j + chg ls j * s else Hh ls (j + 1) + 1
theorem tal_self (i : Nat) : (tal ls i - tal ls i) * s = 0 := by rw [Int.sub_self, Int.zero_mul]
theorem bf_max {x : Int} : ∀ {j : Nat}, x < Bf s ls j ↔ ∃ i, i ≤ j ∧ x < Hh ls i + 1 + (tal ls j - tal ls i) * s
  | 0 => by
    rw [Bf]
    constructor
    · intro h
      exact ⟨0, Nat.le_refl _, by rw [tal_self]; omega⟩
    · rintro ⟨i, hi, h⟩
      have e : i = 0 := by omega
      subst e
      rw [tal_self] at h
      omega
  | j + 1 => by
    have ih := bf_max (x := x - chg ls j * s) (j := j)
    have e : ∀ i, (tal ls (j + 1) - tal ls i) * s = (tal ls j - tal ls i) * s + chg ls j * s := fun i => by
      rw [tal, ← Int.add_mul]
      congr 1
      omega
    rw [Bf]
    constructor
    · intro h
      by_cases c : x < Bf s ls j + chg ls j * s
      · obtain ⟨i, hi, k⟩ := ih.mp (by omega)
        exact ⟨i, by omega, by rw [e]; omega⟩
      · refine ⟨j + 1, Nat.le_refl _, ?_⟩
        rw [tal_self]
        split at h <;> omega
    · rintro ⟨i, hi, k⟩
      by_cases c : i = j + 1
      · subst c
        rw [tal_self] at k
        split <;> omega
      · rw [e] at k
        have := ih.mpr ⟨i, by omega, by omega⟩
        split <;> omega
/-- no stretch that ends at place j + 1 is crowded -/
theorem free_at {j : Nat} : (∀ i, i < j + 1 → ¬ cond s ls i (j + 1) = true) ↔ Bf s ls j + (chg ls j - 1) * s ≤ Hh ls (j + 1) := by
  have key : ∀ i, cond s ls i (j + 1) = true ↔ Hh ls (j + 1) - (chg ls j - 1) * s < Hh ls i + 1 + (tal ls j - tal ls i) * s := fun i => by
    unfold cond
    rw [decide_eq_true_eq]
    have e : (tal ls (j + 1) - tal ls i - 1) * s = (tal ls j - tal ls i) * s + (chg ls j - 1) * s := by
      rw [tal, ← Int.add_mul]
      congr 1
      omega
    rw [e]
    omega
  have m := bf_max (s := s) (ls := ls) (x := Hh ls (j + 1) - (chg ls j - 1) * s) (j := j)
  constructor
  · intro h
    refine Int.not_lt.mp fun c => ?_
    obtain ⟨i, hi, k⟩ := m.mp (by omega)
    exact h i (by omega) ((key i).mpr k)
  · intro h i hi k
    have := m.mpr ⟨i, by omega, (key i).mp k⟩
    omega
theorem crowAt_none {j : Nat} : crowAt s ls j = none ↔ ∀ i, i < j → ¬ cond s ls i j = true := by
  unfold crowAt
  rw [List.findSome?_eq_none_iff]
  constructor
  · intro h i hi k
    have := h (j - 1 - i) (by rw [List.mem_range'_1]; omega)
    rw [show j - 1 - (j - 1 - i) = i by omega, if_pos k] at this
    cases this
  · intro h b hb
    rw [List.mem_range'_1] at hb
    rw [if_neg (h _ (by omega))]
theorem crow_none : crow s ls = none ↔ ∀ j, j + 1 < ls.length → Bf s ls j + (chg ls j - 1) * s ≤ Hh ls (j + 1) := by
  unfold crow
  rw [List.findSome?_eq_none_iff]
  constructor
  · intro h j hj
    exact free_at.mp (crowAt_none.mp (h (j + 1) (by rw [List.mem_range'_1]; omega)))
  · intro h j hj
    rw [List.mem_range'_1] at hj
    refine crowAt_none.mpr ?_
    cases j with
    | zero => exact fun i hi => by omega
    | succ j => exact free_at.mpr (h j (by omega))
theorem get_mid {pre suf : List (Int × Int)} {l : Int × Int} (e : ls = pre ++ l :: suf) : Hh ls pre.length = l.1 ∧ Oo ls pre.length = l.2 := by
  unfold Hh Oo
  rw [e]
  simp [List.getD]
theorem early_some (hs : 0 < s) (asc : ls.Pairwise fun a b => a.1 < b.1) : ∀ (suf : List (Int × Int)) (pre : List (Int × Int)) (p : Option Int) (l : Int × Int), ls = pre ++ l :: suf → Bf s ls pre.length = bar s p l.1 → (∀ q, p = some q → q ≤ l.1) →
    ((∃ js, early s p l suf = some js) ↔ ∀ i, pre.length ≤ i → i + 1 < ls.length → Bf s ls i + (chg ls i - 1) * s ≤ Hh ls (i + 1))
  | [], pre, p, l, e, hb, hq => by
    refine ⟨(fun _ i h1 h2 => ?_), (fun _ => ⟨[], rfl⟩)⟩
    rw [e] at h2
    simp at h2
    omega
  | (h', o') :: r, pre, p, (h, o), e, hb, hq => by
    obtain ⟨e1, e2⟩ := get_mid e
    have e' : ls = (pre ++ [(h, o)]) ++ (h', o') :: r := by rw [e, List.append_assoc] <;> rfl
    obtain ⟨e3, e4⟩ := get_mid e'
    rw [List.length_append, List.length_singleton] at e3 e4
    have len : pre.length + 1 < ls.length := by rw [e]; simp
    have lt : h < h' := by
      have := asc_get asc (show pre.length < pre.length + 1 by omega) len
      rw [e1, e3] at this
      exact this
    simp only at e1 e2 e3 e4 hb hq
    rw [early]
    by_cases c : o' = o
    · have d0 : chg ls pre.length = 0 := by rw [chg, e4, e2, if_pos c]
      have nb : Bf s ls (pre.length + 1) = bar s p h' := by
        rw [Bf, d0, hb, Int.zero_mul, Int.add_zero, e3]
        unfold bar
        cases p with
        | none => simp only; split <;> omega
        | some q => simp only; (repeat' split) <;> omega
      have ih := early_some hs asc r (pre ++ [(h, o)]) p (h', o') e' (by rw [List.length_append, List.length_singleton]; exact nb) (fun q z => by have := hq q z; simp only; omega)
      rw [if_pos c, ih, List.length_append, List.length_singleton]
      refine ⟨fun k i h1 h2 => ?_, fun k i h1 h2 => k i (by omega) h2⟩
      by_cases ci : i = pre.length
      · subst ci
        rw [d0, hb, e3, Int.zero_sub]
        unfold bar
        cases p with
        | none => simp only; omega
        | some q =>
          have := hq q rfl
          simp only
          split <;> omega
      · exact k i (by omega) h2
    · have d1 : chg ls pre.length = 1 := by rw [chg, e4, e2, if_neg c]
      rw [if_neg c]
      by_cases g : bar s p h > h'
      · rw [if_pos g]
        refine ⟨(fun ⟨js, z⟩ => nomatch z), (fun k => ?_)⟩
        have := k pre.length (Nat.le_refl _) len
        rw [d1, hb, e3, Int.sub_self, Int.zero_mul] at this
        omega
      · rw [if_neg g]
        have nb : Bf s ls (pre.length + 1) = bar s (some (bar s p h)) h' := by
          rw [Bf, d1, hb, Int.one_mul, e3]
          rfl
        have ih := early_some hs asc r (pre ++ [(h, o)]) (some (bar s p h)) (h', o') e' (by rw [List.length_append, List.length_singleton]; exact nb) (fun q z => by cases z; simp only; omega)
        rw [List.length_append, List.length_singleton] at ih
        have em : (∃ js, (early s (some (bar s p h)) (h', o') r).map ((bar s p h, o') :: ·) = some js) ↔ ∃ js, early s (some (bar s p h)) (h', o') r = some js := by
          cases early s (some (bar s p h)) (h', o') r <;> simp
        rw [em, ih]
        refine ⟨fun k i h1 h2 => ?_, fun k i h1 h2 => k i (by omega) h2⟩
        by_cases ci : i = pre.length
        · subst ci
          rw [d1, hb, e3, Int.sub_self, Int.zero_mul]
          omega
        · exact k i (by omega) h2
theorem fit_iff (hs : 0 < s) (asc : ls.Pairwise fun a b => a.1 < b.1) : (∃ t, earlyT os s ls = some t) ↔ crow s ls = none := by
  rw [crow_none]
  cases ls with
  | nil => exact ⟨(fun _ j hj => by simp at hj), (fun _ => ⟨_, rfl⟩)⟩
  | cons l r =>
    have k := early_some (ls := l :: r) hs asc r [] none l rfl (by rw [List.length_nil, Bf]; rfl) (fun _ h => nomatch h)
    rw [earlyT]
    have em : (∃ t, (early s none l r).map (l.2, ·) = some t) ↔ ∃ js, early s none l r = some js := by
      cases early s none l r <;> simp
    rw [em, k]
    exact ⟨fun k i h => k i (Nat.zero_le _) h, fun k i _ h => k i h⟩
theorem last_at {js : List (Int × Int)} (h : js ≠ []) : ∃ m o, atI (js.map jmpD) (-1) = some (jmpD (m, o)) ∧ endP none js = some m := by
  have e := (List.dropLast_concat_getLast h).symm
  generalize js.dropLast = d at e
  generalize js.getLast h = l at e
  obtain ⟨m, o⟩ := l
  subst e
  refine ⟨m, o, ?_, endP_snoc⟩
  simp [atI, ixN]
  rw [if_pos (by omega)]
  have : ((-1 : Int) + (d.length + 1)).toNat = d.length := by omega
  simp [this]
theorem early_of_does {Q : D → Sto → Prop} (z : ZoneOK os s) (hl : ls.length ≤ 1000) (q : ∀ c, Q (earlyD (earlyT os s ls)) (S ++ [c])) : (m_early_of [zoneD os s, looksD ls] S).Does Q := by
  refine does_def rfl ?_
  refine seq_cut (fun ρ S' => ρ = [some (zoneD os s), some (looksD ls), some (.cell S.length), none, none, none] ∧ S' = S ++ [.lst []]) (fun M hM => ?_) ?_
  · simp
    exact hM _ _ ⟨rfl, rfl⟩
  rintro ρ _ ⟨rfl, rfl⟩
  rw [does_seq]
  refine Out.DoesE.mono (N := fun ρ S' => ∃ (js : List (Int × Int)) (h : Int) (x3 x4 : Option D), ρ = [some (zoneD os s), some (looksD ls), some (.cell S.length), x3, x4, none] ∧ S' = S ++ [.lst (js.map jmpD)] ∧ earlyT os s ls = some (h, js)) (R := Q) (B := fun _ _ => False) (C := fun _ _ => False) ?_ ?_ (fun _ _ h => h) (fun _ _ h => h) (fun _ _ h => h)
  · rw [does_for]
    simp only [does_iRange2, does_cons, does_k, does_callB, does_var, does_nil, List.getElem?_cons_zero, List.getElem?_cons_succ, len_looks, optQ_some]
    refine ⟨by omega, ?_⟩
    by_cases hn : ls = []
    · subst hn
      exact ⟨[], _, none, none, rfl, rfl, rfl⟩
    · obtain ⟨l0, rest, hL⟩ : ∃ l0 rest, ls = l0 :: rest := by
        cases ls with
        | nil => exact absurd rfl hn
        | cons a r => exact ⟨a, r, rfl⟩
      have en : ((ls.length : Int) - 1).toNat = rest.length := by rw [hL]; simp
      rw [en]
      refine forL_cut (fun ds ρ S' => ∃ (pre : List (Int × Int)) (l : Int × Int) (suf js : List (Int × Int)) (x3 x4 : Option D), ds = rngD ((pre.length : Int) + 1) suf.length ∧ ρ = [some (zoneD os s), some (looksD ls), some (.cell S.length), x3, x4, none] ∧ ls = pre ++ l :: suf ∧ S' = S ++ [.lst (js.map jmpD)] ∧ js.length ≤ pre.length ∧
        early s none l0 rest = (early s (endP none js) l suf).map (js ++ ·)) _
        ⟨[], l0, rest, [], none, none, rfl, rfl, hL, rfl, Nat.le_refl _, by show _ = (early s none l0 rest).map _; cases early s none l0 rest <;> rfl⟩ ?_ ?_
      · rintro d r ρ S' ⟨pre, ⟨h, o⟩, suf, js, x3, x4, e, rfl, el, rfl, jl, ee⟩
        cases suf with
        | nil => cases e
        | cons l' suf =>
          obtain ⟨h', o'⟩ := l'
          rw [List.length_cons, rngD_cons] at e
          injection e with e1 e2
          subst e1
          refine ⟨_, rfl, fun M hM => ?_⟩
          obtain ⟨g1, g2⟩ := get_mid el
          have el' : ls = (pre ++ [(h, o)]) ++ (h', o') :: suf := by rw [el, List.append_assoc] <;> rfl
          obtain ⟨g3, g4⟩ := get_mid el'
          rw [List.length_append, List.length_singleton] at g3 g4
          have len : pre.length + 1 < ls.length := by rw [el]; simp
          have h1 : (pre.length : Int) + 1 - 1 = (pre.length : Nat) := by omega
          simp only at g1 g2 g3 g4
          rw [does_ifS]
          have e2' : r = rngD (((pre ++ [(h, o)]).length : Int) + 1) suf.length := by rw [e2, List.length_append] <;> rfl
          rw [early] at ee
          have l1 : atI (ls.map jmpD) ((pre.length : Int) + 1) = _ := at_look len
          have l2 := at_look (ls := ls) (i := pre.length) (by omega)
          rw [g3, g4] at l1
          rw [g1, g2] at l2
          by_cases c : o' = o
          · rw [if_pos c] at ee
            simp only [does_op, does_var, does_k, List.getElem?_cons_zero, List.getElem?_cons_succ, List.length_cons, List.length_nil, List.map_cons, List.map_nil, tgN_eq, List.set_cons_succ, List.set_cons_zero, ix_looks, gI_int, optQ_some, h1, l1, l2, ix_jmp1, gNe_int, blQ_bl]
            simp [c]
            exact hM _ _ ⟨pre ++ [(h, o)], (h', o'), suf, js, _, _, e2', rfl, el', rfl, by rw [List.length_append]; omega, ee⟩
          · rw [if_neg c] at ee
            simp only [does_op, does_var, does_k, List.getElem?_cons_zero, List.getElem?_cons_succ, List.length_cons, List.length_nil, List.map_cons, List.map_nil, tgN_eq, List.set_cons_succ, List.set_cons_zero, ix_looks, gI_int, optQ_some, h1, l1, l2, ix_jmp1, gNe_int, blQ_bl]
            have cb : (!(o' == o)) = true := by simp [c]
            rw [if_pos cb]
            refine seq_cut (fun ρ S' => ρ = [some (zoneD os s), some (looksD ls), some (.cell S.length), some (.int ((pre.length : Int) + 1)), some (.int (h + 1)), none] ∧ S' = S ++ [.lst (js.map jmpD)]) (fun M hM => ?_) ?_
            · simp only [does_asg, does_op, does_var, does_k, List.getElem?_cons_zero, List.getElem?_cons_succ, ix_looks, gI_int, optQ_some, h1, l2, ix_jmp0, gAdd_int]
              exact hM _ _ ⟨rfl, rfl⟩
            rintro ρ _ ⟨rfl, rfl⟩
            refine seq_cut (fun ρ S' => ρ = [some (zoneD os s), some (looksD ls), some (.cell S.length), some (.int ((pre.length : Int) + 1)), some (.int (bar s (endP none js) h)), none] ∧ S' = S ++ [.lst (js.map jmpD)]) (fun M hM => ?_) ?_
            · by_cases hj : js = []
              · subst hj
                simp [gLen_cell get_new]
                exact hM _ _ ⟨rfl, rfl⟩
              · obtain ⟨m, o2, a1, a2⟩ := last_at hj
                have := List.length_pos_iff.mpr hj
                simp [gLen_cell get_new, gIx_cell get_new, hj, List.length_pos_iff, a1]
                exact hM _ _ ⟨by rw [a2] <;> rfl, rfl⟩
            rintro ρ _ ⟨rfl, rfl⟩
            generalize bar s (endP none js) h = at' at ee ⊢
            by_cases g : at' > h'
            · rw [if_pos g] at ee
              simp only [does_seq, does_ifS, does_op, does_var, does_k, List.getElem?_cons_zero, List.getElem?_cons_succ, ix_looks, optQ_some, l1, ix_jmp0, gI_int, blQ_bl]
              rw [if_pos (by simpa using g)]
              simp only [does_ret, does_k]
              have ee' : earlyT os s ls = none := by rw [hL, earlyT, ee] <;> rfl
              have q := q (.lst (js.map jmpD))
              rw [ee'] at q
              exact q
            · rw [if_neg g] at ee
              simp only [does_seq, does_ifS, does_op, does_var, does_k, List.getElem?_cons_zero, List.getElem?_cons_succ, ix_looks, optQ_some, l1, ix_jmp0, ix_jmp1, gI_int, blQ_bl, does_nop, does_app, does_tup, does_cons, does_nil, get_new]
              rw [if_neg (by simpa using g)]
              refine ⟨_, rfl, by simp, _, rfl, by rw [List.length_map]; omega, ?_⟩
              rw [set_new]
              refine hM _ _ ⟨pre ++ [(h, o)], (h', o'), suf, js ++ [(at', o')], _, _, e2', rfl, el', by rw [List.map_append] <;> rfl, by rw [List.length_append, List.length_append]; simp; omega, ?_⟩
              rw [ee, endP_snoc, Option.map_map]
              congr 1
              funext x
              simp
      · rintro ρ S' ⟨pre, ⟨h, o⟩, suf, js, x3, x4, e, rfl, el, rfl, jl, ee⟩
        cases suf with
        | cons l' suf => rw [List.length_cons, rngD_cons] at e; cases e
        | nil =>
          refine ⟨js, l0.2, x3, x4, rfl, rfl, ?_⟩
          rw [hL, earlyT, ee, early]
          simp
  · rintro ρ S' ⟨js, h, x3, x4, rfl, rfl, ee⟩
    have q := q (.lst (js.map jmpD))
    rw [ee] at q
    cases ls with
    | nil =>
      cases z <;> cases ee <;> (simp [gTuple_cell get_new]; exact q)
    | cons l0 rest =>
      have hh : h = l0.2 := by
        rw [earlyT] at ee
        cases x : early s none l0 rest with
        | none => rw [x] at ee; cases ee
        | some y => rw [x] at ee; cases ee; rfl
      subst hh
      have n0 : ¬ (((rest.length + 1 : Nat) : Int) = 0) := by omega
      simp [gTuple_cell get_new]
      exact q
end
end Dm
namespace Dm
open PySem L2
/-- data without cells -/
inductive Plain : Nat → D → Prop
  | non {n : Nat} : Plain n .non
  | int {n : Nat} {i : Int} : Plain n (.int i)
  | bl {n : Nat} {b : Bool} : Plain n (.bl b)
  | str {n : Nat} {x : Str} : Plain n (.str x)
  | tup {n : Nat} {ds : List D} : ds.length ≤ 16777216 → (∀ d, d ∈ ds → Plain n d) → Plain (n + 1) (.tup ds)
theorem Plain.eqv {S : Sto} {n : Nat} {d : D} (h : Plain n d) : Eqv S n d d := by
  induction h with
  | non => exact .non
  | int => exact .int
  | bl => exact .bl
  | str => exact .str
  | tup hl _ ih => exact .tup rfl hl fun i d e a b => by rw [a] at b; cases b; exact ih d (List.mem_of_getElem? a)
theorem Plain.up {n m : Nat} {d : D} (h : Plain n d) (hm : n ≤ m) : Plain m d := by
  induction h generalizing m with
  | non => exact .non
  | int => exact .int
  | bl => exact .bl
  | str => exact .str
  | tup hl _ ih =>
    obtain ⟨k, rfl⟩ : ∃ k, m = k + 1 := ⟨m - 1, by omega⟩
    exact .tup hl fun d hd => ih d hd (by omega)
section
variable {S : Sto} {os : List Int} {s : Int} {ls : List (Int × Int)} {n p : Nat}
theorem isNon_early {t : Option (Int × List (Int × Int))} : isNon (earlyD t) = t.isNone := by cases t <;> rfl
theorem fit_crow (hs : 0 < s) (l : LooksOK os ls) : (earlyT os s ls).isNone = !(crow s ls).isNone := by
  have k := fit_iff (os := os) hs l.asc
  cases e : earlyT os s ls with
  | some t =>
    have := k.mp ⟨t, e⟩
    rw [this] <;> rfl
  | none =>
    cases c : crow s ls with
    | none =>
      obtain ⟨t, z⟩ := k.mpr c
      rw [e] at z; cases z
    | some _ => rfl
theorem looks_fit_does {Q : D → Sto → Prop} (z : ZoneOK os s) (l : LooksOK os ls) (hl : ls.length ≤ 1000) (q : ∀ c, Q (.bl (crow s ls).isNone) (S ++ [c])) : (m_looks_fit [zoneD os s, looksD ls] S).Does Q := by
  refine does_def rfl ?_
  simp
  refine early_of_does z hl fun c => ?_
  simp [isNon_early]
  have k := fit_crow z.sp.1 l
  have k2 : (earlyT os s ls).isSome = (crow s ls).isNone := by
    cases a : earlyT os s ls <;> cases b : crow s ls <;> rw [a, b] at k <;> first | rfl | cases k
  rw [k2]
  exact q c
end
end Dm
-- text HmEtab
namespace Dm
open PySem L2
section
variable {S : Sto} {os : List Int} {s h : Int} {ls js : List (Int × Int)} {n p : Nat}
theorem bar_gt {q : Option Int} {x : Int} : x < bar s q x := by
  unfold bar
  cases q with
  | none => simp only; omega
  | some q => simp only; split <;> omega
theorem bar_ge {q x : Int} : q + s ≤ bar s (some q) x := by
  unfold bar
  simp only
  split <;> omega
theorem early_chain : ∀ {suf : List (Int × Int)} {p : Option Int} {l : Int × Int} {js : List (Int × Int)}, early s p l suf = some js → (∀ x, x ∈ suf → x.2 ∈ os) → Chain os s l.2 p js
  | [], p, l, js, e, _ => by cases e; trivial
  | (h', o') :: r, p, (h, o), js, e, m => by
    rw [early] at e
    by_cases c : o' = o
    · rw [if_pos c] at e
      have ih := early_chain e fun x hx => m x (List.mem_cons_of_mem _ hx)
      simp only at ih ⊢
      rw [← c]; exact ih
    · rw [if_neg c] at e
      by_cases g : bar s p h > h'
      · rw [if_pos g] at e; cases e
      · rw [if_neg g] at e
        cases w : early s (some (bar s p h)) (h', o') r with
        | none => rw [w] at e; cases e
        | some js' =>
          rw [w] at e
          cases e
          refine ⟨m _ List.mem_cons_self, c, fun q hq => ?_, early_chain w fun x hx => m x (List.mem_cons_of_mem _ hx)⟩
          subst hq
          exact bar_ge
theorem early_head : ∀ {suf : List (Int × Int)} {p : Option Int} {l : Int × Int} {js : List (Int × Int)}, early s p l suf = some js → (l :: suf).Pairwise (fun a b => a.1 < b.1) → ∀ j, js.head? = some j → l.1 < j.1
  | [], p, l, js, e, _, j, hj => by cases e; cases hj
  | (h', o') :: r, p, (h, o), js, e, asc, j, hj => by
    rw [early] at e
    obtain ⟨a1, a2⟩ := List.pairwise_cons.mp asc
    by_cases c : o' = o
    · rw [if_pos c] at e
      have := early_head e a2 j hj
      have := a1 _ List.mem_cons_self
      simp only at *
      omega
    · rw [if_neg c] at e
      by_cases g : bar s p h > h'
      · rw [if_pos g] at e; cases e
      · rw [if_neg g] at e
        cases w : early s (some (bar s p h)) (h', o') r with
        | none => rw [w] at e; cases e
        | some js' =>
          rw [w] at e
          cases e
          cases hj
          exact bar_gt
theorem early_holds : ∀ {suf : List (Int × Int)} {p : Option Int} {l : Int × Int} {js : List (Int × Int)}, early s p l suf = some js → (l :: suf).Pairwise (fun a b => a.1 < b.1) → ∀ x, x ∈ l :: suf → offAt l.2 js x.1 = x.2
  | suf, p, l, js, e, asc, x, hx => by
    have hd := early_head e asc
    rcases List.mem_cons.mp hx with rfl | hy
    · cases js with
      | nil => rfl
      | cons j t =>
        obtain ⟨a, o⟩ := j
        rw [offAt, if_pos (hd _ rfl)]
    · cases suf with
      | nil => cases hy
      | cons l' r =>
        obtain ⟨h', o'⟩ := l'
        obtain ⟨h, o⟩ := l
        rw [early] at e
        obtain ⟨a1, a2⟩ := List.pairwise_cons.mp asc
        by_cases c : o' = o
        · rw [if_pos c] at e
          have ih := early_holds e a2 x hy
          simp only at ih ⊢
          rw [← c]; exact ih
        · rw [if_neg c] at e
          by_cases g : bar s p h > h'
          · rw [if_pos g] at e; cases e
          · rw [if_neg g] at e
            cases w : early s (some (bar s p h)) (h', o') r with
            | none => rw [w] at e; cases e
            | some js' =>
              rw [w] at e
              cases e
              have hx' : h' ≤ x.1 := by
                rcases List.mem_cons.mp hy with rfl | hw
                · exact Int.le_refl _
                · have := (List.pairwise_cons.mp a2).1 x hw
                  simp only at this
                  omega
              show offAt o ((bar s p h, o') :: js') x.1 = x.2
              rw [offAt, if_neg (by omega)]
              exact early_holds w a2 x hy
theorem earlyT_tab (z : ZoneOK os s) (l : LooksOK os ls) (e : earlyT os s ls = some (h, js)) : TabOK os s h js := by
  cases ls with
  | nil => cases z <;> cases e <;> exact ⟨by simp, trivial⟩
  | cons a r =>
    rw [earlyT] at e
    cases w : early s none a r with
    | none => rw [w] at e; cases e
    | some js' =>
      rw [w] at e
      cases e
      exact ⟨l.mem _ List.mem_cons_self, early_chain w fun x hx => l.mem x (List.mem_cons_of_mem _ hx)⟩
theorem earlyT_holds (l : LooksOK os ls) (e : earlyT os s ls = some (h, js)) : ∀ x, x ∈ ls → offAt h js x.1 = x.2 := by
  cases ls with
  | nil => exact fun x hx => nomatch hx
  | cons a r =>
    rw [earlyT] at e
    cases w : early s none a r with
    | none => rw [w] at e; cases e
    | some js' =>
      rw [w] at e
      cases e
      exact early_holds w l.asc
end
end Dm
-- text HmHold
namespace Dm
open PySem L2
/-! ### looks that some table has are not crowded -/
def aft : Int → List (Int × Int) → Int → Int × List (Int × Int)
  | o, [], _ => (o, [])
  | o, (a, b) :: r, t => if t < a then (o, (a, b) :: r) else aft b r t
section
variable {os : List Int} {s h : Int} {ls js : List (Int × Int)}
theorem aft_off {t x : Int} (hx : t ≤ x) : ∀ {o : Int} {jr : List (Int × Int)}, offAt (aft o jr t).1 (aft o jr t).2 x = offAt o jr x
  | o, [] => rfl
  | o, (a, b) :: r => by
    rw [aft]
    by_cases c : t < a
    · rw [if_pos c]
    · rw [if_neg c, aft_off hx, offAt, if_neg (by omega)]
theorem aft_held {t : Int} : ∀ {o : Int} {jr : List (Int × Int)}, (aft o jr t).1 = offAt o jr t
  | o, [] => rfl
  | o, (a, b) :: r => by
    rw [aft, offAt]
    by_cases c : t < a
    · rw [if_pos c, if_pos c]
    · rw [if_neg c, if_neg c, aft_held]
theorem aft_late {t : Int} : ∀ {o : Int} {jr : List (Int × Int)}, ∀ j, (aft o jr t).2.head? = some j → t < j.1
  | o, [], j, h => nomatch h
  | o, (a, b) :: r, j, h => by
    rw [aft] at h
    by_cases c : t < a
    · rw [if_pos c] at h; cases h; exact c
    · rw [if_neg c] at h; exact aft_late j h
theorem aft_chain {t : Int} (hs : 0 < s) : ∀ {o : Int} {p : Option Int} {jr : List (Int × Int)}, Chain os s o p jr → ∃ p', Chain os s (aft o jr t).1 p' (aft o jr t).2
  | o, p, [], h => ⟨p, h⟩
  | o, p, (a, b) :: r, h => by
    rw [aft]
    by_cases c : t < a
    · rw [if_pos c]; exact ⟨p, h⟩
    · rw [if_neg c]; exact aft_chain hs h.2.2.2
/-- the jump behind comes a spacing later -/
theorem aft_gap {t : Int} (hs : 0 < s) : ∀ {jr : List (Int × Int)} {o p : Int}, Chain os s o (some p) jr → ∀ j, (aft o jr t).2.head? = some j → p + s ≤ j.1
  | [], o, p, h, j, hj => nomatch hj
  | (a, b) :: r, o, p, h, j, hj => by
    have e := h.2.2.1 p rfl
    rw [aft] at hj
    by_cases c : t < a
    · rw [if_pos c] at hj; cases hj; exact e
    · rw [if_neg c] at hj
      have := aft_gap hs h.2.2.2 j hj
      omega
theorem held_early (hs : 0 < s) : ∀ {suf : List (Int × Int)} {p pr : Option Int} {l : Int × Int} {jr : List (Int × Int)}, (l :: suf).Pairwise (fun a b => a.1 < b.1) → Chain os s l.2 pr jr → (∀ j, jr.head? = some j → bar s p l.1 ≤ j.1) → (∀ x, x ∈ suf → offAt l.2 jr x.1 = x.2) → ∃ js, early s p l suf = some js
  | [], p, pr, l, jr, _, _, _, _ => ⟨[], rfl⟩
  | (h', o') :: r, p, pr, (h, o), jr, asc, ch, hb, hx => by
    obtain ⟨a1, a2⟩ := List.pairwise_cons.mp asc
    have lt : h < h' := a1 _ List.mem_cons_self
    have ho : offAt o jr h' = o' := hx _ List.mem_cons_self
    obtain ⟨p', ch'⟩ := aft_chain (t := h') hs ch
    have held : (aft o jr h').1 = o' := by rw [aft_held]; exact ho
    rw [held] at ch'
    have hx' : ∀ x, x ∈ r → offAt o' (aft o jr h').2 x.1 = x.2 := fun x hm => by
      have lx : h' ≤ x.1 := Int.le_of_lt ((List.pairwise_cons.mp a2).1 x hm)
      have := aft_off lx (o := o) (jr := jr)
      rw [held] at this
      rw [this]
      exact hx x (List.mem_cons_of_mem _ hm)
    have late := aft_late (t := h') (o := o) (jr := jr)
    rw [early]
    by_cases c : o' = o
    · rw [if_pos c]
      refine held_early hs (p := p) a2 ch' (fun j hj => ?_) hx'
      have l1 := late j hj
      simp only
      cases p with
      | none => unfold bar; simp only; omega
      | some pv =>
        have : pv + s ≤ j.1 := by
          cases jr with
          | nil => cases hj
          | cons q t =>
            obtain ⟨a, b⟩ := q
            have b1 := hb _ rfl
            have b2 : pv + s ≤ bar s (some pv) h := bar_ge
            rw [aft] at hj
            by_cases g : h' < a
            · rw [if_pos g] at hj; cases hj
              simp only at b1 ⊢
              omega
            · rw [if_neg g] at hj
              have := aft_gap hs ch.2.2.2 j hj
              simp only at b1
              omega
        unfold bar
        simp only
        split <;> omega
    · rw [if_neg c]
      cases jr with
      | nil => exact absurd ho.symm c
      | cons q t =>
        obtain ⟨a, b⟩ := q
        have b1 := hb _ rfl
        simp only at b1
        have g : ¬ h' < a := fun g => by
          rw [offAt, if_pos g] at ho
          exact c ho.symm
        rw [if_neg (by omega)]
        obtain ⟨js, e⟩ := held_early hs (p := some (bar s p h)) a2 ch' (fun j hj => by
          have l1 := late j hj
          have : bar s p h + s ≤ j.1 := by
            rw [aft, if_neg g] at hj
            have := aft_gap hs ch.2.2.2 j hj
            omega
          simp only
          generalize bar s p h = v at this
          unfold bar
          simp only
          split <;> omega) hx'
        exact ⟨_, by rw [e] <;> rfl⟩
theorem held_fit (hs : 0 < s) (asc : ls.Pairwise fun a b => a.1 < b.1) (t : TabOK os s h js) (hx : ∀ x, x ∈ ls → offAt h js x.1 = x.2) : ∃ t, earlyT os s ls = some t := by
  cases ls with
  | nil => exact ⟨_, rfl⟩
  | cons l r =>
    obtain ⟨p', ch⟩ := aft_chain (t := l.1) hs t.chain
    have held : (aft h js l.1).1 = l.2 := by rw [aft_held]; exact hx _ List.mem_cons_self
    rw [held] at ch
    obtain ⟨js', e⟩ := held_early hs (p := none) (jr := (aft h js l.1).2) asc ch (fun j hj => by
      have := aft_late j hj
      unfold bar
      simp only
      omega) fun x hm => by
      have lx : l.1 ≤ x.1 := Int.le_of_lt ((List.pairwise_cons.mp asc).1 x hm)
      have := aft_off lx (o := h) (jr := js)
      rw [held] at this
      rw [this]
      exact hx x (List.mem_cons_of_mem _ hm)
    exact ⟨_, by rw [earlyT, e] <;> rfl⟩
/-- looks among looks that can be can be -/
theorem crow_sub {ls' : List (Int × Int)} (z : ZoneOK os s) (l : LooksOK os ls) (asc : ls'.Pairwise fun a b => a.1 < b.1) (sub : ∀ x, x ∈ ls' → x ∈ ls) (h : crow s ls = none) : crow s ls' = none := by
  obtain ⟨⟨h0, js⟩, e⟩ := (fit_iff (os := os) z.sp.1 l.asc).mpr h
  refine (fit_iff (os := os) z.sp.1 asc).mp ?_
  exact held_fit z.sp.1 asc (earlyT_tab z l e) fun x hx => earlyT_holds l e x (sub x hx)
/-! ### the first crowded stretch -/
/-! ### parts of looks -/
end
end Dm
-- text HmLeft
namespace Dm
open PySem L2
theorem cut_take {ds : List D} {k : Int} (h : 0 ≤ k) : cutD ds none (some k) = ds.take k.toNat := by
  unfold cutD
  have e : k = (k.toNat : Int) := by omega
  rw [e, HT.sIx_nat, HT.sIx_none, List.drop_zero, Nat.sub_zero, Int.toNat_natCast]
  by_cases c : k.toNat ≤ ds.length
  · rw [Nat.min_eq_left c]
  · rw [Nat.min_eq_right (by omega), List.take_length, List.take_of_length_le (by omega)]
/-! ### looks with one more -/
section
variable {S : Sto} {os : List Int} {s m o : Int} {ls : List (Int × Int)} {n p : Nat}
/-- cells have come -/
def Grow (S S' : Sto) : Prop := ∃ cs, S' = S ++ cs
theorem Grow.refl : Grow S S := ⟨[], (List.append_nil _).symm⟩
theorem Grow.push {S' : Sto} (h : Grow S S') (c : Cell) : Grow S (S' ++ [c]) := by
  obtain ⟨cs, rfl⟩ := h
  exact ⟨cs ++ [c], by rw [List.append_assoc]⟩
theorem Grow.trans {S1 S2 : Sto} (h : Grow S S1) (h2 : Grow S1 S2) : Grow S S2 := by
  obtain ⟨cs, rfl⟩ := h
  obtain ⟨ds, rfl⟩ := h2
  exact ⟨cs ++ ds, by rw [List.append_assoc]⟩
theorem Grow.get {S' : Sto} {c : Cell} (h : Grow S S') (e : S[n]? = some c) : S'[n]? = some c := by
  obtain ⟨cs, rfl⟩ := h
  rw [List.getElem?_append_left (List.getElem?_eq_some_iff.mp e).1]
  exact e
theorem Grow.len {S' : Sto} (h : Grow S S') : S.length ≤ S'.length := by
  obtain ⟨cs, rfl⟩ := h
  rw [List.length_append]; omega
theorem Grow.go {S' : Sto} (h : Grow S S') (hp : Pot p S) : Go p S S' := by
  refine ⟨h.len, fun n hn _ => ?_, ?_⟩
  · obtain ⟨cs, rfl⟩ := h
    rw [List.getElem?_append_left hn]
  · obtain ⟨k, e⟩ := hp
    exact ⟨k, h.get e⟩
end
end Dm
-- text HmFind
namespace Dm
open PySem L2
section
variable {S : Sto} {os : List Int} {s h r : Int} {js : List (Int × Int)} {fold gap : Str}
/-! ### the law's gap -/
theorem off_late {m p : Int} (hm : m < p + s) : ∀ {js : List (Int × Int)} {h : Int}, Chain os s h (some p) js → offAt h js m = h
  | [], _, _ => rfl
  | (a, o) :: t, h, ch => by
    have := ch.2.2.1 p rfl
    rw [offAt, if_pos (by omega)]
/-- three moments, no farther apart than jumps -/
theorem two_same {m1 m2 m3 : Int} (h12 : m1 < m2) (h23 : m2 ≤ m3) (hw : m3 - m1 < s) : ∀ {js : List (Int × Int)} {h : Int} {p : Option Int}, Chain os s h p js → offAt h js m1 ≠ offAt h js m2 → offAt h js m2 = offAt h js m3
  | [], _, _, _, ne => absurd rfl ne
  | (a, o) :: t, h, p, ch, ne => by
    by_cases c : m1 < a
    · rw [offAt, if_pos c] at ne
      by_cases d : m2 < a
      · rw [offAt, if_pos d] at ne; exact absurd rfl ne
      · rw [offAt, if_neg d, offAt, if_neg (by omega), off_late (p := a) (by omega) ch.2.2.2, off_late (p := a) (by omega) ch.2.2.2]
    · rw [offAt, if_neg c, offAt, if_neg (by omega)] at ne
      have := two_same h12 h23 hw ch.2.2.2 ne
      rw [offAt, if_neg (by omega), offAt, if_neg (by omega)]
      exact this
/-- the widest offsets -/
structure Ends2 (os : List Int) (s a b : Int) : Prop where
  lo : atI (os.map D.int) 0 = some (.int a)
  hi : atI (os.map D.int) (-1) = some (.int b)
  w : b - a < s
  mem : ∀ o, o ∈ os → a ≤ o ∧ o ≤ b
  ma : a ∈ os
  mb : b ∈ os
theorem ZoneOK.ends2 (z : ZoneOK os s) : ∃ a b, Ends2 os s a b := by
  cases z with
  | one a s => exact ⟨a, a, rfl, rfl, by omega, by simp, by simp, by simp⟩
  | two a b s => exact ⟨a, b, rfl, rfl, by omega, by simp; omega, by simp, by simp⟩
  | three a b c s => exact ⟨a, c, rfl, rfl, by omega, by simp; omega, by simp, by simp⟩
theorem moms_two (z : ZoneOK os s) (t : TabOK os s h js) : (momsOf os h js r).length ≤ 2 := by
  obtain ⟨a, b, E⟩ := z.ends2
  have asc := moms_asc (h := h) (js := js) (r := r) z.asc
  have mm : ∀ m, m ∈ momsOf os h js r → offAt h js m = r - m := fun m hm => (moms_mem (fun m => off_mem t.held t.chain)).mp hm
  match e : momsOf os h js r with
  | [] => simp
  | [_] => simp
  | [_, _] => simp
  | m1 :: m2 :: m3 :: _ =>
    rw [e] at asc mm
    have h1 := mm m1 (by simp)
    have h2 := mm m2 (by simp)
    have h3 := mm m3 (by simp)
    simp only [List.pairwise_cons, List.mem_cons] at asc
    have a1 : m1 < m2 := asc.1 m2 (.inl rfl)
    have a2 : m2 < m3 := asc.2.1 m3 (.inl rfl)
    have o1 := E.mem _ (off_mem (m := m1) t.held t.chain)
    have o3 := E.mem _ (off_mem (m := m3) t.held t.chain)
    have := two_same a1 (Int.le_of_lt a2) (by have := E.w; omega) t.chain (by omega)
    omega
/-! ### what is found -/
@[simp] theorem gDIx_new {kvs : List (Key × D)} {y : D} : gDIx (S ++ [.dic kvs]) (.cell S.length) y = (keyD y).bind fun k => valD kvs k := gDIx_cell (by simp)
def RuleF (x : Str) : Prop := x = "early" ∨ x = "late" ∨ x = "refuse"
def RuleG (x : Str) : Prop := x = "ahead" ∨ x = "behind" ∨ x = "refuse"
def findO (ms : List Int) (g : Int × Int) (r : Int) (fold gap : Str) : D := match ms with
  | [m] => .int m
  | [m, m'] => if fold = "refuse" then .non else if fold = "early" then .int m else .int m'
  | _ => if gap = "refuse" then .non else if gap = "ahead" then .int (r - g.1) else .int (r - g.2)
theorem valD_put_same {kvs : List (Key × D)} {k : Key} {v : D} : valD (putD kvs k v) k = some v := by
  unfold putD
  split
  · next c =>
    unfold valD
    induction kvs with
    | nil => simp at c
    | cons p kvs ih =>
      rw [List.map_cons, List.find?_cons]
      by_cases e : p.1 = k
      · simp [e]
      · have c2 : (kvs.any fun kv => decide (kv.1 = k)) = true := by
          rw [List.any_cons] at c
          simpa [e] using c
        simp only [if_neg e, decide_eq_false e]
        exact ih c2
  · next c =>
    unfold valD
    have : kvs.find? (fun kv => decide (kv.1 = k)) = none := by
      rw [List.find?_eq_none]
      intro x hx hq
      exact c (List.any_eq_true.mpr ⟨x, hx, hq⟩)
    rw [List.find?_append, this]
    simp
theorem valD_put_other {kvs : List (Key × D)} {k k' : Key} {v : D} (hn : k' ≠ k) : valD (putD kvs k v) k' = valD kvs k' := by
  unfold putD
  split
  · next c =>
    clear c
    unfold valD
    induction kvs with
    | nil => rfl
    | cons p kvs ih =>
      rw [List.map_cons, List.find?_cons, List.find?_cons]
      by_cases e : p.1 = k
      · have e2 : ¬ p.1 = k' := fun q => hn (q.symm.trans e)
        simp only [if_pos e, decide_eq_false e2]
        exact ih
      · simp only [if_neg e]
        by_cases e2 : p.1 = k'
        · simp [e2]
        · simp only [decide_eq_false e2]
          exact ih
  · unfold valD
    rw [List.find?_append]
    have : ¬ k = k' := fun q => hn q.symm
    simp [this]
theorem valD_foldl {α : Type} {k : α → Key} {g : α → D} {a : α} : ∀ {as : List α} {acc : List (Key × D)}, (a ∈ as ∨ valD acc (k a) = some (g a)) → (∀ b, b ∈ as → k b = k a → g b = g a) → valD (as.foldl (fun acc a => putD acc (k a) (g a)) acc) (k a) = some (g a)
  | [], acc, h, _ => by
    rcases h with h | h
    · exact nomatch h
    · exact h
  | b :: as, acc, h, hk => by
    rw [List.foldl_cons]
    refine valD_foldl ?_ fun c hc => hk c (List.mem_cons_of_mem _ hc)
    by_cases e : k b = k a
    · refine .inr ?_
      rw [← e, valD_put_same, hk b List.mem_cons_self e]
    · rcases h with h | h
      · rcases List.mem_cons.mp h with rfl | h
        · exact absurd rfl e
        · exact .inl h
      · refine .inr ?_
        rw [valD_put_other (fun q => e q.symm)]
        exact h
@[simp] theorem flatD_str {x : Str} : flatD (.str x) = true := rfl
theorem found_by_does {Q : D → Sto → Prop} {n : Nat} {kvs : List (Key × D)} (z : ZoneOK os s) (hn : S[n]? = some (.dic kvs)) (hk : ∀ o, o ∈ os → valD kvs (.inl (r - o)) = some (.int (offAt h js (r - o))))
    {a b : Int} (E : Ends2 os s a b) (hf : RuleF fold) (hg : RuleG gap) (q : Q (findO (momsOf os h js r) (offAt h js (r - b), offAt h js (r - a)) r fold gap) S) : (m_found_by [.tup (os.map .int), .cell n, .int r, .str fold, .str gap] S).Does Q := by
  refine does_def rfl ?_
  refine seq_cut (fun ρ S' => S = S' ∧ ∃ x6, ρ = [some (.tup (os.map .int)), some (.cell n), some (.int r), some (.str fold), some (.str gap), some (.lst ((momsOf os h js r).map .int)), x6]) (fun M hM => ?_) ?_
  · simp [wipeD]
    rw [← List.map_reverse, lcAQ_fix (.inl rfl) (by rw [List.length_map, List.length_reverse])]
    refine lcQ_filter (fun o : Int => offAt h js (r - o) == o) (fun o => .int (r - o)) ?_ ?_
    · intro o ho
      have ho' : o ∈ os := List.mem_reverse.mp ho
      refine ⟨_, rfl, fun Q q => ?_, fun Q e q => ?_⟩
      · simp [gDIx_cell hn, hk o ho']
        exact q
      · simp
        exact q
    · have := hM [some (.tup (os.map .int)), some (.cell n), some (.int r), some (.str fold), some (.str gap), some (.lst ((momsOf os h js r).map .int)), none] S ⟨rfl, _, rfl⟩
      have e : (momsOf os h js r).map D.int = (os.reverse.filter fun o => offAt h js (r - o) == o).map fun o => D.int (r - o) := by
        unfold momsOf
        rw [List.map_map] <;> rfl
      rw [e] at this
      exact this
  rintro ρ _ ⟨rfl, x6, rfl⟩
  have ha := hk a E.ma
  have hb := hk b E.mb
  simp [E.lo, E.hi, gDIx_cell hn, ha, hb]
  unfold findO at q
  match e : momsOf os h js r with
  | [] =>
    rw [e] at q
    rcases hg with rfl | rfl | rfl <;> (simp at q ⊢; exact q)
  | [m] =>
    rw [e] at q
    simp at q ⊢
    exact q
  | [m1, m2] =>
    rw [e] at q
    rcases hf with rfl | rfl | rfl <;> (simp at q ⊢; exact q)
  | m1 :: m2 :: m3 :: l =>
    rw [e] at q
    have n1 : ¬ ((l.length : Int) + 1 + 1 + 1 = 1) := by omega
    have n2 : ¬ ((l.length : Int) + 1 + 1 + 1 = 2) := by omega
    rcases hg with rfl | rfl | rfl <;> (simp [n1, n2] at q ⊢; exact q)
end
end Dm
-- text HmProg
namespace Dm
open PySem L2
/-! ### programs of steps -/
inductive Kd where
  | mom | rdg | spn
  deriving DecidableEq
def Kd.s : Kd → Str
  | .mom => "moment"
  | .rdg => "reading"
  | .spn => "span"
def Kd.d (k : Kd) : D := .str k.s
inductive Stp where
  | read (i p : Nat) | find (i p : Nat) (f g : Str) | offset (i p : Nat) | edition (i p : Nat)
  | plus (i j : Nat) | less (i j : Nat) | add (i : Nat) (m : Int)
def Stp.d : Stp → D
  | .read i p => .tup [.str "read", .int i, .int p]
  | .find i p f g => .tup [.str "find", .int i, .int p, .str f, .str g]
  | .offset i p => .tup [.str "offset", .int i, .int p]
  | .edition i p => .tup [.str "edition", .int i, .int p]
  | .plus i j => .tup [.str "plus", .int i, .int j]
  | .less i j => .tup [.str "less", .int i, .int j]
  | .add i m => .tup [.str "add", .int i, .int m]
def Stp.kind (row : List Kd) : Stp → Kd
  | .read _ _ => .rdg
  | .find _ _ _ _ => .mom
  | .offset _ _ => .spn
  | .edition _ _ => .mom
  | .plus _ _ => .rdg
  | .less _ _ => .mom
  | .add i _ => row.getD i .mom
/-- a step behind values of these kinds, beside nz zones -/
def Stp.OK (nz : Nat) (row : List Kd) : Stp → Prop
  | .read i p => row[i]? = some .mom ∧ p < nz
  | .find i p f g => row[i]? = some .rdg ∧ p < nz ∧ RuleF f ∧ RuleG g
  | .offset i p => row[i]? = some .mom ∧ p < nz
  | .edition i p => row[i]? = some .mom ∧ p < nz
  | .plus i j => row[i]? = some .mom ∧ row[j]? = some .spn
  | .less i j => row[i]? = some .rdg ∧ row[j]? = some .spn
  | .add i m => (row[i]? = some .mom ∨ row[i]? = some .rdg) ∧ -100000 ≤ m ∧ m ≤ 100000
def Stp.isEd : Stp → Bool
  | .edition _ _ => true
  | _ => false
def kindsFrom (row : List Kd) : List Stp → List Kd
  | [] => row
  | t :: ts => kindsFrom (row ++ [t.kind row]) ts
def ProgFrom (nz : Nat) (row : List Kd) : List Stp → Prop
  | [] => True
  | t :: ts => t.OK nz row ∧ ProgFrom nz (row ++ [t.kind row]) ts
def progD (ts : List Stp) : D := .tup (ts.map Stp.d)
/-- a program beside nz zones -/
structure ProgOK (nz : Nat) (ts : List Stp) : Prop where
  len : ts.length ≤ 8
  steps : ProgFrom nz [.mom] ts
  eds : (ts.filter Stp.isEd).length < 2
theorem kindsFrom_snoc (row : List Kd) : ∀ (ts : List Stp) (t : Stp), kindsFrom row (ts ++ [t]) = kindsFrom row ts ++ [t.kind (kindsFrom row ts)]
  | [], t => rfl
  | u :: ts, t => by
    show kindsFrom (row ++ [u.kind row]) (ts ++ [t]) = _
    rw [kindsFrom_snoc]; rfl
theorem kindsFrom_length (row : List Kd) : ∀ ts : List Stp, (kindsFrom row ts).length = row.length + ts.length
  | [] => rfl
  | t :: ts => by
    show (kindsFrom (row ++ [t.kind row]) ts).length = _
    rw [kindsFrom_length]
    simp
    omega
/-! ### the parts of a step -/
section
variable {S : Sto} {zs : List D} {n m : Nat} {row : List Kd}
theorem row_at {i : Nat} {k : Kd} (hn : S[n]? = some (.lst (row.map Kd.d))) (h : row[i]? = some k) : gIx S (.cell n) (.int i) = some (.str k.s) ∧ gLen S [.cell n] = some (.int row.length) ∧ (i : Int) < row.length := by
  have hi := (List.getElem?_eq_some_iff.mp h).1
  refine ⟨?_, by rw [gLen_cell hn, List.length_map], by omega⟩
  rw [gIx_cell hn, atI_of (by omega) (by rw [List.length_map]; omega)]
  simp [h, Kd.d]
theorem part_kind {i : Nat} {k : Kd} (hn : S[n]? = some (.lst (row.map Kd.d))) (h : row[i]? = some k) : m_is_part [.tup zs, .cell n, .str k.s, .int i] S = .ok (.bl true) S := by
  refine pure_of fun Q q => ?_
  refine does_def rfl ?_
  obtain ⟨h1, h2, h3⟩ := row_at hn h
  cases k <;> (simp [h1, h2, h3, Kd.s]; exact q)
theorem part_point {i : Nat} {k : Kd} (hn : S[n]? = some (.lst (row.map Kd.d))) (h : row[i]? = some k) (hk : k ≠ .spn) : m_is_part [.tup zs, .cell n, .str "point", .int i] S = .ok (.bl true) S := by
  refine pure_of fun Q q => ?_
  refine does_def rfl ?_
  obtain ⟨h1, h2, h3⟩ := row_at hn h
  cases k with
  | spn => exact absurd rfl hk
  | mom => simp [h1, h2, h3, Kd.s]; exact q
  | rdg => simp [h1, h2, h3, Kd.s]; exact q
theorem part_place {p : Nat} (h : p < zs.length) : m_is_part [.tup zs, .cell n, .str "place", .int p] S = .ok (.bl true) S := by
  refine pure_of fun Q q => ?_
  refine does_def rfl ?_
  simp [h]; exact q
theorem part_minutes {m : Int} (h : -100000 ≤ m ∧ m ≤ 100000) : m_is_part [.tup zs, .cell n, .str "minutes", .int m] S = .ok (.bl true) S := by
  refine pure_of fun Q q => ?_
  refine does_def rfl ?_
  simp [h]; exact q
theorem part_fold {f : Str} (h : RuleF f) : m_is_part [.tup zs, .cell n, .str "fold", .str f] S = .ok (.bl true) S := by
  refine pure_of fun Q q => ?_
  refine does_def rfl ?_
  rcases h with rfl | rfl | rfl <;> (simp [isTn, gIn, eqF]; exact q)
theorem part_gap {f : Str} (h : RuleG f) : m_is_part [.tup zs, .cell n, .str "gap", .str f] S = .ok (.bl true) S := by
  refine pure_of fun Q q => ?_
  refine does_def rfl ?_
  rcases h with rfl | rfl | rfl <;> (simp [isTn, gIn, eqF]; exact q)
/-! ### steps -/
theorem is_step_ok {t : Stp} (hn : S[n]? = some (.lst (row.map Kd.d))) (h : t.OK zs.length row) : m_is_step [.tup zs, .cell n, t.d] S = .ok (.bl true) S := by
  refine pure_of fun Q q => ?_
  refine does_def rfl ?_
  cases t with
  | read i p =>
    have e1 := part_kind (zs := zs) hn h.1
    have e2 := part_place (S := S) (n := n) h.2
    simp only [Kd.s] at e1
    simp (decide := true) [Stp.d, isTn, tbLook, enumD, wipeD, e1, e2, gAll, lstOf, blsOf]
    exact q
  | offset i p =>
    have e1 := part_kind (zs := zs) hn h.1
    have e2 := part_place (S := S) (n := n) h.2
    simp only [Kd.s] at e1
    simp (decide := true) [Stp.d, isTn, tbLook, enumD, wipeD, e1, e2, gAll, lstOf, blsOf]
    exact q
  | edition i p =>
    have e1 := part_kind (zs := zs) hn h.1
    have e2 := part_place (S := S) (n := n) h.2
    simp only [Kd.s] at e1
    simp (decide := true) [Stp.d, isTn, tbLook, enumD, wipeD, e1, e2, gAll, lstOf, blsOf]
    exact q
  | find i p f g =>
    have e1 := part_kind (zs := zs) hn h.1
    have e2 := part_place (S := S) (n := n) h.2.1
    have e3 := part_fold (S := S) (n := n) (zs := zs) h.2.2.1
    have e4 := part_gap (S := S) (n := n) (zs := zs) h.2.2.2
    simp only [Kd.s] at e1
    simp (decide := true) [Stp.d, isTn, tbLook, enumD, wipeD, atI, ixN, e1, e2, e3, e4, gAll, lstOf, blsOf]
    exact q
  | plus i j =>
    have e1 := part_kind (zs := zs) hn h.1
    have e2 := part_kind (zs := zs) hn h.2
    simp only [Kd.s] at e1 e2
    simp (decide := true) [Stp.d, isTn, tbLook, enumD, wipeD, e1, e2, gAll, lstOf, blsOf]
    exact q
  | less i j =>
    have e1 := part_kind (zs := zs) hn h.1
    have e2 := part_kind (zs := zs) hn h.2
    simp only [Kd.s] at e1 e2
    simp (decide := true) [Stp.d, isTn, tbLook, enumD, wipeD, e1, e2, gAll, lstOf, blsOf]
    exact q
  | add i m =>
    have e2 := part_minutes (S := S) (n := n) (zs := zs) h.2
    have e1 : m_is_part [.tup zs, .cell n, .str "point", .int i] S = .ok (.bl true) S := by
      rcases h.1 with h | h
      · exact part_point hn h (by decide)
      · exact part_point hn h (by decide)
    simp (decide := true) [Stp.d, isTn, tbLook, enumD, wipeD, e1, e2, gAll, lstOf, blsOf]
    exact q
theorem kind_made_ok {t : Stp} (hn : S[n]? = some (.lst (row.map Kd.d))) (h : t.OK m row) : m_kind_made [.cell n, t.d] S = .ok (t.kind row).d S := by
  refine pure_of fun Q q => ?_
  refine does_def rfl ?_
  cases t with
  | add i m =>
    have e : ∃ k, row[i]? = some k := by rcases h.1 with h | h <;> exact ⟨_, h⟩
    obtain ⟨k, e⟩ := e
    obtain ⟨h1, h2, h3⟩ := row_at hn e
    simp [Stp.d, h1]
    simp [Stp.kind, e, Kd.d] at q
    exact q
  | _ => simp (decide := true) [Stp.d, tbLook]; exact q
end
end Dm
-- text HmProg2
namespace Dm
open PySem L2
abbrev Zs := List (List Int × Int)
def zonesD (zs : Zs) : D := .tup (zs.map fun z => zoneD z.1 z.2)
/-- one or two zones -/
structure ZsOK (zs : Zs) : Prop where
  all : ∀ z, z ∈ zs → ZoneOK z.1 z.2
  len : zs.length = 1 ∨ zs.length = 2
section
variable {S : Sto} {zs : Zs} {ts : List Stp}
theorem is_zones_ok (z : ZsOK zs) : m_is_zones [zonesD zs] S = .ok (.bl true) S := by
  refine pure_of fun Q q => ?_
  refine does_def rfl ?_
  obtain ⟨h, l⟩ := z
  match zs, h, l with
  | [], _, l => simp at l
  | [a], h, _ =>
    have h1 := h a (by simp)
    simp [zonesD, isTn, wipeD]
    rw [lcAQ_fix (n := 1) (ds := [zoneD a.1 a.2]) (.inl rfl) rfl]
    simp [is_zone_ok h1, gAll, lstOf, blsOf]
    exact q
  | [a, b], h, _ =>
    have h1 := h a (by simp)
    have h2 := h b (by simp)
    simp [zonesD, isTn, wipeD]
    rw [lcAQ_fix (n := 2) (ds := [zoneD a.1 a.2, zoneD b.1 b.2]) (.inl rfl) rfl]
    simp [is_zone_ok h1, is_zone_ok h2, gAll, lstOf, blsOf]
    exact q
  | _ :: _ :: _ :: _, _, l => simp at l
theorem need_zones_ok (z : ZsOK zs) : m_need_zones [zonesD zs] S = .ok .non S := by
  refine pure_of fun Q q => ?_
  refine does_def rfl ?_
  simp [is_zones_ok z]
  exact q
theorem isEd_does {t : Stp} {ρ : Rho} {i : Nat} (hi : ρ[i]? = some (some t.d)) : ∀ Q : D → Sto → Prop, Q (.bl t.isEd) S → (mOp gEq (mOp gIx (mVar i) (mK (.int 0))) (mK (.str "edition")) ρ S).Does Q := by
  intro Q q
  cases t <;> (simp (decide := true) [hi, Stp.d]; exact q)
theorem is_program_does {Q : D → Sto → Prop} (z : ZsOK zs) (h : ProgOK zs.length ts) (q : Q (.bl true) (S ++ [.lst ((kindsFrom [.mom] ts).map Kd.d)])) : (m_is_program [zonesD zs, progD ts] S).Does Q := by
  have hl := h.len
  have he := h.eds
  refine does_def rfl ?_
  simp [need_zones_ok z, progD, isTn, hl]
  have hl' : ¬ (8 : Int) < ts.length := by omega
  simp [hl']
  refine forL_cut (fun ds ρ S' => ∃ us row x3, ds = (us : List Stp).map Stp.d ∧ ρ = [some (zonesD zs), some (.tup (ts.map Stp.d)), some (.cell S.length), x3] ∧ S' = S ++ [.lst (row.map Kd.d)] ∧ ProgFrom zs.length row us ∧ kindsFrom row us = kindsFrom [.mom] ts ∧ row.length + us.length ≤ 61) _
    ⟨ts, [.mom], _, rfl, rfl, rfl, h.steps, rfl, by simp; omega⟩ ?_ ?_
  · rintro d r ρ S1 ⟨us, row, x2, e, rfl, rfl, hp, hk, hl⟩
    cases us with
    | nil => cases e
    | cons u us =>
      simp at e
      obtain ⟨rfl, rfl⟩ := e
      refine ⟨_, rfl, fun M hM => ?_⟩
      have hn : (S ++ [.lst (row.map Kd.d)])[S.length]? = some (.lst (row.map Kd.d)) := by simp
      have hs := is_step_ok (zs := zs.map fun z => zoneD z.1 z.2) hn (t := u) (by rw [List.length_map]; exact hp.1)
      simp at hl
      simp [zonesD, hs, kind_made_ok hn hp.1]
      refine ⟨by omega, hM _ _ ⟨us, row ++ [u.kind row], _, rfl, rfl, by simp, hp.2, hk, by simp; omega⟩⟩
  · rintro ρ S1 ⟨us, row, x2, e, rfl, rfl, hp, hk, hl⟩
    cases us with
    | cons u us => cases e
    | nil =>
      simp [wipeD]
      try rw [lcAQ_fix (.inl rfl) (by simp)]
      refine lcQ_filter (as := ts) (i := Stp.d) Stp.isEd Stp.d ?_ ?_
      · intro t _
        refine ⟨_, rfl, isEd_does rfl, fun Q _ q => ?_⟩
        simp
        exact q
      · simp
        have : ((ts.filter Stp.isEd).length : Int) < 2 := by omega
        simp [this]
        rw [← hk] at q
        exact q
theorem need_program_does {Q : D → Sto → Prop} (z : ZsOK zs) (h : ProgOK zs.length ts) (q : Q .non (S ++ [.lst ((kindsFrom [.mom] ts).map Kd.d)])) : (m_need_program [zonesD zs, progD ts] S).Does Q := by
  refine does_def rfl ?_
  simp
  refine is_program_does z h ?_
  simp
  exact q
end
end Dm
-- text HmDeed
namespace Dm
open PySem L2
theorem atI_memL {α : Type} {l : List α} {r : Int} (h0 : 0 ≤ r) (h : r < l.length) : ∃ x, x ∈ l ∧ atI l r = some x := by
  rw [atI_of h0 h]
  have : r.toNat < l.length := by omega
  exact ⟨l[r.toNat], List.getElem_mem _, List.getElem?_eq_getElem this⟩
section
variable {S : Sto} {p n r : Nat} {row : List Kd}
theorem rules_does {Q : D → Sto → Prop} (hp : Bag p (n + 2) S) (q : ∀ f g S', Bag p n S' → GoB p S S' → RuleF f → RuleG g → Q (.tup [.str f, .str g]) S') : (m_law_any_rules [.cell p] S).Does Q := by
  refine does_def rfl ?_
  simp
  refine pick_does (n := n + 1) hp (by decide) (by decide) fun c S1 b1 g1 r0 r1 => ?_
  have e1 : ∃ f, RuleF f ∧ atI [D.str "early", .str "late", .str "refuse"] c = some (.str f) := by
    have e : c = 0 ∨ c = 1 ∨ c = 2 := by omega
    rcases e with rfl | rfl | rfl
    · exact ⟨_, .inl rfl, by simp⟩
    · exact ⟨_, .inr (.inl rfl), by simp⟩
    · exact ⟨_, .inr (.inr rfl), by simp⟩
  obtain ⟨f, hf, ef⟩ := e1
  simp [ef]
  refine pick_does (n := n) b1 (by decide) (by decide) fun c2 S2 b2 g2 s0 s1 => ?_
  have e2 : ∃ g, RuleG g ∧ atI [D.str "ahead", .str "behind", .str "refuse"] c2 = some (.str g) := by
    have e : c2 = 0 ∨ c2 = 1 ∨ c2 = 2 := by omega
    rcases e with rfl | rfl | rfl
    · exact ⟨_, .inl rfl, by simp⟩
    · exact ⟨_, .inr (.inl rfl), by simp⟩
    · exact ⟨_, .inr (.inr rfl), by simp⟩
  obtain ⟨g, hg, eg⟩ := e2
  simp [eg]
  exact q f g _ b2 (g1.trans g2) hf hg
theorem minutes_does {zs : Zs} {Q : D → Sto → Prop} (hp : Bag p (n + 5) S) (z : ZsOK zs) (q : ∀ m S', Bag p n S' → GoB p S S' → -100000 ≤ m ∧ m ≤ 100000 → Q (.int m) S') : (m_law_minutes [.cell p, zonesD zs, .int 0] S).Does Q := by
  refine does_def rfl ?_
  simp [zonesD]
  have hz : 0 < zs.length ∧ zs.length ≤ 2 := by rcases z.len with h | h <;> omega
  refine pick_does (n := n + 4) hp (by omega) (by omega) fun c S1 b1 g1 r0 r1 => ?_
  obtain ⟨x, hx, e⟩ := atI_memL (l := zs.map fun z => zoneD z.1 z.2) r0 (by simpa using r1)
  obtain ⟨⟨os, s⟩, hz', rfl⟩ := List.mem_map.mp hx
  have zo : ZoneOK os s := z.all _ hz'
  have hw : ∃ a b : Int, atI (os.map D.int) (-1) = some (.int b) ∧ atI (os.map D.int) 0 = some (.int a) ∧ 0 ≤ b - a ∧ b - a < s ∧ s ≤ 1000000 := by
    cases zo with
    | one a s h1 h2 h3 h4 => exact ⟨a, a, by simp, by simp, by omega, by omega, h4⟩
    | two a b s h1 h2 h3 h4 h5 => exact ⟨a, b, by simp, by simp, by omega, by omega, h5⟩
    | three a b c s h1 h2 h3 h4 h5 h6 => exact ⟨a, c, by simp, by simp, by omega, by omega, h6⟩
  obtain ⟨a, b, ea, eb, w0, w1, w2⟩ := hw
  rw [gIx_tup, e]
  simp [zoneD, ea, eb]
  refine pick_does (n := n + 3) b1 (by decide) (by decide) fun c2 S2 b2 g2 s0 s1 => ?_
  refine pick_does (n := n + 2) b2 (by decide) (by decide) fun c3 S3 b3 g3 t0 t1 => ?_
  have e3 : ∃ v : Int, 0 ≤ v ∧ atI [D.int 1, .int s, .int (b - a), .int 60, .int 100000, .int c2, .int 300, .int (s - (b - a)), .int (s + (b - a))] c3 = some (.int v) := by
    have e : c3 = 0 ∨ c3 = 1 ∨ c3 = 2 ∨ c3 = 3 ∨ c3 = 4 ∨ c3 = 5 ∨ c3 = 6 ∨ c3 = 7 ∨ c3 = 8 := by omega
    rcases e with e | e | e | e | e | e | e | e | e <;> subst e
    · exact ⟨1, by omega, by simp⟩
    · exact ⟨s, by omega, by simp⟩
    · exact ⟨b - a, by omega, by simp⟩
    · exact ⟨60, by omega, by simp [atI, ixN]⟩
    · exact ⟨100000, by omega, by simp [atI, ixN]⟩
    · exact ⟨c2, by omega, by simp [atI, ixN]⟩
    · exact ⟨300, by omega, by simp [atI, ixN]⟩
    · exact ⟨s - (b - a), by omega, by simp [atI, ixN]⟩
    · exact ⟨s + (b - a), by omega, by simp [atI, ixN]⟩
  obtain ⟨v, v0, ev⟩ := e3
  try rw [gIx_lst]
  rw [ev]
  simp
  refine pick_does (n := n + 1) b3 (by decide) (by decide) fun c4 S4 b4 g4 u0 u1 => ?_
  simp
  refine pick_does (n := n) b4 (by decide) (by decide) fun c5 S5 b5 g5 x0 x1 => ?_
  have hw : -1 ≤ (if v + c4 - 1 < 100000 then v + c4 - 1 else 100000) ∧ (if v + c4 - 1 < 100000 then v + c4 - 1 else 100000) ≤ 100000 := by split <;> omega
  generalize (if v + c4 - 1 < 100000 then v + c4 - 1 else 100000) = w at hw
  have k1 : CMulW 2 c5 := cmulw64 (by omega) (by omega)
  have k2 : CMulW w (1 - 2 * c5) := cmulw64 (by omega) (by omega)
  have g := g1.trans (g2.trans (g3.trans (g4.trans g5)))
  have e : c5 = 0 ∨ c5 = 1 := by omega
  rcases e with rfl | rfl
  · simp at k2
    simp [k1, k2]
    exact q _ _ b5 g (by omega)
  · simp at k2
    simp [k1, k2]
    exact q _ _ b5 g (by omega)
end
end Dm
-- text HmWanted
namespace Dm
open PySem L2
end Dm
-- text HmPlan
namespace Dm
open PySem L2
end Dm
-- text HmPlan2
namespace Dm
open PySem L2
section
variable {S : Sto} {p n r : Nat} {row : List Kd} {zs : Zs}
def bI (b : Bool) : Int := if b then 1 else 0
def cnt (f : Stp → Bool) (ts : List Stp) : Int := ((ts.filter f).length : Int)
end
end Dm
-- text HmEarth
namespace Dm
open PySem L2
/-! ### tables by zones -/
abbrev Tb := Int × List (Int × Int)
def Tb.d (t : Tb) : D := tabD t.1 t.2
def Tb.of (t : Tb) (m : Int) : Int := offAt t.1 t.2 m
structure TbsOK (zs : Zs) (tb : List Tb) : Prop where
  len : tb.length = zs.length
  ok : ∀ (p : Nat) (z : List Int × Int) (t : Tb), zs[p]? = some z → tb[p]? = some t → TabOK z.1 z.2 t.1 t.2
def getT (tb : List Tb) (p : Nat) : Tb := tb.getD p (0, [])
def getZ (zs : Zs) (p : Nat) : List Int × Int := zs.getD p ([], 1)
def getV (vs : List Int) (i : Nat) : Int := vs.getD i 0
theorem getV_at {vs : List Int} {i : Nat} (h : i < vs.length) : vs[i]? = some (getV vs i) := by
  unfold getV
  rw [List.getD_eq_getElem?_getD, List.getElem?_eq_getElem h]; rfl
theorem getT_at {tb : List Tb} {i : Nat} (h : i < tb.length) : tb[i]? = some (getT tb i) := by
  unfold getT
  rw [List.getD_eq_getElem?_getD, List.getElem?_eq_getElem h]; rfl
theorem getZ_at {zs : Zs} {i : Nat} (h : i < zs.length) : zs[i]? = some (getZ zs i) := by
  unfold getZ
  rw [List.getD_eq_getElem?_getD, List.getElem?_eq_getElem h]; rfl
theorem TbsOK.tab {zs : Zs} {tb : List Tb} (h : TbsOK zs tb) {p : Nat} (hp : p < zs.length) : TabOK (getZ zs p).1 (getZ zs p).2 (getT tb p).1 (getT tb p).2 :=
  h.ok p _ _ (getZ_at hp) (getT_at (by rw [h.len]; exact hp))
theorem ZsOK.at {zs : Zs} (z : ZsOK zs) {p : Nat} (hp : p < zs.length) : ZoneOK (getZ zs p).1 (getZ zs p).2 := z.all _ (List.mem_of_getElem? (getZ_at hp))
theorem TbsOK.set {zs : Zs} {tb later : List Tb} (h : TbsOK zs tb) (h' : TbsOK zs later) (p : Nat) : TbsOK zs (tb.set p (getT later p)) := by
  refine ⟨by rw [List.length_set]; exact h.len, fun i z t hz ht => ?_⟩
  by_cases e : p = i
  · subst e
    have hp : p < tb.length := by
      have := (List.getElem?_eq_some_iff.mp ht).1
      rw [List.length_set] at this
      exact this
    rw [List.getElem?_set_self hp] at ht
    cases ht
    exact h'.ok p z _ hz (getT_at (by rw [h'.len, ← h.len]; exact hp))
  · rw [List.getElem?_set_ne e] at ht
    exact h.ok i z t hz ht
section
variable {S : Sto} {n : Nat}
theorem ix_zones {zs : Zs} {i : Nat} (hi : i < zs.length) : gIx S (zonesD zs) (.int i) = some (zoneD (getZ zs i).1 (getZ zs i).2) := by
  unfold zonesD
  rw [gIx_tup, atI_of (by omega) (by rw [List.length_map]; omega)]
  simp [getZ_at hi]
end
section
variable {S : Sto} {os : List Int} {s h m r : Int} {js : List (Int × Int)}
@[simp] theorem tgU_jmp {j : Int × Int} {ρ : Rho} {f : List D → Rho → Option Rho} : tgU 2 f (jmpD j) ρ = f [.int j.1, .int j.2] ρ := rfl
@[simp] theorem tgU_zone {ρ : Rho} {f : List D → Rho → Option Rho} : tgU 2 f (zoneD os s) ρ = f [.tup (os.map .int), .int s] ρ := rfl
@[simp] theorem tgU_tab {ρ : Rho} {f : List D → Rho → Option Rho} : tgU 2 f (tabD h js) ρ = f [.int h, .tup (js.map jmpD)] ρ := rfl
/-! ### a find -/
def findI (ms : List Int) (g : Int × Int) (r : Int) (fold gap : Str) : Option Int := match ms with
  | [m] => some m
  | [m, m'] => if fold = "refuse" then none else if fold = "early" then some m else some m'
  | _ => if gap = "refuse" then none else if gap = "ahead" then some (r - g.1) else some (r - g.2)
def optD : Option Int → D
  | none => .non
  | some i => .int i
theorem findO_eq {ms : List Int} {g : Int × Int} {fold gap : Str} : findO ms g r fold gap = optD (findI ms g r fold gap) := by
  unfold findO findI
  cases ms with
  | nil =>
    simp only
    split
    · rfl
    · split <;> rfl
  | cons m t =>
    cases t with
    | nil => rfl
    | cons m' t' =>
      cases t' with
      | nil =>
        simp only
        split
        · rfl
        · split <;> rfl
      | cons m'' l =>
        simp only
        split
        · rfl
        · split <;> rfl
end
end Dm
-- text HmFollow
namespace Dm
open PySem L2
/-! ### a run by the document -/
def loO (os : List Int) : Int := os.headD 0
def hiO (os : List Int) : Int := os.getLastD 0
theorem ZoneOK.ends {os : List Int} {s : Int} (z : ZoneOK os s) : Ends2 os s (loO os) (hiO os) := by
  cases z with
  | one a s => exact ⟨rfl, rfl, by simp [loO, hiO]; omega, by simp [loO, hiO], by simp [loO], by simp [hiO]⟩
  | two a b s => exact ⟨rfl, rfl, by simp [loO, hiO]; omega, by simp [loO, hiO]; omega, by simp [loO], by simp [hiO]⟩
  | three a b c s => exact ⟨rfl, rfl, by simp [loO, hiO]; omega, by simp [loO, hiO]; omega, by simp [loO], by simp [hiO]⟩
def foundT (z : List Int × Int) (t : Tb) (r : Int) (f g : Str) : Option Int := findI (momsOf z.1 t.1 t.2 r) (t.of (r - hiO z.1), t.of (r - loO z.1)) r f g
def stepV (zs : Zs) (tb : List Tb) (vs : List Int) : Stp → Option Int
  | .read i p => some (getV vs i + (getT tb p).of (getV vs i))
  | .find i p f g => foundT (getZ zs p) (getT tb p) (getV vs i) f g
  | .offset i p => some ((getT tb p).of (getV vs i))
  | .edition i _ => some (getV vs i)
  | .plus i j => some (getV vs i + getV vs j)
  | .less i j => some (getV vs i - getV vs j)
  | .add i m => some (getV vs i + m)
def askedS (zs : Zs) (vs : List Int) : Stp → List Int
  | .read i _ => [getV vs i]
  | .find i p _ _ => (getZ zs p).1.reverse.map fun o => getV vs i - o
  | .offset i _ => [getV vs i]
  | .edition i _ => [getV vs i - 1]
  | _ => []
def Stp.base : Stp → Nat
  | .read i _ => i
  | .find i _ _ _ => i
  | .offset i _ => i
  | .edition i _ => i
  | .plus i _ => i
  | .less i _ => i
  | .add i _ => i
def Stp.place : Stp → Nat
  | .read _ p => p
  | .find _ p _ _ => p
  | .offset _ p => p
  | .edition _ p => p
  | _ => 0
theorem Stp.OK.base {nz : Nat} {row : List Kd} {t : Stp} (h : t.OK nz row) : t.base < row.length := by
  cases t with
  | add i m => rcases h.1 with h | h <;> exact (List.getElem?_eq_some_iff.mp h).1
  | _ => exact (List.getElem?_eq_some_iff.mp h.1).1
section
variable {S : Sto} {zs : Zs} {tb : List Tb} {vs : List Int} {row : List Kd} {n c : Nat} {t : Stp}
/-! ### what is looked at -/
abbrev Lk := Int × Int × Int × Int
def lkD (m : Lk) : D := .tup [.int m.1, .int m.2.1, .int m.2.2.1, .int m.2.2.2]
def pushLk (lk : List Lk) (m : Lk) : List Lk := if m ∈ lk then lk else lk ++ [m]
def sideOf : Option (Nat × Int) → Nat → Int → Int
  | some (q, m), p, w => if q = p ∧ m ≤ w then 1 else 0
  | none, _, _ => 0
def edD : Option (Nat × Int) → List (Key × D)
  | none => []
  | some (q, m) => [(.inl q, .int m)]
theorem lks_py : ∀ lk : List Lk, toPys (lk.map lkD) = some (lk.map fun m => PyData.tuple [.int m.1, .int m.2.1, .int m.2.2.1, .int m.2.2.2])
  | [] => rfl
  | m :: lk => by
    have ih := lks_py lk
    simp only [List.map_cons, toPys, ih, lkD, toPy, Option.bind_some, Option.map_some]
end
end Dm
-- text HmFollow2
namespace Dm
open PySem L2
abbrev lkPy (m : Lk) : PyData := PyData.tuple [.int m.1, .int m.2.1, .int m.2.2.1, .int m.2.2.2]
section
variable {S : Sto} {zs : Zs} {tb : List Tb} {vs : List Int} {row : List Kd} {n c : Nat} {t : Stp}
/-- how a run ends -/
inductive Fin where
  | done (vs : List Int)
  | refused (vs : List Int) (k : Nat)
  | unsuited
def followS (ag : Tb → Tb → Int → Bool) (zs : Zs) (later : List Tb) : List Tb → Nat → List Int → List Stp → Fin
  | _, _, vs, [] => .done vs
  | tb, k, vs, t :: ts => if t.isEd = true ∧ ag (getT tb t.place) (getT later t.place) (getV vs t.base) = false then .unsuited
    else match stepV zs tb vs t with
      | none => .refused vs k
      | some v => followS ag zs later (if t.isEd = true then tb.set t.place (getT later t.place) else tb) (k + 1) (vs ++ [v]) ts
theorem ed_form {t : Stp} (h : t.isEd = true) : t = .edition t.base t.place := by
  cases t <;> first | rfl | cases h
theorem place_ix {row : List Kd} {nz : Nat} (h : t.OK nz row) (ha : askedS zs vs t ≠ []) : gIx S t.d (.int 2) = some (.int t.place) ∧ t.place < nz := by
  cases t with
  | read i p => exact ⟨by simp [Stp.d, Stp.place], h.2⟩
  | find i p f g => exact ⟨by simp [Stp.d, Stp.place], h.2.1⟩
  | offset i p => exact ⟨by simp [Stp.d, Stp.place], h.2⟩
  | edition i p => exact ⟨by simp [Stp.d, Stp.place], h.2⟩
  | _ => exact absurd rfl ha
end
end Dm
-- text HmFollow3
namespace Dm
open PySem L2
theorem Grow.setN {S S' : Sto} {n : Nat} (g : Grow S S') (hn : S.length ≤ n) (c : Cell) : Grow S (S'.set n c) := by
  obtain ⟨cs, rfl⟩ := g
  refine ⟨cs.set (n - S.length) c, ?_⟩
  rw [List.set_append]
  simp [Nat.not_lt.mpr hn]
theorem cnt_cons {f : Stp → Bool} {t : Stp} {ts : List Stp} : cnt f (t :: ts) = bI (f t) + cnt f ts := by
  unfold cnt bI
  by_cases h : f t = true
  · simp [h]; omega
  · simp [h]
theorem cnt_nn {f : Stp → Bool} {ts : List Stp} : 0 ≤ cnt f ts := Int.natCast_nonneg _
section
variable {S : Sto} {zs : Zs} {tb later : List Tb} {vs : List Int} {row : List Kd} {n c : Nat} {t : Stp} {ts : List Stp}
/-- the four cells of a run -/
structure Cells (S : Sto) (a : Nat) (tb : List Tb) (ed : Option (Nat × Int)) (vs : List Int) (lk : List Lk) : Prop where
  c4 : S[a]? = some (.lst (tb.map Tb.d))
  c5 : S[a + 1]? = some (.dic (edD ed))
  c6 : S[a + 2]? = some (.lst (vs.map .int))
  c7 : S[a + 3]? = some (.lst (lk.map lkD))
theorem Cells.grow {S S' : Sto} {a : Nat} {tb : List Tb} {ed : Option (Nat × Int)} {vs : List Int} {lk : List Lk} (h : Cells S a tb ed vs lk) (g : Grow S S') : Cells S' a tb ed vs lk := ⟨g.get h.c4, g.get h.c5, g.get h.c6, g.get h.c7⟩
theorem set_at {S : Sto} {n : Nat} {c c' : Cell} (h : S[n]? = some c') : (S.set n c)[n]? = some c := List.getElem?_set_self (List.getElem?_eq_some_iff.mp h).1
theorem Cells.val {S : Sto} {a : Nat} {tb : List Tb} {ed : Option (Nat × Int)} {vs : List Int} {lk : List Lk} (h : Cells S a tb ed vs lk) (vs' : List Int) : Cells (S.set (a + 2) (.lst (vs'.map .int))) a tb ed vs' lk :=
  ⟨by rw [List.getElem?_set_ne (by omega)]; exact h.c4, by rw [List.getElem?_set_ne (by omega)]; exact h.c5, set_at h.c6, by rw [List.getElem?_set_ne (by omega)]; exact h.c7⟩
theorem asked_len {t : Stp} (z : ZsOK zs) : (askedS zs vs t).length ≤ 3 := by
  cases t with
  | find i p f g =>
    by_cases hp : p < zs.length
    · have := (z.at hp).len
      simp [askedS]
      omega
    · have : getZ zs p = ([], 1) := by
        unfold getZ
        rw [List.getD_eq_getElem?_getD, List.getElem?_eq_none (by omega)]; rfl
      simp [askedS, this]
  | _ => simp [askedS]
/-- a look of a step -/
def markS (org : Int) (tb : List Tb) (ed : Option (Nat × Int)) (t : Stp) (w : Int) : Lk := ((t.place : Int), sideOf ed t.place w, w - org, offAt (getT tb t.place).1 (getT tb t.place).2 w)
def addL (org : Int) (tb : List Tb) (ed : Option (Nat × Int)) (t : Stp) (lk : List Lk) (ws : List Int) : List Lk := ws.foldl (fun lk w => pushLk lk (markS org tb ed t w)) lk
/-- a run with its looks -/
def followL (ag : Tb → Tb → Int → Bool) (zs : Zs) (later : List Tb) (org : Int) : List Tb → Option (Nat × Int) → Nat → List Int → List Lk → List Stp → Fin × List Lk
  | _, _, _, vs, lk, [] => (.done vs, lk)
  | tb, ed, k, vs, lk, t :: ts => if t.isEd = true ∧ ag (getT tb t.place) (getT later t.place) (getV vs t.base) = false then (.unsuited, addL org tb ed t lk (askedS zs vs t))
    else match stepV zs tb vs t with
      | none => (.refused vs k, addL org tb ed t lk (askedS zs vs t))
      | some v => followL ag zs later org (if t.isEd = true then tb.set t.place (getT later t.place) else tb) (if t.isEd = true then some (t.place, getV vs t.base) else ed) (k + 1) (vs ++ [v]) (addL org tb ed t lk (askedS zs vs t)) ts
theorem followL_fst {ag : Tb → Tb → Int → Bool} {org : Int} : ∀ {ts : List Stp} {tb : List Tb} {ed : Option (Nat × Int)} {k : Nat} {vs : List Int} {lk : List Lk}, (followL ag zs later org tb ed k vs lk ts).1 = followS ag zs later tb k vs ts
  | [], _, _, _, _, _ => rfl
  | t :: ts, tb, ed, k, vs, lk => by
    rw [followL, followS]
    split
    · rfl
    · cases stepV zs tb vs t with
      | none => rfl
      | some v => exact followL_fst
end
end Dm
-- text HmRun
namespace Dm
open PySem L2
section
variable {S : Sto} {zs : Zs} {tb later : List Tb} {vs : List Int} {row : List Kd} {n c : Nat} {t : Stp} {ts : List Stp}
/-! ### worlds -/
/-! ### a step -/
/-! ### a table ahead of a moment -/
def aheadJ (js : List (Int × Int)) (m : Int) : List (Int × Int) := js.filter fun j => decide (j.1 < m)
def agP (a b : Tb) (m : Int) : Bool := decide (a.1 = b.1 ∧ aheadJ a.2 m = aheadJ b.2 m)
end
end Dm
-- text HmRun2
namespace Dm
open PySem L2
@[simp] theorem does_raise {c : Str} {ρ : Rho} {S : Sto} {N B C : Rho → Sto → Prop} {R : D → Sto → Prop} {EO : EXO} : (mRaise c ρ S).DoesE EO N R B C = EO c [] ρ S := rfl
@[simp] theorem does_raiseX {c : Str} {ns : List Str} {ma : MA} {ρ : Rho} {S : Sto} {N B C : Rho → Sto → Prop} {R : D → Sto → Prop} {EO : EXO} : (mRaiseX c ns ma ρ S).DoesE EO N R B C = (ma ρ S).DoesE (eAt EO ρ) fun ds S1 => ds.length = ns.length ∧ EO c (ns.zip ds).reverse ρ S1 := by
  unfold mRaiseX
  rw [does_ofRes]; congr 1; funext ds S1
  by_cases h : ds.length = ns.length
  · rw [if_pos h]; simp [h, Out.DoesE]
  · rw [if_neg h]; simp [h, Out.DoesE]
end Dm
-- text HmEarth2
namespace Dm
open PySem L2
end Dm
-- text HmEarth3
namespace Dm
open PySem L2
section
variable {S : Sto} {p n : Nat} {os : List Int} {s : Int} {zs : Zs} {ts : List Stp}
theorem TbsOK.cons {z : List Int × Int} {t : Tb} {zs : Zs} {tb : List Tb} (h : TabOK z.1 z.2 t.1 t.2) (k : TbsOK zs tb) : TbsOK (z :: zs) (t :: tb) := by
  refine ⟨by simp [k.len], fun p z' t' hz ht => ?_⟩
  cases p with
  | zero =>
    simp at hz ht
    subst hz ht
    exact h
  | succ p =>
    simp at hz ht
    exact k.ok p z' t' hz ht
theorem ints_py : ∀ ns : List Int, toPys (ns.map .int) = some (ns.map .int)
  | [] => rfl
  | n :: ns => by
    have ih := ints_py ns
    simp only [List.map_cons, toPys, ih, toPy, Option.bind_some, Option.map_some]
/-! ### bounds of the values -/
theorem ZoneOK.bd (z : ZoneOK os s) : ∀ o, o ∈ os → -900 ≤ o ∧ o ≤ 900 := by
  cases z <;> simp <;> omega
def VB (row : List Kd) (vs : List Int) : Prop := row.length = vs.length ∧ ∀ (i : Nat) (v : Int) (k : Kd), vs[i]? = some v → row[i]? = some k → (-(2000000000000 + 200000 * (i : Int)) ≤ v ∧ v ≤ 2000000000000 + 200000 * i) ∧ (k = .spn → -900 ≤ v ∧ v ≤ 900)
theorem VB.at {row : List Kd} {vs : List Int} (h : VB row vs) {i : Nat} {k : Kd} (hi : row[i]? = some k) : (-(2000000000000 + 200000 * (i : Int)) ≤ getV vs i ∧ getV vs i ≤ 2000000000000 + 200000 * i) ∧ (k = .spn → -900 ≤ getV vs i ∧ getV vs i ≤ 900) ∧ i < vs.length := by
  have hl := (List.getElem?_eq_some_iff.mp hi).1
  rw [h.1] at hl
  exact ⟨(h.2 i _ k (getV_at hl) hi).1, (h.2 i _ k (getV_at hl) hi).2, hl⟩
theorem VB.snoc {row : List Kd} {vs : List Int} {v : Int} {k : Kd} (h : VB row vs) (h1 : -(2000000000000 + 200000 * (vs.length : Int)) ≤ v ∧ v ≤ 2000000000000 + 200000 * vs.length) (h2 : k = .spn → -900 ≤ v ∧ v ≤ 900) : VB (row ++ [k]) (vs ++ [v]) := by
  refine ⟨by simp [h.1], fun i v' k' hv hk => ?_⟩
  by_cases hi : i < vs.length
  · rw [List.getElem?_append_left hi] at hv
    rw [List.getElem?_append_left (by rw [h.1]; exact hi)] at hk
    exact h.2 i v' k' hv hk
  · have e : i = vs.length := by
      have := (List.getElem?_eq_some_iff.mp hv).1
      simp at this
      omega
    subst e
    rw [List.getElem?_append_right (Nat.le_refl _), Nat.sub_self] at hv
    rw [List.getElem?_append_right (by rw [h.1]; exact Nat.le_refl _), h.1, Nat.sub_self] at hk
    cases hv
    cases hk
    exact ⟨h1, h2⟩
theorem findI_bd {ms : List Int} {g : Int × Int} {r m : Int} {f p : Str} (h : findI ms g r f p = some m) : m ∈ ms ∨ m = r - g.1 ∨ m = r - g.2 := by
  unfold findI at h
  split at h
  · cases h; exact .inl (by simp)
  · split at h
    · cases h
    · split at h <;> (cases h; exact .inl (by simp))
  · split at h
    · cases h
    · split at h
      · cases h; exact .inr (.inl rfl)
      · cases h; exact .inr (.inr rfl)
theorem step_bd {tb : List Tb} {vs : List Int} {row : List Kd} {t : Stp} {v : Int} (z : ZsOK zs) (tk : TbsOK zs tb) (h : VB row vs) (ok : t.OK zs.length row) (e : stepV zs tb vs t = some v) :
    (-(2000000000000 + 200000 * (vs.length : Int)) ≤ v ∧ v ≤ 2000000000000 + 200000 * vs.length) ∧ (t.kind row = .spn → -900 ≤ v ∧ v ≤ 900) := by
  have off : ∀ {p : Nat} (m : Int), p < zs.length → -900 ≤ (getT tb p).of m ∧ (getT tb p).of m ≤ 900 := fun {p} m hp => (z.at hp).bd _ (off_mem (tk.tab hp).held (tk.tab hp).chain)
  cases t with
  | read i p =>
    obtain ⟨b1, _, b3⟩ := h.at ok.1
    have := off (getV vs i) ok.2
    simp [stepV] at e
    refine ⟨by omega, fun h => nomatch h⟩
  | offset i p =>
    have := off (getV vs i) ok.2
    simp [stepV] at e
    exact ⟨by omega, fun _ => by omega⟩
  | edition i p =>
    obtain ⟨b1, _, b3⟩ := h.at ok.1
    simp [stepV] at e
    exact ⟨by omega, fun h => nomatch h⟩
  | plus i j =>
    obtain ⟨b1, _, b3⟩ := h.at ok.1
    obtain ⟨_, c2, c3⟩ := h.at ok.2
    have := c2 rfl
    simp [stepV] at e
    exact ⟨by omega, fun h => nomatch h⟩
  | less i j =>
    obtain ⟨b1, _, b3⟩ := h.at ok.1
    obtain ⟨_, c2, c3⟩ := h.at ok.2
    have := c2 rfl
    simp [stepV] at e
    exact ⟨by omega, fun h => nomatch h⟩
  | add i m =>
    have ok2 := ok.2
    rcases ok.1 with ok1 | ok1
    · obtain ⟨b1, _, b3⟩ := h.at ok1
      simp [stepV] at e
      refine ⟨by omega, fun h => ?_⟩
      simp [Stp.kind, ok1] at h
    · obtain ⟨b1, _, b3⟩ := h.at ok1
      simp [stepV] at e
      refine ⟨by omega, fun h => ?_⟩
      simp [Stp.kind, ok1] at h
  | find i p f g =>
    obtain ⟨b1, _, b3⟩ := h.at ok.1
    have hp := ok.2.1
    refine ⟨?_, fun h => nomatch h⟩
    have tk' := tk.tab hp
    have o1 := off (getV vs i - hiO (getZ zs p).1) hp
    have o2 := off (getV vs i - loO (getZ zs p).1) hp
    rcases findI_bd (show findI _ _ _ _ _ = some v from e) with hm | hm | hm
    · rw [moms_mem (fun m => off_mem tk'.held tk'.chain)] at hm
      have o3 := off v hp
      unfold Tb.of at o3
      omega
    · simp only at hm; omega
    · simp only at hm; omega
theorem vb_start {st : Int} (h : -2000000000000 ≤ st ∧ st ≤ 2000000000000) : VB [.mom] [st] := by
  refine ⟨rfl, fun i v k hv hk => ?_⟩
  cases i with
  | zero =>
    simp at hv hk
    subst hv hk
    exact ⟨by omega, fun h => nomatch h⟩
  | succ i => simp at hv
/-! ### the same numbers -/
theorem int_short {i : Int} (h : i.natAbs < 100000000000000) : (PyData.shown (.int i)).length ≤ 15 := by
  have e := int_text_length_le10 (k := 14) (by decide) h
  show (Str.ofString (toString i)).length ≤ 15
  rw [ofString_length]; exact e
end
end Dm
-- text HmAgree
namespace Dm
open PySem L2
section
variable {os : List Int} {s m : Int}
theorem chain_gt (hs : 0 < s) : ∀ {js : List (Int × Int)} {h p : Int}, Chain os s h (some p) js → ∀ j, j ∈ js → p < j.1
  | (t, o) :: r, h, p, ⟨_, _, c, d⟩, j, hj => by
    have := c p rfl
    rcases List.mem_cons.mp hj with rfl | hj
    · simp only; omega
    · have := chain_gt hs d j hj
      omega
theorem ahead_nil (hs : 0 < s) {t o h : Int} {p : Option Int} {r : List (Int × Int)} (c : Chain os s h p ((t, o) :: r)) (ht : ¬ t < m) : aheadJ ((t, o) :: r) m = [] := by
  unfold aheadJ
  rw [List.filter_eq_nil_iff]
  intro j hj
  rcases List.mem_cons.mp hj with rfl | hj
  · simp only [decide_eq_true_eq]; omega
  · have := chain_gt hs c.2.2.2 j hj
    simp only [decide_eq_true_eq]; omega
theorem ahead_cons {t o : Int} {r : List (Int × Int)} (ht : t < m) : aheadJ ((t, o) :: r) m = (t, o) :: aheadJ r m := by
  unfold aheadJ
  rw [List.filter_cons, if_pos (decide_eq_true ht)]
theorem off_ahead (hs : 0 < s) {e : Int} (he : e < m) : ∀ {js : List (Int × Int)} {h : Int} {p : Option Int}, Chain os s h p js → offAt h js e = offAt h (aheadJ js m) e
  | [], _, _, _ => rfl
  | (t, o) :: r, h, p, c => by
    by_cases ht : t < m
    · rw [ahead_cons ht, offAt, offAt, off_ahead hs he c.2.2.2]
    · rw [show offAt h ((t, o) :: r) e = h by rw [offAt, if_pos (by omega)], ahead_nil hs c ht]; rfl
end
end Dm
-- text HmRan
namespace Dm
open PySem L2
/-! ### try -/
section
variable {ρ : Rho} {S : Sto} {N B C : Rho → Sto → Prop} {R : D → Sto → Prop} {EO : EXO}
@[simp] theorem does_try {cs : List Str} {hs : List (Str × Option Nat × MS)} {mb : MS} : (mTry cs hs mb ρ S).DoesE EO N R B C = (mb ρ S).DoesE (fun c fs ρ1 S1 => ∃ ns, intFsOf fs = some ns ∧ c ∈ cs ∧ (catchD c fs ns hs ρ1 S1).DoesE EO N R B C) N R B C := by
  unfold mTry
  cases mb ρ S with
  | exc c fs ρ1 S1 =>
    simp only [Out.DoesE]
    cases e : intFsOf fs with
    | none => simp [Out.DoesE, e]
    | some ns =>
      by_cases h : c ∈ cs
      · simp [h, e, Out.DoesE]
      · simp [h, e, Out.DoesE]
  | _ => rfl
@[simp] theorem catch_nil {c : Str} {fs : List (Str × D)} {ns : List (Str × Int)} : (catchD c fs ns [] ρ S).DoesE EO N R B C = EO c fs ρ S := rfl
@[simp] theorem catch_cons {c h : Str} {fs : List (Str × D)} {ns : List (Str × Int)} {oi : Option Nat} {ms : MS} {r : List (Str × Option Nat × MS)} : (catchD c fs ns ((h, oi, ms) :: r) ρ S).DoesE EO N R B C =
    if xSub c h = true then (ms (setI oi ρ (.exn c ns)) S).DoesE (fun _ _ _ _ => False) (fun ρ S => N (clearI oi ρ) S) R (fun ρ S => B (clearI oi ρ) S) (fun ρ S => C (clearI oi ρ) S) else (catchD c fs ns r ρ S).DoesE EO N R B C := by
  rw [catchD]
  by_cases h : xSub c h = true
  · simp only [if_pos h]
    cases ms (setI oi ρ (.exn c ns)) S <;> rfl
  · simp only [if_neg h]
@[simp] theorem gXf_exn {c f : Str} {fs : List (Str × Int)} : gXf c f S (.exn c fs) = (fs.lookup f).map D.int := by simp [gXf]
end
/-! ### repr of pairs -/
theorem same_py {S : Sto} {d d' : D} {p : PyData} (h : toPyC S d = some p) (h' : toPyC S d' = some p) (ok : reprOk p) : m_law_same_v2 [d, d'] S = .ok (.bl true) S := by
  have e : ∀ x, toPyC S x = some p → gRepr S [x] = some (.str p.shown) := by
    intro x hx
    unfold gRepr
    simp only [hx, if_pos ok]
  refine pure_of fun Q q => ?_
  refine does_def rfl ?_
  simp [e d h, e d' h']
  exact q
/-! ### what becomes of a run -/
end Dm
-- text HmMoved
namespace Dm
open PySem L2
def mvJ (d : Int) (j : Int × Int) : Int × Int := (j.1 + d, j.2)
def mvT (d : Int) (t : Tb) : Tb := (t.1, t.2.map (mvJ d))
def mvK (d : Int) (k : Kd) : Int := if k = .spn then 0 else d
def mvV (d : Int) (row : List Kd) (vs : List Int) : List Int := List.zipWith (fun k v => v + mvK d k) row vs
section
variable {d m : Int} {zs : Zs} {tb later : List Tb} {row : List Kd} {vs : List Int} {t : Stp}
theorem getV_mv {i : Nat} {k : Kd} (hl : row.length = vs.length) (hk : row[i]? = some k) : getV (mvV d row vs) i = getV vs i + mvK d k := by
  have hi := (List.getElem?_eq_some_iff.mp hk).1
  have hv := getV_at (vs := vs) (i := i) (by omega)
  unfold getV mvV
  rw [List.getD_eq_getElem?_getD, List.getElem?_zipWith, hk, hv]
  rfl
theorem mvV_snoc {k : Kd} {v : Int} (hl : row.length = vs.length) : mvV d (row ++ [k]) (vs ++ [v]) = mvV d row vs ++ [v + mvK d k] := by
  unfold mvV
  rw [List.zipWith_append hl]; rfl
theorem findI_mv {ms : List Int} {g : Int × Int} {r : Int} {f p : Str} : findI (ms.map (· + d)) g (r + d) f p = (findI ms g r f p).map (· + d) := by
  have gap : (if p = "refuse" then none else if p = "ahead" then some (r + d - g.1) else some (r + d - g.2)) = (if p = "refuse" then none else if p = "ahead" then some (r - g.1) else some (r - g.2)).map (· + d) := by
    split
    · rfl
    · split <;> (simp only [Option.map_some]; congr 1; omega)
  match ms with
  | [] => exact gap
  | [m] => rfl
  | [m, m'] =>
    show (if f = "refuse" then none else if f = "early" then some (m + d) else some (m' + d)) = (if f = "refuse" then none else if f = "early" then some m else some m').map (· + d)
    split
    · rfl
    · split <;> rfl
  | a :: b :: c :: r => exact gap
theorem done_len {ag : Tb → Tb → Int → Bool} : ∀ {ts : List Stp} {tb : List Tb} {vs vs' : List Int} {k : Nat}, followS ag zs later tb k vs ts = .done vs' → vs'.length = vs.length + ts.length
  | [], tb, vs, vs', k, h => by
    cases h; rfl
  | t :: ts, tb, vs, vs', k, h => by
    rw [followS] at h
    split at h
    · cases h
    · cases e : stepV zs tb vs t with
      | none => rw [e] at h; cases h
      | some v =>
        rw [e] at h
        have := done_len h
        simp at this
        simp
        omega
theorem chain_mv {os : List Int} {s : Int} : ∀ {js : List (Int × Int)} {h : Int} {p : Option Int}, Chain os s h p js → Chain os s h (p.map (· + d)) (js.map (mvJ d))
  | [], _, _, _ => trivial
  | (m, o) :: r, h, p, ⟨a, b, c, e⟩ => by
    refine ⟨a, b, ?_, chain_mv (p := some m) e⟩
    intro q hq
    cases p with
    | none => cases hq
    | some p =>
      have hq : p + d = q := by injection hq
      have := c p rfl
      show q + s ≤ m + d
      omega
theorem TbsOK.mv (tk : TbsOK zs tb) : TbsOK zs (tb.map (mvT d)) := by
  refine ⟨by rw [List.length_map]; exact tk.len, fun p z t hz ht => ?_⟩
  rw [List.getElem?_map] at ht
  cases e : tb[p]? with
  | none => rw [e] at ht; cases ht
  | some t0 =>
    rw [e] at ht
    cases ht
    have := tk.ok p z t0 hz e
    exact ⟨this.held, chain_mv this.chain⟩
/-! ### the words -/
variable {S : Sto} {n : Nat} {ts : List Stp}
/-- what is due, as a value -/
def dueD (b : Nat) (S : Sto) : Fin → D → Prop
  | .done vs, e => ∃ n, b ≤ n ∧ e = .tup [.str "", .cell n] ∧ S[n]? = some (.lst (vs.map .int))
  | .refused _ k, e => e = .tup [.str "refused", .int k]
  | .unsuited, e => e = .tup [.str "unsuited", .non]
theorem dueD.go {b p : Nat} {S S' : Sto} {f : Fin} {e : D} (h : dueD b S f e) (g : GoB p S S') (hp : p < b) : dueD b S' f e := by
  cases f with
  | done vs =>
    obtain ⟨n, hn, rfl, hc⟩ := h
    exact ⟨n, hn, rfl, g.get hc (by omega)⟩
  | refused vs k => exact h
  | unsuited => exact h
theorem dueD.grow {b : Nat} {S S' : Sto} {f : Fin} {e : D} (h : dueD b S f e) (g : Grow S S') : dueD b S' f e := by
  cases f with
  | done vs =>
    obtain ⟨n, hn, rfl, hc⟩ := h
    exact ⟨n, hn, rfl, g.get hc⟩
  | refused vs k => exact h
  | unsuited => exact h
end
end Dm
-- text HmEdition
namespace Dm
open PySem L2
end Dm
-- text HmEdition2
namespace Dm
open PySem L2
section
variable {S : Sto} {p n : Nat} {os : List Int} {s m : Int} {zs : Zs} {ts : List Stp} {tb later : List Tb}
theorem Bag.grow {S S' : Sto} (h : Bag p n S) (g : Grow S S') : Bag p n S' := by
  obtain ⟨a, b, c, e, r⟩ := h
  exact ⟨a, b, c, g.get e, r⟩
theorem progFrom_left {nz : Nat} : ∀ {a b : List Stp} {row : List Kd}, ProgFrom nz row (a ++ b) → ProgFrom nz row a
  | [], _, _, _ => trivial
  | t :: a, b, row, h => ⟨h.1, progFrom_left h.2⟩
/-- no edition, or one -/
def Ed1 (ts : List Stp) : Prop := (∀ t, t ∈ ts → t.isEd = false) ∨ ∃ t1 i pl t2, ts = t1 ++ .edition i pl :: t2 ∧ (∀ t, t ∈ t1 → t.isEd = false) ∧ ∀ t, t ∈ t2 → t.isEd = false
end
end Dm
-- text HmEdition3
namespace Dm
open PySem L2
end Dm
-- text HmReplay
namespace Dm
open PySem L2
section
variable {d m : Int} {zs : Zs} {tb tb2 later later2 : List Tb} {row : List Kd} {vs : List Int} {t : Stp}
theorem agP_of {os : List Int} {s : Int} {a b : Tb} (hs : 0 < s) (ta : TabOK os s a.1 a.2) (tb : TabOK os s b.1 b.2) (h : agP a b m = true) {e : Int} (he : e < m) : a.of e = b.of e := by
  obtain ⟨h1, h2⟩ := of_decide_eq_true h
  unfold Tb.of
  rw [off_ahead hs he ta.chain, off_ahead hs he tb.chain, h1, h2]
theorem moms_like {os : List Int} {t t2 : Tb} {r : Int} (h : ∀ o, o ∈ os → t2.of (r - o + d) = t.of (r - o)) : momsOf os t2.1 t2.2 (r + d) = (momsOf os t.1 t.2 r).map (· + d) := by
  unfold momsOf
  rw [List.map_map]
  have : (os.reverse.filter fun o => offAt t2.1 t2.2 (r + d - o) == o) = os.reverse.filter fun o => offAt t.1 t.2 (r - o) == o := by
    refine List.filter_congr fun o ho => ?_
    have e : r + d - o = (r - o) + d := by omega
    rw [e]
    have := h o (List.mem_reverse.mp ho)
    unfold Tb.of at this
    rw [this]
  rw [this]
  refine List.map_congr_left fun o _ => ?_
  show r + d - o = r - o + d
  omega
/-- a step whose looks are alike makes the like value -/
theorem step_like (z : ZsOK zs) (h : t.OK zs.length row) (hl : row.length = vs.length) (hw : ∀ w, w ∈ askedS zs vs t → (getT tb2 t.place).of (w + d) = (getT tb t.place).of w) :
    stepV zs tb2 (mvV d row vs) t = (stepV zs tb vs t).map (· + mvK d (t.kind row)) := by
  have e1 : mvK d .mom = d := rfl
  have e2 : mvK d .rdg = d := rfl
  have e3 : mvK d .spn = 0 := rfl
  cases t with
  | read i p =>
    have e := getV_mv (d := d) hl h.1
    rw [e1] at e
    have hh : (getT tb2 p).of (getV vs i + d) = (getT tb p).of (getV vs i) := hw (getV vs i) (by simp [askedS])
    show some (getV (mvV d row vs) i + (getT tb2 p).of (getV (mvV d row vs) i)) = some (getV vs i + (getT tb p).of (getV vs i) + d)
    rw [e, hh]
    congr 1; omega
  | find i p f g =>
    have e := getV_mv (d := d) hl h.1
    rw [e2] at e
    have hp := h.2.1
    have zp := z.at hp
    have E := zp.ends
    have hh : ∀ o, o ∈ (getZ zs p).1 → (getT tb2 p).of (getV vs i - o + d) = (getT tb p).of (getV vs i - o) := fun o ho => hw _ (List.mem_map.mpr ⟨o, List.mem_reverse.mpr ho, rfl⟩)
    show findI (momsOf (getZ zs p).1 (getT tb2 p).1 (getT tb2 p).2 (getV (mvV d row vs) i)) ((getT tb2 p).of (getV (mvV d row vs) i - hiO (getZ zs p).1), (getT tb2 p).of (getV (mvV d row vs) i - loO (getZ zs p).1)) (getV (mvV d row vs) i) f g = (findI (momsOf (getZ zs p).1 (getT tb p).1 (getT tb p).2 (getV vs i)) ((getT tb p).of (getV vs i - hiO (getZ zs p).1), (getT tb p).of (getV vs i - loO (getZ zs p).1)) (getV vs i) f g).map (· + d)
    rw [e, moms_like hh, findI_mv]
    have a1 : getV vs i + d - hiO (getZ zs p).1 = getV vs i - hiO (getZ zs p).1 + d := by omega
    have a2 : getV vs i + d - loO (getZ zs p).1 = getV vs i - loO (getZ zs p).1 + d := by omega
    rw [a1, a2, hh _ E.mb, hh _ E.ma]
  | offset i p =>
    have e := getV_mv (d := d) hl h.1
    rw [e1] at e
    have hh : (getT tb2 p).of (getV vs i + d) = (getT tb p).of (getV vs i) := hw (getV vs i) (by simp [askedS])
    show some ((getT tb2 p).of (getV (mvV d row vs) i)) = some ((getT tb p).of (getV vs i) + 0)
    rw [e, hh, Int.add_zero]
  | edition i p =>
    have e := getV_mv (d := d) hl h.1
    exact congrArg some e
  | plus i j =>
    have e := getV_mv (d := d) hl h.1
    have e' := getV_mv (d := d) hl h.2
    rw [e1] at e
    rw [e3] at e'
    show some (getV (mvV d row vs) i + getV (mvV d row vs) j) = some (getV vs i + getV vs j + d)
    rw [e, e']
    congr 1; omega
  | less i j =>
    have e := getV_mv (d := d) hl h.1
    have e' := getV_mv (d := d) hl h.2
    rw [e2] at e
    rw [e3] at e'
    show some (getV (mvV d row vs) i - getV (mvV d row vs) j) = some (getV vs i - getV vs j + d)
    rw [e, e']
    congr 1; omega
  | add i m =>
    obtain ⟨k, hk⟩ : ∃ k, row[i]? = some k := by rcases h.1 with h | h <;> exact ⟨_, h⟩
    have e := getV_mv (d := d) hl hk
    have ek : Stp.kind row (.add i m) = k := by
      show row.getD i .mom = k
      rw [List.getD_eq_getElem?_getD, hk]; rfl
    rw [ek]
    show some (getV (mvV d row vs) i + m) = some (getV vs i + m + mvK d k)
    rw [e]
    congr 1; omega
theorem asked_mv (h : t.OK zs.length row) (hl : row.length = vs.length) : askedS zs (mvV d row vs) t = (askedS zs vs t).map (· + d) := by
  have e1 : mvK d .mom = d := rfl
  have e2 : mvK d .rdg = d := rfl
  cases t with
  | read i p =>
    have e := getV_mv (d := d) hl h.1
    rw [e1] at e
    show [getV (mvV d row vs) i] = [getV vs i + d]
    rw [e]
  | find i p f g =>
    have e := getV_mv (d := d) hl h.1
    rw [e2] at e
    show (getZ zs p).1.reverse.map (fun o => getV (mvV d row vs) i - o) = ((getZ zs p).1.reverse.map fun o => getV vs i - o).map (· + d)
    rw [e, List.map_map]
    refine List.map_congr_left fun o _ => ?_
    show getV vs i + d - o = getV vs i - o + d
    omega
  | offset i p =>
    have e := getV_mv (d := d) hl h.1
    rw [e1] at e
    show [getV (mvV d row vs) i] = [getV vs i + d]
    rw [e]
  | edition i p =>
    have e := getV_mv (d := d) hl h.1
    rw [e1] at e
    show [getV (mvV d row vs) i - 1] = [getV vs i - 1 + d]
    rw [e]
    congr 1; omega
  | plus i j => rfl
  | less i j => rfl
  | add i m => rfl
/-! ### looks -/
variable {org : Int} {ed : Option (Nat × Int)} {lk : List Lk} {ws : List Int}
theorem push_mem {m x : Lk} : x ∈ pushLk lk m ↔ x ∈ lk ∨ x = m := by
  unfold pushLk
  split
  · rename_i h
    constructor
    · exact .inl
    · rintro (h2 | rfl)
      · exact h2
      · exact h
  · simp
theorem addL_mono {x : Lk} (h : x ∈ lk) : x ∈ addL org tb ed t lk ws := by
  unfold addL
  induction ws generalizing lk with
  | nil => exact h
  | cons w ws ih => exact ih (push_mem.mpr (.inl h))
theorem addL_mem {w : Int} (h : w ∈ ws) : markS org tb ed t w ∈ addL org tb ed t lk ws := by
  induction ws generalizing lk with
  | nil => cases h
  | cons u ws ih =>
    rcases List.mem_cons.mp h with rfl | h
    · exact addL_mono (lk := pushLk lk (markS org tb ed t w)) (push_mem.mpr (.inr rfl))
    · exact ih (lk := pushLk lk (markS org tb ed t u)) h
theorem followL_mono {ag : Tb → Tb → Int → Bool} {x : Lk} : ∀ {ts : List Stp} {tb : List Tb} {ed : Option (Nat × Int)} {k : Nat} {vs : List Int} {lk : List Lk}, x ∈ lk → x ∈ (followL ag zs later org tb ed k vs lk ts).2
  | [], _, _, _, _, _, h => h
  | t :: ts, tb, ed, k, vs, lk, h => by
    rw [followL]
    split
    · exact addL_mono h
    · cases stepV zs tb vs t with
      | none => exact addL_mono h
      | some v => exact followL_mono (addL_mono h)
def mvE (d : Int) : Option (Nat × Int) → Option (Nat × Int)
  | some (q, m) => some (q, m + d)
  | none => none
theorem side_mv {p : Nat} {w : Int} : sideOf (mvE d ed) p (w + d) = sideOf ed p w := by
  cases ed with
  | none => rfl
  | some x =>
    obtain ⟨q, m⟩ := x
    show (if q = p ∧ m + d ≤ w + d then (1 : Int) else 0) = if q = p ∧ m ≤ w then 1 else 0
    by_cases h : q = p ∧ m ≤ w
    · rw [if_pos h, if_pos ⟨h.1, by omega⟩]
    · rw [if_neg h, if_neg (fun h2 => h ⟨h2.1, by omega⟩)]
theorem addL_like (h : ∀ w, w ∈ ws → (getT tb2 t.place).of (w + d) = (getT tb t.place).of w) : addL (org + d) tb2 (mvE d ed) t lk (ws.map (· + d)) = addL org tb ed t lk ws := by
  induction ws generalizing lk with
  | nil => rfl
  | cons w ws ih =>
    have e : markS (org + d) tb2 (mvE d ed) t (w + d) = markS org tb ed t w := by
      unfold markS
      rw [side_mv]
      have := h w List.mem_cons_self
      unfold Tb.of at this
      rw [this, show w + d - (org + d) = w - org by omega]
    have := ih (lk := pushLk lk (markS org tb ed t w)) fun w hw => h w (List.mem_cons_of_mem _ hw)
    show addL (org + d) tb2 (mvE d ed) t (pushLk lk (markS (org + d) tb2 (mvE d ed) t (w + d))) (ws.map (· + d)) = addL org tb ed t (pushLk lk (markS org tb ed t w)) ws
    rw [e, this]
/-! ### a run once more, in another world with the same looks -/
def curT (ed : Option (Nat × Int)) (a b : List Tb) (p : Nat) : Tb := match ed with
  | some (q, _) => if q = p then getT b p else getT a p
  | none => getT a p
/-- a look holds in the world -/
def LikeM (org : Int) (a b : List Tb) (x : Lk) : Prop := ∀ p : Nat, x.1 = p → (x.2.1 = 0 → (getT a p).of (x.2.2.1 + org) = x.2.2.2) ∧ (x.2.1 = 1 → (getT b p).of (x.2.2.1 + org) = x.2.2.2)
def mvF (d : Int) (row : List Kd) : Fin → Fin
  | .done vs => .done (mvV d row vs)
  | .refused vs k => .refused (mvV d row vs) k
  | .unsuited => .unsuited
theorem kinds_more : ∀ {ts : List Stp} {row : List Kd}, ∃ more, kindsFrom row ts = row ++ more
  | [], row => ⟨[], (List.append_nil _).symm⟩
  | t :: ts, row => by
    obtain ⟨m, e⟩ := kinds_more (ts := ts) (row := row ++ [t.kind row])
    exact ⟨t.kind row :: m, by show kindsFrom (row ++ [t.kind row]) ts = _; rw [e]; simp⟩
theorem mvV_more {ts : List Stp} (hl : row.length = vs.length) : mvV d (kindsFrom row ts) vs = mvV d row vs := by
  obtain ⟨m, e⟩ := kinds_more (ts := ts) (row := row)
  rw [e]
  unfold mvV
  have := List.zipWith_append (f := fun k v => v + mvK d k) (l₁' := m) (l₂' := []) hl
  rw [List.append_nil] at this
  rw [this]
  simp
theorem replay (z : ZsOK zs) (tk2 : TbsOK zs tb2) (tl2 : TbsOK zs later2) : ∀ {ts : List Stp} {tbc tbc2 : List Tb} {ed : Option (Nat × Int)} {row : List Kd} {vs : List Int} {lk : List Lk} {k : Nat},
    ProgFrom zs.length row ts → row.length = vs.length → (∀ p, p < zs.length → getT tbc2 p = curT ed tb2 later2 p) → tbc2.length = zs.length → (∀ q m, ed = some (q, m) → q < zs.length ∧ agP (getT tb2 q) (getT later2 q) (m + d) = true) → (ed = none ∨ cnt Stp.isEd ts ≤ 0) → cnt Stp.isEd ts ≤ 1 →
    (∀ x, x ∈ (followL agP zs later org tbc ed k vs lk ts).2 → LikeM (org + d) tb2 later2 x) → (followL agP zs later org tbc ed k vs lk ts).1 ≠ .unsuited →
    (∀ pre i p post, ts = pre ++ .edition i p :: post → ∀ vs', followS agP zs later tbc k vs pre = .done vs' → agP (getT tb2 p) (getT later2 p) (getV vs' i + d) = true) →
    followL agP zs later2 (org + d) tbc2 (mvE d ed) k (mvV d row vs) lk ts = (mvF d (kindsFrom row ts) (followL agP zs later org tbc ed k vs lk ts).1, (followL agP zs later org tbc ed k vs lk ts).2)
  | [], tbc, tbc2, ed, row, vs, lk, k, hp, hl, hc, hc2, he, hE, hE1, hL, hu, hS => rfl
  | t :: ts, tbc, tbc2, ed, row, vs, lk, k, hp, hl, hc, hc2, he, hE, hE1, hL, hu, hS => by
    have ok := hp.1
    -- the looks of the step are alike
    have sub : ∀ x, x ∈ addL org tbc ed t lk (askedS zs vs t) → x ∈ (followL agP zs later org tbc ed k vs lk (t :: ts)).2 := by
      intro x hx
      rw [followL]
      split
      · exact hx
      · cases stepV zs tbc vs t with
        | none => exact hx
        | some v => exact followL_mono hx
    have like : ∀ w, w ∈ askedS zs vs t → (getT tbc2 t.place).of (w + d) = (getT tbc t.place).of w := by
      intro w hw
      have hpl : t.place < zs.length := by
        cases t with
        | read i p => exact ok.2
        | find i p f g => exact ok.2.1
        | offset i p => exact ok.2
        | edition i p => exact ok.2
        | plus i j => cases hw
        | less i j => cases hw
        | add i m => cases hw
      obtain ⟨h0, h1⟩ := hL _ (sub _ (addL_mem hw)) t.place rfl
      have ew : (markS org tbc ed t w).2.2.1 + (org + d) = w + d := by show w - org + (org + d) = w + d; omega
      rw [ew] at h0 h1
      have h0' : sideOf ed t.place w = 0 → (getT tb2 t.place).of (w + d) = (getT tbc t.place).of w := h0
      have h1' : sideOf ed t.place w = 1 → (getT later2 t.place).of (w + d) = (getT tbc t.place).of w := h1
      rw [hc _ hpl]
      cases hed : ed with
      | none =>
        refine h0' ?_
        rw [hed]; rfl
      | some x =>
        obtain ⟨q, m⟩ := x
        show (if q = t.place then getT later2 t.place else getT tb2 t.place).of (w + d) = _
        by_cases hq : q = t.place
        · rw [if_pos hq]
          by_cases hm : m ≤ w
          · refine h1' ?_
            rw [hed]
            show (if q = t.place ∧ m ≤ w then (1 : Int) else 0) = 1
            rw [if_pos ⟨hq, hm⟩]
          · have a0 := (he q m hed).2
            rw [hq] at a0
            have hs := (z.at hpl).sp
            rw [← agP_of (s := (getZ zs t.place).2) (by omega) (tk2.tab hpl) (tl2.tab hpl) a0 (e := w + d) (by omega)]
            refine h0' ?_
            rw [hed]
            show (if q = t.place ∧ m ≤ w then (1 : Int) else 0) = 0
            rw [if_neg (fun h => hm h.2)]
        · rw [if_neg hq]
          refine h0' ?_
          rw [hed]
          show (if q = t.place ∧ m ≤ w then (1 : Int) else 0) = 0
          rw [if_neg (fun h => hq h.1)]
    have hst := step_like (d := d) (tb := tbc) (tb2 := tbc2) z ok hl like
    have hlk : addL (org + d) tbc2 (mvE d ed) t lk (askedS zs (mvV d row vs) t) = addL org tbc ed t lk (askedS zs vs t) := by
      rw [asked_mv ok hl]
      exact addL_like like
    have kf : kindsFrom row (t :: ts) = kindsFrom (row ++ [t.kind row]) ts := rfl
    by_cases hEd : t.isEd = true
    · obtain ⟨i, p, rfl⟩ : ∃ i p, t = .edition i p := ⟨_, _, ed_form hEd⟩
      have hed : ed = none := by
        rcases hE with h | h
        · exact h
        · rw [cnt_cons] at h
          have : bI (Stp.isEd (.edition i p)) = 1 := rfl
          have := cnt_nn (f := Stp.isEd) (ts := ts)
          omega
      subst hed
      have hp2 : p < zs.length := ok.2
      have hgv := getV_mv (d := d) hl ok.1
      have e1 : mvK d .mom = d := rfl
      rw [e1] at hgv
      have ha2 := hS [] i p ts rfl vs rfl
      have hc0 : getT tbc2 p = getT tb2 p := hc p hp2
      rw [followL] at hu hL
      rw [followL, followL]
      simp only [Stp.isEd, Stp.place, Stp.base, true_and, if_true, stepV, hlk] at hu hL ⊢
      by_cases ca : agP (getT tbc p) (getT later p) (getV vs i) = false
      · rw [if_pos ca] at hu
        exact absurd rfl hu
      · rw [if_neg ca] at hu hL ⊢
        rw [hc0, hgv, ha2, if_neg (by decide)]
        have hv := mvV_snoc (d := d) (k := Kd.mom) (v := getV vs i) hl
        rw [e1] at hv
        rw [← hv, kf]
        have hkd : Stp.kind row (.edition i p) = .mom := rfl
        rw [hkd]
        refine replay z tk2 tl2 (ed := some (p, getV vs i)) (row := row ++ [Kd.mom]) (by have := hp.2; rw [hkd] at this; exact this) (by simp [hl]) (fun p' hp' => ?_) (by rw [List.length_set]; exact hc2) (fun q m h => ?_) (.inr ?_) ?_ hL hu ?_
        · show getT (tbc2.set p (getT later2 p)) p' = if p = p' then getT later2 p' else getT tb2 p'
          unfold getT
          rw [List.getD_eq_getElem?_getD]
          by_cases e : p = p'
          · subst e
            rw [if_pos rfl, List.getElem?_set_self (by omega)]; rfl
          · rw [if_neg e, List.getElem?_set_ne e, ← List.getD_eq_getElem?_getD]
            exact hc p' hp'
        · cases h
          exact ⟨hp2, ha2⟩
        · rw [cnt_cons] at hE1
          have : bI (Stp.isEd (.edition i p)) = 1 := rfl
          omega
        · rw [cnt_cons] at hE1
          have : bI (Stp.isEd (.edition i p)) = 1 := rfl
          omega
        · intro pre j q post e vs' h
          exfalso
          rw [e] at hE1
          have h1 : cnt Stp.isEd (Stp.edition i p :: (pre ++ Stp.edition j q :: post)) = 1 + (cnt Stp.isEd pre + (1 + cnt Stp.isEd post)) := by
            rw [cnt_cons]
            have h2 : cnt Stp.isEd (pre ++ Stp.edition j q :: post) = cnt Stp.isEd pre + (1 + cnt Stp.isEd post) := by
              unfold cnt
              rw [List.filter_append, List.filter_cons]
              simp [Stp.isEd]
              omega
            rw [h2]; rfl
          rw [h1] at hE1
          have := cnt_nn (f := Stp.isEd) (ts := pre)
          have := cnt_nn (f := Stp.isEd) (ts := post)
          omega
    · have hEd' : t.isEd = false := by simpa using hEd
      have f : ∀ (l : List Tb) (o : Int) (tb : List Tb) (ed : Option (Nat × Int)) (vs : List Int), followL agP zs l o tb ed k vs lk (t :: ts) = match stepV zs tb vs t with
          | none => (.refused vs k, addL o tb ed t lk (askedS zs vs t))
          | some v => followL agP zs l o tb ed (k + 1) (vs ++ [v]) (addL o tb ed t lk (askedS zs vs t)) ts := by
        intro l o tb ed vs
        rw [followL, if_neg (fun h => by rw [hEd'] at h; exact Bool.noConfusion h.1)]
        simp only [hEd']
        rfl
      rw [f] at hu hL
      rw [f, f, hst, hlk]
      cases e : stepV zs tbc vs t with
      | none =>
        show (Fin.refused (mvV d row vs) k, _) = (Fin.refused (mvV d (kindsFrom row (t :: ts)) vs) k, _)
        rw [mvV_more hl]
      | some v =>
        rw [e] at hu hL
        simp only [Option.map_some] at hu hL ⊢
        rw [← mvV_snoc hl, kf]
        refine replay z tk2 tl2 hp.2 (by simp [hl]) hc hc2 he ?_ ?_ hL hu ?_
        · rcases hE with h | h
          · exact .inl h
          · refine .inr ?_
            rw [cnt_cons, hEd'] at h
            have : bI false = 0 := rfl
            omega
        · rw [cnt_cons, hEd'] at hE1
          have : bI false = 0 := rfl
          omega
        · intro pre i p post e2 vs' h
          refine hS (t :: pre) i p post (by rw [e2]; rfl) vs' ?_
          rw [followS, if_neg (fun h => by rw [hEd'] at h; exact Bool.noConfusion h.1), e]
          simp only [hEd']
          exact h
end
end Dm
-- text HmEagree
namespace Dm
open PySem L2
end Dm
-- text HmLeftAt
namespace Dm
open PySem L2
@[simp] theorem does_callBL {S : Sto} {ρ : Rho} {g : Sto → List D → Option (List D)} {a : MA} {E : EX} {Q : List D → Sto → Prop} : (mCallBL g a ρ S).DoesE E Q = (a ρ S).DoesE E fun xs S1 => match g S1 xs with
    | some z => Q z S1
    | none => False := by
  unfold mCallBL
  rw [does_bind]
  congr 1
  funext x S1
  cases g S1 x <;> rfl
section
variable {S : Sto} {os : List Int} {s m o : Int} {ls : List (Int × Int)} {n p : Nat}
@[simp] theorem gList_looks : gList S [looksD ls] = some (ls.map jmpD) := rfl
@[simp] theorem gList_tup {ds : List D} : gList S [.tup ds] = some ds := rfl
@[simp] theorem gList_lst {ds : List D} : gList S [.lst ds] = some ds := rfl
end
end Dm
-- text HmCchart
namespace Dm
open PySem L2
end Dm
-- text HmGone
namespace Dm
open PySem L2
end Dm
-- text HmGone2
namespace Dm
open PySem L2
end Dm
-- text HmTurn
namespace Dm
open PySem L2
section
variable {S : Sto} {os : List Int} {s h r c d : Int} {js : List (Int × Int)} {fold gap : Str}
@[simp] theorem lcAQ_mapT {f : D → Rho → Option Rho} {mt me : ME} {ρ : Rho} {Q : List D → Sto → Prop} {α : Type} {g : α → D} {as : List α} : LcAQ (.tup (as.map g)) f mt me ρ as.length S Q = LcQ f mt me ρ (as.map g) S Q := lcAQ_fix (.inl rfl) (by rw [List.length_map])
@[simp] theorem lcAQ_mapL {f : D → Rho → Option Rho} {mt me : ME} {ρ : Rho} {Q : List D → Sto → Prop} {α : Type} {g : α → D} {as : List α} : LcAQ (.lst (as.map g)) f mt me ρ as.length S Q = LcQ f mt me ρ (as.map g) S Q := lcAQ_fix (.inr rfl) (by rw [List.length_map])
/-! ### the zone, the table, moved and turned -/
end
end Dm
-- text HmWider
namespace Dm
open PySem L2
end Dm
-- text HmCase
namespace Dm
open PySem L2
section
variable {d m : Int} {row : List Kd} {vs : List Int} {S : Sto} {ts : List Stp} {lk : List Lk} {a b : Nat}
/-- the moment of the edition of a place -/
def nowF (site : Nat) : List Stp → List Int → Option Int
  | t :: ts, v :: vs => if t.isEd = true ∧ t.place = site then some v else nowF site ts vs
  | _, _ => none
end
end Dm
-- text HmRep
namespace Dm
open PySem L2
section
variable {d o : Int} {zs : Zs} {tb later : List Tb} {row : List Kd} {vs ws : List Int} {t : Stp} {ts : List Stp} {lk : List Lk} {ed E : Option (Nat × Int)} {k : Nat}
/-! ### what a run tells of its looks -/
theorem push_nodup {m : Lk} (h : lk.Nodup) : (pushLk lk m).Nodup := by
  unfold pushLk
  split
  · exact h
  · rename_i hm
    rw [List.nodup_append]
    refine ⟨h, by simp, ?_⟩
    intro a ha b hb
    simp at hb
    subst hb
    intro e
    subst e
    exact hm ha
theorem addL_nodup (h : lk.Nodup) : (addL o tb ed t lk ws).Nodup := by
  unfold addL
  induction ws generalizing lk with
  | nil => exact h
  | cons w ws ih => exact ih (push_nodup h)
theorem addL_cases {x : Lk} (h : x ∈ addL o tb ed t lk ws) : x ∈ lk ∨ ∃ w, w ∈ ws ∧ x = markS o tb ed t w := by
  unfold addL at h
  induction ws generalizing lk with
  | nil => exact .inl h
  | cons w ws ih =>
    rcases ih h with h | ⟨w', h1, h2⟩
    · rcases push_mem.mp h with h | h
      · exact .inl h
      · exact .inr ⟨w, List.mem_cons_self, h⟩
    · exact .inr ⟨w', List.mem_cons_of_mem _ h1, h2⟩
theorem addL_len : (addL o tb ed t lk ws).length ≤ lk.length + ws.length := by
  unfold addL
  induction ws generalizing lk with
  | nil => simp
  | cons w ws ih =>
    have := ih (lk := pushLk lk (markS o tb ed t w))
    have h2 : (pushLk lk (markS o tb ed t w)).length ≤ lk.length + 1 := by
      unfold pushLk
      split <;> simp
    simp only [List.foldl_cons, List.length_cons] at this ⊢
    omega
theorem asked_place {w : Int} (ok : t.OK zs.length row) (h : w ∈ askedS zs vs t) : t.place < zs.length := by
  cases t with
  | read i p => exact ok.2
  | find i p f g => exact ok.2.1
  | offset i p => exact ok.2
  | edition i p => exact ok.2
  | plus i j => cases h
  | less i j => cases h
  | add i m => cases h
theorem noedL {ag : Tb → Tb → Int → Bool} {l : List Tb} (hE : t.isEd = false) : followL ag zs l o tb ed k vs lk (t :: ts) = match stepV zs tb vs t with
    | none => (.refused vs k, addL o tb ed t lk (askedS zs vs t))
    | some v => followL ag zs l o tb ed (k + 1) (vs ++ [v]) (addL o tb ed t lk (askedS zs vs t)) ts := by
  rw [followL, if_neg (fun h => by rw [hE] at h; exact Bool.noConfusion h.1)]
  simp only [hE]
  rfl
theorem lk_noed {ag : Tb → Tb → Int → Bool} : ∀ {ts : List Stp} {vs : List Int} {row : List Kd} {k : Nat} {lk : List Lk}, (∀ t, t ∈ ts → t.isEd = false) → ProgFrom zs.length row ts → ∀ x, x ∈ (followL ag zs later o tb ed k vs lk ts).2 → x ∈ lk ∨ ∃ t w, Stp.place t < zs.length ∧ x = markS o tb ed t w
  | [], vs, row, k, lk, _, _, x, hx => .inl hx
  | t :: ts, vs, row, k, lk, h, hp, x, hx => by
    rw [noedL (h t List.mem_cons_self)] at hx
    have here : ∀ y, y ∈ addL o tb ed t lk (askedS zs vs t) → y ∈ lk ∨ ∃ t w, Stp.place t < zs.length ∧ y = markS o tb ed t w := by
      intro y hy
      rcases addL_cases hy with h | ⟨w, h1, h2⟩
      · exact .inl h
      · exact .inr ⟨t, w, asked_place hp.1 h1, h2⟩
    cases e : stepV zs tb vs t with
    | none =>
      rw [e] at hx
      exact here x hx
    | some v =>
      rw [e] at hx
      rcases lk_noed (fun t ht => h t (List.mem_cons_of_mem _ ht)) hp.2 x hx with h | h
      · exact here x h
      · exact .inr h
theorem nodupL {ag : Tb → Tb → Int → Bool} : ∀ {ts : List Stp} {tb : List Tb} {ed : Option (Nat × Int)} {k : Nat} {vs : List Int} {lk : List Lk}, lk.Nodup → (followL ag zs later o tb ed k vs lk ts).2.Nodup
  | [], _, _, _, _, _, h => h
  | t :: ts, tb, ed, k, vs, lk, h => by
    rw [followL]
    split
    · exact addL_nodup h
    · cases stepV zs tb vs t with
      | none => exact addL_nodup h
      | some v => exact nodupL (addL_nodup h)
theorem lenL {ag : Tb → Tb → Int → Bool} (z : ZsOK zs) : ∀ {ts : List Stp} {tb : List Tb} {ed : Option (Nat × Int)} {k : Nat} {vs : List Int} {lk : List Lk}, (followL ag zs later o tb ed k vs lk ts).2.length ≤ lk.length + 3 * ts.length
  | [], _, _, _, _, _ => by rw [followL]; simp
  | t :: ts, tb, ed, k, vs, lk => by
    have h1 := addL_len (o := o) (tb := tb) (ed := ed) (t := t) (lk := lk) (ws := askedS zs vs t)
    have h2 := asked_len (vs := vs) (t := t) z
    rw [followL]
    simp only [List.length_cons]
    split
    · simp only; omega
    · cases stepV zs tb vs t with
      | none => simp only; omega
      | some v =>
        have := lenL (ag := ag) z (ts := ts) (tb := if t.isEd = true then tb.set t.place (getT later t.place) else tb) (ed := if t.isEd = true then some (t.place, getV vs t.base) else ed) (k := k + 1) (vs := vs ++ [v]) (lk := addL o tb ed t lk (askedS zs vs t))
        simp only
        omega
theorem beginL {ag : Tb → Tb → Int → Bool} : ∀ {t1 u : List Stp} {vs : List Int} {k : Nat} {lk : List Lk}, (∀ t, t ∈ t1 → t.isEd = false) →
    (∃ vs' lk', followL ag zs later o tb ed k vs lk t1 = (.done vs', lk') ∧ followL ag zs later o tb ed k vs lk (t1 ++ u) = followL ag zs later o tb ed (k + t1.length) vs' lk' u) ∨
    ∃ vs' k' lk', followL ag zs later o tb ed k vs lk t1 = (.refused vs' k', lk') ∧ followL ag zs later o tb ed k vs lk (t1 ++ u) = (.refused vs' k', lk')
  | [], u, vs, k, lk, _ => .inl ⟨vs, lk, rfl, rfl⟩
  | t :: t1, u, vs, k, lk, h => by
    have hE := h t List.mem_cons_self
    rw [List.cons_append, noedL hE, noedL hE]
    cases e : stepV zs tb vs t with
    | none => exact .inr ⟨_, _, _, rfl, rfl⟩
    | some v =>
      simp only
      rcases beginL (ag := ag) (t1 := t1) (u := u) (vs := vs ++ [v]) (k := k + 1) (lk := addL o tb ed t lk (askedS zs vs t)) (fun t ht => h t (List.mem_cons_of_mem _ ht)) with ⟨vs', lk', h1, h2⟩ | h
      · refine .inl ⟨vs', lk', h1, ?_⟩
        rw [h2]
        congr 1
        simp; omega
      · exact .inr h
def valsF : Fin → List Int
  | .done vs => vs
  | .refused vs _ => vs
  | .unsuited => []
theorem vals_more {ag : Tb → Tb → Int → Bool} : ∀ {ts : List Stp} {tb : List Tb} {k : Nat} {vs : List Int}, followS ag zs later tb k vs ts ≠ .unsuited → ∃ more, valsF (followS ag zs later tb k vs ts) = vs ++ more
  | [], _, _, vs, _ => ⟨[], (List.append_nil _).symm⟩
  | t :: ts, tb, k, vs, h => by
    rw [followS] at h ⊢
    split at h
    · exact absurd rfl h
    · rename_i c
      rw [if_neg c]
      cases e : stepV zs tb vs t with
      | none => exact ⟨[], (List.append_nil _).symm⟩
      | some v =>
        rw [e] at h
        obtain ⟨m, hm⟩ := vals_more h
        exact ⟨v :: m, by simp only; rw [hm]; simp⟩
theorem refused_len {ag : Tb → Tb → Int → Bool} : ∀ {ts : List Stp} {tb : List Tb} {k : Nat} {vs vs' : List Int} {k' : Nat}, followS ag zs later tb k vs ts = .refused vs' k' → vs'.length + k = vs.length + k' ∧ k ≤ k' ∧ k' < k + ts.length
  | [], _, _, _, _, _, h => nomatch h
  | t :: ts, tb, k, vs, vs', k', h => by
    rw [followS] at h
    split at h
    · cases h
    · cases e : stepV zs tb vs t with
      | none =>
        rw [e] at h
        cases h
        simp
      | some v =>
        rw [e] at h
        have := refused_len h
        simp at this ⊢
        omega
/-! ### the moment of the edition -/
theorem nowF_nil {site : Nat} : nowF site ts [] = none := by cases ts <;> rfl
theorem nowF_none {site : Nat} : ∀ {ts : List Stp} {ws : List Int}, (∀ t, t ∈ ts → t.isEd = false) → nowF site ts ws = none
  | [], ws, _ => by cases ws <;> rfl
  | t :: ts, [], _ => rfl
  | t :: ts, v :: vs, h => by
    rw [nowF, if_neg (fun c => by rw [h t List.mem_cons_self] at c; exact Bool.noConfusion c.1)]
    exact nowF_none fun t ht => h t (List.mem_cons_of_mem _ ht)
theorem nowF_get {i p : Nat} {t2 : List Stp} (h2 : ∀ t, t ∈ t2 → t.isEd = false) : ∀ {t1 : List Stp} {ws : List Int} {site : Nat}, (∀ t, t ∈ t1 → t.isEd = false) → nowF site (t1 ++ .edition i p :: t2) ws = if p = site then ws[t1.length]? else none
  | [], [], site, _ => by
    show none = _
    split <;> rfl
  | [], v :: vs, site, _ => by
    show (if Stp.isEd (.edition i p) = true ∧ Stp.place (.edition i p) = site then some v else nowF site t2 vs) = _
    by_cases c : p = site
    · rw [if_pos ⟨rfl, c⟩, if_pos c]; rfl
    · rw [if_neg (fun h => c h.2), if_neg c]
      exact nowF_none h2
  | t :: t1, [], site, _ => by
    show none = _
    split <;> rfl
  | t :: t1, v :: vs, site, h => by
    rw [List.cons_append, nowF, if_neg (fun c => by rw [h t List.mem_cons_self] at c; exact Bool.noConfusion c.1)]
    rw [nowF_get h2 fun t ht => h t (List.mem_cons_of_mem _ ht)]
    rfl
theorem ed_one {i j p q : Nat} : ∀ {a b c e : List Stp}, a ++ .edition i p :: b = c ++ .edition j q :: e → (∀ t, t ∈ a → t.isEd = false) → (∀ t, t ∈ b → t.isEd = false) → a = c ∧ i = j ∧ p = q
  | [], b, [], e, h, _, _ => by
    injection h with h1 h2
    injection h1 with h3 h4
    exact ⟨rfl, h3, h4⟩
  | [], b, u :: c, e, h, _, hb => by
    injection h with h1 h2
    have := hb (.edition j q) (by rw [h2]; simp)
    cases this
  | u :: a, b, [], e, h, ha, _ => by
    injection h with h1 h2
    have := ha u List.mem_cons_self
    rw [h1] at this
    cases this
  | u :: a, b, v :: c, e, h, ha, hb => by
    injection h with h1 h2
    obtain ⟨g1, g2, g3⟩ := ed_one h2 (fun t ht => ha t (List.mem_cons_of_mem _ ht)) hb
    exact ⟨by rw [h1, g1], g2, g3⟩
def LkOK (zs : Zs) (o : Int) (tb later : List Tb) (E : Option (Nat × Int)) (x : Lk) : Prop := ∃ (p : Nat) (w : Int), p < zs.length ∧ x.1 = p ∧ x.2.2.1 = w - o ∧
  ((x.2.1 = 0 ∧ x.2.2.2 = (getT tb p).of w) ∨ (x.2.1 = 1 ∧ (∃ m, E = some (p, m) ∧ m ≤ w) ∧ x.2.2.2 = (getT later p).of w))
def edNow (E : Option (Nat × Int)) (site : Nat) (d : Int) : Option Int := match E with
  | some (q, m) => if q = site then some (m + d) else none
  | none => none
structure Rep (zs : Zs) (tb later : List Tb) (o : Int) (ts : List Stp) (f : Fin) (lk : List Lk) (E : Option (Nat × Int)) : Prop where
  nodup : lk.Nodup
  len : lk.length ≤ 3 * ts.length
  looks : ∀ x, x ∈ lk → LkOK zs o tb later E x
  now : ∀ p m, E = some (p, m) → p < zs.length ∧ agP (getT tb p) (getT later p) m = true ∧ ∃ c, ((p : Int), 0, m - 1 - o, c) ∈ lk
  at' : ∀ site d, nowF site ts ((mvV d (kindsFrom [.mom] ts) (valsF f)).drop 1) = edNow E site d
  eds : ∀ pre i p post, ts = pre ++ .edition i p :: post → ∀ vs', followS agP zs later tb 0 [o] pre = .done vs' → E = some (p, getV vs' i)
theorem kindsFrom_app : ∀ {a b : List Stp} {row : List Kd}, kindsFrom row (a ++ b) = kindsFrom (kindsFrom row a) b
  | [], _, _ => rfl
  | t :: a, b, row => by
    show kindsFrom (row ++ [t.kind row]) (a ++ b) = _
    rw [kindsFrom_app]; rfl
theorem progFrom_right : ∀ {a b : List Stp} {row : List Kd}, ProgFrom zs.length row (a ++ b) → ProgFrom zs.length (kindsFrom row a) b
  | [], _, _, h => h
  | t :: a, b, row, h => progFrom_right (a := a) h.2
theorem mark0 {ed : Option (Nat × Int)} {w : Int} {l : List Tb} (hp : t.place < zs.length) (he : ed = none) : LkOK zs o tb l E (markS o tb ed t w) := by
  subst he
  exact ⟨t.place, w, hp, rfl, rfl, .inl ⟨rfl, rfl⟩⟩
theorem rep (z : ZsOK zs) (tk : TbsOK zs tb) (tl : TbsOK zs later) (ok : ProgFrom zs.length [.mom] ts) (hE : Ed1 ts) (hu : followS agP zs later tb 0 [o] ts ≠ .unsuited) :
    ∃ E, Rep zs tb later o ts (followS agP zs later tb 0 [o] ts) (followL agP zs later o tb none 0 [o] [] ts).2 E := by
  have hnd := nodupL (ag := agP) (zs := zs) (later := later) (o := o) (ts := ts) (tb := tb) (ed := none) (k := 0) (vs := [o]) (lk := []) .nil
  have hln : (followL agP zs later o tb none 0 [o] [] ts).2.length ≤ 3 * ts.length := by
    have := lenL (ag := agP) (later := later) (o := o) z (ts := ts) (tb := tb) (ed := none) (k := 0) (vs := [o]) (lk := [])
    simpa using this
  rcases hE with hn | ⟨t1, i, p, t2, rfl, h1, h2⟩
  · refine ⟨none, hnd, hln, fun x hx => ?_, (fun p m h => nomatch h), fun site d => nowF_none hn, fun pre i p post e => ?_⟩
    · rcases lk_noed hn ok x hx with h | ⟨t, w, hp, rfl⟩
      · cases h
      · exact mark0 hp rfl
    · have := hn (.edition i p) (by rw [e]; simp)
      cases this
  · have ok1 := progFrom_left ok
    have ok2 := progFrom_right ok
    have ef := followL_fst (ag := agP) (zs := zs) (later := later) (org := o) (ts := t1 ++ .edition i p :: t2) (tb := tb) (ed := none) (k := 0) (vs := [o]) (lk := [])
    have ef1 := followL_fst (ag := agP) (zs := zs) (later := later) (org := o) (ts := t1) (tb := tb) (ed := none) (k := 0) (vs := [o]) (lk := [])
    have base : ∀ x, x ∈ (followL agP zs later o tb none 0 [o] [] t1).2 → ∀ E, LkOK zs o tb later E x := by
      intro x hx E
      rcases lk_noed h1 ok1 x hx with h | ⟨t, w, hp, rfl⟩
      · cases h
      · exact mark0 hp rfl
    rcases beginL (ag := agP) (zs := zs) (later := later) (o := o) (tb := tb) (ed := none) (t1 := t1) (u := .edition i p :: t2) (vs := [o]) (k := 0) (lk := []) h1 with ⟨vs1, lk1, e1, e2⟩ | ⟨vs1, k1, lk1, e1, e2⟩
    · rw [e1] at base ef1
      rw [e2] at hnd hln ef ⊢
      have hd1 : followS agP zs later tb 0 [o] t1 = .done vs1 := ef1.symm
      rw [followL] at hnd hln ef ⊢
      simp only [Stp.isEd, Stp.place, Stp.base, true_and, if_true, stepV] at hnd hln ef ⊢
      by_cases ca : agP (getT tb p) (getT later p) (getV vs1 i) = false
      · rw [if_pos ca] at ef
        exact absurd ef.symm hu
      rw [if_neg ca] at hnd hln ef ⊢
      have ca : agP (getT tb p) (getT later p) (getV vs1 i) = true := by simpa using ca
      have hp : p < zs.length := ok2.1.2
      have hs := (z.at hp).sp
      have em : markS o tb none (Stp.edition i p) (getV vs1 i - 1) = ((p : Int), 0, getV vs1 i - 1 - o, offAt (getT tb p).1 (getT tb p).2 (getV vs1 i - 1)) := rfl
      refine ⟨some (p, getV vs1 i), hnd, hln, fun x hx => ?_, fun q m h => ?_, fun site d => ?_, fun pre j q post e vs' hd => ?_⟩
      · rcases lk_noed h2 ok2.2 x hx with h | ⟨t, w, hq, rfl⟩
        · rcases addL_cases h with h | ⟨w, _, rfl⟩
          · exact base x h _
          · exact mark0 hp rfl
        · refine ⟨t.place, w, hq, rfl, rfl, ?_⟩
          have el : tb.length = zs.length := tk.len
          by_cases c : p = t.place
          · have g1 : getT (tb.set p (getT later p)) t.place = getT later t.place := by
              unfold getT
              rw [List.getD_eq_getElem?_getD, c, List.getElem?_set_self (by omega)]; rfl
            have e1 : (markS o (tb.set p (getT later p)) (some (p, getV vs1 i)) t w).2.2.2 = (getT later t.place).of w := by
              show Tb.of (getT (tb.set p (getT later p)) t.place) w = _
              rw [g1]
            by_cases cw : getV vs1 i ≤ w
            · refine .inr ⟨?_, ⟨_, by rw [c], cw⟩, e1⟩
              show (if p = t.place ∧ getV vs1 i ≤ w then (1 : Int) else 0) = 1
              rw [if_pos ⟨c, cw⟩]
            · refine .inl ⟨?_, ?_⟩
              · show (if p = t.place ∧ getV vs1 i ≤ w then (1 : Int) else 0) = 0
                rw [if_neg (fun h => cw h.2)]
              · rw [e1]
                rw [c] at ca
                exact (agP_of (s := (getZ zs t.place).2) (by have := (z.at hq).sp; omega) (tk.tab hq) (tl.tab hq) ca (by omega)).symm
          · refine .inl ⟨?_, ?_⟩
            · show (if p = t.place ∧ getV vs1 i ≤ w then (1 : Int) else 0) = 0
              rw [if_neg (fun h => c h.1)]
            · show Tb.of (getT (tb.set p (getT later p)) t.place) w = _
              have : getT (tb.set p (getT later p)) t.place = getT tb t.place := by
                unfold getT
                rw [List.getD_eq_getElem?_getD, List.getElem?_set_ne c, ← List.getD_eq_getElem?_getD]
              rw [this]
      · cases h
        refine ⟨hp, ca, offAt (getT tb p).1 (getT tb p).2 (getV vs1 i - 1), ?_⟩
        refine followL_mono ?_
        have := addL_mem (org := o) (tb := tb) (ed := none) (t := .edition i p) (lk := lk1) (ws := [getV vs1 i - 1]) (w := getV vs1 i - 1) (by simp)
        rw [em] at this
        exact this
      · rw [nowF_get h2 h1, edNow]
        by_cases c : p = site
        · rw [if_pos c, if_pos c]
          have hl1 := done_len hd1
          simp at hl1
          have hf : followS agP zs later tb 0 [o] (t1 ++ .edition i p :: t2) ≠ .unsuited := hu
          rw [← ef] at hf ⊢
          rw [followL_fst] at hf ⊢
          obtain ⟨more, hm⟩ := vals_more hf
          obtain ⟨mk, hk⟩ := kinds_more (ts := t2) (row := kindsFrom [.mom] t1 ++ [.mom])
          have hrow : kindsFrom [.mom] (t1 ++ .edition i p :: t2) = kindsFrom [.mom] t1 ++ [.mom] ++ mk := by
            rw [kindsFrom_app]; exact hk
          have hkl := kindsFrom_length [.mom] t1
          simp at hkl
          rw [hm, hrow]
          unfold mvV
          rw [List.getElem?_drop, List.getElem?_zipWith]
          have a1 : (kindsFrom [.mom] t1 ++ [.mom] ++ mk)[1 + t1.length]? = some Kd.mom := by
            rw [List.append_assoc, List.getElem?_append_right (by omega)]
            have : 1 + t1.length - (kindsFrom [Kd.mom] t1).length = 0 := by omega
            rw [this]; rfl
          have a2 : (vs1 ++ [getV vs1 i] ++ more)[1 + t1.length]? = some (getV vs1 i) := by
            rw [List.append_assoc, List.getElem?_append_right (by omega)]
            have : 1 + t1.length - vs1.length = 0 := by omega
            rw [this]; rfl
          rw [a1, a2]
          rfl
        · rw [if_neg c, if_neg c]
      · obtain ⟨rfl, rfl, rfl⟩ := ed_one e h1 h2
        rw [hd1] at hd
        cases hd
        rfl
    · rw [e1] at base ef1
      rw [e2] at hnd hln ef ⊢
      have hd1 : followS agP zs later tb 0 [o] t1 = .refused vs1 k1 := ef1.symm
      refine ⟨none, hnd, hln, fun x hx => base x hx _, (fun q m h => nomatch h), fun site d => ?_, fun pre j q post e vs' hd => ?_⟩
      · rw [nowF_get h2 h1, ← ef]
        have := refused_len hd1
        simp at this
        show (if p = site then ((mvV d (kindsFrom [.mom] (t1 ++ .edition i p :: t2)) vs1).drop 1)[t1.length]? else none) = none
        split
        · rw [List.getElem?_eq_none]
          unfold mvV
          rw [List.length_drop, List.length_zipWith]
          omega
        · rfl
      · obtain ⟨rfl, rfl, rfl⟩ := ed_one e h1 h2
        rw [hd1] at hd
        cases hd
end
end Dm
-- text HmMarks
namespace Dm
open PySem L2
section
variable {d o s h : Int} {os : List Int} {js : List (Int × Int)} {zs : Zs} {tb later : List Tb} {ts : List Stp} {lk : List Lk} {E : Option (Nat × Int)} {f : Fin}
/-! ### looks of one place -/
def mkP (x : Lk) : Int × Int := (x.2.2.1, x.2.2.2)
def firstM (lk : List Lk) (p : Nat) : List (Int × Int) := (lk.filter fun x : Lk => decide (x.1 = (p : Int) ∧ x.2.1 = 0)).map mkP
def laterM (lk : List Lk) (p : Nat) (n : Int) : List (Int × Int) := (lk.filter fun x : Lk => decide (x.1 = (p : Int) ∧ (x.2.1 = 1 ∨ x.2.2.1 < n))).map mkP
theorem srt_asc {l : List (Int × Int)} (hp : l.Pairwise fun a b => a.1 ≠ b.1) : (srtP l).Pairwise fun a b => a.1 < b.1 := by
  have h1 := srtP_asc l
  have h2 : (srtP l).Pairwise fun a b => a.1 ≠ b.1 := ((srtP_perm l).pairwise_iff (fun {x y} h => h.symm)).mpr hp
  refine (h1.and h2).imp fun {a b} h => ?_
  have := leP_iff.mp h.1
  have := h.2
  omega
theorem marks_apart {q : Lk → Bool} (hn : lk.Nodup) (hq : ∀ x y, x ∈ lk → y ∈ lk → q x = true → q y = true → x.2.2.1 = y.2.2.1 → x = y) : ((lk.filter q).map mkP).Pairwise fun a b => a.1 ≠ b.1 := by
  rw [List.pairwise_map]
  refine (hn.filter q).imp_of_mem fun {x y} hx hy hne he => hne ?_
  have hx := List.mem_filter.mp hx
  have hy := List.mem_filter.mp hy
  exact hq x y hx.1 hy.1 hx.2 hy.2 he
/-! ### worlds in which the run is the same -/
structure Fits (zs : Zs) (tb later : List Tb) (o : Int) (ts : List Stp) (lk : List Lk) (d : Int) (a b : List Tb) : Prop where
  ta : TbsOK zs a
  tl : TbsOK zs b
  like : ∀ x, x ∈ lk → LikeM (o + d) a b x
  ag : ∀ pre i p post, ts = pre ++ .edition i p :: post → ∀ vs', followS agP zs later tb 0 [o] pre = .done vs' → agP (getT a p) (getT b p) (getV vs' i + d) = true
theorem Fits.run {a b : List Tb} (z : ZsOK zs) (ok : ProgFrom zs.length [.mom] ts) (he : cnt Stp.isEd ts ≤ 1) (hu : followS agP zs later tb 0 [o] ts ≠ .unsuited) (F : Fits zs tb later o ts (followL agP zs later o tb none 0 [o] [] ts).2 d a b) :
    followS agP zs b a 0 [o + d] ts = mvF d (kindsFrom [.mom] ts) (followS agP zs later tb 0 [o] ts) := by
  have h := replay (org := o) (d := d) (tb2 := a) (later2 := b) (later := later) z F.ta F.tl (ts := ts) (tbc := tb) (tbc2 := a) (ed := none) (row := [.mom]) (vs := [o]) (lk := []) (k := 0) ok rfl (fun _ _ => rfl) F.ta.len (fun _ _ h => nomatch h) (.inl rfl) he F.like
    (by rw [followL_fst]; exact hu) F.ag
  have h2 := congrArg Prod.fst h
  have hm : mvV d [.mom] [o] = [o + d] := rfl
  rw [followL_fst, followL_fst, hm] at h2
  exact h2
/-! ### the early world -/
def eT (zs : Zs) (lk : List Lk) (p : Nat) : Tb := (earlyT (getZ zs p).1 (getZ zs p).2 (srtP (firstM lk p))).getD (0, [])
def eN (zs : Zs) (lk : List Lk) (p : Nat) (n : Int) : Tb := (earlyT (getZ zs p).1 (getZ zs p).2 (srtP (laterM lk p n))).getD (0, [])
def eL (zs : Zs) (lk : List Lk) (now : Nat → Option Int) (p : Nat) : Tb := match now p with
  | none => eT zs lk p
  | some n => eN zs lk p n
theorem getT_range {F : Nat → Tb} {n p : Nat} (hp : p < n) : getT ((List.range n).map F) p = F p := by
  unfold getT
  rw [List.getD_eq_getElem?_getD, List.getElem?_map, List.getElem?_range hp]; rfl
theorem tbs_range {F : Nat → Tb} (h : ∀ p, p < zs.length → TabOK (getZ zs p).1 (getZ zs p).2 (F p).1 (F p).2) : TbsOK zs ((List.range zs.length).map F) := by
  refine ⟨by simp, fun p zz t hz ht => ?_⟩
  have hp := (List.getElem?_eq_some_iff.mp hz).1
  rw [List.getElem?_map, List.getElem?_range hp] at ht
  cases ht
  have := getZ_at hp
  rw [hz] at this
  cases this
  exact h p hp
end
end Dm
-- text HmEworld
namespace Dm
open PySem L2
section
variable {S : Sto} {os : List Int} {s : Int} {ls : List (Int × Int)} {lk : List Lk} {p : Nat}
theorem shapedT_two (a b : Int) : SeqAt.shaped (.tuple [.int a, .int b]) = true := by
  simp [SeqAt.shaped, PyData.canLay0, PyData.depth, PyData.canLayAll0, PyData.depthAll]
theorem gEqT_two {a b c d : Int} : gEq S (.tup [.int a, .int b]) (.tup [.int c, .int d]) = some (.bl (a == c && b == d)) := by
  show (if SeqAt.shaped (.tuple [.int a, .int b]) = true ∧ SeqAt.shaped (.tuple [.int c, .int d]) = true then some (PyData.eqv (.tuple [.int a, .int b]) (.tuple [.int c, .int d])) else none).map D.bl = _
  rw [if_pos ⟨shapedT_two a b, shapedT_two c d⟩]
  simp [PyData.eqv, PyData.eqvAll]
theorem cut_l2 {a b c d : D} : cutD [a, b, c, d] none (some 2) = [a, b] := rfl
theorem cut_r2 {a b c d : D} : cutD [a, b, c, d] (some 2) none = [c, d] := rfl
end
end Dm
-- text HmCas1
namespace Dm
open PySem L2
section
variable {S : Sto} {zs : Zs} {os : List Int} {s m : Int} {lk : List Lk} {p : Nat} {now : Option Int} {ts : List Stp} {vs : List Int}
/-! ### cases: the small functions -/
def sideM (lk : List Lk) (p : Nat) (e : Int) : List (Int × Int) := (lk.filter fun x : Lk => decide (x.1 = (p : Int) ∧ x.2.1 = e)).map mkP
def edOf (now : Option Int) (m : Int) : Int := match now with
  | none => 0
  | some n => if n ≤ m then 1 else 0
def known (lk : List Lk) (p : Nat) (e m : Int) : Option Int := (lk.find? fun x : Lk => decide (x.1 = (p : Int) ∧ x.2.1 = e ∧ x.2.2.1 = m)).map (·.2.2.2)
def laterL (lk : List Lk) (p : Nat) (n : Int) : List (Int × Int) := ((srtP (sideM lk p 0)).filter fun x => decide (x.1 < n)) ++ srtP (sideM lk p 1)
def fitB (z : List Int × Int) (lk : List Lk) (p : Nat) (now : Option Int) : Bool := (crow z.2 (srtP (sideM lk p 0))).isNone && match now with
  | none => true
  | some n => (crow z.2 (laterL lk p n)).isNone
def longL (zs : Zs) (lk : List Lk) (p : Nat) (now : Option Int) (m : Int) : List (List Lk) := match known lk p (edOf now m) m with
  | some _ => [lk]
  | none => ((getZ zs p).1.map fun o => lk ++ [((p : Int), edOf now m, m, o)]).filter fun l => fitB (getZ zs p) l p now
theorem edition_at_ok (h1 : 1 ≤ vs.length) (hv : vs.length ≤ ts.length + 1) (hl : ts.length ≤ 60) : m_edition_at [progD ts, .tup (vs.map .int), .int p] S = .ok (optD (nowF p ts (vs.drop 1))) S := by
  refine pure_of fun Q q => ?_
  refine does_def rfl ?_
  simp [progD]
  rw [cut_take (by omega), enumD_eq]
  have e0 : ((vs.length : Int) - 1).toNat = vs.length - 1 := by omega
  rw [e0, ← List.map_take]
  refine forL_cut (fun ds ρ S' => S = S' ∧ ∃ (k : Nat) (x3 x4 : Option D), ds = enumF k (((ts.take (vs.length - 1)).drop k).map Stp.d) ∧ k ≤ vs.length - 1 ∧ ρ = [some (.tup (ts.map Stp.d)), some (.tup (vs.map .int)), some (.int p), x3, x4] ∧ nowF p (ts.drop k) (vs.drop (k + 1)) = nowF p ts (vs.drop 1)) _
    ⟨rfl, 0, none, none, by simp, by omega, rfl, by simp⟩ ?_ ?_
  · rintro d ds ρ S1 ⟨rfl, k, x3, x4, e, hk, rfl, hn⟩
    have hkl : k < (ts.take (vs.length - 1)).length := by
      refine Nat.lt_of_not_le fun h => ?_
      rw [List.drop_eq_nil_of_le h] at e
      cases e
    have hkv : k < vs.length - 1 := by
      rw [List.length_take] at hkl
      omega
    have hkt : k < ts.length := by omega
    rw [List.drop_eq_getElem_cons hkl, List.map_cons] at e
    have et : (ts.take (vs.length - 1))[k] = ts[k] := List.getElem_take
    rw [et] at e
    injection e with e1 e2
    subst e1
    refine ⟨_, rfl, fun M hM => ?_⟩
    have at2 : atI (vs.map D.int) ((k : Int) + 1) = some (.int (vs[k + 1])) := by
      rw [atI_of (by omega) (by rw [List.length_map]; omega)]
      have : ((k : Int) + 1).toNat = k + 1 := by omega
      simp [this, show k + 1 < vs.length by omega]
    have ed1 : ts.drop k = ts[k] :: ts.drop (k + 1) := List.drop_eq_getElem_cons hkt
    have ed2 : vs.drop (k + 1) = vs[k + 1] :: vs.drop (k + 2) := List.drop_eq_getElem_cons (by omega)
    rw [ed1, ed2, nowF] at hn
    generalize ts[k] = t at hn
    have next : ¬ (t.isEd = true ∧ t.place = p) → M [some (.tup (ts.map Stp.d)), some (.tup (vs.map .int)), some (.int p), some (.int k), some t.d] S := by
      intro hne
      rw [if_neg hne] at hn
      exact hM _ _ ⟨rfl, k + 1, _, _, e2, by omega, rfl, hn⟩
    by_cases hE : t.isEd = true
    · obtain ⟨i, p', rfl⟩ : ∃ i p', t = .edition i p' := ⟨_, _, ed_form hE⟩
      by_cases hp : p' = p
      · subst hp
        rw [if_pos ⟨rfl, rfl⟩] at hn
        rw [← hn] at q
        simp (decide := true) [at2, Stp.d]
        exact q
      · have hpi : ¬ ((p' : Int) = (p : Int)) := by omega
        simp (decide := true) [Stp.d, hpi]
        exact next fun h => hp h.2
    · cases t with
      | edition i p => exact absurd rfl hE
      | _ =>
        simp (decide := true) [Stp.d]
        exact next fun h => hE h.1
  · rintro ρ S1 ⟨rfl, k, x3, x4, e, hk, rfl, hn⟩
    have hkl : ¬ k < (ts.take (vs.length - 1)).length := by
      intro h
      rw [List.drop_eq_getElem_cons h] at e
      cases e
    rw [List.length_take] at hkl
    have ed2 : vs.drop (k + 1) = [] := List.drop_eq_nil_of_le (by omega)
    rw [ed2, nowF_nil] at hn
    rw [← hn] at q
    try simp
    exact q
theorem looks_in_ok {e : Int} : m_looks_in [.tup (lk.map lkD), .int p, .int e] S = .ok (looksD (srtP (sideM lk p e))) S := by
  refine pure_of fun Q q => ?_
  refine does_def rfl ?_
  simp [wipeD]
  refine lcQ_filter (as := lk) (i := lkD) (fun x : Lk => decide (x.1 = (p : Int) ∧ x.2.1 = e)) (fun x : Lk => prD (mkP x)) ?_ ?_
  · intro x _
    obtain ⟨a, b, c, o⟩ := x
    refine ⟨_, rfl, fun Q q => ?_, fun Q _ q => ?_⟩
    · simp [lkD, cut_l2, gEqT_two]
      have : (a == (p : Int) && b == e) = decide (a = (p : Int) ∧ b = e) := by
        rw [Bool.decide_and]; rfl
      simp only [this]
      exact q
    · simp [lkD, cut_r2]
      exact q
  · have e : ((lk.filter fun x : Lk => decide (x.1 = (p : Int) ∧ x.2.1 = e)).map fun x : Lk => prD (mkP x)) = (sideM lk p e).map prD := by
      unfold sideM
      rw [List.map_map]; rfl
    rw [e, gSort_pairs (d := .lst ((sideM lk p _).map prD)) rfl]
    simp
    exact q
theorem later_looks_ok {n : Int} (hl : lk.length ≤ 1000) : m_later_looks [.tup (lk.map lkD), .int p, .int n] S = .ok (looksD (laterL lk p n)) S := by
  refine pure_of fun Q q => ?_
  refine does_def rfl ?_
  have l0 : (srtP (sideM lk p 0)).length ≤ lk.length := by
    rw [(srtP_perm _).length_eq]
    unfold sideM
    rw [List.length_map]
    exact List.length_filter_le _ _
  have l1 : (srtP (sideM lk p 1)).length ≤ lk.length := by
    rw [(srtP_perm _).length_eq]
    unfold sideM
    rw [List.length_map]
    exact List.length_filter_le _ _
  simp [wipeD, looks_in_ok]
  unfold looksD
  simp
  refine lcQ_filter (as := srtP (sideM lk p 0)) (i := jmpD) (fun x : Int × Int => decide (x.1 < n)) jmpD ?_ ?_
  · intro x _
    refine ⟨_, rfl, fun Q q => ?_, fun Q _ q => ?_⟩
    · simp
      exact q
    · simp
      exact q
  · have := List.length_filter_le (fun x : Int × Int => decide (x.1 < n)) (srtP (sideM lk p 0))
    simp
    refine ⟨by omega, ?_⟩
    unfold laterL looksD at q
    simpa using q
theorem edition_of_ok : m_edition_of [optD now, .int m] S = .ok (.int (edOf now m)) S := by
  refine pure_of fun Q q => ?_
  refine does_def rfl ?_
  cases now with
  | none =>
    simp [optD]
    exact q
  | some n =>
    simp [optD]
    unfold edOf at q
    by_cases c : n ≤ m
    · simp only [if_pos c] at q
      simp [c]
      exact q
    · simp only [if_neg c] at q
      simp [c]
      exact q
end
end Dm
-- text HmCas2
namespace Dm
open PySem L2
section
variable {S : Sto} {zs : Zs} {os : List Int} {s m : Int} {lk : List Lk} {p : Nat} {ts : List Stp} {vs : List Int} {now : Nat → Option Int}
/-! ### looks that can be looked at further -/
structure LkW (zs : Zs) (now : Nat → Option Int) (lk : List Lk) : Prop where
  nodup : lk.Nodup
  each : ∀ x, x ∈ lk → ∃ p : Nat, p < zs.length ∧ x.1 = (p : Int) ∧ x.2.2.2 ∈ (getZ zs p).1 ∧ (x.2.1 = 0 ∨ x.2.1 = 1 ∧ ∃ n, now p = some n ∧ n ≤ x.2.2.1)
  uniq : ∀ x, x ∈ lk → ∀ y, y ∈ lk → x.1 = y.1 → x.2.1 = y.2.1 → x.2.2.1 = y.2.2.1 → x = y
theorem LkW.nil : LkW zs now [] := ⟨.nil, (fun _ h => nomatch h), fun _ h => nomatch h⟩
theorem LkW.side (w : LkW zs now lk) (hp : p < zs.length) {e : Int} : LooksOK (getZ zs p).1 (srtP (sideM lk p e)) := by
  refine ⟨fun l hl => ?_, srt_asc ?_⟩
  · have := (srtP_perm _).mem_iff.mp hl
    obtain ⟨x, hx, rfl⟩ := List.mem_map.mp this
    obtain ⟨hx, hd⟩ := List.mem_filter.mp hx
    obtain ⟨h1, h2⟩ := of_decide_eq_true hd
    obtain ⟨p', hp', e1, e2, _⟩ := w.each x hx
    have : p' = p := by omega
    subst this
    exact e2
  · refine marks_apart w.nodup fun x y hx hy qx qy e => ?_
    obtain ⟨a1, a2⟩ := of_decide_eq_true qx
    obtain ⟨b1, b2⟩ := of_decide_eq_true qy
    exact w.uniq x hx y hy (by omega) (by omega) e
theorem LkW.side1 (w : LkW zs now lk) {n : Int} (hn : now p = some n) : ∀ l, l ∈ srtP (sideM lk p 1) → n ≤ l.1 := by
  intro l hl
  have := (srtP_perm _).mem_iff.mp hl
  obtain ⟨x, hx, rfl⟩ := List.mem_map.mp this
  obtain ⟨hx, hd⟩ := List.mem_filter.mp hx
  obtain ⟨h1, h2⟩ := of_decide_eq_true hd
  obtain ⟨p', hp', e1, e2, e3⟩ := w.each x hx
  have : p' = p := by omega
  subst this
  rcases e3 with e3 | ⟨_, n', e4, e5⟩
  · omega
  · rw [hn] at e4
    cases e4
    exact e5
theorem LkW.later (w : LkW zs now lk) (hp : p < zs.length) {n : Int} (hn : now p = some n) : LooksOK (getZ zs p).1 (laterL lk p n) := by
  have h0 := w.side (e := 0) hp
  have h1 := w.side (e := 1) hp
  refine ⟨fun l hl => ?_, ?_⟩
  · rcases List.mem_append.mp hl with hl | hl
    · exact h0.mem l (List.mem_filter.mp hl).1
    · exact h1.mem l hl
  · refine List.pairwise_append.mpr ⟨h0.asc.filter _, h1.asc, fun a ha b hb => ?_⟩
    have := of_decide_eq_true (List.mem_filter.mp ha).2
    have := w.side1 hn b hb
    omega
theorem known_none {e : Int} (h : known lk p e m = none) : ∀ x, x ∈ lk → ¬ (x.1 = (p : Int) ∧ x.2.1 = e ∧ x.2.2.1 = m) := by
  intro x hx hc
  unfold known at h
  rw [Option.map_eq_none_iff, List.find?_eq_none] at h
  exact h x hx (decide_eq_true hc)
theorem LkW.snoc {o : Int} (w : LkW zs now lk) (hp : p < zs.length) (ho : o ∈ (getZ zs p).1) (hk : known lk p (edOf (now p) m) m = none) : LkW zs now (lk ++ [((p : Int), edOf (now p) m, m, o)]) := by
  have hn := known_none hk
  refine ⟨?_, fun x hx => ?_, fun x hx y hy h1 h2 h3 => ?_⟩
  · rw [List.nodup_append]
    refine ⟨w.nodup, by simp, fun a ha b hb e => ?_⟩
    simp at hb
    subst hb
    exact hn a ha (by rw [e]; exact ⟨rfl, rfl, rfl⟩)
  · rcases List.mem_append.mp hx with hx | hx
    · exact w.each x hx
    · simp at hx
      subst hx
      refine ⟨p, hp, rfl, ho, ?_⟩
      unfold edOf
      cases e : now p with
      | none => exact .inl rfl
      | some n =>
        by_cases c : n ≤ m
        · exact .inr ⟨by simp [c], n, rfl, c⟩
        · exact .inl (by simp [c])
  · rcases List.mem_append.mp hx with hx | hx
    · rcases List.mem_append.mp hy with hy | hy
      · exact w.uniq x hx y hy h1 h2 h3
      · simp at hy
        subst hy
        exact absurd ⟨h1, h2, h3⟩ (hn x hx)
    · simp at hx
      subst hx
      rcases List.mem_append.mp hy with hy | hy
      · exact absurd ⟨h1.symm, h2.symm, h3.symm⟩ (hn y hy)
      · simp at hy
        exact hy.symm
/-! ### the walks -/
theorem shapedT_three (a b c : Int) : SeqAt.shaped (.tuple [.int a, .int b, .int c]) = true := by
  simp [SeqAt.shaped, PyData.canLay0, PyData.depth, PyData.canLayAll0, PyData.depthAll]
theorem gEqT_three {a b c d e f : Int} : gEq S (.tup [.int a, .int b, .int c]) (.tup [.int d, .int e, .int f]) = some (.bl (a == d && (b == e && c == f))) := by
  show (if SeqAt.shaped (.tuple [.int a, .int b, .int c]) = true ∧ SeqAt.shaped (.tuple [.int d, .int e, .int f]) = true then some (PyData.eqv (.tuple [.int a, .int b, .int c]) (.tuple [.int d, .int e, .int f])) else none).map D.bl = _
  rw [if_pos ⟨shapedT_three a b c, shapedT_three d e f⟩]
  simp [PyData.eqv, PyData.eqvAll]
theorem cut_l3 {a b c d : D} : cutD [a, b, c, d] none (some 3) = [a, b, c] := rfl
theorem offset_known_ok {now : Option Int} : m_offset_known [.tup (lk.map lkD), .int p, optD now, .int m] S = .ok (optD (known lk p (edOf now m) m)) S := by
  refine pure_of fun Q q => ?_
  refine does_def rfl ?_
  simp [edition_of_ok]
  generalize edOf now m = e at q
  refine forL_cut (fun ds ρ S' => S = S' ∧ ∃ (l : List Lk) (x5 : Option D), ds = l.map lkD ∧ ρ = [some (.tup (lk.map lkD)), some (.int p), some (optD now), some (.int m), some (.int e), x5] ∧ known l p e m = known lk p e m) _
    ⟨rfl, lk, none, rfl, rfl, rfl⟩ ?_ ?_
  · rintro d ds ρ S1 ⟨rfl, l, x5, el, rfl, hk⟩
    cases l with
    | nil => cases el
    | cons x l =>
      rw [List.map_cons] at el
      injection el with e1 e2
      subst e1
      refine ⟨_, rfl, fun M hM => ?_⟩
      obtain ⟨a, b, c, o⟩ := x
      unfold known at hk
      rw [List.find?_cons] at hk
      by_cases c1 : a = (p : Int) ∧ b = e ∧ c = m
      · have : decide (a = (p : Int) ∧ b = e ∧ c = m) = true := decide_eq_true c1
        simp only [this] at hk
        unfold known at q
        rw [← hk] at q
        obtain ⟨rfl, rfl, rfl⟩ := c1
        simp [lkD, cut_l3, gEqT_three]
        exact q
      · have : decide (a = (p : Int) ∧ b = e ∧ c = m) = false := decide_eq_false c1
        simp only [this] at hk
        have hb : (a == (p : Int) && (b == e && c == m)) = false := by
          rw [Bool.eq_false_iff]
          intro h
          simp at h
          exact c1 h
        simp [lkD, cut_l3, gEqT_three, hb]
        exact hM _ _ ⟨rfl, l, _, e2, rfl, hk⟩
  · rintro ρ S1 ⟨rfl, l, x5, el, rfl, hk⟩
    cases l with
    | cons x l => cases el
    | nil =>
      rw [← hk] at q
      try simp
      exact q
theorem sideM_len {e : Int} : (srtP (sideM lk p e)).length ≤ lk.length := by
  rw [(srtP_perm _).length_eq]
  unfold sideM
  rw [List.length_map]
  exact List.length_filter_le _ _
theorem laterL_len {n : Int} : (laterL lk p n).length ≤ 2 * lk.length := by
  unfold laterL
  rw [List.length_append]
  have := sideM_len (lk := lk) (p := p) (e := 0)
  have := sideM_len (lk := lk) (p := p) (e := 1)
  have := List.length_filter_le (fun x : Int × Int => decide (x.1 < n)) (srtP (sideM lk p 0))
  omega
theorem both_fit_does {Q : D → Sto → Prop} (z : ZsOK zs) (w : LkW zs now lk) (hp : p < zs.length) (hl : lk.length ≤ 400) (q : ∀ S', Grow S S' → Q (.bl (fitB (getZ zs p) lk p (now p))) S') :
    (m_both_fit [zoneD (getZ zs p).1 (getZ zs p).2, .tup (lk.map lkD), .int p, optD (now p)] S).Does Q := by
  refine does_def rfl ?_
  have l0 := sideM_len (lk := lk) (p := p) (e := 0)
  simp [looks_in_ok]
  refine looks_fit_does (z.at hp) (w.side hp) (by omega) fun c => ?_
  unfold fitB at q
  cases h0 : (crow (getZ zs p).2 (srtP (sideM lk p 0))).isNone with
  | false =>
    simp only [h0, Bool.false_and] at q
    simp
    exact q _ ⟨_, rfl⟩
  | true =>
    simp only [h0, Bool.true_and] at q
    simp
    cases hn : now p with
    | none =>
      rw [hn] at q
      simp [optD]
      exact q _ ⟨_, rfl⟩
    | some n =>
      rw [hn] at q
      have l1 := laterL_len (lk := lk) (p := p) (n := n)
      simp [optD, later_looks_ok (show lk.length ≤ 1000 by omega)]
      refine looks_fit_does (z.at hp) (w.later hp hn) (by omega) fun c2 => ?_
      exact q _ ⟨[c, c2], by simp⟩
theorem longer_looked_does {Q : D → Sto → Prop} (z : ZsOK zs) (w : LkW zs now lk) (hp : p < zs.length) (hl : lk.length ≤ 300) (q : ∀ S', Grow S S' → Q (.lst ((longL zs lk p (now p) m).map fun l => .tup (l.map lkD))) S') :
    (m_longer_looked [zonesD zs, .tup (lk.map lkD), .int p, optD (now p), .int m] S).Does Q := by
  refine does_def rfl ?_
  simp [offset_known_ok]
  unfold longL at q
  cases hk : known lk p (edOf (now p) m) m with
  | some o =>
    rw [hk] at q
    simp [optD]
    exact q S .refl
  | none =>
    rw [hk] at q
    have hzk := ix_zones (S := S) hp
    have hno : optD (none : Option Int) = .non := rfl
    simp [hno, hzk, wipeD]
    refine lcQ_filter (as := (getZ zs p).1) (i := D.int) (fun _ => true) (fun o => .tup ((lk ++ [((p : Int), edOf (now p) m, m, o)]).map lkD)) ?_ ?_
    · intro o ho
      refine ⟨_, rfl, fun Q q => q, fun Q _ q => ?_⟩
      simp [edition_of_ok]
      refine ⟨by omega, ?_⟩
      simpa [lkD] using q
    · have e : ((getZ zs p).1.filter fun _ : Int => true) = (getZ zs p).1 := List.filter_eq_self.mpr fun _ _ => rfl
      rw [e]
      simp
      have e2 : ((getZ zs p).1.map fun o => D.tup (lk.map lkD ++ [lkD ((p : Int), edOf (now p) m, m, o)])) = ((getZ zs p).1.map fun o => lk ++ [((p : Int), edOf (now p) m, m, o)]).map fun l => D.tup (l.map lkD) := by simp
      rw [e2]
      generalize hL : (getZ zs p).1.map (fun o => lk ++ [((p : Int), edOf (now p) m, m, o)]) = L at q
      rw [← lcAQ_fix (d := .lst (L.map fun l => D.tup (l.map lkD))) (n := L.length) (.inr rfl) (by simp)]
      refine lcAQ_ext (I := Grow S) (as := L) (i := fun l : List Lk => D.tup (l.map lkD)) (fun l => fitB (getZ zs p) l p (now p)) (fun l => D.tup (l.map lkD)) rfl (fun _ _ => rfl) .refl ?_ q
      intro l hl' S1 g1
      rw [← hL] at hl'
      obtain ⟨o, ho, rfl⟩ := List.mem_map.mp hl'
      refine ⟨_, rfl, ?_, fun S2 g2 _ => ?_⟩
      · have hzk1 := ix_zones (S := S1) hp
        simp [hzk1]
        have := both_fit_does (S := S1) (Q := fun d S2 => d = D.bl (fitB (getZ zs p) (lk ++ [((p : Int), edOf (now p) m, m, o)]) p (now p)) ∧ Grow S S2) z (w.snoc hp ho hk) hp (by simp; omega) fun S2 g2 => ⟨rfl, g1.trans g2⟩
        simpa using this
      · simp
        exact g2
end
end Dm
-- text HmCas3
namespace Dm
open PySem L2
section
variable {S : Sto} {zs : Zs} {os : List Int} {s m o : Int} {lk b : List Lk} {p : Nat} {ts : List Stp} {vs : List Int} {now now2 : Nat → Option Int} {ms : List Int}
/-! ### the cases, as lists -/
abbrev Case := List Lk × List Int × Option Nat
def optN : Option Nat → D
  | none => .non
  | some k => .int k
def caseD (c : Case) : D := .tup [.tup (c.1.map lkD), .tup (c.2.1.map .int), optN c.2.2]
def branchL (zs : Zs) (now : Nat → Option Int) (p : Nat) (lk : List Lk) (ms : List Int) : List (List Lk) := ms.foldl (fun bs m => bs.flatMap fun b => longL zs b p (now p) m) [lk]
/-- the early table of a place as it holds now -/
def curE (zs : Zs) (lk : List Lk) (now : Nat → Option Int) (p : Nat) : Tb := match now p with
  | none => (earlyT (getZ zs p).1 (getZ zs p).2 (srtP (sideM lk p 0))).getD (0, [])
  | some n => (earlyT (getZ zs p).1 (getZ zs p).2 (laterL lk p n)).getD (0, [])
def tbE (zs : Zs) (lk : List Lk) (now : Nat → Option Int) : List Tb := (List.range zs.length).map (curE zs lk now)
def nowOf (ts : List Stp) (vs : List Int) (p : Nat) : Option Int := nowF p ts (vs.drop 1)
def madeL (zs : Zs) (now : Nat → Option Int) (k : Nat) (t : Stp) (vs : List Int) (b : List Lk) : Case := match stepV zs (tbE zs b now) vs t with
  | none => (b, vs, some k)
  | some v => (b, vs ++ [v], none)
def behindL (zs : Zs) (ts : List Stp) (k : Nat) (c : Case) : List Case := match c.2.2 with
  | some _ => [c]
  | none => (branchL zs (nowOf ts c.2.1) (ts.getD k (.add 0 0)).place c.1 (askedS zs c.2.1 (ts.getD k (.add 0 0)))).map (madeL zs (nowOf ts c.2.1) k (ts.getD k (.add 0 0)) c.2.1)
def talesL (zs : Zs) (ts : List Stp) : Nat → List Case
  | 0 => [([], [0], none)]
  | k + 1 => (talesL zs ts k).flatMap (behindL zs ts k)
/-! ### what fits -/
def FitA (zs : Zs) (now : Nat → Option Int) (lk : List Lk) : Prop := ∀ p, p < zs.length → fitB (getZ zs p) lk p (now p) = true
theorem fit_first (z : ZsOK zs) (w : LkW zs now lk) (f : FitA zs now lk) (hp : p < zs.length) : ∃ T, earlyT (getZ zs p).1 (getZ zs p).2 (srtP (sideM lk p 0)) = some T := by
  have h := f p hp
  unfold fitB at h
  rw [Bool.and_eq_true] at h
  exact (fit_iff (by have := (z.at hp).sp; omega) (w.side hp).asc).mpr (by simpa using h.1)
theorem fit_later (z : ZsOK zs) (w : LkW zs now lk) (f : FitA zs now lk) (hp : p < zs.length) {n : Int} (hn : now p = some n) : ∃ T, earlyT (getZ zs p).1 (getZ zs p).2 (laterL lk p n) = some T := by
  have h := f p hp
  unfold fitB at h
  rw [Bool.and_eq_true, hn] at h
  exact (fit_iff (by have := (z.at hp).sp; omega) (w.later hp hn).asc).mpr (by simpa using h.2)
theorem curE_ok (z : ZsOK zs) (w : LkW zs now lk) (f : FitA zs now lk) (hp : p < zs.length) : TabOK (getZ zs p).1 (getZ zs p).2 (curE zs lk now p).1 (curE zs lk now p).2 ∧ ∀ m o, known lk p (edOf (now p) m) m = some o → (curE zs lk now p).of m = o := by
  have inside : ∀ e m o, known lk p e m = some o → (m, o) ∈ srtP (sideM lk p e) := by
    intro e m o h
    unfold known at h
    cases hf : lk.find? fun x : Lk => decide (x.1 = (p : Int) ∧ x.2.1 = e ∧ x.2.2.1 = m) with
    | none => rw [hf] at h; cases h
    | some x =>
      rw [hf] at h
      cases h
      have h1 := List.mem_of_find?_eq_some hf
      have hd := List.find?_some hf
      obtain ⟨h2, h3, h4⟩ := of_decide_eq_true hd
      refine (srtP_perm _).mem_iff.mpr (List.mem_map.mpr ⟨x, List.mem_filter.mpr ⟨h1, decide_eq_true ⟨h2, h3⟩⟩, ?_⟩)
      show (x.2.2.1, x.2.2.2) = _
      rw [h4]
  unfold curE
  cases hn : now p with
  | none =>
    obtain ⟨T, e⟩ := fit_first z w f hp
    simp only [e, Option.getD_some]
    refine ⟨earlyT_tab (z.at hp) (w.side hp) e, fun m o hk => ?_⟩
    exact earlyT_holds (w.side hp) e _ (inside 0 m o hk)
  | some n =>
    obtain ⟨T, e⟩ := fit_later z w f hp hn
    simp only [e, Option.getD_some]
    refine ⟨earlyT_tab (z.at hp) (w.later hp hn) e, fun m o hk => ?_⟩
    refine earlyT_holds (w.later hp hn) e (m, o) ?_
    unfold edOf at hk
    simp only at hk
    by_cases c : n ≤ m
    · rw [if_pos c] at hk
      exact List.mem_append_right _ (inside 1 m o hk)
    · rw [if_neg c] at hk
      exact List.mem_append_left _ (List.mem_filter.mpr ⟨inside 0 m o hk, by simp; omega⟩)
theorem tbE_ok (z : ZsOK zs) (w : LkW zs now lk) (f : FitA zs now lk) : TbsOK zs (tbE zs lk now) := tbs_range fun p hp => (curE_ok z w f hp).1
theorem tbE_at (hp : p < zs.length) : getT (tbE zs lk now) p = curE zs lk now p := getT_range hp
/-! ### one look more -/
theorem sideM_snoc {x : Lk} {q : Nat} {e : Int} (h : ¬ (x.1 = (q : Int) ∧ x.2.1 = e)) : sideM (lk ++ [x]) q e = sideM lk q e := by
  unfold sideM
  rw [List.filter_append]
  have : [x].filter (fun x : Lk => decide (x.1 = (q : Int) ∧ x.2.1 = e)) = [] := by
    rw [List.filter_cons, if_neg (by simpa using fun a b => h ⟨a, b⟩)]; rfl
  rw [this, List.append_nil]
theorem FitA.snoc {e : Int} (f : FitA zs now lk) (h : fitB (getZ zs p) (lk ++ [((p : Int), e, m, o)]) p (now p) = true) : FitA zs now (lk ++ [((p : Int), e, m, o)]) := by
  intro q hq
  by_cases c : q = p
  · subst c
    exact h
  · have hs : ∀ e', sideM (lk ++ [((p : Int), e, m, o)]) q e' = sideM lk q e' := fun e' => sideM_snoc fun ⟨h1, _⟩ => c (by simp at h1; omega)
    have := f q hq
    unfold fitB laterL at this ⊢
    simp only [hs]
    exact this
theorem known_more {add : List Lk} {e m' : Int} (h : known lk p e m' = some o) : known (lk ++ add) p e m' = some o := by
  unfold known at h ⊢
  rw [List.find?_append]
  cases hf : lk.find? fun x : Lk => decide (x.1 = (p : Int) ∧ x.2.1 = e ∧ x.2.2.1 = m') with
  | none => rw [hf] at h; cases h
  | some x => rw [hf] at h; exact h
theorem known_new {e : Int} (h : known lk p e m = none) : known (lk ++ [((p : Int), e, m, o)]) p e m = some o := by
  unfold known at h ⊢
  rw [Option.map_eq_none_iff] at h
  rw [List.find?_append, h]
  simp
/-- a branch of a case behind some looks -/
structure BrW (zs : Zs) (now : Nat → Option Int) (p : Nat) (lk : List Lk) (ms : List Int) (b : List Lk) : Prop where
  w : LkW zs now b
  f : FitA zs now b
  ex : ∃ add, b = lk ++ add ∧ add.length ≤ ms.length
  mo : ∀ x, x ∈ b → x ∈ lk ∨ x.2.2.1 ∈ ms
  k : ∀ m, m ∈ ms → ∃ o, known b p (edOf (now p) m) m = some o
theorem long_ok (hp : p < zs.length) {c : List Lk} (h : BrW zs now p lk ms b) (hc : c ∈ longL zs b p (now p) m) : BrW zs now p lk (ms ++ [m]) c := by
  obtain ⟨add, ea, la⟩ := h.ex
  unfold longL at hc
  cases hk : known b p (edOf (now p) m) m with
  | some o =>
    rw [hk] at hc
    simp at hc
    subst hc
    refine ⟨h.w, h.f, ⟨add, ea, by simp; omega⟩, fun x hx => (h.mo x hx).imp id fun h => List.mem_append_left _ h, fun m' hm => ?_⟩
    rcases List.mem_append.mp hm with hm | hm
    · exact h.k m' hm
    · simp at hm
      subst hm
      exact ⟨o, hk⟩
  | none =>
    rw [hk] at hc
    obtain ⟨hc, hfit⟩ := List.mem_filter.mp hc
    obtain ⟨o, ho, rfl⟩ := List.mem_map.mp hc
    refine ⟨h.w.snoc hp ho hk, h.f.snoc hfit, ⟨add ++ [((p : Int), edOf (now p) m, m, o)], by rw [ea]; simp, by simp; omega⟩, fun x hx => ?_, fun m' hm => ?_⟩
    · rcases List.mem_append.mp hx with hx | hx
      · exact (h.mo x hx).imp id fun h => List.mem_append_left _ h
      · simp at hx
        subst hx
        exact .inr (by simp)
    rcases List.mem_append.mp hm with hm | hm
    · obtain ⟨o', h'⟩ := h.k m' hm
      exact ⟨o', known_more h'⟩
    · simp at hm
      subst hm
      exact ⟨o, known_new hk⟩
theorem long_len {n : Option Int} (z : ZsOK zs) (hp : p < zs.length) : (longL zs b p n m).length ≤ 3 := by
  unfold longL
  have := (z.at hp).len
  split
  · simp
  · have h := List.length_filter_le (fun l => fitB (getZ zs p) l p n) ((getZ zs p).1.map fun o => b ++ [((p : Int), edOf n m, m, o)])
    rw [List.length_map] at h
    omega
theorem flat_le {α β : Type} {f : α → List β} {n : Nat} : ∀ {l : List α}, (∀ x, x ∈ l → (f x).length ≤ n) → (l.flatMap f).length ≤ n * l.length
  | [], _ => by simp
  | x :: l, h => by
    rw [List.flatMap_cons, List.length_append]
    have h1 := h x List.mem_cons_self
    have h2 := flat_le (l := l) fun y hy => h y (List.mem_cons_of_mem _ hy)
    rw [List.length_cons, Nat.mul_succ]
    omega
theorem branch_ok (z : ZsOK zs) (hp : p < zs.length) (w : LkW zs now lk) (f : FitA zs now lk) : ∀ {rest done : List Int} {bs : List (List Lk)}, (∀ b, b ∈ bs → BrW zs now p lk done b) → bs.length ≤ 3 ^ done.length →
    (∀ b, b ∈ rest.foldl (fun bs m => bs.flatMap fun b => longL zs b p (now p) m) bs → BrW zs now p lk (done ++ rest) b) ∧ (rest.foldl (fun bs m => bs.flatMap fun b => longL zs b p (now p) m) bs).length ≤ 3 ^ (done ++ rest).length
  | [], done, bs, h, hl => by
    rw [List.append_nil]
    exact ⟨h, hl⟩
  | m :: rest, done, bs, h, hl => by
    rw [List.foldl_cons]
    have := branch_ok z hp w f (rest := rest) (done := done ++ [m]) (bs := bs.flatMap fun b => longL zs b p (now p) m) (fun c hc => by
      obtain ⟨b, hb, hc⟩ := List.mem_flatMap.mp hc
      exact long_ok hp (h b hb) hc) (by
      have := flat_le (f := fun b => longL zs b p (now p) m) (n := 3) (l := bs) fun b _ => long_len z hp
      rw [List.length_append, List.length_singleton, Nat.pow_succ]
      omega)
    rw [List.append_assoc, List.singleton_append] at this
    exact this
theorem branch_all (z : ZsOK zs) (hp : p < zs.length) (w : LkW zs now lk) (f : FitA zs now lk) : (∀ b, b ∈ branchL zs now p lk ms → BrW zs now p lk ms b) ∧ (branchL zs now p lk ms).length ≤ 3 ^ ms.length := by
  have := branch_ok z hp w f (rest := ms) (done := []) (bs := [lk]) (fun b hb => by
    simp at hb
    subst hb
    exact ⟨w, f, ⟨[], by simp, by simp⟩, fun x hx => .inl hx, fun m h => nomatch h⟩) (by simp)
  exact this
end
end Dm
-- text HmCas4
namespace Dm
open PySem L2
section
variable {S : Sto} {zs : Zs} {os : List Int} {s m o : Int} {lk b : List Lk} {p : Nat} {ts : List Stp} {vs : List Int} {now now2 : Nat → Option Int} {ms : List Int} {row : List Kd} {t : Stp} {tb : List Tb} {c : Nat}
theorem ix_tupI {i : Nat} (hi : i < vs.length) : atI (vs.map D.int) (i : Int) = some (.int (getV vs i)) := by
  rw [atI_of (by omega) (by rw [List.length_map]; omega)]
  simp [getV_at hi]
theorem asked_momentsT (z : ZsOK zs) (h : t.OK zs.length row) (hl : row.length = vs.length) : m_asked_moments [zonesD zs, t.d, .tup (vs.map .int)] S = .ok (.lst ((askedS zs vs t).map .int)) S := by
  refine pure_of fun Q q => ?_
  have hb := h.base
  rw [hl] at hb
  refine does_def rfl ?_
  cases t with
  | find i p f g =>
    have e := ix_tupI hb
    simp only [Stp.base] at e
    simp (decide := true) [Stp.d, e, ix_zones h.2.1, wipeD]
    rw [← List.map_reverse, lcAQ_fix (.inl rfl) (by simp)]
    refine lcQ_filter (fun _ : Int => true) (fun o => .int (getV vs i - o)) ?_ ?_
    · intro o ho
      refine ⟨_, rfl, fun Q q => q, fun Q _ q => ?_⟩
      simp
      exact q
    · have e : ((getZ zs p).1.reverse.filter fun _ : Int => true) = (getZ zs p).1.reverse := List.filter_eq_self.mpr fun _ _ => rfl
      rw [e]
      simp [askedS, Function.comp_def] at q ⊢
      exact q
  | _ =>
    have e := ix_tupI hb
    simp only [Stp.base] at e
    simp (decide := true) [Stp.d, e]
    simp [askedS] at q
    exact q
theorem value_madeT (z : ZsOK zs) (tk : TbsOK zs tb) (h : t.OK zs.length row) (hl : row.length = vs.length) {kvs : List (Key × D)} (hc : S[c]? = some (.dic kvs))
    (hk : ∀ m, m ∈ askedS zs vs t → valD kvs (.inl m) = some (.int ((getT tb t.place).of m))) {Q : D → Sto → Prop} (q : Q (optD (stepV zs tb vs t)) S) : (m_value_made [zonesD zs, t.d, .tup (vs.map .int), .cell c] S).Does Q := by
  have hb := h.base
  rw [hl] at hb
  have e := ix_tupI hb
  have second : ∀ {j : Nat} {k : Kd}, row[j]? = some k → atI (vs.map D.int) (j : Int) = some (.int (getV vs j)) := fun hj => ix_tupI (by rw [← hl]; exact (List.getElem?_eq_some_iff.mp hj).1)
  refine does_def rfl ?_
  cases t with
  | find i p f g =>
    simp only [Stp.base] at e
    simp (decide := true) [Stp.d, e, ix_zones h.2.1]
    have e3 : atI [D.str "find", D.int i, D.int p, D.str f, D.str g] 3 = some (.str f) := rfl
    have e4 : atI [D.str "find", D.int i, D.int p, D.str f, D.str g] 4 = some (.str g) := rfl
    simp [e3, e4]
    refine found_by_does (h := (getT tb p).1) (js := (getT tb p).2) (z.at h.2.1) hc (fun o ho => hk _ ?_) (z.at h.2.1).ends h.2.2.1 h.2.2.2 ?_
    · simp [askedS]
      exact ho
    · rw [findO_eq]
      exact q
  | read i p =>
    simp only [Stp.base] at e
    have := hk (getV vs i) (by simp [askedS])
    simp (decide := true) [Stp.d, e, gDIx_cell hc, this]
    exact q
  | offset i p =>
    simp only [Stp.base] at e
    have := hk (getV vs i) (by simp [askedS])
    simp (decide := true) [Stp.d, e, gDIx_cell hc, this]
    exact q
  | edition i p =>
    simp only [Stp.base] at e
    simp (decide := true) [Stp.d, e]
    exact q
  | plus i j =>
    simp only [Stp.base] at e
    simp (decide := true) [Stp.d, e, second h.2]
    exact q
  | less i j =>
    simp only [Stp.base] at e
    simp (decide := true) [Stp.d, e, second h.2]
    exact q
  | add i m =>
    simp only [Stp.base] at e
    simp (decide := true) [Stp.d, e]
    exact q
/-! ### a value more -/
theorem nowF_snoc {v : Int} : ∀ {ts : List Stp} {ws : List Int}, ws.length < ts.length → nowF p ts (ws ++ [v]) = match nowF p ts ws with
    | some n => some n
    | none => if (ts.getD ws.length (.add 0 0)).isEd = true ∧ (ts.getD ws.length (.add 0 0)).place = p then some v else none
  | [], ws, h => by simp at h
  | t :: ts, [], _ => by
    show (if t.isEd = true ∧ t.place = p then some v else nowF p ts []) = _
    rw [nowF_nil]
    rfl
  | t :: ts, w :: ws, h => by
    rw [List.cons_append, nowF, nowF]
    by_cases c : t.isEd = true ∧ t.place = p
    · rw [if_pos c, if_pos c]
    · rw [if_neg c, if_neg c, nowF_snoc (by simpa using h)]
      rfl
theorem now_grow {v : Int} {k : Nat} (hk : k < ts.length) (hv : vs.length = k + 1) : ∀ p, nowOf ts (vs ++ [v]) p = nowOf ts vs p ∨ nowOf ts vs p = none := by
  intro p
  unfold nowOf
  rw [List.drop_append_of_le_length (by omega)]
  rw [nowF_snoc (by rw [List.length_drop]; omega)]
  cases nowF p ts (vs.drop 1) with
  | some n => exact .inl rfl
  | none => exact .inr rfl
theorem LkW.grow (w : LkW zs now lk) (h : ∀ p, now2 p = now p ∨ now p = none) : LkW zs now2 lk := by
  refine ⟨w.nodup, fun x hx => ?_, w.uniq⟩
  obtain ⟨p, h1, h2, h3, h4⟩ := w.each x hx
  refine ⟨p, h1, h2, h3, ?_⟩
  rcases h4 with h4 | ⟨h4, n, h5, h6⟩
  · exact .inl h4
  · refine .inr ⟨h4, n, ?_, h6⟩
    rcases h p with h | h
    · rw [h]; exact h5
    · rw [h] at h5; cases h5
theorem FitA.grow (z : ZsOK zs) (w : LkW zs now lk) (f : FitA zs now lk) (h : ∀ p, now2 p = now p ∨ now p = none) : FitA zs now2 lk := by
  intro p hp
  rcases h p with h | h
  · rw [h]; exact f p hp
  · have h0 := f p hp
    unfold fitB at h0 ⊢
    rw [Bool.and_eq_true] at h0 ⊢
    refine ⟨h0.1, ?_⟩
    cases hn : now2 p with
    | none => rfl
    | some n =>
      simp only
      have hs : sideM lk p 1 = [] := by
        unfold sideM
        rw [List.map_eq_nil_iff, List.filter_eq_nil_iff]
        intro x hx hd
        obtain ⟨h1, h2⟩ := of_decide_eq_true hd
        obtain ⟨p', hp', e1, e2, e3⟩ := w.each x hx
        have : p' = p := by omega
        subst this
        rcases e3 with e3 | ⟨_, n', e4, _⟩
        · omega
        · rw [h] at e4; cases e4
      unfold laterL
      rw [hs]
      have e0 : srtP ([] : List (Int × Int)) = [] := rfl
      rw [e0, List.append_nil]
      have c0 : crow (getZ zs p).2 (srtP (sideM lk p 0)) = none := by simpa using h0.1
      have := crow_sub (ls' := (srtP (sideM lk p 0)).filter fun x => decide (x.1 < n)) (z.at hp) (w.side (e := 0) hp) ((w.side (e := 0) hp).asc.filter _) (fun x hx => (List.mem_filter.mp hx).1) c0
      rw [this]; rfl
end
end Dm
-- text HmCas5
namespace Dm
open PySem L2
section
variable {S : Sto} {zs : Zs} {m o : Int} {lk b : List Lk} {p k : Nat} {ts : List Stp} {vs : List Int} {ms : List Int} {c : Case}
structure CaW (zs : Zs) (ts : List Stp) (k : Nat) (c : Case) : Prop where
  w : LkW zs (nowOf ts c.2.1) c.1
  f : FitA zs (nowOf ts c.2.1) c.1
  len : c.1.length ≤ 3 * k
  v1 : 1 ≤ c.2.1.length
  v2 : c.2.1.length ≤ k + 1
  go : c.2.2 = none → c.2.1.length = k + 1
theorem fitA_nil {now : Nat → Option Int} (z : ZsOK zs) : FitA zs now [] := by
  intro p hp
  have e : crow (getZ zs p).2 [] = none := rfl
  have s0 : ∀ e, srtP (sideM [] p e) = [] := fun e => rfl
  unfold fitB laterL
  simp only [s0]
  cases now p with
  | none => simp [e]
  | some n => simp [e]
theorem caw_zero (z : ZsOK zs) : CaW zs ts 0 ([], [0], none) := ⟨.nil, fitA_nil z, by simp, by simp, by simp, fun _ => rfl⟩
theorem progFrom_at (ok : ProgFrom zs.length [.mom] ts) (hk : k < ts.length) : (ts.getD k (.add 0 0)).OK zs.length (kindsFrom [.mom] (ts.take k)) ∧ (kindsFrom [.mom] (ts.take k)).length = k + 1 := by
  have e : ts = ts.take k ++ ts.drop k := (List.take_append_drop k ts).symm
  have ed : ts.drop k = ts[k] :: ts.drop (k + 1) := List.drop_eq_getElem_cons hk
  have eg : ts.getD k (.add 0 0) = ts[k] := by rw [List.getD_eq_getElem?_getD, List.getElem?_eq_getElem hk]; rfl
  rw [e] at ok
  have := progFrom_right ok
  rw [ed] at this
  have kl := kindsFrom_length [.mom] (ts.take k)
  simp at kl
  rw [eg]
  exact ⟨this.1, by omega⟩
theorem asked_place' {row : List Kd} {t : Stp} (ok : t.OK zs.length row) (h : askedS zs vs t ≠ []) : t.place < zs.length := by
  cases e : askedS zs vs t with
  | nil => exact absurd e h
  | cons w l => exact asked_place (w := w) ok (by rw [e]; exact List.mem_cons_self)
/-- the branches of a case behind a step -/
theorem branch_of (z : ZsOK zs) (ok : ProgFrom zs.length [.mom] ts) (hk : k < ts.length) (h : CaW zs ts k c) (hr : c.2.2 = none) (hb : b ∈ branchL zs (nowOf ts c.2.1) (ts.getD k (.add 0 0)).place c.1 (askedS zs c.2.1 (ts.getD k (.add 0 0)))) :
    BrW zs (nowOf ts c.2.1) (ts.getD k (.add 0 0)).place c.1 (askedS zs c.2.1 (ts.getD k (.add 0 0))) b := by
  obtain ⟨h1, h2⟩ := progFrom_at ok hk
  by_cases ha : askedS zs c.2.1 (ts.getD k (.add 0 0)) = []
  · rw [ha] at hb ⊢
    unfold branchL at hb
    simp at hb
    subst hb
    exact ⟨h.w, h.f, ⟨[], by simp, by simp⟩, fun x hx => .inl hx, fun m hm => nomatch hm⟩
  · exact (branch_all z (asked_place' h1 ha) h.w h.f).1 b hb
theorem behind_ok (z : ZsOK zs) (ok : ProgFrom zs.length [.mom] ts) (hk : k < ts.length) (h : CaW zs ts k c) : ∀ c', c' ∈ behindL zs ts k c → CaW zs ts (k + 1) c' := by
  intro c' hc
  obtain ⟨lk, vs, r⟩ := c
  unfold behindL at hc
  cases r with
  | some j =>
    simp at hc
    subst hc
    exact ⟨h.w, h.f, by have := h.len; omega, h.v1, by have := h.v2; omega, fun h => nomatch h⟩
  | none =>
    obtain ⟨b, hb, rfl⟩ := List.mem_map.mp hc
    have B := branch_of z ok hk h rfl hb
    obtain ⟨add, ea, la⟩ := B.ex
    have h3 := asked_len (vs := vs) (t := ts.getD k (.add 0 0)) z
    have hl := h.len
    have hg := h.go rfl
    simp only at hl hg
    have hbl : b.length ≤ 3 * (k + 1) := by
      have e1 : b.length = lk.length + add.length := by rw [ea]; simp
      simp only at la
      omega
    unfold madeL
    cases e : stepV zs (tbE zs b (nowOf ts vs)) vs (ts.getD k (.add 0 0)) with
    | none => exact ⟨B.w, B.f, hbl, h.v1, by have := h.v2; simp only at this ⊢; omega, fun h => nomatch h⟩
    | some v =>
      have gr := now_grow (v := v) hk hg
      exact ⟨B.w.grow gr, B.f.grow z B.w gr, hbl, by simp, by simp; omega, fun _ => by simp; omega⟩
theorem tales_ok (z : ZsOK zs) (ok : ProgFrom zs.length [.mom] ts) : ∀ {k : Nat}, k ≤ ts.length → ∀ c, c ∈ talesL zs ts k → CaW zs ts k c
  | 0, _, c, hc => by
    simp [talesL] at hc
    subst hc
    exact caw_zero z
  | k + 1, hk, c, hc => by
    obtain ⟨c0, h0, h1⟩ := List.mem_flatMap.mp hc
    exact behind_ok z ok hk (tales_ok z ok (by omega) c0 h0) c h1
theorem ints_eqL {l : List Int} (hl : l.length ≤ 3) : gEq S (.lst (l.map .int)) (.lst []) = some (.bl l.isEmpty) := by
  have e2 : toPyS S (.lst []) = some (.list []) := rfl
  have s2 : SeqAt.shaped (.list []) = true := by decide +kernel
  match l, hl with
  | [], _ =>
    unfold gEq eqD
    simp only [List.map_nil, e2]
    rw [if_pos ⟨s2, s2⟩]
    simp [PyData.eqv, PyData.eqvAll]
  | [a], _ =>
    have e1 : toPyS S (.lst [D.int a]) = some (.list [.int a]) := rfl
    have s1 : SeqAt.shaped (.list [.int a]) = true := by simp [SeqAt.shaped, PyData.canLay0, PyData.depth, PyData.canLayAll0, PyData.depthAll]
    unfold gEq eqD
    simp only [List.map_cons, List.map_nil, e1, e2]
    rw [if_pos ⟨s1, s2⟩]
    simp [PyData.eqv, PyData.eqvAll]
  | [a, b], _ =>
    have e1 : toPyS S (.lst [D.int a, D.int b]) = some (.list [.int a, .int b]) := rfl
    have s1 : SeqAt.shaped (.list [.int a, .int b]) = true := by simp [SeqAt.shaped, PyData.canLay0, PyData.depth, PyData.canLayAll0, PyData.depthAll]
    unfold gEq eqD
    simp only [List.map_cons, List.map_nil, e1, e2]
    rw [if_pos ⟨s1, s2⟩]
    simp [PyData.eqv, PyData.eqvAll]
  | [a, b, c], _ =>
    have e1 : toPyS S (.lst [D.int a, D.int b, D.int c]) = some (.list [.int a, .int b, .int c]) := rfl
    have s1 : SeqAt.shaped (.list [.int a, .int b, .int c]) = true := by simp [SeqAt.shaped, PyData.canLay0, PyData.depth, PyData.canLayAll0, PyData.depthAll]
    unfold gEq eqD
    simp only [List.map_cons, List.map_nil, e1, e2]
    rw [if_pos ⟨s1, s2⟩]
    simp [PyData.eqv, PyData.eqvAll]
theorem pow3_le {n : Nat} (h : n ≤ 3) : 3 ^ n ≤ 27 := by
  have : n = 0 ∨ n = 1 ∨ n = 2 ∨ n = 3 := by omega
  rcases this with rfl | rfl | rfl | rfl <;> decide
structure CaWL (L : Nat) (zs : Zs) (ts : List Stp) (k : Nat) (c : Case) : Prop where
  w : LkW zs (nowOf ts c.2.1) c.1
  f : FitA zs (nowOf ts c.2.1) c.1
  len : c.1.length ≤ L + 3 * k
  v1 : 1 ≤ c.2.1.length
  v2 : c.2.1.length ≤ k + 1
  go : c.2.2 = none → c.2.1.length = k + 1
theorem branch_ofL {L : Nat} (z : ZsOK zs) (ok : ProgFrom zs.length [.mom] ts) (hk : k < ts.length) (h : CaWL L zs ts k c) (hr : c.2.2 = none) (hb : b ∈ branchL zs (nowOf ts c.2.1) (ts.getD k (.add 0 0)).place c.1 (askedS zs c.2.1 (ts.getD k (.add 0 0)))) :
    BrW zs (nowOf ts c.2.1) (ts.getD k (.add 0 0)).place c.1 (askedS zs c.2.1 (ts.getD k (.add 0 0))) b := by
  obtain ⟨h1, h2⟩ := progFrom_at ok hk
  by_cases ha : askedS zs c.2.1 (ts.getD k (.add 0 0)) = []
  · rw [ha] at hb ⊢
    unfold branchL at hb
    simp at hb
    subst hb
    exact ⟨h.w, h.f, ⟨[], by simp, by simp⟩, fun x hx => .inl hx, fun m hm => nomatch hm⟩
  · exact (branch_all z (asked_place' h1 ha) h.w h.f).1 b hb
theorem cases_behind_doesL {L : Nat} (hL : L ≤ 100) {Q : D → Sto → Prop} (z : ZsOK zs) (ok : ProgFrom zs.length [.mom] ts) (hl : ts.length ≤ 60) (hk : k < ts.length) (h : CaWL L zs ts k c)
    (q : ∀ S' d, Grow S S' → (d = .lst ((behindL zs ts k c).map caseD) ∨ ∃ n, d = .cell n ∧ S'[n]? = some (.lst ((behindL zs ts k c).map caseD))) → Q d S') : (m_cases_behind [zonesD zs, progD ts, .int k, caseD c] S).Does Q := by
  obtain ⟨lk, vs, r⟩ := c
  refine does_def rfl ?_
  cases r with
  | some j =>
    simp [caseD, optN]
    exact q S _ .refl (.inl rfl)
  | none =>
    have hg := h.go rfl
    have hlen := h.len
    simp only at hg hlen
    obtain ⟨h1, h2⟩ := progFrom_at ok hk
    have hgt : (ts.getD k (.add 0 0)) = ts[k] := by rw [List.getD_eq_getElem?_getD, List.getElem?_eq_getElem hk]; rfl
    have hat : atI (ts.map Stp.d) (k : Int) = some (ts.getD k (.add 0 0)).d := by
      rw [atI_of (by omega) (by rw [List.length_map]; omega)]
      simp [hgt, hk]
    unfold behindL at q
    simp only at q
    have hbr := fun b hb => branch_ofL (b := b) z ok hk h rfl hb
    have h3 := asked_len (vs := vs) (t := ts.getD k (.add 0 0)) z
    have hbl : (branchL zs (nowOf ts vs) (ts.getD k (.add 0 0)).place lk (askedS zs vs (ts.getD k (.add 0 0)))).length ≤ 27 := by
      by_cases ha : askedS zs vs (ts.getD k (.add 0 0)) = []
      · rw [ha]; simp [branchL]
      · have := (branch_all (ms := askedS zs vs (ts.getD k (.add 0 0))) z (asked_place' h1 ha) h.w h.f).2
        have := pow3_le h3
        simp only at *
        omega
    generalize ts.getD k (.add 0 0) = t at *
    have hrow : (kindsFrom [.mom] (ts.take k)).length = vs.length := by omega
    simp only [caseD, optN]
    refine seq_cut (fun ρ S' => S = S' ∧ ρ = [some (zonesD zs), some (progD ts), some (.int k), some (.tup [.tup (lk.map lkD), .tup (vs.map .int), .non]), some (.tup (lk.map lkD)), some (.tup (vs.map .int)), some .non, none, none, none, none, none, none, none, none, none, none]) (fun M hM => ?_) ?_
    · simp
      exact hM _ _ ⟨rfl, rfl⟩
    rintro ρ _ ⟨rfl, rfl⟩
    refine seq_cut (fun ρ S' => S = S' ∧ ρ = [some (zonesD zs), some (progD ts), some (.int k), some (.tup [.tup (lk.map lkD), .tup (vs.map .int), .non]), some (.tup (lk.map lkD)), some (.tup (vs.map .int)), some .non, none, none, none, none, none, none, none, none, none, none]) (fun M hM => ?_) ?_
    · simp
      exact hM _ _ ⟨rfl, rfl⟩
    rintro ρ _ ⟨rfl, rfl⟩
    refine seq_cut (fun ρ S' => S = S' ∧ ρ = [some (zonesD zs), some (progD ts), some (.int k), some (.tup [.tup (lk.map lkD), .tup (vs.map .int), .non]), some (.tup (lk.map lkD)), some (.tup (vs.map .int)), some .non, some t.d, none, none, none, none, none, none, none, none, none]) (fun M hM => ?_) ?_
    · simp [progD, hat]
      exact hM _ _ ⟨rfl, rfl⟩
    rintro ρ _ ⟨rfl, rfl⟩
    refine seq_cut (fun ρ S' => S = S' ∧ ρ = [some (zonesD zs), some (progD ts), some (.int k), some (.tup [.tup (lk.map lkD), .tup (vs.map .int), .non]), some (.tup (lk.map lkD)), some (.tup (vs.map .int)), some .non, some t.d, some (.lst ((askedS zs vs t).map .int)), none, none, none, none, none, none, none, none]) (fun M hM => ?_) ?_
    · simp [asked_momentsT z h1 hrow]
      exact hM _ _ ⟨rfl, rfl⟩
    rintro ρ _ ⟨rfl, rfl⟩
    refine seq_cut (fun ρ S' => S = S' ∧ ∃ nd : D, (askedS zs vs t ≠ [] → nd = optD (nowOf ts vs t.place)) ∧ ρ = [some (zonesD zs), some (progD ts), some (.int k), some (.tup [.tup (lk.map lkD), .tup (vs.map .int), .non]), some (.tup (lk.map lkD)), some (.tup (vs.map .int)), some .non, some t.d, some (.lst ((askedS zs vs t).map .int)), some nd, none, none, none, none, none, none, none]) (fun M hM => ?_) ?_
    · simp [ints_eqL h3]
      by_cases ha : askedS zs vs t = []
      · simp [ha]
        have := hM _ S ⟨rfl, .non, fun h => absurd ha h, rfl⟩
        simpa [ha] using this
      · have hi : (askedS zs vs t).isEmpty = false := by cases e : askedS zs vs t with
          | nil => exact absurd e ha
          | cons a l => rfl
        simp [ha, (place_ix (S := S) h1 ha).1, edition_at_ok (ts := ts) (vs := vs) (S := S) (p := t.place) (by omega) (by omega) hl]
        exact hM _ _ ⟨rfl, optD (nowOf ts vs t.place), fun _ => rfl, by simp [nowOf]⟩
    rintro ρ _ ⟨rfl, nd, hnd, rfl⟩
    refine seq_cut (fun ρ S' => S = S' ∧ ρ = [some (zonesD zs), some (progD ts), some (.int k), some (.tup [.tup (lk.map lkD), .tup (vs.map .int), .non]), some (.tup (lk.map lkD)), some (.tup (vs.map .int)), some .non, some t.d, some (.lst ((askedS zs vs t).map .int)), some nd, some (.lst [.tup (lk.map lkD)]), none, none, none, none, none, none]) (fun M hM => ?_) ?_
    · simp
      exact hM _ _ ⟨rfl, rfl⟩
    rintro ρ _ ⟨rfl, rfl⟩
    generalize hbs : branchL zs (nowOf ts vs) t.place lk (askedS zs vs t) = bs at *
    refine seq_cut (fun ρ S' => Grow S S' ∧ ∃ x11, ρ = [some (zonesD zs), some (progD ts), some (.int k), some (.tup [.tup (lk.map lkD), .tup (vs.map .int), .non]), some (.tup (lk.map lkD)), some (.tup (vs.map .int)), some .non, some t.d, some (.lst ((askedS zs vs t).map .int)), some nd, some (.lst (bs.map fun b => .tup (b.map lkD))), x11, none, none, none, none, none]) (fun M hM => ?_) ?_
    · simp
      refine forL_cut (fun ds ρ S' => Grow S S' ∧ ∃ (done rest : List Int) (x11 : Option D), ds = rest.map .int ∧ askedS zs vs t = done ++ rest ∧ ρ = [some (zonesD zs), some (progD ts), some (.int k), some (.tup [.tup (lk.map lkD), .tup (vs.map .int), .non]), some (.tup (lk.map lkD)), some (.tup (vs.map .int)), some .non, some t.d, some (.lst ((askedS zs vs t).map .int)), some nd, some (.lst ((branchL zs (nowOf ts vs) t.place lk done).map fun b => .tup (b.map lkD))), x11, none, none, none, none, none]) _
        ⟨.refl, [], askedS zs vs t, none, rfl, rfl, rfl⟩ ?_ ?_
      · rintro d ds ρ S1 ⟨g1, done, rest, x11, e, ea, rfl⟩
        cases rest with
        | nil => cases e
        | cons w rest =>
          rw [List.map_cons] at e
          injection e with e1 e2
          subst e1
          refine ⟨_, rfl, fun M2 hM2 => ?_⟩
          have hne : askedS zs vs t ≠ [] := by rw [ea]; simp
          have hp := asked_place' h1 hne
          have hd3 : done.length ≤ 2 := by
            have := congrArg List.length ea
            simp at this
            omega
          obtain ⟨b1, b2⟩ := branch_all (ms := done) z hp h.w h.f
          simp only at b1 b2
          have b3 := pow3_le (n := done.length) (by omega)
          rw [hnd hne]
          simp [wipeD]
          refine lcAQ2_ext (as := branchL zs (nowOf ts vs) t.place lk done) (i := fun b : List Lk => D.tup (b.map lkD)) (g := fun b => (longL zs b t.place (nowOf ts vs t.place) w).map fun l => D.tup (l.map lkD)) (by simp) (I := Grow S) (fun _ _ => rfl) g1 ?_ ?_
          · intro b hb S2 g2
            have B := b1 b hb
            obtain ⟨add, ea2, la2⟩ := B.ex
            have hb3 : b.length ≤ 300 := by
              have : b.length = lk.length + add.length := by rw [ea2]; simp
              omega
            refine ⟨_, rfl, ?_⟩
            have hpi : ∀ S, gIx S t.d (.int 2) = some (.int t.place) := fun S => (place_ix (S := S) h1 hne).1
            simp [hpi]
            refine longer_looked_does (now := nowOf ts vs) z B.w hp hb3 fun S3 g3 => ?_
            refine ⟨_, rfl, ?_⟩
            simp [wipeD]
            refine lcQ_map (fun d => d) ?_ ?_
            · intro d hd
              refine ⟨_, rfl, fun Q q => ?_⟩
              simp
              exact q
            · simp
              exact g2.trans g3
          · intro S2 g2
            have hf := flat_le (f := fun b => (longL zs b t.place (nowOf ts vs t.place) w).map fun l => D.tup (l.map lkD)) (n := 3) (l := branchL zs (nowOf ts vs) t.place lk done) fun b _ => by rw [List.length_map]; exact long_len z hp
            refine ⟨by omega, ?_⟩
            refine hM2 _ _ ⟨g2, done ++ [w], rest, some (.int w), e2, by rw [ea]; simp, ?_⟩
            have e5 : branchL zs (nowOf ts vs) t.place lk (done ++ [w]) = (branchL zs (nowOf ts vs) t.place lk done).flatMap fun b => longL zs b t.place (nowOf ts vs t.place) w := by
              unfold branchL
              rw [List.foldl_append]; rfl
            rw [e5, List.map_flatMap, hnd hne]
      · rintro ρ S1 ⟨g1, done, rest, x11, e, ea, rfl⟩
        cases rest with
        | cons w rest => cases e
        | nil =>
          rw [List.append_nil] at ea
          refine hM _ _ ⟨g1, x11, ?_⟩
          rw [← hbs, ea]
    rintro ρ S1 ⟨g1, x11, rfl⟩
    refine seq_cut (fun ρ S' => S1 ++ [.lst []] = S' ∧ ρ = [some (zonesD zs), some (progD ts), some (.int k), some (.tup [.tup (lk.map lkD), .tup (vs.map .int), .non]), some (.tup (lk.map lkD)), some (.tup (vs.map .int)), some .non, some t.d, some (.lst ((askedS zs vs t).map .int)), some nd, some (.lst (bs.map fun b => .tup (b.map lkD))), x11, some (.cell S1.length), none, none, none, none]) (fun M hM => ?_) ?_
    · simp
      exact hM _ _ ⟨rfl, rfl⟩
    rintro ρ _ ⟨rfl, rfl⟩
    have n1 : (S1 ++ [Cell.lst []])[S1.length]? = some (.lst []) := by simp
    refine seq_cut (fun ρ S' => Grow S S' ∧ ∃ x11 x13 x14 x15, S'[S1.length]? = some (.lst ((bs.map (madeL zs (nowOf ts vs) k t vs)).map caseD)) ∧ ρ = [some (zonesD zs), some (progD ts), some (.int k), some (.tup [.tup (lk.map lkD), .tup (vs.map .int), .non]), some (.tup (lk.map lkD)), some (.tup (vs.map .int)), some .non, some t.d, some (.lst ((askedS zs vs t).map .int)), some nd, some (.lst (bs.map fun b => .tup (b.map lkD))), x11, some (.cell S1.length), x13, x14, x15, none]) (fun M hM => ?_) ?_
    · simp
      refine forL_cut (fun ds ρ S' => Grow S S' ∧ S1.length < S'.length ∧ ∃ (done rest : List (List Lk)) (x11 x13 x14 x15 : Option D), ds = rest.map (fun b => D.tup (b.map lkD)) ∧ bs = done ++ rest ∧ S'[S1.length]? = some (.lst ((done.map (madeL zs (nowOf ts vs) k t vs)).map caseD)) ∧
          ρ = [some (zonesD zs), some (progD ts), some (.int k), some (.tup [.tup (lk.map lkD), .tup (vs.map .int), .non]), some (.tup (lk.map lkD)), some (.tup (vs.map .int)), some .non, some t.d, some (.lst ((askedS zs vs t).map .int)), some nd, some (.lst (bs.map fun b => .tup (b.map lkD))), x11, some (.cell S1.length), x13, x14, x15, none]) _
        ⟨g1.push _, by simp, [], bs, x11, none, none, none, rfl, rfl, n1, rfl⟩ ?_ ?_
      · rintro d ds ρ S2 ⟨g2, gl, done, rest, x11, x13, x14, x15, e, eb, c12, rfl⟩
        cases rest with
        | nil => cases e
        | cons b rest =>
          rw [List.map_cons] at e
          injection e with e1 e2
          subst e1
          refine ⟨_, rfl, fun M2 hM2 => ?_⟩
          have hb : b ∈ bs := by rw [eb]; simp
          have B := hbr b hb
          simp only at B
          have tk := tbE_ok z B.w B.f
          have hbl3 : bs.length ≤ 27 := hbl
          have hdone : done.length ≤ 27 := by
            have := congrArg List.length eb
            simp at this
            omega
          -- the offsets that hold
          have held : ∀ m, m ∈ askedS zs vs t → known b t.place (edOf (nowOf ts vs t.place) m) m = some ((getT (tbE zs b (nowOf ts vs)) t.place).of m) := by
            intro m hm
            have hne : askedS zs vs t ≠ [] := fun h => by rw [h] at hm; cases hm
            have hp := asked_place' h1 hne
            obtain ⟨o, ho⟩ := B.k m hm
            rw [tbE_at hp, ho, (curE_ok z B.w B.f hp).2 m o ho]
          refine seq_cut (fun ρ S' => ∃ kvs, S2 ++ [.dic kvs] = S' ∧ (∀ m, m ∈ askedS zs vs t → valD kvs (.inl m) = some (.int ((getT (tbE zs b (nowOf ts vs)) t.place).of m))) ∧
              ρ = [some (zonesD zs), some (progD ts), some (.int k), some (.tup [.tup (lk.map lkD), .tup (vs.map .int), .non]), some (.tup (lk.map lkD)), some (.tup (vs.map .int)), some .non, some t.d, some (.lst ((askedS zs vs t).map .int)), some nd, some (.lst (bs.map fun b => .tup (b.map lkD))), x11, some (.cell S1.length), some (.tup (b.map lkD)), some (.cell S2.length), x15, none]) (fun M3 hM3 => ?_) ?_
          · rw [does_asg]
            refine does_dcA (d := .lst ((askedS zs vs t).map .int)) (S1 := S2) (S2 := S2) (ds := (askedS zs vs t).map .int) (kvs := (askedS zs vs t).foldl (fun acc m => putD acc (.inl m) (.int ((getT (tbE zs b (nowOf ts vs)) t.place).of m))) []) rfl rfl ?_ ?_
            · rw [List.length_map]
              refine dcA_map (i := D.int) (k := fun m => .inl m) (g := fun m => .int ((getT (tbE zs b (nowOf ts vs)) t.place).of m)) (as := askedS zs vs t) (pre := []) rfl ?_ rfl
              intro m hm
              have hne : askedS zs vs t ≠ [] := fun h => by rw [h] at hm; cases hm
              refine ⟨_, .int m, rfl, ?_, rfl, ?_⟩
              · simp [wipeD, mVar]
              · refine pure_of fun Q q => ?_
                have hpi : ∀ S, gIx S t.d (.int 2) = some (.int t.place) := fun S => (place_ix (S := S) h1 hne).1
                rw [hnd hne]
                simp [wipeD, hpi, offset_known_ok, held m hm]
                exact q
            · refine hM3 _ _ ⟨_, rfl, fun m hm => ?_, rfl⟩
              exact valD_foldl (k := fun m : Int => Sum.inl m) (g := fun m => .int ((getT (tbE zs b (nowOf ts vs)) t.place).of m)) (.inl hm) fun b' _ e => by
                have : b' = m := by injection e
                rw [this]
          rintro ρ _ ⟨kvs, rfl, hkv, rfl⟩
          have g3 : Grow S2 (S2 ++ [Cell.dic kvs]) := ⟨_, rfl⟩
          have cdic : (S2 ++ [Cell.dic kvs])[S2.length]? = some (.dic kvs) := by simp
          refine seq_cut (fun ρ S' => S2 ++ [.dic kvs] = S' ∧ ρ = [some (zonesD zs), some (progD ts), some (.int k), some (.tup [.tup (lk.map lkD), .tup (vs.map .int), .non]), some (.tup (lk.map lkD)), some (.tup (vs.map .int)), some .non, some t.d, some (.lst ((askedS zs vs t).map .int)), some nd, some (.lst (bs.map fun b => .tup (b.map lkD))), x11, some (.cell S1.length), some (.tup (b.map lkD)), some (.cell S2.length), some (optD (stepV zs (tbE zs b (nowOf ts vs)) vs t)), none]) (fun M3 hM3 => ?_) ?_
          · simp
            refine value_madeT z tk h1 hrow cdic hkv ?_
            exact hM3 _ _ ⟨rfl, rfl⟩
          rintro ρ _ ⟨rfl, rfl⟩
          have c12' := g3.get c12
          have fin : ∀ d, d = caseD (madeL zs (nowOf ts vs) k t vs b) → ∀ x, M2 [some (zonesD zs), some (progD ts), some (.int k), some (.tup [.tup (lk.map lkD), .tup (vs.map .int), .non]), some (.tup (lk.map lkD)), some (.tup (vs.map .int)), some .non, some t.d, some (.lst ((askedS zs vs t).map .int)), some nd, some (.lst (bs.map fun b => .tup (b.map lkD))), x11, some (.cell S1.length), some (.tup (b.map lkD)), some (.cell S2.length), x, none] ((S2 ++ [Cell.dic kvs]).set S1.length (.lst ((done.map (madeL zs (nowOf ts vs) k t vs)).map caseD ++ [d]))) := by
            intro d hd x
            refine hM2 _ _ ⟨(g2.trans g3).setN (by have := g1.len; omega) _, by simp; omega, done ++ [b], rest, _, _, _, _, e2, by rw [eb]; simp, ?_, rfl⟩
            rw [set_at c12', hd]
            simp
          have vs60 : vs.length ≤ 1000 := by omega
          cases ev : stepV zs (tbE zs b (nowOf ts vs)) vs t with
          | none =>
            have hd : D.tup [D.tup (b.map lkD), D.tup (vs.map D.int), D.int (k : Int)] = caseD (madeL zs (nowOf ts vs) k t vs b) := by
              unfold madeL
              rw [ev]; rfl
            have := fin _ hd (some .non)
            simp [optD, c12']
            refine ⟨by omega, ?_⟩
            simpa using this
          | some v =>
            have hd : D.tup [D.tup (b.map lkD), D.tup (vs.map D.int ++ [D.int v]), D.non] = caseD (madeL zs (nowOf ts vs) k t vs b) := by
              unfold madeL
              rw [ev]
              simp [caseD, optN]
            have := fin _ hd (some (.int v))
            simp [optD, c12']
            refine ⟨by omega, by omega, ?_⟩
            simpa using this
      · rintro ρ S2 ⟨g2, gl, done, rest, x11, x13, x14, x15, e, eb, c12, rfl⟩
        cases rest with
        | cons b rest => cases e
        | nil =>
          rw [List.append_nil] at eb
          subst eb
          exact hM _ _ ⟨g2, _, _, _, _, c12, rfl⟩
    rintro ρ S2 ⟨g2, x11', x13, x14, x15, c12, rfl⟩
    simp
    exact q S2 _ g2 (.inr ⟨_, rfl, c12⟩)
theorem cases_behind_does {Q : D → Sto → Prop} (z : ZsOK zs) (ok : ProgFrom zs.length [.mom] ts) (hl : ts.length ≤ 60) (hk : k < ts.length) (h : CaW zs ts k c)
    (q : ∀ S' d, Grow S S' → (d = .lst ((behindL zs ts k c).map caseD) ∨ ∃ n, d = .cell n ∧ S'[n]? = some (.lst ((behindL zs ts k c).map caseD))) → Q d S') : (m_cases_behind [zonesD zs, progD ts, .int k, caseD c] S).Does Q := by
  exact cases_behind_doesL (L := 0) (by omega) z ok hl hk ⟨h.w, h.f, by have := h.len; omega, h.v1, h.v2, h.go⟩ q
end
end Dm
-- text HmCas6
namespace Dm
open PySem L2
section
variable {S : Sto} {zs : Zs} {ts : List Stp}
theorem cases_from_does {Q : D → Sto → Prop} (z : ZsOK zs) (ok : ProgFrom zs.length [.mom] ts) (hl : ts.length ≤ 60) (hb : ∀ k, k ≤ ts.length → (talesL zs ts k).length ≤ 16777216)
    (q : ∀ S' n, Grow S S' → S.length ≤ n → S'[n]? = some (.lst ((talesL zs ts ts.length).map caseD)) → Q (.cell n) S') : (m_cases_from [zonesD zs, progD ts, .tup []] S).Does Q := by
  refine does_def rfl ?_
  refine seq_cut (fun ρ S' => S' = S ++ [.lst ((talesL zs ts 0).map caseD)] ∧ ρ = [some (zonesD zs), some (progD ts), some (.tup []), some (.cell S.length), none, none, none]) (fun M hM => ?_) ?_
  · simp
    exact hM _ _ ⟨rfl, rfl⟩
  rintro ρ _ ⟨rfl, rfl⟩
  have lp : ∀ S, gLen S [progD ts] = some (.int ts.length) := fun S => by simp [progD]
  simp [lp]
  refine ⟨by omega, ?_⟩
  refine forL_cut (fun ds ρ S' => Grow S S' ∧ ∃ (k n : Nat) (x4 : Option D), ds = rngD (k : Int) (ts.length - k) ∧ k ≤ ts.length ∧ S.length ≤ n ∧ S'[n]? = some (.lst ((talesL zs ts k).map caseD)) ∧ ρ = [some (zonesD zs), some (progD ts), some (.tup []), some (.cell n), x4, none, none]) _
    ⟨⟨_, rfl⟩, 0, S.length, none, rfl, by omega, by omega, by simp, rfl⟩ ?_ ?_
  · rintro d ds ρ S1 ⟨g1, k, n, x4, e, hk, hn, cn, rfl⟩
    cases hc : ts.length - k with
    | zero => rw [hc] at e; cases e
    | succ j =>
      rw [hc, rngD_cons] at e
      injection e with e1 e2
      subst e1
      refine ⟨_, rfl, fun M hM => ?_⟩
      have hkt : k < ts.length := by omega
      simp [wipeD, seqOf_cell cn]
      refine lcAQ2_ext (as := talesL zs ts k) (i := caseD) (g := fun c => (behindL zs ts k c).map caseD) (by simp) (I := Grow S1) (fun S' g => seqOf_cell (g.get cn)) .refl ?_ ?_
      · intro c hc S2 g2
        refine ⟨_, rfl, ?_⟩
        simp
        refine cases_behind_does z ok hl hkt (tales_ok z ok (by omega) c hc) fun S3 d g3 hd => ?_
        rcases hd with rfl | ⟨n', rfl, cn'⟩
        · refine ⟨_, rfl, ?_⟩
          simp [wipeD]
          refine lcQ_map (fun d => d) ?_ ?_
          · intro d hd
            refine ⟨_, rfl, fun Q q => ?_⟩
            simp
            exact q
          · simp
            exact g2.trans g3
        · refine ⟨_, seqOf_cell cn', ?_⟩
          refine lcAQ_ext (as := behindL zs ts k c) (i := caseD) (I := fun S' => S3 = S') (fun _ => true) caseD (by simp) ?_ rfl ?_ ?_
          · rintro _ rfl
            exact seqOf_cell cn'
          · rintro c' hc' _ rfl
            refine ⟨_, rfl, ?_, ?_⟩
            · simp
            · rintro _ rfl _
              simp [wipeD]
          · rintro _ rfl
            have e : (behindL zs ts k c).filter (fun _ => true) = behindL zs ts k c := List.filter_eq_self.mpr fun _ _ => rfl
            rw [e]
            exact ⟨rfl, g2.trans g3⟩
      · intro S2 g2
        have e3 : (talesL zs ts k).flatMap (fun c => (behindL zs ts k c).map caseD) = (talesL zs ts (k + 1)).map caseD := by
          rw [talesL, List.map_flatMap]
        rw [e3]
        refine ⟨by rw [List.length_map]; exact hb (k + 1) hkt, ?_⟩
        have gl := (g1.trans g2).len
        refine hM _ _ ⟨(g1.trans g2).push _, k + 1, S2.length, _, ?_, hkt, gl, by simp, rfl⟩
        rw [e2]
        have : ts.length - (k + 1) = j := by omega
        rw [this]
        simp
  · rintro ρ S1 ⟨g1, k, n, x4, e, hk, hn, cn, rfl⟩
    have hc : ts.length - k = 0 := by
      cases hc : ts.length - k with
      | zero => rfl
      | succ j => rw [hc, rngD_cons] at e; cases e
    have : k = ts.length := by omega
    subst this
    simp
    exact q S1 n g1 hn cn
theorem cases_does {Q : D → Sto → Prop} (z : ZsOK zs) (ok : ProgOK zs.length ts) (hb : ∀ k, k ≤ ts.length → (talesL zs ts k).length ≤ 16777216)
    (q : ∀ S' n, Grow S S' → S.length ≤ n → S'[n]? = some (.lst ((talesL zs ts ts.length).map caseD)) → Q (.cell n) S') : (m_cases [zonesD zs, progD ts] S).Does Q := by
  refine does_def rfl ?_
  have hl := ok.len
  simp [need_zones_ok z]
  refine need_program_does z ok ?_
  refine cases_from_does z ok.steps (by omega) hb fun S' n g hn cn => ?_
  refine q S' n (Grow.trans ⟨_, rfl⟩ g) (by simp at hn; omega) cn
end
end Dm
-- text HmCas7
namespace Dm
open PySem L2
/-! ### repr of nested data of bounded size -/
structure RpB (d : PyData) (w k : Nat) : Prop where
  sh : d.showable = true
  nd : d.hasDict = false
  len : d.shown.length ≤ w
  dp : d.depth ≤ k
theorem rpB_none : RpB .none 4 0 := ⟨by simp only [PyData.showable], by simp only [PyData.hasDict], by simp only [PyData.shown]; decide +kernel, by simp only [PyData.depth]; omega⟩
theorem rpB_int {i : Int} (h : i.natAbs < 100000000000000) : RpB (.int i) 15 0 := by
  refine ⟨?_, by simp only [PyData.hasDict], int_short h, by simp only [PyData.depth]; omega⟩
  have h1 : i.natAbs < 2 ^ 60 := by omega
  have := log2_le h1
  have h2 : i.natAbs.log2 < 1920 := by omega
  simp only [PyData.showable, h2, decide_true]
theorem RpB.up {d : PyData} {w k w' k' : Nat} (h : RpB d w k) (hw : w ≤ w') (hk : k ≤ k') : RpB d w' k' := ⟨h.sh, h.nd, Nat.le_trans h.len hw, Nat.le_trans h.dp hk⟩
theorem rpB_all {w k : Nat} : ∀ {ds : List PyData}, (∀ d, d ∈ ds → RpB d w k) → PyData.showableAll ds = true ∧ PyData.hasDictAll ds = false ∧ ((PyData.shownAll ds).map (·.length)).sum ≤ w * ds.length ∧ (PyData.shownAll ds).length = ds.length ∧ PyData.depthAll ds ≤ k
  | [], _ => ⟨rfl, rfl, Nat.le_refl _, rfl, by simp [PyData.depthAll]⟩
  | d :: ds, h => by
    obtain ⟨a1, a2, a3, a4, a5⟩ := rpB_all fun x hx => h x (List.mem_cons_of_mem _ hx)
    have b := h d List.mem_cons_self
    have b3 := b.len
    have b4 := b.dp
    refine ⟨?_, ?_, ?_, ?_, ?_⟩
    · simp only [PyData.showableAll, b.sh, a1, Bool.and_self]
    · simp only [PyData.hasDictAll, b.nd, a2, Bool.or_self]
    · simp only [PyData.shownAll, List.map_cons, List.sum_cons, List.length_cons, Nat.mul_succ]
      omega
    · simp only [PyData.shownAll, List.length_cons, a4]
    · simp only [PyData.depthAll]
      omega
theorem rpB_tup {w k n : Nat} {ds : List PyData} (h : ∀ d, d ∈ ds → RpB d w k) (hn : ds.length ≤ n) : RpB (.tuple ds) ((w + 2) * n + 3) (k + 1) := by
  obtain ⟨a1, a2, a3, a4, a5⟩ := rpB_all h
  refine ⟨by simp only [PyData.showable]; exact a1, by simp only [PyData.hasDict]; exact a2, ?_, by simp only [PyData.depth]; omega⟩
  simp only [PyData.shown]
  have h1 := tupleText_len_le (PyData.shownAll ds)
  have h2 : (w + 2) * ds.length ≤ (w + 2) * n := Nat.mul_le_mul_left _ hn
  rw [Nat.add_mul] at h2
  omega
theorem rpB_lst {w k n : Nat} {ds : List PyData} (h : ∀ d, d ∈ ds → RpB d w k) (hn : ds.length ≤ n) : RpB (.list ds) ((w + 2) * n + 3) (k + 1) := by
  obtain ⟨a1, a2, a3, a4, a5⟩ := rpB_all h
  refine ⟨by simp only [PyData.showable]; exact a1, by simp only [PyData.hasDict]; exact a2, ?_, by simp only [PyData.depth]; omega⟩
  simp only [PyData.shown]
  have h1 := listText_len_le (PyData.shownAll ds)
  have h2 : (w + 2) * ds.length ≤ (w + 2) * n := Nat.mul_le_mul_left _ hn
  rw [Nat.add_mul] at h2
  omega
theorem RpB.ok {d : PyData} {w k : Nat} (h : RpB d w k) (hw : w ≤ 16777216) (hk : k ≤ 64) : reprOk d := by
  have h3 : sizeLine = 16777216 := rfl
  exact ⟨h.sh, h.nd, by have := h.len; omega, Nat.le_trans h.dp hk⟩
/-! ### cases as data -/
def optNPy : Option Nat → PyData
  | none => .none
  | some k => .int k
def casePy (c : Case) : PyData := .tuple [.tuple (c.1.map lkPy), .tuple (c.2.1.map .int), optNPy c.2.2]
theorem case_py (c : Case) : toPy (caseD c) = some (casePy c) := by
  obtain ⟨lk, vs, r⟩ := c
  have h1 := lks_py lk
  have h2 := ints_py vs
  unfold caseD casePy
  cases r with
  | none => simp only [toPy, toPys, h1, h2, optN, optNPy, Option.map_some, Option.bind_some] <;> rfl
  | some k => simp only [toPy, toPys, h1, h2, optN, optNPy, Option.map_some, Option.bind_some] <;> rfl
theorem cases_py : ∀ cs : List Case, toPys (cs.map caseD) = some (cs.map casePy)
  | [] => rfl
  | c :: cs => by
    have ih := cases_py cs
    simp only [List.map_cons, toPys, ih, case_py, Option.bind_some, Option.map_some]
/-- numbers of a case are not far away -/
structure CaB (c : Case) : Prop where
  lk : ∀ x, x ∈ c.1 → x.1.natAbs < 100 ∧ x.2.1.natAbs < 100 ∧ x.2.2.1.natAbs < 100000000000000 ∧ x.2.2.2.natAbs < 1000
  ln : c.1.length ≤ 24
  vs : ∀ v, v ∈ c.2.1 → v.natAbs < 100000000000000
  vn : c.2.1.length ≤ 9
  r : ∀ k, c.2.2 = some k → k ≤ 100
theorem case_repr {c : Case} (h : CaB c) : RpB (casePy c) 6000 3 := by
  have h1 : RpB (.tuple (c.1.map lkPy)) ((71 + 2) * 24 + 3) 2 := by
    refine rpB_tup (fun d hd => ?_) (by rw [List.length_map]; exact h.ln)
    obtain ⟨x, hx, rfl⟩ := List.mem_map.mp hd
    obtain ⟨a1, a2, a3, a4⟩ := h.lk x hx
    refine rpB_tup (w := 15) (n := 4) (fun d hd => ?_) (by simp)
    simp at hd
    rcases hd with rfl | rfl | rfl | rfl <;> exact rpB_int (by omega)
  have h2 : RpB (.tuple (c.2.1.map .int)) ((15 + 2) * 9 + 3) 1 := by
    refine rpB_tup (fun d hd => ?_) (by rw [List.length_map]; exact h.vn)
    obtain ⟨x, hx, rfl⟩ := List.mem_map.mp hd
    exact rpB_int (h.vs x hx)
  have h3 : RpB (optNPy c.2.2) 15 0 := by
    cases e : c.2.2 with
    | none => exact rpB_none.up (by decide) (Nat.le_refl _)
    | some k =>
      have := h.r k e
      exact rpB_int (by omega)
  refine (rpB_tup (w := 1755) (k := 2) (n := 3) (ds := [.tuple (c.1.map lkPy), .tuple (c.2.1.map .int), optNPy c.2.2]) (fun d hd => ?_) (by simp)).up (by decide) (by decide)
  simp at hd
  rcases hd with rfl | rfl | rfl
  · exact h1.up (by decide) (by decide)
  · exact h2.up (by decide) (by decide)
  · exact h3.up (by decide) (by decide)
theorem cases_repr {cs : List Case} (h : ∀ c, c ∈ cs → CaB c) (hl : cs.length ≤ 2700) : reprOk (.list (cs.map casePy)) := by
  refine (rpB_lst (w := 6000) (k := 3) (n := 2700) (fun d hd => ?_) (by rw [List.length_map]; exact hl)).ok (by decide) (by decide)
  obtain ⟨c, hc, rfl⟩ := List.mem_map.mp hd
  exact case_repr (h c hc)
theorem same_cases {S : Sto} {a b : Nat} {cs : List Case} (ha : S[a]? = some (.lst (cs.map caseD))) (hb : S[b]? = some (.lst (cs.map caseD))) (h : ∀ c, c ∈ cs → CaB c) (hl : cs.length ≤ 2700) : m_law_same_v2 [.cell a, .cell b] S = .ok (.bl true) S := by
  have e : ∀ n, S[n]? = some (.lst (cs.map caseD)) → toPyC S (.cell n) = some (.list (cs.map casePy)) := fun n hn => by
    simp only [toPyC, hn, cases_py]; rfl
  exact same_py (e a ha) (e b hb) (cases_repr h hl)
/-! ### the cases of a program: bounds -/
section
variable {zs : Zs} {ts : List Stp} {k : Nat} {c : Case}
structure CaV (zs : Zs) (ts : List Stp) (k : Nat) (c : Case) : Prop where
  vb : c.2.2 = none → VB (kindsFrom [.mom] (ts.take k)) c.2.1
  vs : ∀ v, v ∈ c.2.1 → v.natAbs < 100000000000000
  lk : ∀ x, x ∈ c.1 → x.2.2.1.natAbs < 100000000000000
  r : ∀ j, c.2.2 = some j → j < k
theorem vb_all {row : List Kd} {vs : List Int} (h : VB row vs) (hl : vs.length ≤ 9) : ∀ v, v ∈ vs → v.natAbs < 10000000000000 := by
  intro v hv
  obtain ⟨i, hi⟩ := List.getElem?_of_mem hv
  have hil := (List.getElem?_eq_some_iff.mp hi).1
  have := (h.2 i v _ hi (List.getElem?_eq_getElem (by rw [h.1]; exact hil))).1
  omega
theorem asked_bd {row : List Kd} {vs : List Int} {t : Stp} (z : ZsOK zs) (ok : t.OK zs.length row) (hl : row.length = vs.length) (h : ∀ v, v ∈ vs → v.natAbs < 10000000000000) : ∀ m, m ∈ askedS zs vs t → m.natAbs < 100000000000000 := by
  intro m hm
  have hb := ok.base
  rw [hl] at hb
  have hv : ∀ i, i < vs.length → (getV vs i).natAbs < 10000000000000 := fun i hi => h _ (List.mem_of_getElem? (getV_at hi))
  cases t with
  | find i p f g =>
    obtain ⟨o, ho, rfl⟩ := List.mem_map.mp hm
    have := hv i hb
    have := (z.at ok.2.1).bd _ (List.mem_reverse.mp ho)
    omega
  | read i p =>
    simp [askedS] at hm
    have := hv i hb
    omega
  | offset i p =>
    simp [askedS] at hm
    have := hv i hb
    omega
  | edition i p =>
    simp [askedS] at hm
    have := hv i hb
    omega
  | plus i j => cases hm
  | less i j => cases hm
  | add i m => cases hm
theorem behind_bd (z : ZsOK zs) (ok : ProgFrom zs.length [.mom] ts) (hl : ts.length ≤ 8) (hk : k < ts.length) (h : CaW zs ts k c) (v : CaV zs ts k c) : ∀ c', c' ∈ behindL zs ts k c → CaV zs ts (k + 1) c' := by
  intro c' hc
  obtain ⟨lk, vs, r⟩ := c
  unfold behindL at hc
  cases r with
  | some j =>
    simp at hc
    subst hc
    exact ⟨(fun h => nomatch h), v.vs, v.lk, fun j' e => by have := v.r j' e; omega⟩
  | none =>
    obtain ⟨b, hb, rfl⟩ := List.mem_map.mp hc
    have B := branch_of z ok hk h rfl hb
    obtain ⟨h1, h2⟩ := progFrom_at ok hk
    have hg := h.go rfl
    have vb := v.vb rfl
    simp only at hg vb
    have hvs := vb_all vb (by omega)
    have hrow : (kindsFrom [.mom] (ts.take k)).length = vs.length := by omega
    have hlk : ∀ x, x ∈ b → x.2.2.1.natAbs < 100000000000000 := fun x hx => by
      rcases B.mo x hx with hx | hx
      · exact v.lk x hx
      · exact asked_bd z h1 hrow hvs _ hx
    have tk := tbE_ok z B.w B.f
    unfold madeL
    cases e : stepV zs (tbE zs b (nowOf ts vs)) vs (ts.getD k (.add 0 0)) with
    | none => exact ⟨(fun h => nomatch h), v.vs, hlk, fun j e => by cases e; omega⟩
    | some w =>
      obtain ⟨s1, s2⟩ := step_bd z tk vb h1 e
      have hn := vb.snoc s1 s2
      have et : kindsFrom [.mom] (ts.take (k + 1)) = kindsFrom [.mom] (ts.take k) ++ [(ts.getD k (.add 0 0)).kind (kindsFrom [.mom] (ts.take k))] := by
        have e1 : ts.take (k + 1) = ts.take k ++ [ts.getD k (.add 0 0)] := by
          rw [List.take_add_one, List.getD_eq_getElem?_getD, List.getElem?_eq_getElem hk]; rfl
        rw [e1, kindsFrom_snoc]
      refine ⟨fun _ => by rw [et]; exact hn, fun x hx => ?_, hlk, (fun j e => nomatch e)⟩
      have := vb_all hn (by simp; omega) x hx
      omega
theorem tales_bd (z : ZsOK zs) (ok : ProgFrom zs.length [.mom] ts) (hl : ts.length ≤ 8) : ∀ {k : Nat}, k ≤ ts.length → ∀ c, c ∈ talesL zs ts k → CaV zs ts k c
  | 0, _, c, hc => by
    simp [talesL] at hc
    subst hc
    exact ⟨fun _ => vb_start (st := 0) (by omega), fun v hv => by simp at hv; subst hv; decide, (fun x h => nomatch h), fun j e => nomatch e⟩
  | k + 1, hk, c, hc => by
    obtain ⟨c0, h0, h1⟩ := List.mem_flatMap.mp hc
    exact behind_bd z ok hl hk (tales_ok z ok (by omega) c0 h0) (tales_bd z ok hl (by omega) c0 h0) c h1
theorem tales_cab (z : ZsOK zs) (ok : ProgFrom zs.length [.mom] ts) (hl : ts.length ≤ 8) (hk : k ≤ ts.length) : ∀ c, c ∈ talesL zs ts k → CaB c := by
  intro c hc
  have W := tales_ok z ok hk c hc
  have V := tales_bd z ok hl hk c hc
  have hz : zs.length ≤ 2 := by rcases z.len with h | h <;> omega
  refine ⟨fun x hx => ?_, by have := W.len; omega, V.vs, by have := W.v2; omega, fun j e => by have := V.r j e; omega⟩
  obtain ⟨p, hp, e1, e2, e3⟩ := W.w.each x hx
  have := (z.at hp).bd _ e2
  have := V.lk x hx
  refine ⟨by omega, ?_, by omega, by omega⟩
  rcases e3 with e3 | ⟨e3, _⟩ <;> omega
end
end Dm
-- text HmCas8
namespace Dm
open PySem L2
section
variable {zs : Zs} {ts us : List Stp} {k p : Nat} {c : Case} {vs : List Int} {lk : List Lk} {t : Stp} {m o : Int}
/-! ### the cases of a beginning -/
theorem nowF_app : ∀ {ts us : List Stp} {ws : List Int}, ws.length ≤ ts.length → nowF p (ts ++ us) ws = nowF p ts ws
  | [], us, [], _ => by rw [nowF_nil, nowF_nil]
  | [], us, w :: ws, h => by simp at h
  | t :: ts, us, [], _ => rfl
  | t :: ts, us, w :: ws, h => by
    rw [List.cons_append, nowF, nowF, nowF_app (by simpa using h)]
theorem nowOf_app (h : vs.length ≤ ts.length + 1) : nowOf (ts ++ us) vs = nowOf ts vs := by
  funext p
  unfold nowOf
  exact nowF_app (by rw [List.length_drop]; omega)
theorem behind_app (hk : k < ts.length) (h : c.2.1.length ≤ k + 1) : behindL zs (ts ++ us) k c = behindL zs ts k c := by
  have e : (ts ++ us).getD k (.add 0 0) = ts.getD k (.add 0 0) := by
    rw [List.getD_eq_getElem?_getD, List.getD_eq_getElem?_getD, List.getElem?_append_left hk]
  unfold behindL
  rw [e, nowOf_app (by omega)]
theorem flat_congr {α β : Type} {f g : α → List β} : ∀ {l : List α}, (∀ x, x ∈ l → f x = g x) → l.flatMap f = l.flatMap g
  | [], _ => rfl
  | x :: l, h => by
    rw [List.flatMap_cons, List.flatMap_cons, h x List.mem_cons_self, flat_congr fun y hy => h y (List.mem_cons_of_mem _ hy)]
theorem tales_app (z : ZsOK zs) (ok : ProgFrom zs.length [.mom] ts) : ∀ {k : Nat}, k ≤ ts.length → talesL zs (ts ++ us) k = talesL zs ts k
  | 0, _ => rfl
  | k + 1, hk => by
    rw [talesL, talesL, tales_app z ok (by omega)]
    exact flat_congr fun c hc => behind_app hk (tales_ok z ok (by omega) c hc).v2
/-! ### steps that look at nothing, and at one moment -/
end
end Dm
-- text HmOdo
namespace Dm
/-! ### all choices, one after another -/
inductive Ch (α : Type) : Type
  | ret (a : α) : Ch α
  | pick (n : Nat) (f : Nat → Ch α) : Ch α
namespace Ch
variable {α β : Type}
def run : Ch α → List (Nat × Nat) → α × List (Nat × Nat)
  | ret a, _ => (a, [])
  | pick n f, row => ((run (f (min (row.headD (0, 0)).1 (n - 1))) row.tail).1, (min (row.headD (0, 0)).1 (n - 1), n) :: (run (f (min (row.headD (0, 0)).1 (n - 1))) row.tail).2)
def leaves : Ch α → List α
  | ret a => [a]
  | pick n f => (List.range n).flatMap fun j => leaves (f j)
def bind : Ch α → (α → Ch β) → Ch β
  | ret a, g => g a
  | pick n f, g => pick n fun j => bind (f j) g
theorem leaves_bind {g : α → Ch β} : ∀ {c : Ch α}, leaves (bind c g) = (leaves c).flatMap fun a => leaves (g a)
  | ret a => by simp [bind, leaves]
  | pick n f => by
    simp only [bind, leaves, List.flatMap_assoc]
    congr 1
    funext j
    exact leaves_bind
end Ch
end Dm
-- text HmRow1
namespace Dm
open PySem L2
section
variable {zs : Zs} {ts : List Stp} {k p n : Nat} {c : Case} {vs : List Int} {lk b : List Lk} {t : Stp} {m o : Int} {ms : List Int} {now now2 : Nat → Option Int}
/-! ### runs by all offsets -/
def askC (zs : Zs) (now : Option Int) (p : Nat) : List Int → List Lk → Ch (List Lk)
  | [], lk => .ret lk
  | m :: ms, lk => match known lk p (edOf now m) m with
    | some _ => askC zs now p ms lk
    | none => .pick (getZ zs p).1.length fun j => askC zs now p ms (lk ++ [((p : Int), edOf now m, m, (getZ zs p).1.getD j 0)])
def offK (lk : List Lk) (p : Nat) (now : Option Int) (m : Int) : Int := (known lk p (edOf now m) m).getD 0
def fitsO (os : List Int) (offs : Int → Int) (r : Int) : List Int := (os.reverse.filter fun o => offs (r - o) == o).map (r - ·)
def findW (os : List Int) (offs : Int → Int) (r : Int) (f g : Str) : Option Int := match fitsO os offs r with
  | [] => if g = "refuse" then none else if g = "ahead" then some (r - offs (r - hiO os)) else some (r - offs (r - loO os))
  | [m] => some m
  | m :: m' :: l => if f = "refuse" then none else if f = "early" then some m else some ((m' :: l).getLastD m')
def worthO (zs : Zs) (offs : Int → Int) (vs : List Int) : Stp → Option Int
  | .read i _ => some (getV vs i + offs (getV vs i))
  | .find i p f g => findW (getZ zs p).1 offs (getV vs i) f g
  | .offset i _ => some (offs (getV vs i))
  | .edition i _ => some (getV vs i)
  | .plus i j => some (getV vs i + getV vs j)
  | .less i j => some (getV vs i - getV vs j)
  | .add i m => some (getV vs i + m)
def rowC (zs : Zs) (ts : List Stp) : Nat → Nat → List Lk → List Int → Ch Case
  | 0, _, lk, vs => .ret (lk, vs, none)
  | n + 1, k, lk, vs => (askC zs (nowOf ts vs (ts.getD k (.add 0 0)).place) (ts.getD k (.add 0 0)).place (askedS zs vs (ts.getD k (.add 0 0))) lk).bind fun b =>
      match worthO zs (offK b (ts.getD k (.add 0 0)).place (nowOf ts vs (ts.getD k (.add 0 0)).place)) vs (ts.getD k (.add 0 0)) with
      | none => .ret (b, vs, some k)
      | some v => rowC zs ts n (k + 1) b (vs ++ [v])
/-! ### those that can be -/
def fitAB (zs : Zs) (now : Nat → Option Int) (b : List Lk) : Bool := (List.range zs.length).all fun p => fitB (getZ zs p) b p (now p)
theorem fitAB_iff : fitAB zs now b = true ↔ FitA zs now b := by
  unfold fitAB FitA
  rw [List.all_eq_true]
  exact ⟨fun h p hp => h p (List.mem_range.mpr hp), fun h p hp => h p (List.mem_range.mp hp)⟩
def possC (zs : Zs) (ts : List Stp) (c : Case) : Bool := fitAB zs (nowOf ts c.2.1) c.1
theorem sub_side {x : Lk} {q : Nat} {e : Int} : ∀ y, y ∈ srtP (sideM lk q e) → y ∈ srtP (sideM (lk ++ [x]) q e) := by
  intro y hy
  rw [(srtP_perm _).mem_iff] at hy ⊢
  unfold sideM at hy ⊢
  obtain ⟨z, hz, rfl⟩ := List.mem_map.mp hy
  obtain ⟨h1, h2⟩ := List.mem_filter.mp hz
  exact List.mem_map.mpr ⟨z, List.mem_filter.mpr ⟨List.mem_append_left _ h1, h2⟩, rfl⟩
/-- what fits with a look more fits without -/
theorem fit_less {x : Lk} (z : ZsOK zs) (w : LkW zs now lk) (w2 : LkW zs now (lk ++ [x])) (f : FitA zs now (lk ++ [x])) : FitA zs now lk := by
  intro q hq
  have h := f q hq
  unfold fitB at h ⊢
  rw [Bool.and_eq_true] at h ⊢
  refine ⟨?_, ?_⟩
  · have h1 : crow (getZ zs q).2 (srtP (sideM (lk ++ [x]) q 0)) = none := by simpa using h.1
    rw [crow_sub (z.at hq) (w2.side (e := 0) hq) (w.side (e := 0) hq).asc sub_side h1]; rfl
  · cases hn : now q with
    | none => rfl
    | some n =>
      have h2 := h.2
      rw [hn] at h2
      simp only at h2 ⊢
      have h1 : crow (getZ zs q).2 (laterL (lk ++ [x]) q n) = none := by simpa using h2
      rw [crow_sub (z.at hq) (w2.later hq hn) (w.later hq hn).asc (fun y hy => ?_) h1]; rfl
      unfold laterL at hy ⊢
      rcases List.mem_append.mp hy with hy | hy
      · refine List.mem_append_left _ (List.mem_filter.mpr ⟨sub_side y (List.mem_filter.mp hy).1, (List.mem_filter.mp hy).2⟩)
      · exact List.mem_append_right _ (sub_side y hy)
theorem branch_flat : ∀ {ms : List Int} {bs : List (List Lk)} {F : List Lk → Int → List (List Lk)}, ms.foldl (fun bs m => bs.flatMap fun b => F b m) bs = bs.flatMap fun b => ms.foldl (fun bs m => bs.flatMap fun b => F b m) [b]
  | [], bs, F => by simp
  | m :: ms, bs, F => by
    rw [List.foldl_cons, branch_flat, List.flatMap_assoc]
    congr 1
    funext b
    rw [List.foldl_cons, branch_flat (bs := [b].flatMap fun b => F b m)]
    simp
theorem os_range {os : List Int} {β : Type} {g : Int → List β} : (List.range os.length).flatMap (fun j => g (os.getD j 0)) = os.flatMap g := by
  have e : os = (List.range os.length).map fun j => os.getD j 0 := by
    refine List.ext_getElem? fun i => ?_
    rw [List.getElem?_map]
    by_cases hi : i < os.length
    · rw [List.getElem?_range hi, List.getElem?_eq_getElem hi, Option.map_some, List.getD_eq_getElem?_getD, List.getElem?_eq_getElem hi]; rfl
    · rw [List.getElem?_eq_none (by omega), List.getElem?_eq_none (by simp; omega)]; rfl
  conv => rhs; rw [e]
  rw [List.flatMap_map]
/-- the branches that fit, among all -/
theorem ask_prune (z : ZsOK zs) (hp : p < zs.length) : ∀ {ms : List Int} {lk : List Lk}, LkW zs now lk → ((askC zs (now p) p ms lk).leaves.filter (fitAB zs now) = if fitAB zs now lk = true then branchL zs now p lk ms else []) ∧ ∀ b, b ∈ (askC zs (now p) p ms lk).leaves → LkW zs now b
  | [], lk, w => by
    refine ⟨?_, fun b hb => by simp [askC, Ch.leaves] at hb; subst hb; exact w⟩
    simp only [askC, Ch.leaves, branchL, List.foldl_nil]
    cases h : fitAB zs now lk with
    | true => simp [h]
    | false => simp [h]
  | m :: ms, lk, w => by
    cases hk : known lk p (edOf (now p) m) m with
    | some o =>
      have ih := ask_prune z hp (ms := ms) w
      have e : askC zs (now p) p (m :: ms) lk = askC zs (now p) p ms lk := by rw [askC, hk]
      rw [e]
      refine ⟨?_, ih.2⟩
      rw [ih.1]
      have e2 : branchL zs now p lk (m :: ms) = branchL zs now p lk ms := by
        unfold branchL
        rw [List.foldl_cons]
        congr 1
        simp [longL, hk]
      rw [e2]
    | none =>
      have e : (askC zs (now p) p (m :: ms) lk).leaves = (getZ zs p).1.flatMap fun o => (askC zs (now p) p ms (lk ++ [((p : Int), edOf (now p) m, m, o)])).leaves := by
        rw [askC, hk]
        exact os_range (g := fun o => (askC zs (now p) p ms (lk ++ [((p : Int), edOf (now p) m, m, o)])).leaves)
      have ih := fun o (ho : o ∈ (getZ zs p).1) => ask_prune z hp (ms := ms) (w.snoc hp ho hk)
      rw [e]
      refine ⟨?_, fun b hb => ?_⟩
      · rw [List.filter_flatMap]
        have e3 : ((getZ zs p).1.flatMap fun o => ((askC zs (now p) p ms (lk ++ [((p : Int), edOf (now p) m, m, o)])).leaves.filter (fitAB zs now))) = (getZ zs p).1.flatMap fun o => if fitAB zs now (lk ++ [((p : Int), edOf (now p) m, m, o)]) = true then branchL zs now p (lk ++ [((p : Int), edOf (now p) m, m, o)]) ms else [] := flat_congr fun o ho => (ih o ho).1
        rw [e3]
        by_cases hf : fitAB zs now lk = true
        · rw [if_pos hf]
          have f := fitAB_iff.mp hf
          have e4 : branchL zs now p lk (m :: ms) = (longL zs lk p (now p) m).flatMap fun b => branchL zs now p b ms := by
            unfold branchL
            rw [List.foldl_cons, branch_flat]
            simp
          rw [e4]
          unfold longL
          rw [hk]
          simp only
          have hfit : ∀ o, fitAB zs now (lk ++ [((p : Int), edOf (now p) m, m, o)]) = fitB (getZ zs p) (lk ++ [((p : Int), edOf (now p) m, m, o)]) p (now p) := by
            intro o
            rw [Bool.eq_iff_iff]
            exact ⟨fun h => fitAB_iff.mp h p hp, fun h => fitAB_iff.mpr (f.snoc h)⟩
          induction (getZ zs p).1 with
          | nil => rfl
          | cons o os ih2 =>
            rw [List.flatMap_cons, List.map_cons, List.filter_cons, ← hfit o]
            by_cases c : fitAB zs now (lk ++ [((p : Int), edOf (now p) m, m, o)]) = true
            · rw [if_pos c, if_pos c, List.flatMap_cons, ih2]
            · rw [if_neg c, if_neg c, List.nil_append, ih2]
        · rw [if_neg hf]
          rw [List.flatMap_eq_nil_iff]
          intro o ho
          rw [if_neg]
          intro h
          exact hf (fitAB_iff.mpr (fit_less z w (w.snoc hp ho hk) (fitAB_iff.mp h)))
      · obtain ⟨o, ho, hb⟩ := List.mem_flatMap.mp hb
        exact (ih o ho).2 b hb
end
end Dm
-- text HmRow2
namespace Dm
open PySem L2
section
variable {zs : Zs} {ts : List Stp} {k p n : Nat} {c : Case} {vs : List Int} {lk b : List Lk} {t : Stp} {m o : Int} {ms : List Int} {now now2 : Nat → Option Int} {row : List Kd}
/-- where a branch fits, the offsets seen are those of its early tables -/
theorem worth_eq (z : ZsOK zs) (ok : t.OK zs.length row) (hl : row.length = vs.length) (w : LkW zs now b) (f : FitA zs now b) (hk : ∀ m, m ∈ askedS zs vs t → ∃ o, known b t.place (edOf (now t.place) m) m = some o) :
    worthO zs (offK b t.place (now t.place)) vs t = stepV zs (tbE zs b now) vs t := by
  have held : t.place < zs.length → ∀ m, m ∈ askedS zs vs t → offK b t.place (now t.place) m = (getT (tbE zs b now) t.place).of m := by
    intro hp m hm
    obtain ⟨o, ho⟩ := hk m hm
    unfold offK
    rw [ho, tbE_at hp, (curE_ok z w f hp).2 m o ho]; rfl
  cases t with
  | read i p =>
    have := held ok.2 (getV vs i) (by simp [askedS])
    show some (getV vs i + _) = some (getV vs i + _)
    rw [this]; rfl
  | offset i p =>
    have := held ok.2 (getV vs i) (by simp [askedS])
    show some _ = some _
    rw [this]; rfl
  | edition i p => rfl
  | plus i j => rfl
  | less i j => rfl
  | add i m => rfl
  | find i p f' g =>
    have hp := ok.2.1
    have tk := (tbE_ok z w f).tab hp
    have hz := z.at hp
    have E := hz.ends
    have hh : ∀ o, o ∈ (getZ zs p).1 → offK b p (now p) (getV vs i - o) = offAt (getT (tbE zs b now) p).1 (getT (tbE zs b now) p).2 (getV vs i - o) := fun o ho => held hp _ (List.mem_map.mpr ⟨o, List.mem_reverse.mpr ho, rfl⟩)
    have e1 : fitsO (getZ zs p).1 (offK b p (now p)) (getV vs i) = momsOf (getZ zs p).1 (getT (tbE zs b now) p).1 (getT (tbE zs b now) p).2 (getV vs i) := by
      unfold fitsO momsOf
      congr 1
      refine List.filter_congr fun o ho => ?_
      rw [hh o (List.mem_reverse.mp ho)]
    show findW (getZ zs p).1 (offK b p (now p)) (getV vs i) f' g = findI _ (_, _) (getV vs i) f' g
    unfold findW
    rw [e1, hh _ E.mb, hh _ E.ma]
    have h2 := moms_two (r := getV vs i) hz tk
    generalize momsOf (getZ zs p).1 (getT (tbE zs b now) p).1 (getT (tbE zs b now) p).2 (getV vs i) = l at h2
    match l, h2 with
    | [], _ => rfl
    | [m], _ => rfl
    | [m, m'], _ => rfl
    | _ :: _ :: _ :: _, h2 => simp at h2
def dfsL (zs : Zs) (ts : List Stp) : Nat → Nat → Case → List Case
  | 0, _, c => [c]
  | n + 1, k, c => (behindL zs ts k c).flatMap (dfsL zs ts n (k + 1))
theorem dfs_ref {j : Nat} : ∀ {n k : Nat}, dfsL zs ts n k (lk, vs, some j) = [(lk, vs, some j)]
  | 0, _ => rfl
  | n + 1, k => by
    have e : behindL zs ts k (lk, vs, some j) = [(lk, vs, some j)] := rfl
    rw [dfsL, e]
    simp [dfs_ref]
theorem tales_dfs : ∀ {n k : Nat}, talesL zs ts (k + n) = (talesL zs ts k).flatMap (dfsL zs ts n k)
  | 0, k => by
    have : (dfsL zs ts 0 k) = fun c => [c] := rfl
    rw [this]; simp
  | n + 1, k => by
    have e : k + (n + 1) = (k + 1) + n := by omega
    rw [e, tales_dfs (n := n) (k := k + 1), talesL, List.flatMap_assoc]
    rfl
theorem known_ask (h : b ∈ (askC zs (now p) p ms lk).leaves) : (∃ add, b = lk ++ add) ∧ ∀ m, m ∈ ms → ∃ o, known b p (edOf (now p) m) m = some o := by
  induction ms generalizing lk with
  | nil =>
    simp [askC, Ch.leaves] at h
    subst h
    exact ⟨⟨[], by simp⟩, fun m h => nomatch h⟩
  | cons m ms ih =>
    rw [askC] at h
    cases hk : known lk p (edOf (now p) m) m with
    | some o =>
      rw [hk] at h
      obtain ⟨⟨add, e⟩, h2⟩ := ih h
      refine ⟨⟨add, e⟩, fun m' hm => ?_⟩
      rcases List.mem_cons.mp hm with rfl | hm
      · exact ⟨o, by rw [e]; exact known_more hk⟩
      · exact h2 m' hm
    | none =>
      rw [hk] at h
      obtain ⟨j, hj, hb⟩ := List.mem_flatMap.mp h
      obtain ⟨⟨add, e⟩, h2⟩ := ih hb
      refine ⟨⟨_ :: add, by rw [e, List.append_assoc]; rfl⟩, fun m' hm => ?_⟩
      rcases List.mem_cons.mp hm with rfl | hm
      · exact ⟨_, by rw [e]; exact known_more (known_new hk)⟩
      · exact h2 m' hm
theorem fitA_back (f : FitA zs now2 b) (h : ∀ p, now2 p = now p ∨ now p = none) : FitA zs now b := by
  intro p hp
  have := f p hp
  rcases h p with h | h
  · rw [← h]; exact this
  · rw [h]
    unfold fitB at this ⊢
    rw [Bool.and_eq_true] at this
    simp [this.1]
theorem ask_nil {now : Option Int} : (askC zs now p [] lk).leaves = [lk] := rfl
/-- the runs by all offsets, those left out that can't be: the cases -/
theorem row_prune (z : ZsOK zs) (ok : ProgFrom zs.length [.mom] ts) : ∀ {n k : Nat} {lk : List Lk} {vs : List Int}, k + n = ts.length → vs.length = k + 1 → LkW zs (nowOf ts vs) lk →
    (rowC zs ts n k lk vs).leaves.filter (possC zs ts) = if fitAB zs (nowOf ts vs) lk = true then dfsL zs ts n k (lk, vs, none) else []
  | 0, k, lk, vs, hkn, hv, w => by
    show [(lk, vs, none)].filter (possC zs ts) = _
    have e : possC zs ts (lk, vs, none) = fitAB zs (nowOf ts vs) lk := rfl
    cases h : fitAB zs (nowOf ts vs) lk with
    | true => simp [e, h, dfsL]
    | false => simp [e, h]
  | n + 1, k, lk, vs, hkn, hv, w => by
    have hk : k < ts.length := by omega
    obtain ⟨h1, h2⟩ := progFrom_at ok hk
    have hrow : (kindsFrom [.mom] (ts.take k)).length = vs.length := by omega
    rw [rowC, Ch.leaves_bind, List.filter_flatMap]
    have hbeh : behindL zs ts k (lk, vs, none) = (branchL zs (nowOf ts vs) (ts.getD k (.add 0 0)).place lk (askedS zs vs (ts.getD k (.add 0 0)))).map (madeL zs (nowOf ts vs) k (ts.getD k (.add 0 0)) vs) := rfl
    rw [dfsL, hbeh]
    have gr := fun v => now_grow (ts := ts) (vs := vs) (v := v) hk hv
    generalize ts.getD k (.add 0 0) = t at h1
    -- one branch
    have one : ∀ b, b ∈ (askC zs (nowOf ts vs t.place) t.place (askedS zs vs t) lk).leaves → LkW zs (nowOf ts vs) b → ((match worthO zs (offK b t.place (nowOf ts vs t.place)) vs t with
        | none => Ch.ret (b, vs, some k)
        | some v => rowC zs ts n (k + 1) b (vs ++ [v])).leaves.filter (possC zs ts)) = if fitAB zs (nowOf ts vs) b = true then dfsL zs ts n (k + 1) (madeL zs (nowOf ts vs) k t vs b) else [] := by
      intro b hb wb
      by_cases hf : fitAB zs (nowOf ts vs) b = true
      · rw [if_pos hf]
        have f := fitAB_iff.mp hf
        rw [worth_eq z h1 hrow wb f (known_ask hb).2]
        unfold madeL
        cases e : stepV zs (tbE zs b (nowOf ts vs)) vs t with
        | none =>
          simp only [dfs_ref]
          show [(b, vs, some k)].filter (possC zs ts) = _
          have e2 : possC zs ts (b, vs, some k) = true := hf
          simp [e2]
        | some v =>
          simp only
          rw [row_prune z ok (by omega) (by simp; omega) (wb.grow (gr v)), if_pos (fitAB_iff.mpr (f.grow z wb (gr v)))]
      · rw [if_neg hf]
        cases e : worthO zs (offK b t.place (nowOf ts vs t.place)) vs t with
        | none =>
          show [(b, vs, some k)].filter (possC zs ts) = _
          have e2 : possC zs ts (b, vs, some k) = false := by
            show fitAB zs (nowOf ts vs) b = false
            simpa using hf
          simp [e2]
        | some v =>
          simp only
          rw [row_prune z ok (by omega) (by simp; omega) (wb.grow (gr v)), if_neg]
          intro h
          exact hf (fitAB_iff.mpr (fitA_back (fitAB_iff.mp h) (gr v)))
    have all : (askC zs (nowOf ts vs t.place) t.place (askedS zs vs t) lk).leaves.filter (fitAB zs (nowOf ts vs)) = (if fitAB zs (nowOf ts vs) lk = true then branchL zs (nowOf ts vs) t.place lk (askedS zs vs t) else []) ∧ ∀ b, b ∈ (askC zs (nowOf ts vs t.place) t.place (askedS zs vs t) lk).leaves → LkW zs (nowOf ts vs) b := by
      by_cases ha : askedS zs vs t = []
      · rw [ha, ask_nil]
        refine ⟨?_, fun b hb => by simp at hb; subst hb; exact w⟩
        unfold branchL
        cases h : fitAB zs (nowOf ts vs) lk with
        | true => simp [h]
        | false => simp [h]
      · exact ask_prune z (asked_place' h1 ha) w
    have e1 : ((askC zs (nowOf ts vs t.place) t.place (askedS zs vs t) lk).leaves.flatMap fun b => (match worthO zs (offK b t.place (nowOf ts vs t.place)) vs t with
        | none => Ch.ret (b, vs, some k)
        | some v => rowC zs ts n (k + 1) b (vs ++ [v])).leaves.filter (possC zs ts)) = ((askC zs (nowOf ts vs t.place) t.place (askedS zs vs t) lk).leaves.filter (fitAB zs (nowOf ts vs))).flatMap fun b => dfsL zs ts n (k + 1) (madeL zs (nowOf ts vs) k t vs b) := by
      rw [flat_congr fun b hb => one b hb (all.2 b hb)]
      generalize (askC zs (nowOf ts vs t.place) t.place (askedS zs vs t) lk).leaves = l
      induction l with
      | nil => rfl
      | cons b l ih =>
        rw [List.flatMap_cons, List.filter_cons, ih]
        by_cases c : fitAB zs (nowOf ts vs) b = true
        · rw [if_pos c, if_pos c, List.flatMap_cons]
        · rw [if_neg c, if_neg c, List.nil_append]
    refine Eq.trans e1 ?_
    rw [all.1]
    by_cases c : fitAB zs (nowOf ts vs) lk = true
    · rw [if_pos c, if_pos c, List.flatMap_map]
    · rw [if_neg c, if_neg c]; rfl
theorem rows_tales (z : ZsOK zs) (ok : ProgFrom zs.length [.mom] ts) : (rowC zs ts ts.length 0 [] [0]).leaves.filter (possC zs ts) = talesL zs ts ts.length := by
  have h := row_prune (n := ts.length) (k := 0) (lk := []) (vs := [0]) z ok (by omega) rfl .nil
  rw [h, if_pos (fitAB_iff.mpr (fitA_nil z))]
  have := tales_dfs (zs := zs) (ts := ts) (n := ts.length) (k := 0)
  rw [Nat.zero_add] at this
  rw [this]
  simp [talesL]
end
end Dm
-- text HmFd1
namespace Dm
open PySem L2 PySem.W
/-! ### rows of offsets, by their sequence -/
abbrev Rw := List Int
def rowsL (os : List Int) : Nat → List Rw
  | 0 => [[]]
  | n + 1 => os.flatMap fun x => (rowsL os n).map (x :: ·)
def chs : Rw → Nat
  | x :: y :: l => (if x = y then 0 else 1) + chs (y :: l)
  | _ => 0
def few (r : Rw) : Bool := decide (chs r ≤ 1)
def fewL (os : List Int) : List Rw := (rowsL os os.length).filter few
def rwPy (r : Rw) : PyData := .list (r.map .int)
def rwD (r : Rw) : D := .lst (r.map .int)
/-- before, by the first place that differs -/
def bef : Rw → Rw → Bool
  | x :: xs, y :: ys => decide (x < y) || (decide (x = y) && bef xs ys)
  | [], _ :: _ => true
  | _, [] => false
theorem lt_rows : ∀ {r r' : Rw}, dataLt (rwPy r) (rwPy r') = bef r r'
  | [], [] => lt_irr _
  | [], y :: ys => by
    show PyProof.Rows.lexLt PyProof.Rows.itemOrd [.inl 0] (.inl 1 :: _) = true
    rw [PyProof.Rows.lex_diff (O := PyProof.Rows.itemOrd) (by intro e; injection e with e; exact absurd e (by decide))]
    rfl
  | x :: xs, [] => by
    show PyProof.Rows.lexLt PyProof.Rows.itemOrd (.inl 1 :: _) [.inl 0] = false
    rw [PyProof.Rows.lex_diff (O := PyProof.Rows.itemOrd) (by intro e; injection e with e; exact absurd e (by decide))]
    rfl
  | x :: xs, y :: ys => by
    have ih := lt_rows (r := xs) (r' := ys)
    show PyProof.Rows.lexLt PyProof.Rows.itemOrd (.inl 1 :: .inl x :: keyToksAll (xs.map .int)) (.inl 1 :: .inl y :: keyToksAll (ys.map .int)) = _
    rw [PyProof.Rows.lex_self (O := PyProof.Rows.itemOrd)]
    by_cases e : x = y
    · subst e
      rw [PyProof.Rows.lex_self (O := PyProof.Rows.itemOrd)]
      have ih' : PyProof.Rows.lexLt PyProof.Rows.itemOrd (keyToksAll (xs.map .int)) (keyToksAll (ys.map .int)) = bef xs ys := ih
      rw [ih']
      simp [bef]
    · rw [PyProof.Rows.lex_diff (O := PyProof.Rows.itemOrd) (by intro z; injection z with z; exact e z)]
      show decide (x < y) = _
      simp [bef, e]
theorem bef_asym : ∀ {r r' : Rw}, bef r r' = true → bef r' r = false
  | [], [], _ => rfl
  | [], y :: ys, _ => rfl
  | x :: xs, [], h => by simp [bef] at h
  | x :: xs, y :: ys, h => by
    simp [bef] at h ⊢
    rcases h with h | ⟨rfl, h⟩
    · exact ⟨by omega, fun e => by omega⟩
    · exact ⟨by omega, fun _ => bef_asym h⟩
theorem alike_ints : ∀ {r r' : Rw}, alikeAll (r.map .int) (r'.map .int) = true
  | [], _ => by simp [alikeAll]
  | _ :: _, [] => by simp [alikeAll]
  | x :: xs, y :: ys => by
    rw [List.map_cons, List.map_cons, alikeAll, alike_ints (r := xs) (r' := ys)]
    simp [alike]
theorem rows_alike {rs : List Rw} : AllAlike (rs.map rwPy) := by
  intro a ha b hb
  obtain ⟨x, _, rfl⟩ := List.mem_map.mp ha
  obtain ⟨y, _, rfl⟩ := List.mem_map.mp hb
  unfold rwPy
  rw [alike]
  exact alike_ints
theorem ints_pysF {S : Sto} : ∀ {l : List Int}, toPysC S (l.map .int) = some (l.map .int)
  | [] => rfl
  | x :: l => by
    rw [List.map_cons, toPysC, ints_pysF (l := l)]
    rfl
theorem rows_pysC {S : Sto} : ∀ {rs : List Rw}, toPysC S (rs.map rwD) = some (rs.map rwPy)
  | [] => rfl
  | r :: rs => by
    have h1 : toPyC S (rwD r) = some (rwPy r) := by
      unfold rwD
      rw [toPyC, ints_pysF]; rfl
    rw [List.map_cons, toPysC, h1, rows_pysC (rs := rs)]
    rfl
theorem ints_dp : ∀ {l : List Int}, PyData.depthAll (l.map .int) ≤ 1
  | [] => by simp [PyData.depthAll]
  | x :: l => by
    have := ints_dp (l := l)
    simp [PyData.depthAll, PyData.depth]
    omega
theorem rows_okS {rs : List Rw} : okS (rs.map rwPy) := by
  refine ⟨rows_alike, .inr fun p hp => ?_, fun p hp => ?_, fun p hp => ?_⟩
  · obtain ⟨x, _, rfl⟩ := List.mem_map.mp hp
    refine ⟨fun e => ?_, fun l e => ?_⟩
    · exact nomatch e
    · exact nomatch e
  · obtain ⟨x, _, rfl⟩ := List.mem_map.mp hp
    have := ints_dp (l := x)
    show PyData.depth (.list _) ≤ 60
    simp [PyData.depth]
    omega
  · obtain ⟨x, _, rfl⟩ := List.mem_map.mp hp
    exact .inr ⟨_, rfl⟩
theorem rwPy_inj {r r' : Rw} (h : rwPy r = rwPy r') : r = r' := by
  unfold rwPy at h
  injection h with h
  induction r generalizing r' with
  | nil =>
    cases r' with
    | nil => rfl
    | cons => exact nomatch h
  | cons x xs ih =>
    cases r' with
    | nil => exact nomatch h
    | cons y ys =>
      injection h with h1 h2
      injection h1 with h1
      rw [h1, ih h2]
/-- rows sorted: any sequence of them that goes up -/
theorem sort_rows {S : Sto} {d : D} {rs ts : List Rw} (h : seqOf S d = some (rs.map rwD)) (hp : rs.Perm ts) (hs : ts.Pairwise fun a b => bef b a = false) : gSortD S [d] = some (ts.map rwD) := by
  rw [gSortD_some h rows_pysC rows_okS]
  unfold srtD
  have ez : ∀ l : List Rw, (l.map rwD).zip (l.map rwPy) = l.map fun r => (rwD r, rwPy r) := fun l => by
    rw [List.zip_map']
  rw [ez]
  have tl := PySem.W.sortLe_total (PyProof.Rows.listOrd PyProof.Rows.itemOrd) false (fun b : D × PyData => keyToks b.2)
  have e : (rs.map fun r => (rwD r, rwPy r)).mergeSort (dataLe false Prod.snd) = ts.map fun r => (rwD r, rwPy r) := by
    refine List.Perm.eq_of_pairwise (le := fun a b => dataLe false Prod.snd a b = true) (fun a b ha hb h1 h2 => ?_) (PySem.W.sort_pairwise tl _) ?_ ((List.mergeSort_perm _ _).trans (hp.map _))
    · obtain ⟨x, _, rfl⟩ := List.mem_map.mp ((List.mergeSort_perm _ _).mem_iff.mp ha)
      obtain ⟨y, _, rfl⟩ := List.mem_map.mp hb
      have q := le_anti (x := rwPy x) (y := rwPy y) (by unfold rwPy; rw [alike]; exact alike_ints) h1 h2
      rw [rwPy_inj q]
    · rw [List.pairwise_map]
      refine hs.imp fun {a b} z => ?_
      show (!dataLt (rwPy b) (rwPy a)) = true
      rw [lt_rows, z]; rfl
  rw [e, List.map_map]
  rfl
/-! ### those with one change at most -/
theorem rows_len {os : List Int} : ∀ {n : Nat} {r : Rw}, r ∈ rowsL os n → r.length = n
  | 0, r, h => by simp [rowsL] at h; rw [h]; rfl
  | n + 1, r, h => by
    rw [rowsL, List.mem_flatMap] at h
    obtain ⟨x, _, h⟩ := h
    obtain ⟨r', h', rfl⟩ := List.mem_map.mp h
    rw [List.length_cons, rows_len h']
theorem rows_asc {os : List Int} (ha : os.Pairwise (· < ·)) : ∀ {n : Nat}, (rowsL os n).Pairwise fun a b => bef a b = true
  | 0 => by simp [rowsL]
  | n + 1 => by
    have ih := rows_asc ha (n := n)
    have go : ∀ l : List Int, l.Pairwise (· < ·) → (l.flatMap fun x => (rowsL os n).map (x :: ·)).Pairwise fun a b => bef a b = true := by
      intro l hl
      induction l with
      | nil => exact .nil
      | cons x l ihl =>
        obtain ⟨h1, h2⟩ := List.pairwise_cons.mp hl
        rw [List.flatMap_cons, List.pairwise_append]
        refine ⟨?_, ihl h2, fun a ha b hb => ?_⟩
        · rw [List.pairwise_map]
          exact ih.imp fun {a b} z => by simp [bef, z]
        · obtain ⟨a', _, rfl⟩ := List.mem_map.mp ha
          obtain ⟨y, hy, hb⟩ := List.mem_flatMap.mp hb
          obtain ⟨b', _, rfl⟩ := List.mem_map.mp hb
          simp [bef, h1 y hy]
    exact go os ha
theorem few_asc {os : List Int} (ha : os.Pairwise (· < ·)) : (fewL os).Pairwise fun a b => bef b a = false := ((rows_asc ha).filter _).imp fun h => bef_asym h
/-- the rows as the law makes them -/
def madeR (os : List Int) : List Rw := (os.map fun x => List.replicate os.length x) ++ os.flatMap fun a => (os.filter fun b => decide (b ≠ a)).flatMap fun b => (List.range (os.length - 1)).map fun k => List.replicate (k + 1) a ++ List.replicate (os.length - (k + 1)) b
def pickN (a b c : Int) : Nat → Int
  | 0 => a
  | 1 => b
  | _ => c
theorem made_perm {os : List Int} (h : os.Pairwise (· < ·)) (h1 : 1 ≤ os.length) (h3 : os.length ≤ 3) : (madeR os).Perm (fewL os) := by
  match os, h, h1, h3 with
  | [a], _, _, _ =>
    simp [madeR, fewL, rowsL, few, chs]
  | [a, b], h, _, _ =>
    have hab : a ≠ b := by simp at h; omega
    have hba : b ≠ a := Ne.symm hab
    have e1 : madeR [a, b] = ([[0, 0], [1, 1], [0, 1], [1, 0]] : List (List Nat)).map fun r => r.map (pickN a b b) := by
      simp [madeR, hab, hba, pickN, List.range, List.range.loop, List.replicate]
    have e2 : fewL [a, b] = ([[0, 0], [0, 1], [1, 0], [1, 1]] : List (List Nat)).map fun r => r.map (pickN a b b) := by
      simp [fewL, rowsL, few, chs, hab, hba, pickN]
    rw [e1, e2]
    exact List.Perm.map _ (by decide)
  | [a, b, c], h, _, _ =>
    have hab : a ≠ b := by simp at h; omega
    have hac : a ≠ c := by simp at h; omega
    have hbc : b ≠ c := by simp at h; omega
    have hba := hab.symm
    have hca := hac.symm
    have hcb := hbc.symm
    have e1 : madeR [a, b, c] = ([[0, 0, 0], [1, 1, 1], [2, 2, 2], [0, 1, 1], [0, 0, 1], [0, 2, 2], [0, 0, 2], [1, 0, 0], [1, 1, 0], [1, 2, 2], [1, 1, 2], [2, 0, 0], [2, 2, 0], [2, 1, 1], [2, 2, 1]] : List (List Nat)).map fun r => r.map (pickN a b c) := by
      simp [madeR, hab, hba, hac, hca, hbc, hcb, pickN, List.range, List.range.loop, List.replicate]
    have e2 : fewL [a, b, c] = ([[0, 0, 0], [0, 0, 1], [0, 0, 2], [0, 1, 1], [0, 2, 2], [1, 0, 0], [1, 1, 0], [1, 1, 1], [1, 1, 2], [1, 2, 2], [2, 0, 0], [2, 1, 1], [2, 2, 0], [2, 2, 1], [2, 2, 2]] : List (List Nat)).map fun r => r.map (pickN a b c) := by
      simp [fewL, rowsL, few, chs, hab, hba, hac, hca, hbc, hcb, pickN]
    rw [e1, e2]
    exact List.Perm.map _ (by decide)
end Dm
-- text HmFd2
namespace Dm
open PySem L2
section
variable {zs : Zs} {os : List Int} {s : Int} {lk : List Lk} {q eye : Nat} {hour by_ more o : Int}
/-! ### the cases of a find -/
def lkR (q : Nat) (hour : Int) (rev : List Int) (row : Rw) : List Lk := (rev.zip row).map fun p => ((q : Int), 0, hour - p.1, p.2)
theorem ask_rows (zs : Zs) (q : Nat) (hour : Int) : ∀ {rest : List Int} {lk : List Lk}, rest.Nodup → (∀ x, x ∈ lk → ∀ s, s ∈ rest → ¬ (x.1 = (q : Int) ∧ x.2.1 = 0 ∧ x.2.2.1 = hour - s)) →
    (askC zs none q (rest.map (hour - ·)) lk).leaves = (rowsL (getZ zs q).1 rest.length).map fun row => lk ++ lkR q hour rest row
  | [], lk, _, _ => by simp [askC, Ch.leaves, rowsL, lkR]
  | s :: rest, lk, hn, hk => by
    have k0 : known lk q (edOf none (hour - s)) (hour - s) = none := by
      unfold known
      rw [Option.map_eq_none_iff, List.find?_eq_none]
      intro x hx
      have := hk x hx s List.mem_cons_self
      show ¬ decide _ = true
      rw [decide_eq_true_eq]
      exact this
    obtain ⟨hs, hn2⟩ := List.nodup_cons.mp hn
    rw [List.map_cons, askC, k0]
    simp only [Ch.leaves]
    have e : ∀ j, (askC zs none q (rest.map (hour - ·)) (lk ++ [((q : Int), edOf none (hour - s), hour - s, (getZ zs q).1.getD j 0)])).leaves = (rowsL (getZ zs q).1 rest.length).map fun row => lk ++ lkR q hour (s :: rest) ((getZ zs q).1.getD j 0 :: row) := by
      intro j
      rw [ask_rows zs q hour hn2]
      · refine List.map_congr_left fun row _ => ?_
        simp [lkR, edOf]
      · intro x hx s' hs'
        rcases List.mem_append.mp hx with hx | hx
        · exact hk x hx s' (List.mem_cons_of_mem _ hs')
        · simp at hx
          subst hx
          rintro ⟨_, _, h3⟩
          have : s = s' := by simp at h3; omega
          subst this
          exact hs hs'
    simp only [e]
    have e2 := os_range (os := (getZ zs q).1) (g := fun x => (rowsL (getZ zs q).1 rest.length).map fun row => lk ++ lkR q hour (s :: rest) (x :: row))
    rw [e2, List.length_cons, rowsL, List.map_flatMap]
    congr 1
    funext x
    rw [List.map_map]
    rfl
theorem crow_one {m x : Int} : crow s [(m, x)] = none := by
  simp [crow, crowAt, List.range']
theorem crow_two {m m' x x' : Int} (hs : 0 < s) (h : m < m') : crow s [(m, x), (m', x')] = none := by
  have : ¬ (m' - m - 1 < ((if x' = x then 0 else 1) - 1) * s) := by
    split
    · have : ((0 : Int) - 1) * s = -s := by omega
      omega
    · simp; omega
  simpa [crow, crowAt, List.range', cond, Hh, Oo, tal, chg] using this
theorem crow_three {m1 m2 m3 x1 x2 x3 : Int} (hs : 0 < s) (h1 : m1 < m2) (h2 : m2 < m3) (h : m3 - m1 < s) : (crow s [(m1, x1), (m2, x2), (m3, x3)]).isNone = few [x1, x2, x3] := by
  have n1 : ((0 : Int) - 1) * s = -s := by omega
  by_cases c1 : x1 = x2
  · by_cases c2 : x2 = x3
    · subst c1 c2
      have a1 : ¬ (m2 - m1 - 1 < -s) := by omega
      have a2 : ¬ (m3 - m2 - 1 < -s) := by omega
      have a3 : ¬ (m3 - m1 - 1 < -s) := by omega
      simp [crow, crowAt, List.range', cond, Hh, Oo, tal, chg, few, chs, a1, a2, a3]
    · subst c1
      have c3 : ¬ x3 = x1 := fun e => c2 e.symm
      have a1 : ¬ (m2 - m1 - 1 < -s) := by omega
      have a2 : ¬ (m3 - m2 - 1 < 0) := by omega
      have a3 : ¬ (m3 - m1 - 1 < 0) := by omega
      simp [crow, crowAt, List.range', cond, Hh, Oo, tal, chg, few, chs, c2, c3, a1, a2, a3]
  · have d1 : ¬ x2 = x1 := fun e => c1 e.symm
    by_cases c2 : x2 = x3
    · subst c2
      have a1 : ¬ (m2 - m1 - 1 < 0) := by omega
      have a2 : ¬ (m3 - m2 - 1 < -s) := by omega
      have a3 : ¬ (m3 - m1 - 1 < 0) := by omega
      simp [crow, crowAt, List.range', cond, Hh, Oo, tal, chg, few, chs, c1, d1, a1, a2, a3]
    · have c3 : ¬ x3 = x2 := fun e => c2 e.symm
      have a1 : ¬ (m2 - m1 - 1 < 0) := by omega
      have a2 : ¬ (m3 - m2 - 1 < 0) := by omega
      have a3 : m3 - m1 - 1 < s := by omega
      simp [crow, crowAt, List.range', cond, Hh, Oo, tal, chg, few, chs, c1, d1, c2, c3, a1, a2, a3]
theorem srtP_same {l : List (Int × Int)} (h : l.Pairwise fun a b => a.1 < b.1) : srtP l = l := (eq_srtP (.refl l) (h.imp fun {a b} z => leP_iff.mpr (.inl z))).symm
theorem rev_asc (z : ZoneOK os s) : ∀ {row : Rw}, ((os.reverse.zip row).map fun p => (hour - p.1, p.2)).Pairwise fun a b : Int × Int => a.1 < b.1 := by
  intro row
  have ha : os.reverse.Pairwise fun a b => b < a := by
    rw [List.pairwise_reverse]
    cases z with
    | one => simp
    | two => simp; omega
    | three => simp; omega
  generalize os.reverse = l at ha
  induction l generalizing row with
  | nil => simp
  | cons x l ih =>
    cases row with
    | nil => simp
    | cons y row =>
      obtain ⟨h1, h2⟩ := List.pairwise_cons.mp ha
      rw [List.zip_cons_cons, List.map_cons]
      refine List.pairwise_cons.mpr ⟨fun b hb => ?_, ih h2⟩
      obtain ⟨p, hp, rfl⟩ := List.mem_map.mp hb
      have := h1 p.1 (List.of_mem_zip hp).1
      simp only
      omega
theorem side_eye (ne : eye ≠ q) {rev : List Int} {row : Rw} : sideM (((eye : Int), 0, by_, o) :: lkR q hour rev row) eye 0 = [(by_, o)] := by
  have h : ¬ ((q : Int) = (eye : Int)) := by omega
  unfold sideM lkR
  rw [List.filter_cons, if_pos (by simp), List.map_cons]
  have : ((rev.zip row).map fun p => ((q : Int), (0 : Int), hour - p.1, p.2)).filter (fun x : Lk => decide (x.1 = (eye : Int) ∧ x.2.1 = 0)) = [] := by
    rw [List.filter_eq_nil_iff]
    intro x hx
    obtain ⟨p, _, rfl⟩ := List.mem_map.mp hx
    simp [h]
  rw [this]; rfl
theorem side_q (ne : eye ≠ q) {rev : List Int} {row : Rw} : sideM (((eye : Int), 0, by_, o) :: lkR q hour rev row) q 0 = (rev.zip row).map fun p => (hour - p.1, p.2) := by
  have h : ¬ ((eye : Int) = (q : Int)) := by omega
  unfold sideM lkR
  rw [List.filter_cons, if_neg (by simp [h])]
  have : ((rev.zip row).map fun p => ((q : Int), (0 : Int), hour - p.1, p.2)).filter (fun x : Lk => decide (x.1 = (q : Int) ∧ x.2.1 = 0)) = (rev.zip row).map fun p => ((q : Int), (0 : Int), hour - p.1, p.2) := by
    rw [List.filter_eq_self]
    intro x hx
    obtain ⟨p, _, rfl⟩ := List.mem_map.mp hx
    simp
  rw [this, List.map_map]; rfl
theorem crow_row (z : ZoneOK os s) {row : Rw} (hl : row.length = os.length) : (crow s ((os.reverse.zip row).map fun p => (hour - p.1, p.2))).isNone = few row := by
  cases z with
  | one =>
    match row, hl with
    | [x], _ => simp [crow_one, few, chs]
  | two a b s h1 h2 h3 h4 h5 =>
    match row, hl with
    | [x, y], _ =>
      have := crow_two (s := s) (m := hour - b) (m' := hour - a) (x := x) (x' := y) (by omega) (by omega)
      have e : few [x, y] = true := by
        simp [few, chs]
        split <;> decide
      rw [e]
      simp [this]
  | three a b c s =>
    match row, hl with
    | [x, y, w], _ =>
      have := crow_three (s := s) (m1 := hour - c) (m2 := hour - b) (m3 := hour - a) (x1 := x) (x2 := y) (x3 := w) (by omega) (by omega) (by omega) (by omega)
      simpa using this
theorem fit_find (z : ZsOK zs) (h2 : zs.length = 2) (he : eye < zs.length) (hq : q < zs.length) (ne : eye ≠ q) {row : Rw} (hl : row.length = (getZ zs q).1.length) :
    fitAB zs (fun _ => none) (((eye : Int), 0, by_, o) :: lkR q hour (getZ zs q).1.reverse row) = few row := by
  have f1 : fitB (getZ zs eye) (((eye : Int), 0, by_, o) :: lkR q hour (getZ zs q).1.reverse row) eye none = true := by
    unfold fitB
    rw [side_eye ne, srtP_same (by simp), crow_one]
    rfl
  have f2 : fitB (getZ zs q) (((eye : Int), 0, by_, o) :: lkR q hour (getZ zs q).1.reverse row) q none = few row := by
    unfold fitB
    rw [side_q ne, srtP_same (rev_asc (z.at hq)), crow_row (z.at hq) hl]
    simp
  rw [Bool.eq_iff_iff, fitAB_iff]
  constructor
  · intro h
    have := h q hq
    rw [f2] at this
    exact this
  · intro h p hp
    have : p = eye ∨ p = q := by omega
    rcases this with rfl | rfl
    · exact f1
    · rw [f2]; exact h
/-! ### the cases -/
def tsF (by_ more : Int) (eye q : Nat) (f g : Str) (x : Nat) : List Stp := [.add 0 by_, .read 1 eye, .add 2 more, .find 3 q f g] ++ List.replicate x (.add 4 5)
def lkF (by_ : Int) (eye q : Nat) (hour o : Int) (os : List Int) (row : Rw) : List Lk := ((eye : Int), 0, by_, o) :: lkR q hour os.reverse row
def outF (lk : List Lk) (vs : List Int) (x : Nat) : Option Int → Case
  | none => (lk, vs, some 3)
  | some w => (lk, vs ++ w :: List.replicate x (w + 5), none)
def caseF (by_ more : Int) (eye q : Nat) (f g : Str) (x : Nat) (os : List Int) (o : Int) (row : Rw) : Case :=
  outF (lkF by_ eye q (by_ + o + more) o os row) [0, by_, by_ + o, by_ + o + more] x (findW os (offK (lkF by_ eye q (by_ + o + more) o os row) q none) (by_ + o + more) f g)
theorem find_tales (z : ZsOK zs) (h2 : zs.length = 2) (he : eye < zs.length) (hq : q < zs.length) (ne : eye ≠ q) {f g : Str} {x : Nat} (hx : x ≤ 1) (ok : ProgFrom zs.length [.mom] (tsF by_ more eye q f g x)) :
    talesL zs (tsF by_ more eye q f g x) (tsF by_ more eye q f g x).length = (getZ zs eye).1.flatMap fun o => (fewL (getZ zs q).1).map (caseF by_ more eye q f g x (getZ zs q).1 o) := by
  have hn : ∀ vs, nowOf (tsF by_ more eye q f g x) vs = fun _ => none := fun vs => by
    funext p
    refine nowF_none fun t ht => ?_
    unfold tsF at ht
    rcases List.mem_append.mp ht with ht | ht
    · simp at ht
      rcases ht with rfl | rfl | rfl | rfl <;> rfl
    · rw [(List.mem_replicate.mp ht).2]; rfl
  have lr : ∀ row, row ∈ rowsL (getZ zs q).1 (getZ zs q).1.length → row.length = (getZ zs q).1.length := fun row h => rows_len h
  rw [← rows_tales z ok]
  have main : (rowC zs (tsF by_ more eye q f g x) (tsF by_ more eye q f g x).length 0 [] [0]).leaves = (getZ zs eye).1.flatMap fun o => (rowsL (getZ zs q).1 (getZ zs q).1.length).map (caseF by_ more eye q f g x (getZ zs q).1 o) := by
    have hlen : (tsF by_ more eye q f g x).length = x + 4 := by simp [tsF]
    have g0 : (tsF by_ more eye q f g x).getD 0 (.add 0 0) = .add 0 by_ := rfl
    have g1 : (tsF by_ more eye q f g x).getD 1 (.add 0 0) = .read 1 eye := rfl
    have g2 : (tsF by_ more eye q f g x).getD 2 (.add 0 0) = .add 2 more := rfl
    have g3 : (tsF by_ more eye q f g x).getD 3 (.add 0 0) = .find 3 q f g := rfl
    have g4 : x = 1 → (tsF by_ more eye q f g x).getD 4 (.add 0 0) = .add 4 5 := fun e => by subst e; rfl
    rw [hlen]
    generalize tsF by_ more eye q f g x = ts at g0 g1 g2 g3 g4 hn
    have k1 : known [] eye (edOf none by_) by_ = none := rfl
    rw [rowC, g0, hn]
    simp only [Stp.place, askedS, askC, Ch.bind, worthO]
    rw [rowC, g1, hn]
    have gv1 : getV [0, (0 : Int) + by_] 1 = by_ := by simp [getV]
    have e1 : ([0] : List Int) ++ [getV [0] 0 + by_] = [0, by_] := by simp [getV]
    rw [e1]
    have gv2 : getV [0, by_] 1 = by_ := rfl
    simp only [Stp.place, askedS, worthO, gv2]
    rw [askC, k1]
    simp only [Ch.bind, Ch.leaves]
    have one : ∀ o, ((askC zs none eye [] ([] ++ [((eye : Int), edOf none by_, by_, o)])).bind fun b => match some (by_ + offK b eye none by_) with
          | none => Ch.ret (b, [0, by_], some (0 + 1))
          | some v => rowC zs ts (x + 2) (0 + 1 + 1) b ([0, by_] ++ [v])).leaves = (rowsL (getZ zs q).1 (getZ zs q).1.length).map (caseF by_ more eye q f g x (getZ zs q).1 o) := by
      intro o
      have ko : offK ([] ++ [((eye : Int), edOf none by_, by_, o)]) eye none by_ = o := by
        simp [offK, known, edOf]
      simp only [askC, Ch.bind, ko]
      rw [rowC, g2, hn]
      simp only [Stp.place, askedS, askC, Ch.bind, worthO]
      have gv3 : ([0, by_] ++ [by_ + o] ++ [getV ([0, by_] ++ [by_ + o]) 2 + more] : List Int) = [0, by_, by_ + o, by_ + o + more] := rfl
      rw [gv3, rowC, g3, hn]
      simp only [Stp.place]
      have as3 : askedS zs [0, by_, by_ + o, by_ + o + more] (.find 3 q f g) = (getZ zs q).1.reverse.map (by_ + o + more - ·) := rfl
      rw [as3, Ch.leaves_bind, ask_rows zs q (by_ + o + more) ((List.reverse_perm _).nodup_iff.mpr (z.at hq).nodup) (by
        intro y hy s hs
        have hy' : y = ((eye : Int), edOf none by_, by_, o) := List.mem_singleton.mp hy
        subst hy'
        rintro ⟨h, _⟩
        have h' : (eye : Int) = (q : Int) := h
        omega), List.length_reverse, List.flatMap_map]
      have ret : ∀ row : Rw, (match worthO zs (offK ([] ++ [((eye : Int), edOf none by_, by_, o)] ++ lkR q (by_ + o + more) (getZ zs q).1.reverse row) q none) [0, by_, by_ + o, by_ + o + more] (.find 3 q f g) with
          | none => Ch.ret ([] ++ [((eye : Int), edOf none by_, by_, o)] ++ lkR q (by_ + o + more) (getZ zs q).1.reverse row, [0, by_, by_ + o, by_ + o + more], some (0 + 1 + 1 + 1))
          | some v => rowC zs ts x (0 + 1 + 1 + 1 + 1) ([] ++ [((eye : Int), edOf none by_, by_, o)] ++ lkR q (by_ + o + more) (getZ zs q).1.reverse row) ([0, by_, by_ + o, by_ + o + more] ++ [v])).leaves = [caseF by_ more eye q f g x (getZ zs q).1 o row] := by
        intro row
        have el : ([] ++ [((eye : Int), edOf none by_, by_, o)] ++ lkR q (by_ + o + more) (getZ zs q).1.reverse row : List Lk) = lkF by_ eye q (by_ + o + more) o (getZ zs q).1 row := rfl
        rw [el]
        have ew : worthO zs (offK (lkF by_ eye q (by_ + o + more) o (getZ zs q).1 row) q none) [0, by_, by_ + o, by_ + o + more] (.find 3 q f g) = findW (getZ zs q).1 (offK (lkF by_ eye q (by_ + o + more) o (getZ zs q).1 row) q none) (by_ + o + more) f g := rfl
        rw [ew]
        unfold caseF
        cases findW (getZ zs q).1 (offK (lkF by_ eye q (by_ + o + more) o (getZ zs q).1 row) q none) (by_ + o + more) f g with
        | none => rfl
        | some w =>
          simp only [outF]
          rcases (show x = 0 ∨ x = 1 by omega) with rfl | rfl
          · rfl
          · rw [rowC, g4 rfl, hn]
            rfl
      refine Eq.trans (flat_congr fun row _ => ret row) ?_
      rw [← List.map_eq_flatMap]
    have e2 := os_range (os := (getZ zs eye).1) (g := fun o => (rowsL (getZ zs q).1 (getZ zs q).1.length).map (caseF by_ more eye q f g x (getZ zs q).1 o))
    rw [← e2]
    refine flat_congr fun j _ => ?_
    exact one _
  rw [main, List.filter_flatMap]
  refine flat_congr fun o _ => ?_
  rw [List.filter_map]
  unfold fewL
  congr 1
  refine List.filter_congr fun row hr => ?_
  have ec : (caseF by_ more eye q f g x (getZ zs q).1 o row).1 = lkF by_ eye q (by_ + o + more) o (getZ zs q).1 row := by
    unfold caseF
    cases findW (getZ zs q).1 (offK (lkF by_ eye q (by_ + o + more) o (getZ zs q).1 row) q none) (by_ + o + more) f g <;> rfl
  show possC zs _ _ = few row
  unfold possC
  rw [hn, ec]
  exact fit_find z h2 he hq ne (lr row hr)
end
end Dm
-- text HmPick
set_option maxHeartbeats 1000000
namespace Dm
open PySem L2
/-! ### the pots of the later laws -/
end Dm
-- text HmFd3
namespace Dm
open PySem L2
section
variable {S : Sto} {os : List Int} {s : Int}
theorem flat_lenF {α β : Type} {f : α → List β} {k : Nat} : ∀ {l : List α}, (∀ x, x ∈ l → (f x).length ≤ k) → (l.flatMap f).length ≤ l.length * k
  | [], _ => by simp
  | x :: l, h => by
    have h1 := h x List.mem_cons_self
    have h2 := flat_lenF (l := l) fun y hy => h y (List.mem_cons_of_mem _ hy)
    rw [List.flatMap_cons, List.length_append, List.length_cons, Nat.succ_mul]
    omega
theorem rows_of_does {Q : D → Sto → Prop} (z : ZoneOK os s) (q : Q (.lst ((fewL os).map rwD)) S) : (m_law_rows_of [.tup (os.map .int)] S).Does Q := by
  have hl := z.len
  refine does_def rfl ?_
  refine seq_cut (fun ρ S' => S = S' ∧ ρ = [some (.tup (os.map .int)), some (.int (os.length : Nat)), none, none, none, none, none]) (fun M hM => ?_) ?_
  · simp
    exact hM _ _ ⟨rfl, rfl⟩
  rintro ρ _ ⟨rfl, rfl⟩
  refine seq_cut (fun ρ S' => S = S' ∧ ρ = [some (.tup (os.map .int)), some (.int (os.length : Nat)), some (.lst ((os.map fun x => List.replicate os.length x).map rwD)), none, none, none, none]) (fun M hM => ?_) ?_
  · simp [wipeD]
    refine lcQ_filter (as := os) (i := D.int) (fun _ => true) (fun x => rwD (List.replicate os.length x)) ?_ ?_
    · intro x _
      refine ⟨_, rfl, fun Q q => q, fun Q _ q => ?_⟩
      simp
      refine ⟨by omega, ?_⟩
      have e : D.lst (List.replicate os.length (D.int x)) = rwD (List.replicate os.length x) := by
        unfold rwD
        simp
      rw [e]
      exact q
    · have e : (os.filter fun _ => true) = os := List.filter_eq_self.mpr fun _ _ => rfl
      rw [e]
      have e2 : (os.map fun x => rwD (List.replicate os.length x)) = (os.map fun x => List.replicate os.length x).map rwD := by rw [List.map_map]; rfl
      simp only [e2]
      exact hM _ _ ⟨rfl, rfl⟩
  rintro ρ _ ⟨rfl, rfl⟩
  refine seq_cut (fun ρ S' => S = S' ∧ ∃ x3 x4, ρ = [some (.tup (os.map .int)), some (.int (os.length : Nat)), some (.lst ((madeR os).map rwD)), x3, x4, none, none]) (fun M hM => ?_) ?_
  · rw [does_forA]
    simp
    refine forL_cut (fun ds ρ S' => S = S' ∧ ∃ (dn rest : List Int) (x3 x4 : Option D), ds = rest.map .int ∧ os = dn ++ rest ∧ ρ = [some (.tup (os.map .int)), some (.int (os.length : Nat)), some (.lst (((os.map fun x => List.replicate os.length x) ++ dn.flatMap fun a => (os.filter fun b => decide (b ≠ a)).flatMap fun b => (List.range (os.length - 1)).map fun k => List.replicate (k + 1) a ++ List.replicate (os.length - (k + 1)) b).map rwD)), x3, x4, none, none]) _
      ⟨rfl, [], os, none, none, rfl, rfl, by simp⟩ ?_ ?_
    · rintro d ds ρ _ ⟨rfl, dn, rest, x3, x4, e, eo, rfl⟩
      cases rest with
      | nil => cases e
      | cons a rest =>
        rw [List.map_cons] at e
        injection e with e1 e2
        subst e1
        refine ⟨_, rfl, fun M2 hM2 => ?_⟩
        rw [does_for]
        simp [wipeD]
        refine lcQ_filter (as := os) (i := D.int) (fun b => decide (b ≠ a)) D.int ?_ ?_
        · intro b _
          refine ⟨_, rfl, fun Q q => ?_, fun Q _ q => ?_⟩
          · have : (!(b == a)) = decide (b ≠ a) := by
              by_cases c : b = a <;> simp [c]
            simp
            rw [this]
            exact q
          · simp
            exact q
        · generalize hA : ((os.map fun x => List.replicate os.length x) ++ dn.flatMap fun a => (os.filter fun b => decide (b ≠ a)).flatMap fun b => (List.range (os.length - 1)).map fun k => List.replicate (k + 1) a ++ List.replicate (os.length - (k + 1)) b) = A at hM2
          refine forL_cut (fun ds ρ S' => S = S' ∧ ∃ (dn2 rest2 : List Int) (x4 : Option D), ds = rest2.map .int ∧ (os.filter fun b => decide (b ≠ a)) = dn2 ++ rest2 ∧ ρ = [some (.tup (os.map .int)), some (.int (os.length : Nat)), some (.lst ((A ++ dn2.flatMap fun b => (List.range (os.length - 1)).map fun k => List.replicate (k + 1) a ++ List.replicate (os.length - (k + 1)) b).map rwD)), some (.int a), x4, none, none]) _
            ⟨rfl, [], _, x4, rfl, rfl, by rw [← hA]; simp⟩ ?_ ?_
          · rintro d ds2 ρ _ ⟨rfl, dn2, rest2, x4, e, eo2, rfl⟩
            cases rest2 with
            | nil => cases e
            | cons b rest2 =>
              rw [List.map_cons] at e
              injection e with e3 e4
              subst e3
              refine ⟨_, rfl, fun M3 hM3 => ?_⟩
              have lf : (os.filter fun b => decide (b ≠ a)).length ≤ 3 := Nat.le_trans (List.length_filter_le _ _) hl.2
              have l2 : dn2.length ≤ 3 := by rw [eo2] at lf; simp at lf; omega
              have inB : ∀ a b : Int, ((List.range (os.length - 1)).map fun k => List.replicate (k + 1) a ++ List.replicate (os.length - (k + 1)) b).length ≤ 2 := fun a b => by simp; omega
              have hB := flat_lenF (l := dn2) fun b _ => inB a b
              have hAl : A.length ≤ 40 := by
                have h1 := flat_lenF (l := dn) (f := fun a => (os.filter fun b => decide (b ≠ a)).flatMap fun b => (List.range (os.length - 1)).map fun k => List.replicate (k + 1) a ++ List.replicate (os.length - (k + 1)) b) (k := 6) fun y _ => by
                  have h2 := flat_lenF (l := os.filter fun b => decide (b ≠ y)) fun b _ => inB y b
                  have h3 : (os.filter fun b => decide (b ≠ y)).length ≤ 3 := Nat.le_trans (List.length_filter_le _ _) hl.2
                  omega
                have h4 : dn.length ≤ 3 := by
                  have := congrArg List.length eo
                  simp at this
                  omega
                rw [← hA, List.length_append, List.length_map]
                omega
              have hBl : (A ++ dn2.flatMap fun b => (List.range (os.length - 1)).map fun k => List.replicate (k + 1) a ++ List.replicate (os.length - (k + 1)) b).length ≤ 100 := by
                rw [List.length_append]
                omega
              generalize hB' : (A ++ dn2.flatMap fun b => (List.range (os.length - 1)).map fun k => List.replicate (k + 1) a ++ List.replicate (os.length - (k + 1)) b) = B at hBl
              have er : rngD 1 (os.length - 1) = (List.range (os.length - 1)).map fun k : Nat => D.int ((1 : Int) + k) := rfl
              simp [wipeD, er]
              refine ⟨⟨by omega, by omega⟩, ?_⟩
              refine lcQ_filter (as := List.range (os.length - 1)) (i := fun k : Nat => D.int ((1 : Int) + k)) (fun _ => true) (fun k => rwD (List.replicate (k + 1) a ++ List.replicate (os.length - (k + 1)) b)) ?_ ?_
              · intro k hk
                have hk := List.mem_range.mp hk
                refine ⟨_, rfl, fun Q q => q, fun Q _ q => ?_⟩
                have e1 : ((1 : Int) + k).toNat = k + 1 := by omega
                have e2 : ((os.length : Int) - (1 + k)).toNat = os.length - (k + 1) := by omega
                simp [e1, e2]
                refine ⟨by omega, by omega, by omega, ?_⟩
                simpa [rwD] using q
              · have e : ((List.range (os.length - 1)).filter fun _ => true) = List.range (os.length - 1) := List.filter_eq_self.mpr fun _ _ => rfl
                rw [e]
                refine ⟨by simp; omega, ?_⟩
                refine hM3 _ _ ⟨rfl, dn2 ++ [b], rest2, some (.int b), e4, by rw [eo2]; simp, ?_⟩
                rw [List.flatMap_append, ← List.append_assoc, hB']
                simp
          · rintro ρ _ ⟨rfl, dn2, rest2, x4, e, eo2, rfl⟩
            have : rest2 = [] := by
              cases rest2 with
              | nil => rfl
              | cons => cases e
            subst this
            rw [List.append_nil] at eo2
            refine hM2 _ _ ⟨rfl, dn ++ [a], rest, some (.int a), x4, e2, by rw [eo]; simp, ?_⟩
            rw [List.flatMap_append, ← List.append_assoc, hA, ← eo2]
            simp
    · rintro ρ _ ⟨rfl, dn, rest, x3, x4, e, eo, rfl⟩
      have : rest = [] := by
        cases rest with
        | nil => rfl
        | cons => cases e
      subst this
      rw [List.append_nil] at eo
      refine hM _ _ ⟨rfl, x3, x4, ?_⟩
      unfold madeR
      rw [← eo]
  rintro ρ _ ⟨rfl, x3, x4, rfl⟩
  have ha : os.Pairwise (· < ·) := by
    cases z with
    | one => simp
    | two => simp; omega
    | three => simp; omega
  have hs := sort_rows (S := S) (d := .lst ((madeR os).map rwD)) rfl (made_perm ha hl.1 hl.2) (few_asc ha)
  simp [hs]
  exact q
theorem ints_depthF : ∀ ns : List Int, PyData.depthAll (ns.map .int) ≤ 1
  | [] => by simp [PyData.depthAll]
  | n :: ns => by
    have := ints_depthF ns
    simp [PyData.depthAll, PyData.depth]
    omega
theorem ints_layF : ∀ ns : List Int, PyData.canLayAll0 (ns.map .int) = true
  | [] => rfl
  | n :: ns => by
    have := ints_layF ns
    simp [PyData.canLayAll0, PyData.canLay0, this]
theorem ints_toF : ∀ {l : List Int}, toPys (l.map .int) = some (l.map .int)
  | [] => rfl
  | x :: l => by
    rw [List.map_cons, toPys, ints_toF (l := l)]
    rfl
theorem shaped_intsF {ns : List Int} : SeqAt.shaped (.tuple (ns.map .int)) = true := by
  have h1 := ints_layF ns
  have h2 := ints_depthF ns
  simp [SeqAt.shaped, PyData.canLay0, PyData.depth, h1]
  omega
theorem ix_intsF {l : List Int} {x : Int} : ixT S (.tup (l.map .int)) (.int x) = l.findIdx? (· == x) := by
  have e1 : toPyS S (.tup (l.map .int)) = some (.tuple (l.map .int)) := by
    show (toPys (l.map .int)).map PyData.tuple = _
    rw [ints_toF]; rfl
  have e2 : toPyS S (.int x) = some (.int x) := rfl
  have e3 : SeqAt.shaped (.int x) = true := by simp [SeqAt.shaped, PyData.canLay0, PyData.depth]
  unfold ixT
  rw [e1, e2]
  simp only
  rw [if_pos ⟨shaped_intsF, e3⟩, List.findIdx?_map]
  have ef : (fun y : Int => PyData.eqv (.int y) (.int x)) = (· == x) := funext fun y => by simp [PyData.eqv]
  show List.findIdx? (fun y : Int => PyData.eqv (.int y) (.int x)) l = _
  rw [ef]
theorem kn_row {q : Nat} {hour : Int} : ∀ {rev : List Int} {row : Rw}, row.length = rev.length → rev.Nodup → row = rev.map fun s => (known (lkR q hour rev row) q 0 (hour - s)).getD 0
  | [], [], _, _ => rfl
  | [], _ :: _, h, _ => by simp at h
  | _ :: _, [], h, _ => by simp at h
  | s :: rev, x :: row, h, hn => by
    obtain ⟨h1, h2⟩ := List.nodup_cons.mp hn
    have ih := kn_row (q := q) (hour := hour) (rev := rev) (row := row) (by simpa using h) h2
    rw [List.map_cons]
    congr 1
    · simp [known, lkR]
    · refine ih.trans (List.map_congr_left fun s' hs' => ?_)
      have ne : ¬ hour - s = hour - s' := fun e => h1 (by
        have : s = s' := by omega
        rw [this]; exact hs')
      have ek : known (lkR q hour (s :: rev) (x :: row)) q 0 (hour - s') = known (lkR q hour rev row) q 0 (hour - s') := by
        unfold known lkR
        rw [List.zip_cons_cons, List.map_cons, List.find?_cons_of_neg (by simp [ne])]
      rw [ek]
theorem off_row {q eye : Nat} {hour by_ o : Int} (ne : eye ≠ q) {row : Rw} (hl : row.length = os.length) (hn : os.Nodup) : row = os.reverse.map fun s => offK (lkF by_ eye q hour o os row) q none (hour - s) := by
  refine (kn_row (q := q) (hour := hour) (by simpa using hl) ((List.reverse_perm _).nodup_iff.mpr hn)).trans (List.map_congr_left fun s _ => ?_)
  have h : ¬ ((eye : Int) = (q : Int)) := by omega
  unfold offK lkF known edOf
  rw [List.find?_cons_of_neg (by simp [h])]
theorem fits_few (z : ZoneOK os s) {row : Rw} {offs : Int → Int} {r : Int} (hr : row = os.reverse.map fun s => offs (r - s)) (hf : few row = true) : (fitsO os offs r).length ≤ 2 := by
  unfold fitsO
  rw [List.length_map]
  cases z with
  | one => exact Nat.le_trans (List.length_filter_le _ _) (by simp)
  | two => exact Nat.le_trans (List.length_filter_le _ _) (by simp)
  | three a b c s =>
    subst hr
    simp [few, chs] at hf
    by_cases h1 : offs (r - c) = c
    · by_cases h2 : offs (r - b) = b
      · by_cases h3 : offs (r - a) = a
        · rw [h1, h2, h3] at hf
          rw [if_neg (by omega), if_neg (by omega)] at hf
          omega
        · simp [h1, h2, h3]
      · refine Nat.le_trans (m := ([c, a] : List Int).length) ?_ (by simp)
        simp [List.filter_cons, h1, h2]
        split <;> simp
    · refine Nat.le_trans (m := ([b, a] : List Int).length) ?_ (by simp)
      simp only [List.reverse_cons, List.reverse_nil, List.nil_append, List.cons_append, List.filter_cons]
      rw [if_neg (by simpa using h1)]
      have := List.length_filter_le (fun o => offs (r - o) == o) [b, a]
      simpa [List.filter_cons] using this
theorem nil_intsF {l : List Int} : gEq S (.lst (l.map .int)) (.lst []) = some (.bl l.isEmpty) := by
  have h1 := ints_layF l
  have h2 := ints_depthF l
  have e1 : toPyS S (.lst (l.map .int)) = some (.list (l.map .int)) := by
    show (toPys (l.map .int)).map PyData.list = _
    rw [ints_toF]; rfl
  have e2 : toPyS S (.lst []) = some (.list []) := rfl
  show (match toPyS S (.lst (l.map .int)), toPyS S (.lst []) with
    | some p, some q => if SeqAt.shaped p = true ∧ SeqAt.shaped q = true then some (PyData.eqv p q) else none
    | _, _ => none).map D.bl = _
  rw [e1, e2]
  simp only
  rw [if_pos ⟨by simp [SeqAt.shaped, PyData.canLay0, PyData.depth, h1]; omega, by simp [SeqAt.shaped, PyData.canLay0, PyData.depth, PyData.canLayAll0, PyData.depthAll]⟩]
  cases l <;> simp [PyData.eqv, PyData.eqvAll]
/-! ### the moment of the reading -/
theorem found_in_does {row : Rw} {offs : Int → Int} {r : Int} {f g : Str} {Q : D → Sto → Prop} (z : ZoneOK os s) (hr : row = os.reverse.map fun s => offs (r - s)) (h2 : (fitsO os offs r).length ≤ 2) (hf : RuleF f) (hg : RuleG g)
    (q : ∀ S', Grow S S' → Q (optD (findW os offs r f g)) S') : (m_law_found_in [.tup (os.map .int), rwD row, .int r, .str f, .str g] S).Does Q := by
  have hl := z.len
  have rl : row.length = os.length := by rw [hr]; simp
  refine does_def rfl ?_
  refine seq_cut (fun ρ S' => S = S' ∧ ρ = [some (.tup (os.map .int)), some (rwD row), some (.int r), some (.str f), some (.str g), some (.lst ((fitsO os offs r).map .int)), none]) (fun M hM => ?_) ?_
  · simp only [does_asg, does_fz, does_lcA, does_backA, does_var]
    have er : (os.map D.int).reverse = os.reverse.map D.int := by rw [List.map_reverse]
    show LcAQ (D.tup (os.map D.int).reverse) _ _ _ [some (D.tup (os.map D.int)), some (rwD row), some (.int r), some (.str f), some (.str g), none, none] (os.map D.int).reverse.length S _
    rw [lcAQ_tup, er]
    refine lcQ_filter (as := os.reverse) (i := D.int) (fun s => offs (r - s) == s) (fun s => .int (r - s)) ?_ ?_
    · intro x hx
      refine ⟨_, rfl, fun Q q => ?_, fun Q _ q => ?_⟩
      · have ei : ∃ j : Nat, os.reverse.findIdx? (· == x) = some j ∧ row[j]? = some (offs (r - x)) := by
          cases h : os.reverse.findIdx? (· == x) with
          | none =>
            rw [List.findIdx?_eq_none_iff] at h
            have := h x hx
            simp at this
          | some j =>
            obtain ⟨hj, hp, _⟩ := List.findIdx?_eq_some_iff_getElem.mp h
            refine ⟨j, rfl, ?_⟩
            rw [hr, List.getElem?_map, List.getElem?_eq_getElem hj, eq_of_beq hp]
            rfl
        obtain ⟨j, e1, e2⟩ := ei
        have e3 : ixT S (.tup (os.map D.int).reverse) (.int x) = some j := by rw [er, ix_intsF, e1]
        have hj := (List.getElem?_eq_some_iff.mp e2).1
        have e4 : atI (row.map D.int) (j : Int) = some (.int (offs (r - x))) := by
          rw [atI_of (by omega) (by rw [List.length_map]; omega)]
          simp [e2]
        simp [rwD, e3, e4]
        exact q
      · simp
        exact q
    · have e : (os.reverse.filter fun s => offs (r - s) == s).map (fun s => D.int (r - s)) = (fitsO os offs r).map .int := by
        unfold fitsO
        rw [List.map_map]; rfl
      rw [e]
      exact hM _ _ ⟨rfl, rfl⟩
  rintro ρ _ ⟨rfl, rfl⟩
  have a0 : atI (row.map D.int) 0 = some (.int (offs (r - hiO os))) := by
    subst hr
    cases z <;> rfl
  have a1 : atI (row.map D.int) (-1) = some (.int (offs (r - loO os))) := by
    subst hr
    cases z <;> rfl
  unfold findW at q
  cases hF : fitsO os offs r with
  | nil =>
    rw [hF] at q
    simp only at q
    have hn : gEq S (.lst (([] : List Int).map .int)) (.lst []) = some (.bl true) := nil_intsF
    simp only [List.map_nil] at hn
    rcases hg with rfl | rfl | rfl <;> (simp (decide := true) [rwD, a0, a1, keysD, mergeD, putD, valD, hn]; simp (decide := true) [optD] at q; exact q _ ⟨_, rfl⟩)
  | cons m l =>
    rw [hF] at q h2
    have hn : gEq S (.lst ((m :: l).map .int)) (.lst []) = some (.bl false) := nil_intsF
    cases l with
    | nil =>
      simp only [List.map_cons, List.map_nil] at hn
      simp only at q
      simp [hn]
      exact q _ .refl
    | cons m' l =>
      cases l with
      | nil =>
        simp only [List.map_cons, List.map_nil] at hn
        simp only at q
        rcases hf with rfl | rfl | rfl <;> (simp (decide := true) [keysD, mergeD, putD, valD, hn]; simp (decide := true) [optD] at q; exact q _ ⟨_, rfl⟩)
      | cons _ _ => simp at h2
end
end Dm
-- text HmRow3
namespace Dm
open PySem L2
end Dm
-- text HmRow4
namespace Dm
open PySem L2
end Dm
-- text HmRow5
namespace Dm
open PySem L2
end Dm
-- text HmRow6
namespace Dm
open PySem L2
section
variable {S : Sto} {zs : Zs} {ts : List Stp} {row : List (Nat × Nat)} {r : Nat}
theorem rowC_succ {n k : Nat} {lk : List Lk} {vs : List Int} : rowC zs ts (n + 1) k lk vs = (askC zs (nowOf ts vs (ts.getD k (.add 0 0)).place) (ts.getD k (.add 0 0)).place (askedS zs vs (ts.getD k (.add 0 0))) lk).bind fun b =>
      match worthO zs (offK b (ts.getD k (.add 0 0)).place (nowOf ts vs (ts.getD k (.add 0 0)).place)) vs (ts.getD k (.add 0 0)) with
      | none => .ret (b, vs, some k)
      | some v => rowC zs ts n (k + 1) b (vs ++ [v]) := rfl
end
end Dm
-- text HmRow7
namespace Dm
open PySem L2
/-! ### the next row -/
end Dm
-- text HmRow8
namespace Dm
open PySem L2
section
variable {S : Sto} {zs : Zs} {ts : List Stp} {k p n w : Nat} {vs : List Int} {lk : List Lk} {t : Stp} {ms : List Int} {nw : Option Int}
/-! ### how many -/
def wt (w : Nat) : Stp → Nat
  | .find _ _ _ _ => w
  | .read _ _ => 1
  | .offset _ _ => 1
  | .edition _ _ => 1
  | _ => 0
theorem pow_le_of {w a b : Nat} (hw : 1 ≤ w) (h : a ≤ b) : w ^ a ≤ w ^ b := Nat.pow_le_pow_right hw h
theorem ask_count (hw : (getZ zs p).1.length ≤ w) (hw1 : 1 ≤ w) : ∀ {ms : List Int} {lk : List Lk}, (askC zs nw p ms lk).leaves.length ≤ w ^ ms.length
  | [], lk => by simp [askC, Ch.leaves]
  | m :: ms, lk => by
    rw [askC]
    cases known lk p (edOf nw m) m with
    | some o =>
      have := ask_count hw hw1 (ms := ms) (lk := lk)
      refine Nat.le_trans this (pow_le_of hw1 (by simp))
    | none =>
      have := flat_le (n := w ^ ms.length) (l := List.range (getZ zs p).1.length) (f := fun j => (askC zs nw p ms (lk ++ [((p : Int), edOf nw m, m, (getZ zs p).1.getD j 0)])).leaves) fun j _ => ask_count hw hw1
      rw [List.length_range] at this
      refine Nat.le_trans this ?_
      rw [List.length_cons, Nat.pow_succ]
      exact Nat.mul_le_mul_left _ hw
theorem asked_wt {row : List Kd} (ok : t.OK zs.length row) (hw : ∀ p, p < zs.length → (getZ zs p).1.length ≤ w) : (askedS zs vs t).length ≤ wt w t := by
  cases t with
  | find i p f g =>
    have := hw p ok.2.1
    simpa [askedS, wt] using this
  | _ => simp [askedS, wt]
theorem row_count (ok : ProgFrom zs.length [.mom] ts) (hw : ∀ p, p < zs.length → (getZ zs p).1.length ≤ w) (hw1 : 1 ≤ w) : ∀ {n k : Nat} {lk : List Lk} {vs : List Int}, k + n = ts.length → (rowC zs ts n k lk vs).leaves.length ≤ w ^ ((ts.drop k).map (wt w)).sum
  | 0, k, lk, vs, h => by
    simp [rowC, Ch.leaves]
    exact Nat.one_le_pow _ _ hw1
  | n + 1, k, lk, vs, h => by
    have hkt : k < ts.length := by omega
    obtain ⟨h1, h2⟩ := progFrom_at ok hkt
    have hgt : (ts.getD k (.add 0 0)) = ts[k] := by rw [List.getD_eq_getElem?_getD, List.getElem?_eq_getElem hkt]; rfl
    rw [rowC_succ, Ch.leaves_bind, List.drop_eq_getElem_cons hkt, List.map_cons, List.sum_cons, ← hgt]
    have hin := flat_le (n := w ^ ((ts.drop (k + 1)).map (wt w)).sum) (l := (askC zs (nowOf ts vs (ts.getD k (.add 0 0)).place) (ts.getD k (.add 0 0)).place (askedS zs vs (ts.getD k (.add 0 0))) lk).leaves) (f := fun b => Ch.leaves (match worthO zs (offK b (ts.getD k (.add 0 0)).place (nowOf ts vs (ts.getD k (.add 0 0)).place)) vs (ts.getD k (.add 0 0)) with
      | none => .ret (b, vs, some k)
      | some v => rowC zs ts n (k + 1) b (vs ++ [v]))) (fun b _ => by
        cases worthO zs (offK b (ts.getD k (.add 0 0)).place (nowOf ts vs (ts.getD k (.add 0 0)).place)) vs (ts.getD k (.add 0 0)) with
        | none =>
          simp [Ch.leaves]
          exact Nat.one_le_pow _ _ hw1
        | some v => exact row_count ok hw hw1 (by omega))
    refine Nat.le_trans hin ?_
    rw [Nat.pow_add, Nat.mul_comm]
    refine Nat.mul_le_mul_right _ ?_
    have ha := asked_wt (vs := vs) h1 hw
    by_cases hn : askedS zs vs (ts.getD k (.add 0 0)) = []
    · rw [hn, ask_nil]
      simp
      exact Nat.one_le_pow _ _ hw1
    · exact Nat.le_trans (ask_count (hw _ (asked_place' h1 hn)) hw1) (pow_le_of hw1 ha)
/-! ### the due cases -/
end
end Dm
-- text HmOdd1
namespace Dm
open PySem L2
/-- data of any kind: nothing that may change -/
inductive OddD : D → Prop
  | non : OddD .non
  | bl (b : Bool) : OddD (.bl b)
  | int (i : Int) : OddD (.int i)
  | str (x : Str) : OddD (.str x)
  | exn (c : Str) (fs : List (Str × Int)) : OddD (.exn c fs)
  | tup {ds : List D} : ds.length ≤ 1000 → (∀ d, d ∈ ds → OddD d) → OddD (.tup ds)
  | lst {ds : List D} : ds.length ≤ 1000 → (∀ d, d ∈ ds → OddD d) → OddD (.lst ds)
end Dm
-- text HmOdd2
namespace Dm
open PySem L2
end Dm
-- text HmOdd3
namespace Dm
open PySem L2
end Dm
-- text HmOdd4
namespace Dm
open PySem L2
/-- a row of data, so many at most -/
structure OddL (k : Nat) (ds : List D) : Prop where
  len : ds.length ≤ k
  all : ∀ d, d ∈ ds → OddD d
theorem OddL.one {d : D} (h : OddD d) : OddL 1 [d] := ⟨by simp, fun x hx => by rw [List.mem_singleton.mp hx]; exact h⟩
theorem OddL.tup {k : Nat} {ds : List D} (h : OddL k ds) (hk : k ≤ 1000 := by decide) : OddD (.tup ds) := .tup (Nat.le_trans h.len hk) h.all
theorem OddL.lst {k : Nat} {ds : List D} (h : OddL k ds) (hk : k ≤ 1000 := by decide) : OddD (.lst ds) := .lst (Nat.le_trans h.len hk) h.all
theorem OddL.mono {k m : Nat} {ds : List D} (h : OddL k ds) (hk : k ≤ m) : OddL m ds := ⟨Nat.le_trans h.len hk, h.all⟩
end Dm
-- text HmFields
set_option maxHeartbeats 1000000
namespace Dm
open PySem L2
/-! ### drawn zones of the later laws -/
end Dm
-- text HmFields2
set_option maxHeartbeats 1000000
namespace Dm
open PySem L2
end Dm
-- text HmTale1
set_option maxHeartbeats 1000000
namespace Dm
open PySem L2
/-! ### drawn programs of the later laws: rules, minutes, indexes of values -/
end Dm
-- text HmTale2
set_option maxHeartbeats 1000000
namespace Dm
open PySem L2
/-! ### drawn programs of the later laws: the words, a step -/
end Dm
-- text HmTale3
set_option maxHeartbeats 1000000
namespace Dm
open PySem L2
/-! ### drawn programs of the later laws: a step, a program -/
end Dm
-- text HmTale4
set_option maxHeartbeats 1000000
namespace Dm
open PySem L2
/-! ### drawn programs of the later laws: a program -/
end Dm
-- text HmTale5
set_option maxHeartbeats 1000000
namespace Dm
open PySem L2
/-! ### programs cut off, zones and programs of any size -/
end Dm
-- text HmTale6
set_option maxHeartbeats 1000000
namespace Dm
open PySem L2
end Dm
-- text HmTale7
set_option maxHeartbeats 1000000
namespace Dm
open PySem L2
end Dm
-- text HmLc1
set_option maxHeartbeats 1000000
namespace Dm
open PySem L2
/-! ### the later laws' own search: what can be -/
section
variable {S : Sto} {zs : Zs} {os : List Int} {s m o : Int} {lk : List Lk} {p n : Nat} {ls : List (Int × Int)} {now : Nat → Option Int}
def nwD : Option (Nat × Int) → D
  | none => .non
  | some (p, n) => .tup [.int p, .int n]
end
end Dm
-- text HmLc2
set_option maxHeartbeats 1000000
namespace Dm
open PySem L2
/-! ### the later laws' own search: what a step looks at and makes -/
end Dm
-- text HmLc3
set_option maxHeartbeats 1000000
namespace Dm
open PySem L2
/-! ### the later laws' own search: its tree, plain -/
section
variable {zs : Zs} {lk b : List Lk} {p k w : Nat} {ts : List Stp} {vs : List Int} {t : Stp} {m : Int} {now : Nat → Option Int} {ms pre suf : List Int}
/-- the edition that the values came to -/
def edN : List Stp → List Int → Option (Nat × Int)
  | t :: ts, v :: vs => if t.isEd = true then some (t.place, v) else edN ts vs
  | _, _ => none
def nowN (ts : List Stp) (vs : List Int) : Option (Nat × Int) := edN ts (vs.drop 1)
/-! ### what comes below a state -/
def subL (zs : Zs) (ts : List Stp) (lk : List Lk) (vs : List Int) : List Case := dfsL zs ts (ts.length + 1 - vs.length) (vs.length - 1) (lk, vs, none)
/-! ### how long the search takes -/
def unk (zs : Zs) (ts : List Stp) (lk : List Lk) (vs : List Int) : List Int := (askedS zs vs (ts.getD (vs.length - 1) (.add 0 0))).filter fun m => (known lk (ts.getD (vs.length - 1) (.add 0 0)).place (edOf (nowOf ts vs (ts.getD (vs.length - 1) (.add 0 0)).place) m) m).isNone
def gW (w c : Nat) : Nat → Nat
  | 0 => 1 + c
  | a + 1 => 1 + w * gW w c a
def cW (w : Nat) : List Stp → Nat
  | [] => 1
  | t :: r => gW w (cW w r) (wt w t)
def wgt (w : Nat) (zs : Zs) (ts : List Stp) (lk : List Lk) (vs : List Int) : Nat := if vs.length ≤ ts.length then gW w (cW w (ts.drop vs.length)) (unk zs ts lk vs).length else 1
end
end Dm
-- text HmLc4
set_option maxHeartbeats 1000000
namespace Dm
open PySem L2
/-! ### the later laws' own search: its states -/
abbrev Sta := List Lk × List Int
def stD (ts : List Stp) (x : Sta) : D := .tup [.tup (x.1.map lkD), .tup (x.2.map .int), nwD (nowN ts x.2)]
def endD (ts : List Stp) (c : Case) : D := .tup [.tup (c.1.map lkD), .tup (c.2.1.map .int), optN c.2.2, nwD (nowN ts c.2.1)]
/-! ### what holds in a state -/
structure SeW (zs : Zs) (ts : List Stp) (x : Sta) : Prop where
  w : LkW zs (nowOf ts x.2) x.1
  f : FitA zs (nowOf ts x.2) x.1
  v1 : 1 ≤ x.2.length
  v2 : x.2.length ≤ ts.length + 1
  lb : x.1.length + (unk zs ts x.1 x.2).length + 3 * (ts.length - x.2.length) ≤ 300
end Dm
-- text HmLc5
set_option maxHeartbeats 1000000
namespace Dm
open PySem L2
/-! ### the later laws' own search: its loop -/
abbrev rC (zs : Zs) (ts : List Stp) (bg : D) (d q : Nat) (x5 x6 x7 x8 x9 x10 x11 x12 x13 x14 x15 x16 : Option D) : Rho := [some (zonesD zs), some (progD ts), some bg, some (.cell d), some (.cell q), x5, x6, x7, x8, x9, x10, x11, x12, x13, x14, x15, x16]
section
variable {S0 S : Sto} {zs : Zs} {ts : List Stp} {lk : List Lk} {vs : List Int} {w d q : Nat} {bg : D} {dn : List Case} {init : List Sta} {EO : EXO} {B : Rho → Sto → Prop} {R : D → Sto → Prop}
def subS (zs : Zs) (ts : List Stp) (x : Sta) : List Case := subL zs ts x.1 x.2
def wgS (w : Nat) (zs : Zs) (ts : List Stp) (x : Sta) : Nat := wgt w zs ts x.1 x.2
/-- what a turn of the loop leaves -/
structure Turn (zs : Zs) (ts : List Stp) (w d q : Nat) (bg : D) (S0 : Sto) (dn : List Case) (init : List Sta) (x : Sta) (ρ : Rho) (S : Sto) : Prop where
  env : ∃ x5 x6 x7 x8 x9 x10 x11 x12 x13 x14 x15 x16, ρ = rC zs ts bg d q x5 x6 x7 x8 x9 x10 x11 x12 x13 x14 x15 x16
  g : Grow S0 S
  ex : ∃ (dn' : List Case) (st : List Sta), S[d]? = some (.lst (dn'.map (endD ts))) ∧ S[q]? = some (.lst (st.map (stD ts))) ∧ (∀ y, y ∈ st → y ∈ init ∨ SeW zs ts y) ∧
    dn' ++ st.reverse.flatMap (subS zs ts) = dn ++ (init ++ [x]).reverse.flatMap (subS zs ts) ∧ (st.map (wgS w zs ts)).sum + 1 ≤ ((init ++ [x]).map (wgS w zs ts)).sum ∧ dn'.length ≤ dn.length + 1
end
end Dm
-- text HmLc6
set_option maxHeartbeats 1000000
namespace Dm
open PySem L2
end Dm
-- text HmVals
set_option maxHeartbeats 1000000
namespace Dm
open PySem L2
/-! ### few values: what the offsets of the zones can make of a program -/
end Dm
-- text HmAsk1
set_option maxHeartbeats 1000000
namespace Dm
open PySem L2
/-! ### differences and refusals -/
end Dm
-- text HmEw1
namespace Dm
open PySem L2
/-! ### early worlds of cases, the program's and the law's -/
end Dm
-- text HmAdd
namespace Dm
open PySem L2
end Dm
-- text HmAllT1
namespace Dm
open PySem L2
end Dm
-- text HmAllT2
namespace Dm
open PySem L2
end Dm
-- text HmAllT3
namespace Dm
open PySem L2
end Dm
-- text HmAllT4
namespace Dm
open PySem L2
/-- two rows, item by item -/
inductive Rel2 {α β : Type} (P : α → β → Prop) : List α → List β → Prop
  | nil : Rel2 P [] []
  | cons {a b as bs} : P a b → Rel2 P as bs → Rel2 P (a :: as) (b :: bs)
theorem Rel2.len {α β : Type} {P : α → β → Prop} {as : List α} {bs : List β} (h : Rel2 P as bs) : bs.length = as.length := by
  induction h with
  | nil => rfl
  | cons _ _ ih => rw [List.length_cons, List.length_cons, ih]
theorem Rel2.mem {α β : Type} {P : α → β → Prop} {as : List α} {bs : List β} (h : Rel2 P as bs) {b : β} (hb : b ∈ bs) : ∃ a, a ∈ as ∧ P a b := by
  induction h with
  | nil => cases hb
  | @cons a b' _ _ p _ ih =>
    rcases List.mem_cons.mp hb with rfl | hb
    · exact ⟨a, List.mem_cons_self, p⟩
    · obtain ⟨a, h1, h2⟩ := ih hb
      exact ⟨a, List.mem_cons_of_mem _ h1, h2⟩
end Dm
-- text HmAsk2
set_option maxHeartbeats 1000000
namespace Dm
open PySem L2
/-! ### the frame of the later laws -/
section
variable {S : Sto} {zs : Zs} {ts : List Stp} {p n : Nat} {row : List Kd}
/-! ### the hours of a program -/
/-! ### the zones and the program -/
theorem tales_cnt {w : Nat} (z : ZsOK zs) (ok : ProgFrom zs.length [.mom] ts) (hw : ∀ p, p < zs.length → (getZ zs p).1.length ≤ w) (hw1 : 1 ≤ w) : (talesL zs ts ts.length).length ≤ w ^ (ts.map (wt w)).sum := by
  rw [← rows_tales z ok]
  refine Nat.le_trans (List.length_filter_le _ _) ?_
  have := row_count (w := w) (n := ts.length) (k := 0) (lk := []) (vs := [0]) ok hw hw1 (by omega)
  simpa using this
theorem tales_allk {w : Nat} (z : ZsOK zs) (ok : ProgFrom zs.length [.mom] ts) (hw : ∀ p, p < zs.length → (getZ zs p).1.length ≤ w) (hw1 : 1 ≤ w) : ∀ k, k ≤ ts.length → (talesL zs ts k).length ≤ w ^ (ts.map (wt w)).sum := by
  intro k hk
  have e : ts = ts.take k ++ ts.drop k := (List.take_append_drop k ts).symm
  have okp : ProgFrom zs.length [.mom] (ts.take k) := by
    rw [e] at ok
    exact progFrom_left ok
  have hl : (ts.take k).length = k := by rw [List.length_take]; omega
  have h1 := tales_app (us := ts.drop k) (k := k) z okp (by omega)
  rw [← e] at h1
  rw [h1]
  have h2 := tales_cnt z okp hw hw1
  rw [hl] at h2
  refine Nat.le_trans h2 (pow_le_of hw1 ?_)
  conv => rhs; rw [e]
  rw [List.map_append, List.sum_append]
  omega
end
end Dm
-- text M_k29
namespace Dm
open PySem L2
section
variable {zs : Zs} {by_ more o : Int} {eye q x : Nat} {f g : Str}
theorem tsF_ok (he : eye < zs.length) (hq : q < zs.length) (hb : -100000 ≤ by_ ∧ by_ ≤ 100000) (hm : -100000 ≤ more ∧ more ≤ 100000) (hf : RuleF f) (hg : RuleG g) (hx : x ≤ 1) : ProgFrom zs.length [.mom] (tsF by_ more eye q f g x) := by
  have h0 : ProgFrom zs.length [.mom] (tsF by_ more eye q f g 0) := ⟨⟨.inl rfl, hb⟩, ⟨rfl, he⟩, ⟨.inr rfl, hm⟩, ⟨rfl, hq, hf, hg⟩, trivial⟩
  rcases (show x = 0 ∨ x = 1 by omega) with rfl | rfl
  · exact h0
  · exact ⟨⟨.inl rfl, hb⟩, ⟨rfl, he⟩, ⟨.inr rfl, hm⟩, ⟨rfl, hq, hf, hg⟩, ⟨.inl rfl, by decide⟩, trivial⟩
theorem tsF_prog (he : eye < zs.length) (hq : q < zs.length) (hb : -100000 ≤ by_ ∧ by_ ≤ 100000) (hm : -100000 ≤ more ∧ more ≤ 100000) (hf : RuleF f) (hg : RuleG g) (hx : x ≤ 1) : ProgOK zs.length (tsF by_ more eye q f g x) := by
  refine ⟨by simp [tsF]; omega, tsF_ok he hq hb hm hf hg hx, ?_⟩
  rcases (show x = 0 ∨ x = 1 by omega) with rfl | rfl <;> simp [tsF, Stp.isEd]
theorem tsF_few (z : ZsOK zs) (ok : ProgFrom zs.length [.mom] (tsF by_ more eye q f g x)) (hx : x ≤ 1) : ∀ k, k ≤ (tsF by_ more eye q f g x).length → (talesL zs (tsF by_ more eye q f g x) k).length ≤ 81 := by
  have h := tales_allk (w := 3) z ok (fun p hp => (z.at hp).len.2) (by decide)
  have e : ((tsF by_ more eye q f g x).map (wt 3)).sum = 4 := by
    rcases (show x = 0 ∨ x = 1 by omega) with rfl | rfl <;> rfl
  rw [e] at h
  exact h
theorem lkR_snoc {q : Nat} {hour : Int} {rev : List Int} {row : Rw} {k : Nat} (h1 : k < rev.length) (h2 : k < row.length) : lkR q hour rev (row.take (k + 1)) = lkR q hour rev (row.take k) ++ [((q : Int), 0, hour - rev[k], row[k])] := by
  unfold lkR
  induction rev generalizing row k with
  | nil => simp at h1
  | cons s rev ih =>
    cases row with
    | nil => simp at h2
    | cons y row =>
      cases k with
      | zero => simp
      | succ k =>
        simp only [List.take_succ_cons, List.zip_cons_cons, List.map_cons, List.cons_append, List.getElem_cons_succ]
        rw [ih (by simpa using h1) (by simpa using h2)]
theorem rows_count {os : List Int} : ∀ {n : Nat}, (rowsL os n).length = os.length ^ n
  | 0 => rfl
  | n + 1 => by
    rw [rowsL, List.length_flatMap]
    have : (os.map fun x => ((rowsL os n).map (x :: ·)).length) = os.map fun _ => os.length ^ n := List.map_congr_left fun x _ => by rw [List.length_map, rows_count]
    rw [this, List.map_const', List.sum_replicate_nat, Nat.pow_succ, Nat.mul_comm]
theorem few_count {os : List Int} (h : os.length ≤ 3) : (fewL os).length ≤ 27 := by
  refine Nat.le_trans (List.length_filter_le _ _) ?_
  rw [rows_count]
  have : os.length = 0 ∨ os.length = 1 ∨ os.length = 2 ∨ os.length = 3 := by omega
  rcases this with h | h | h | h <;> rw [h] <;> decide
end
theorem law_k29_cases_of_a_find_true : LawTrue m_law_k29_cases_of_a_find := by
  refine law_loop (by decide) fun c L xs S hx => ?_
  obtain ⟨x2, x3, x4, x5, x6, x7, x8, x9, x10, x11, x12, x13, x14, x15, x16, x17, x18, rfl⟩ : ∃ x2 x3 x4 x5 x6 x7 x8 x9 x10 x11 x12 x13 x14 x15 x16 x17 x18, xs = [x2, x3, x4, x5, x6, x7, x8, x9, x10, x11, x12, x13, x14, x15, x16, x17, x18] := match xs, hx with
    | [_, _, _, _, _, _, _, _, _, _, _, _, _, _, _, _, _], _ => ⟨_, _, _, _, _, _, _, _, _, _, _, _, _, _, _, _, _, rfl⟩
  refine seq_cut (fun ρ S' => ∃ p, ρ = [some L, some (.int c), some (.cell p), x3, x4, x5, x6, x7, x8, x9, x10, x11, x12, x13, x14, x15, x16, x17, x18] ∧ Bag p 9223372036854775808 S') (fun M hM => ?_) ?_
  · simp
    refine bag_of_does fun S1 b1 g1 => ?_
    exact hM _ _ ⟨_, rfl, b1⟩
  rintro ρ S1 ⟨p, rfl, b1⟩
  refine seq_cut (fun ρ S' => ∃ zs, ρ = [some L, some (.int c), some (.cell p), some (zonesD zs), x4, x5, x6, x7, x8, x9, x10, x11, x12, x13, x14, x15, x16, x17, x18] ∧ ZsOK zs ∧ zs.length = 2 ∧ Bag p 100000 S') (fun M hM => ?_) ?_
  · simp
    refine any_belt_does (n := 100100) (b1.mono (by omega)) fun os1 s1 S2 b2 g2 z1 => ?_
    refine any_belt_does (n := 100000) (b2.mono (by omega)) fun os2 s2 S3 b3 g3 z2 => ?_
    exact hM _ _ ⟨[(os1, s1), (os2, s2)], rfl, ⟨by simp [z1, z2], .inr rfl⟩, rfl, b3⟩
  rintro ρ S2 ⟨zs, rfl, z, h2, b2⟩
  refine seq_cut (fun ρ S' => ∃ (eye : Nat) (by_ more : Int), ρ = [some L, some (.int c), some (.cell p), some (zonesD zs), some (.int eye), some (.int by_), some (.int more), x7, x8, x9, x10, x11, x12, x13, x14, x15, x16, x17, x18] ∧ eye < 2 ∧ (-100000 ≤ by_ ∧ by_ ≤ 100000) ∧ (-100000 ≤ more ∧ more ≤ 100000) ∧ Bag p 90000 S') (fun M hM => ?_) ?_
  · simp
    refine pick_does (n := 99999) b2 (by decide) (by decide) fun v S3 b3 g3 r0 r1 => ?_
    refine minutes_does (n := 99994) b3 z fun m1 S4 b4 g4 h4 => ?_
    refine minutes_does (n := 90000) (b4.mono (by omega)) z fun m2 S5 b5 g5 h5 => ?_
    refine hM _ _ ⟨v.toNat, m1, m2, ?_, by omega, h4, h5, b5⟩
    rw [Int.toNat_of_nonneg r0]
  rintro ρ S3 ⟨eye, by_, more, rfl, he, hb, hm, b3⟩
  refine seq_cut (fun ρ S' => ∃ f g, ρ = [some L, some (.int c), some (.cell p), some (zonesD zs), some (.int eye), some (.int by_), some (.int more), some (.str f), some (.str g), x9, x10, x11, x12, x13, x14, x15, x16, x17, x18] ∧ RuleF f ∧ RuleG g ∧ Bag p 80000 S') (fun M hM => ?_) ?_
  · simp
    refine rules_does (n := 80000) (b3.mono (by omega)) fun f g S4 b4 g4 hf hg => ?_
    exact hM _ _ ⟨f, g, rfl, hf, hg, b4⟩
  rintro ρ S4 ⟨f, g, rfl, hf, hg, b4⟩
  obtain ⟨q, hq, hqe⟩ : ∃ q : Nat, q < 2 ∧ (1 : Int) - eye = q := ⟨1 - eye, by omega, by omega⟩
  have ne : eye ≠ q := by omega
  refine seq_cut (fun ρ S' => S4 = S' ∧ ρ = [some L, some (.int c), some (.cell p), some (zonesD zs), some (.int eye), some (.int by_), some (.int more), some (.str f), some (.str g), some (progD (tsF by_ more eye q f g 0)), x10, x11, x12, x13, x14, x15, x16, x17, x18]) (fun M hM => ?_) ?_
  · simp [hqe]
    exact hM _ _ ⟨rfl, rfl⟩
  rintro ρ _ ⟨rfl, rfl⟩
  refine seq_cut (fun ρ S' => ∃ x, x ≤ 1 ∧ ρ = [some L, some (.int c), some (.cell p), some (zonesD zs), some (.int eye), some (.int by_), some (.int more), some (.str f), some (.str g), some (progD (tsF by_ more eye q f g x)), x10, x11, x12, x13, x14, x15, x16, x17, x18]) (fun M hM => ?_) ?_
  · simp
    refine pick_does (n := 79999) b4 (by decide) (by decide) fun v S5 b5 g5 r0 r1 => ?_
    rcases (show v = 0 ∨ v = 1 by omega) with rfl | rfl
    · simp [progD, tsF]
      exact hM _ _ ⟨0, by omega, rfl⟩
    · simp [progD, tsF]
      exact hM _ _ ⟨1, by omega, rfl⟩
  rintro ρ S5 ⟨x, hx1, rfl⟩
  have hez : eye < zs.length := by omega
  have hqz : q < zs.length := by omega
  have ok := tsF_prog (x := x) hez hqz hb hm hf hg hx1
  have ht := find_tales z h2 hez hqz ne (by_ := by_) (more := more) (f := f) (g := g) hx1 ok.steps
  have hbd := tsF_few z ok.steps hx1
  generalize hts : tsF by_ more eye q f g x = ts at ok ht hbd
  have hzq := ix_zones (S := S5) hqz
  have hze := fun S => ix_zones (S := S) hez
  have zq := z.at hqz
  have ze := z.at hez
  refine seq_cut (fun ρ S' => S5 ++ [.lst []] = S' ∧ ρ = [some L, some (.int c), some (.cell p), some (zonesD zs), some (.int eye), some (.int by_), some (.int more), some (.str f), some (.str g), some (progD ts), some (.cell S5.length), some (.tup ((getZ zs q).1.map .int)), x12, x13, x14, x15, x16, x17, x18]) (fun M hM => ?_) ?_
  · simp [hqe]
    have hzq' := ix_zones (S := S5 ++ [.lst []]) hqz
    simp [hzq']
    exact hM _ _ ⟨rfl, rfl⟩
  rintro ρ _ ⟨rfl, rfl⟩
  have ez : ∀ S, gIx S (zoneD (getZ zs eye).1 (getZ zs eye).2) (.int 0) = some (.tup ((getZ zs eye).1.map .int)) := fun S => by simp [zoneD]
  refine seq_cut (fun ρ S' => ∃ x12 x13 x14 x15 x16 x17 x18, S5.length < S'.length ∧ S'[S5.length]? = some (.lst (((getZ zs eye).1.flatMap fun o => (fewL (getZ zs q).1).map (caseF by_ more eye q f g x (getZ zs q).1 o)).map caseD)) ∧ ρ = [some L, some (.int c), some (.cell p), some (zonesD zs), some (.int eye), some (.int by_), some (.int more), some (.str f), some (.str g), some (progD ts), some (.cell S5.length), some (.tup ((getZ zs q).1.map .int)), x12, x13, x14, x15, x16, x17, x18]) (fun M hM => ?_) ?_
  · rw [does_forA]
    simp [hze, ez]
    refine forL_cut (fun ds ρ S' => ∃ (dn rest : List Int) (x12 x13 x14 x15 x16 x17 x18 : Option D), ds = rest.map .int ∧ (getZ zs eye).1 = dn ++ rest ∧ S5.length < S'.length ∧ S'[S5.length]? = some (.lst ((dn.flatMap fun o => (fewL (getZ zs q).1).map (caseF by_ more eye q f g x (getZ zs q).1 o)).map caseD)) ∧
        ρ = [some L, some (.int c), some (.cell p), some (zonesD zs), some (.int eye), some (.int by_), some (.int more), some (.str f), some (.str g), some (progD ts), some (.cell S5.length), some (.tup ((getZ zs q).1.map .int)), x12, x13, x14, x15, x16, x17, x18]) _
      ⟨[], (getZ zs eye).1, x12, x13, x14, x15, x16, x17, x18, rfl, rfl, by simp, by simp, rfl⟩ ?_ ?_
    · rintro d ds ρ S6 ⟨dn, rest, y12, y13, y14, y15, y16, y17, y18, e, eo, gl, cn, rfl⟩
      cases rest with
      | nil => cases e
      | cons o rest =>
        rw [List.map_cons] at e
        injection e with e1 e2
        subst e1
        refine ⟨_, rfl, fun M2 hM2 => ?_⟩
        refine seq_cut (fun ρ S' => S6 = S' ∧ ρ = [some L, some (.int c), some (.cell p), some (zonesD zs), some (.int eye), some (.int by_), some (.int more), some (.str f), some (.str g), some (progD ts), some (.cell S5.length), some (.tup ((getZ zs q).1.map .int)), some (.int o), some (.int (by_ + o + more)), y14, y15, y16, y17, y18]) (fun M3 hM3 => ?_) ?_
        · simp
          exact hM3 _ _ ⟨rfl, rfl⟩
        rintro ρ _ ⟨rfl, rfl⟩
        rw [does_forA]
        simp
        refine rows_of_does zq ?_
        simp
        generalize hB : (dn.flatMap fun o => (fewL (getZ zs q).1).map (caseF by_ more eye q f g x (getZ zs q).1 o)) = B at cn
        have hBl : B.length ≤ 81 := by
          rw [← hB]
          have h1 := flat_lenF (l := dn) (f := fun o => (fewL (getZ zs q).1).map (caseF by_ more eye q f g x (getZ zs q).1 o)) (k := 27) fun y _ => by
            rw [List.length_map]
            exact few_count zq.len.2
          have h2 : dn.length ≤ 3 := by
            have := congrArg List.length eo
            have := ze.len
            simp at *
            omega
          omega
        refine forL_cut (fun ds ρ S' => ∃ (dn2 rest2 : List Rw) (x14 x15 x16 x17 x18 : Option D), ds = rest2.map rwD ∧ fewL (getZ zs q).1 = dn2 ++ rest2 ∧ S5.length < S'.length ∧ S'[S5.length]? = some (.lst ((B ++ dn2.map (caseF by_ more eye q f g x (getZ zs q).1 o)).map caseD)) ∧
            ρ = [some L, some (.int c), some (.cell p), some (zonesD zs), some (.int eye), some (.int by_), some (.int more), some (.str f), some (.str g), some (progD ts), some (.cell S5.length), some (.tup ((getZ zs q).1.map .int)), some (.int o), some (.int (by_ + o + more)), x14, x15, x16, x17, x18]) _
          ⟨[], fewL (getZ zs q).1, y14, y15, y16, y17, y18, rfl, rfl, gl, by simpa using cn, rfl⟩ ?_ ?_
        · rintro d ds2 ρ S7 ⟨dn2, rest2, w14, w15, w16, w17, w18, e, eo2, gl7, cn7, rfl⟩
          cases rest2 with
          | nil => cases e
          | cons row rest2 =>
            rw [List.map_cons] at e
            injection e with e3 e4
            subst e3
            have hrow : row ∈ fewL (getZ zs q).1 := by rw [eo2]; simp
            obtain ⟨hr1, hr2⟩ := List.mem_filter.mp hrow
            have hrl := rows_len hr1
            refine ⟨_, rfl, fun M3 hM3 => ?_⟩
            generalize hh : by_ + o + more = hour
            refine seq_cut (fun ρ S' => S7 = S' ∧ ρ = [some L, some (.int c), some (.cell p), some (zonesD zs), some (.int eye), some (.int by_), some (.int more), some (.str f), some (.str g), some (progD ts), some (.cell S5.length), some (.tup ((getZ zs q).1.map .int)), some (.int o), some (.int hour), some (rwD row), some (.tup ((((eye : Int), (0 : Int), by_, o) :: lkR q hour (getZ zs q).1.reverse (row.take 0)).map lkD)), w16, w17, w18]) (fun M4 hM4 => ?_) ?_
            · simp [lkD, lkR] at hM4 ⊢
              exact hM4
            rintro ρ _ ⟨rfl, rfl⟩
            refine seq_cut (fun ρ S' => S7 = S' ∧ ∃ x16, ρ = [some L, some (.int c), some (.cell p), some (zonesD zs), some (.int eye), some (.int by_), some (.int more), some (.str f), some (.str g), some (progD ts), some (.cell S5.length), some (.tup ((getZ zs q).1.map .int)), some (.int o), some (.int hour), some (rwD row), some (.tup ((lkF by_ eye q hour o (getZ zs q).1 row).map lkD)), x16, w17, w18]) (fun M4 hM4 => ?_) ?_
            · rw [does_for]
              have hrl3 : row.length ≤ 3 := by have := zq.len; omega
              have gl0 : ∀ S, gLen S [rwD row] = some (.int row.length) := fun S => by simp [rwD]
              simp [gl0]
              refine ⟨by omega, ?_⟩
              refine forL_cut (fun ds ρ S' => S7 = S' ∧ ∃ (k : Nat) (x16 : Option D), ds = rngD (k : Int) (row.length - k) ∧ k ≤ row.length ∧ ρ = [some L, some (.int c), some (.cell p), some (zonesD zs), some (.int eye), some (.int by_), some (.int more), some (.str f), some (.str g), some (progD ts), some (.cell S5.length), some (.tup ((getZ zs q).1.map .int)), some (.int o), some (.int hour), some (rwD row), some (.tup ((((eye : Int), (0 : Int), by_, o) :: lkR q hour (getZ zs q).1.reverse (row.take k)).map lkD)), x16, w17, w18]) _
                ⟨rfl, 0, w16, by simp, by omega, rfl⟩ ?_ ?_
              · rintro d ds3 ρ _ ⟨rfl, k, y16, e, hk, rfl⟩
                cases hc : row.length - k with
                | zero => rw [hc] at e; cases e
                | succ j =>
                  rw [hc, rngD_cons] at e
                  injection e with e5 e6
                  subst e5
                  refine ⟨_, rfl, fun M5 hM5 => ?_⟩
                  have hk1 : k < row.length := by omega
                  have hk2 : k < (getZ zs q).1.reverse.length := by simp; omega
                  obtain ⟨v, hv⟩ : ∃ v, v = (getZ zs q).1.reverse[k] := ⟨_, rfl⟩
                  have a1 : atI (List.map D.int (getZ zs q).1).reverse (k : Int) = some (.int v) := by
                    rw [← List.map_reverse, atI_of (by omega) (by rw [List.length_map]; omega), List.getElem?_map, Int.toNat_natCast, List.getElem?_eq_getElem hk2, ← hv]
                    rfl
                  obtain ⟨u, hu⟩ : ∃ u, u = row[k] := ⟨_, rfl⟩
                  have a2 : gIx S7 (rwD row) (.int k) = some (.int u) := by
                    have : atI (row.map D.int) (k : Int) = some (.int u) := by
                      rw [atI_of (by omega) (by rw [List.length_map]; omega), List.getElem?_map, Int.toNat_natCast, List.getElem?_eq_getElem hk1, ← hu]
                      rfl
                    simpa [rwD] using this
                  have hz := lkR_snoc (q := q) (hour := hour) hk2 hk1
                  rw [← hv, ← hu] at hz
                  have hlen : (lkR q hour (getZ zs q).1.reverse (row.take k)).length ≤ 3 := by
                    unfold lkR
                    simp
                    omega
                  generalize lkR q hour (getZ zs q).1.reverse (row.take k) = lk at hz hlen
                  have hM6 := hM5 [some L, some (.int c), some (.cell p), some (zonesD zs), some (.int eye), some (.int by_), some (.int more), some (.str f), some (.str g), some (progD ts), some (.cell S5.length), some (.tup ((getZ zs q).1.map .int)), some (.int o), some (.int hour), some (rwD row), some (.tup ((((eye : Int), (0 : Int), by_, o) :: (lk ++ [((q : Int), 0, hour - v, u)])).map lkD)), some (.int k), w17, w18] S7 ⟨rfl, k + 1, _, by rw [e6]; congr 1; omega, hk1, by rw [hz]⟩
                  simp [hqe, a1, a2]
                  refine ⟨by omega, ?_⟩
                  simpa [lkD] using hM6
              · rintro ρ _ ⟨rfl, k, y16, e, hk, rfl⟩
                have hc : row.length - k = 0 := by
                  cases hc : row.length - k with
                  | zero => rfl
                  | succ j => rw [hc, rngD_cons] at e; cases e
                have ek : row.take k = row := List.take_of_length_le (by omega)
                rw [ek]
                exact hM4 _ _ ⟨rfl, _, rfl⟩
            rintro ρ _ ⟨rfl, y16', rfl⟩
            have ho := off_row (os := (getZ zs q).1) (q := q) (eye := eye) (hour := hour) (by_ := by_) (o := o) ne hrl zq.nodup
            have hff := fits_few zq (r := hour) ho hr2
            have ecase : caseF by_ more eye q f g x (getZ zs q).1 o row = outF (lkF by_ eye q hour o (getZ zs q).1 row) [0, by_, by_ + o, hour] x (findW (getZ zs q).1 (offK (lkF by_ eye q hour o (getZ zs q).1 row) q none) hour f g) := by
              unfold caseF
              rw [hh]
            generalize hlk : lkF by_ eye q hour o (getZ zs q).1 row = lk at ho hff ecase
            refine seq_cut (fun ρ S' => Grow S7 S' ∧ ρ = [some L, some (.int c), some (.cell p), some (zonesD zs), some (.int eye), some (.int by_), some (.int more), some (.str f), some (.str g), some (progD ts), some (.cell S5.length), some (.tup ((getZ zs q).1.map .int)), some (.int o), some (.int hour), some (rwD row), some (.tup (lk.map lkD)), y16', some (optD (findW (getZ zs q).1 (offK lk q none) hour f g)), w18]) (fun M4 hM4 => ?_) ?_
            · simp
              refine found_in_does zq ho hff hf hg fun S8 g8 => ?_
              exact hM4 _ _ ⟨g8, rfl⟩
            rintro ρ S8 ⟨g8, rfl⟩
            refine seq_cut (fun ρ S' => S8 = S' ∧ ρ = [some L, some (.int c), some (.cell p), some (zonesD zs), some (.int eye), some (.int by_), some (.int more), some (.str f), some (.str g), some (progD ts), some (.cell S5.length), some (.tup ((getZ zs q).1.map .int)), some (.int o), some (.int hour), some (rwD row), some (.tup (lk.map lkD)), y16', some (optD (findW (getZ zs q).1 (offK lk q none) hour f g)), some (.tup (([0, by_, by_ + o, hour] : List Int).map .int))]) (fun M4 hM4 => ?_) ?_
            · simp at hM4 ⊢
              exact hM4
            rintro ρ _ ⟨rfl, rfl⟩
            have cn8 := g8.get cn7
            have gl8 := g8.len
            have hl2 : dn2.length ≤ 27 := by
              have := few_count (os := (getZ zs q).1) zq.len.2
              rw [eo2] at this
              simp at this
              omega
            have fin := fun S' (cs : Case) (hcs : cs = caseF by_ more eye q f g x (getZ zs q).1 o row) (h : S'[S5.length]? = some (.lst ((B ++ dn2.map (caseF by_ more eye q f g x (getZ zs q).1 o) ++ [cs]).map caseD))) (hl : S5.length < S'.length) (a16 a17 a18 : Option D) =>
              hM3 [some L, some (.int c), some (.cell p), some (zonesD zs), some (.int eye), some (.int by_), some (.int more), some (.str f), some (.str g), some (progD ts), some (.cell S5.length), some (.tup ((getZ zs q).1.map .int)), some (.int o), some (.int hour), some (rwD row), some (.tup (lk.map lkD)), a16, a17, a18] S' ⟨dn2 ++ [row], rest2, _, _, _, _, _, e4, by rw [eo2]; simp, hl, by rw [h, hcs]; simp, by rw [hh]⟩
            have htl : ts.length = x + 4 := by rw [← hts]; simp [tsF]
            have hgp : gLen S8 [progD ts] = some (.int (x + 4 : Nat)) := by simp [progD, htl]
            cases hw : findW (getZ zs q).1 (offK lk q none) hour f g with
            | none =>
              rw [hw] at ecase
              have f2 := fin (S8.set S5.length (.lst ((B ++ dn2.map (caseF by_ more eye q f g x (getZ zs q).1 o) ++ [(lk, [0, by_, by_ + o, hour], some 3)]).map caseD))) (lk, [0, by_, by_ + o, hour], some 3) ecase.symm (by rw [List.getElem?_set_self (by omega)]) (by rw [List.length_set]; omega)
              simp [optD, cn8]
              refine ⟨by omega, ?_⟩
              have f3 := f2 y16' (some .non) (some (.tup (([0, by_, by_ + o, hour] : List Int).map .int)))
              simpa [caseD, optN] using f3
            | some w =>
              rw [hw] at ecase
              have f2 := fin (S8.set S5.length (.lst ((B ++ dn2.map (caseF by_ more eye q f g x (getZ zs q).1 o) ++ [(lk, [0, by_, by_ + o, hour] ++ w :: List.replicate x (w + 5), none)]).map caseD))) (lk, [0, by_, by_ + o, hour] ++ w :: List.replicate x (w + 5), none) ecase.symm (by rw [List.getElem?_set_self (by omega)]) (by rw [List.length_set]; omega)
              have f3 := f2 y16' (some (.int w)) (some (.tup (([0, by_, by_ + o, hour] : List Int).map .int)))
              rcases (show x = 0 ∨ x = 1 by omega) with rfl | rfl
              · have c5 : cutD [D.int 0, D.int by_, D.int (by_ + o), D.int hour, D.int w, D.int (w + 5)] none (some 5) = [D.int 0, D.int by_, D.int (by_ + o), D.int hour, D.int w] := rfl
                simp [optD, cn8, hgp, c5]
                refine ⟨by omega, ?_⟩
                simpa [caseD, optN] using f3
              · have c6 : cutD [D.int 0, D.int by_, D.int (by_ + o), D.int hour, D.int w, D.int (w + 5)] none (some 6) = [D.int 0, D.int by_, D.int (by_ + o), D.int hour, D.int w, D.int (w + 5)] := rfl
                simp [optD, cn8, hgp, c6]
                refine ⟨by omega, ?_⟩
                simpa [caseD, optN] using f3
        · rintro ρ S7 ⟨dn2, rest2, w14, w15, w16, w17, w18, e, eo2, gl7, cn7, rfl⟩
          have : rest2 = [] := by
            cases rest2 with
            | nil => rfl
            | cons => cases e
          subst this
          rw [List.append_nil] at eo2
          refine hM2 _ _ ⟨dn ++ [o], rest, _, _, _, _, _, _, _, e2, by rw [eo]; simp, gl7, ?_, rfl⟩
          rw [cn7, List.flatMap_append, hB, eo2]
          simp
    · rintro ρ S6 ⟨dn, rest, y12, y13, y14, y15, y16, y17, y18, e, eo, gl, cn, rfl⟩
      have : rest = [] := by
        cases rest with
        | nil => rfl
        | cons => cases e
      subst this
      rw [List.append_nil] at eo
      rw [← eo] at cn
      exact hM _ _ ⟨_, _, _, _, _, _, _, gl, cn, rfl⟩
  rintro ρ S6 ⟨y12, y13, y14, y15, y16, y17, y18, gl, cn, rfl⟩
  rw [← ht] at cn
  have cab : ∀ c, c ∈ talesL zs ts ts.length → CaB c := tales_cab z ok.steps ok.len (Nat.le_refl _)
  have csl : (talesL zs ts ts.length).length ≤ 2700 := by have := hbd ts.length (Nat.le_refl _); omega
  simp
  refine cases_does z ok (fun k hk => by have := hbd k hk; omega) fun S8 n2 g8 hn2 h2' => ?_
  simp [same_cases h2' (g8.get cn) cab csl]
  exact ⟨_, _, ⟨rfl, rfl⟩, rfl⟩
end Dm
-- text E_k29
open PySem PySem.W PyProof.Rows in
set_option maxRecDepth 100000 in
set_option maxHeartbeats 0 in
theorem PySem.Challenge.cw_hoursmeant_k29_cases_of_a_find_holds : PySem.Challenge.rw_hoursmeant_k29_cases_of_a_find.Holds := by
  w_on; o_law; k_head; (case hw => w_witness2)
  k_fill
  refine V.walk (l := PySem.Challenge.rw_hoursmeant_k29_cases_of_a_find) rfl rfl (fun w h Y => PySem.W.kIn_of Y) ?F
  case F =>
    intro w mg fa h KX G hmg
    refine' V.all_mk Dm.law_k29_cases_of_a_find_true KX G hmg ?a0 ?l0 ?c0 ?k0 ?a1 ?l1 ?c1 ?k1 ?a2 ?l2 ?c2 ?k2 ?a3 ?l3 ?c3 ?k3 ?a4 ?l4 ?c4 ?k4 ?a5 ?l5 ?c5 ?k5 ?a6 ?l6 ?c6 ?k6 ?a7 ?l7 ?c7 ?k7 ?a8 ?l8 ?c8 ?k8 ?a9 ?l9 ?c9 ?k9 ?a10 ?l10 ?c10 ?k10 ?a11 ?l11 ?c11 ?k11 ?a12 ?l12 ?c12 ?k12 ?a13 ?l13 ?c13 ?k13 ?a14 ?l14 ?c14 ?k14 ?a15 ?l15 ?c15 ?k15 ?a16 ?l16 ?c16 ?k16 ?a17 ?l17 ?c17 ?k17 ?a18 ?l18 ?c18 ?k18 ?a19 ?l19 ?c19 ?k19 ?a20 ?l20 ?c20 ?k20 ?a21 ?l21 ?c21 ?k21 ?a22 ?l22 ?c22 ?k22 ?a23 ?l23 ?c23 ?k23 ?a24 ?l24 ?c24 ?k24 ?a25 ?l25 ?c25 ?k25 ?a26 ?l26 ?c26 ?k26 ?a27 ?l27 ?c27 ?k27 ?a28 ?l28 ?c28 ?k28 ?a29 ?l29 ?c29 ?k29 ?a30 ?l30 ?c30 ?k30 ?a31 ?l31 ?c31 ?k31 ?a32 ?l32 ?c32 ?k32 ?z0 ?z1 ?z2 ?z3 ?z4 ?z5 ?z6 ?z7 ?z8 ?z9 ?z10 ?z11 ?z12 ?z13 ?v0 ?q0_1 ?v1 ?q1_1 ?v2 ?tb2 ?hs2_0 ?hs2_1 ?hs2_2 ?hs2_3 ?hs2_4 ?hs2_5 ?lw2 ?v3 ?v4 ?v5 ?v6 ?v7 ?tb7 ?hs7_0 ?hs7_1 ?hs7_2 ?hs7_3 ?hs7_4 ?hs7_5 ?hs7_6 ?lw7 ?q7_1 ?q7_4 ?q7_9 ?q7_12 ?q7_15 ?q7_18 ?q7_21 ?xa0 ?xq0 ?xk0 ?xb0 ?xt0 ?xa1 ?xq1 ?xk1 ?xb1 ?xt1
    (case a0 => k_is)
    (case l0 => k_is)
    (case c0 => k_is)
    (case k0 => k_is)
    (case a1 => k_is)
    (case l1 => k_is)
    (case c1 => k_is)
    (case k1 => k_is)
    (case a2 => k_is)
    (case l2 => k_is)
    (case c2 => k_is)
    (case k2 => k_is)
    (case a3 => k_is)
    (case l3 => k_is)
    (case c3 => k_is)
    (case k3 => k_is)
    (case a4 => k_is)
    (case l4 => k_is)
    (case c4 => k_is)
    (case k4 => k_is)
    (case a5 => k_is)
    (case l5 => k_is)
    (case c5 => k_is)
    (case k5 => k_is)
    (case a6 => k_is)
    (case l6 => k_is)
    (case c6 => k_is)
    (case k6 => k_is)
    (case a7 => k_is)
    (case l7 => k_is)
    (case c7 => k_is)
    (case k7 => k_is)
    (case a8 => k_is)
    (case l8 => k_is)
    (case c8 => k_is)
    (case k8 => k_is)
    (case a9 => k_is)
    (case l9 => k_is)
    (case c9 => k_is)
    (case k9 => k_is)
    (case a10 => k_is)
    (case l10 => k_is)
    (case c10 => k_is)
    (case k10 => k_is)
    (case a11 => k_is)
    (case l11 => k_is)
    (case c11 => k_is)
    (case k11 => k_is)
    (case a12 => k_is)
    (case l12 => k_is)
    (case c12 => k_is)
    (case k12 => k_is)
    (case a13 => k_is)
    (case l13 => k_is)
    (case c13 => k_is)
    (case k13 => k_is)
    (case a14 => k_is)
    (case l14 => k_is)
    (case c14 => k_is)
    (case k14 => k_is)
    (case a15 => k_is)
    (case l15 => k_is)
    (case c15 => k_is)
    (case k15 => k_is)
    (case a16 => k_is)
    (case l16 => k_is)
    (case c16 => k_is)
    (case k16 => k_is)
    (case a17 => k_is)
    (case l17 => k_is)
    (case c17 => k_is)
    (case k17 => k_is)
    (case a18 => k_is)
    (case l18 => k_is)
    (case c18 => k_is)
    (case k18 => k_is)
    (case a19 => k_is)
    (case l19 => k_is)
    (case c19 => k_is)
    (case k19 => k_is)
    (case a20 => k_is)
    (case l20 => k_is)
    (case c20 => k_is)
    (case k20 => k_is)
    (case a21 => k_is)
    (case l21 => k_is)
    (case c21 => k_is)
    (case k21 => k_is)
    (case a22 => k_is)
    (case l22 => k_is)
    (case c22 => k_is)
    (case k22 => k_is)
    (case a23 => k_is)
    (case l23 => k_is)
    (case c23 => k_is)
    (case k23 => k_is)
    (case a24 => k_is)
    (case l24 => k_is)
    (case c24 => k_is)
    (case k24 => k_is)
    (case a25 => k_is)
    (case l25 => k_is)
    (case c25 => k_is)
    (case k25 => k_is)
    (case a26 => k_is)
    (case l26 => k_is)
    (case c26 => k_is)
    (case k26 => k_is)
    (case a27 => k_is)
    (case l27 => k_is)
    (case c27 => k_is)
    (case k27 => k_is)
    (case a28 => k_is)
    (case l28 => k_is)
    (case c28 => k_is)
    (case k28 => k_is)
    (case a29 => k_is)
    (case l29 => k_is)
    (case c29 => k_is)
    (case k29 => k_is)
    (case a30 => k_is)
    (case l30 => k_is)
    (case c30 => k_is)
    (case k30 => k_is)
    (case a31 => k_is)
    (case l31 => k_is)
    (case c31 => k_is)
    (case k31 => k_is)
    (case a32 => k_is)
    (case l32 => k_is)
    (case c32 => k_is)
    (case k32 => k_is)
    (case z0 => k_is)
    (case z1 => k_is)
    (case z2 => k_is)
    (case z3 => k_is)
    (case z4 => k_is)
    (case z5 => k_is)
    (case z6 => k_is)
    (case z7 => k_is)
    (case z8 => k_is)
    (case z9 => k_is)
    (case z10 => k_is)
    (case z11 => k_is)
    (case z12 => k_is)
    (case z13 => k_is)
    (case v0 => k_is)
    (case q0_1 => k_is)
    (case v1 => k_is)
    (case q1_1 => k_is)
    (case v2 => k_is)
    (case tb2 => k_is)
    (case hs2_0 => rfl)
    (case hs2_1 => rfl)
    (case hs2_2 => rfl)
    (case hs2_3 => rfl)
    (case hs2_4 => rfl)
    (case hs2_5 => rfl)
    (case lw2 => rfl)
    (case v3 => k_is)
    (case v4 => k_is)
    (case v5 => k_is)
    (case v6 => k_is)
    (case v7 => k_is)
    (case tb7 => k_is)
    (case hs7_0 => rfl)
    (case hs7_1 => rfl)
    (case hs7_2 => rfl)
    (case hs7_3 => rfl)
    (case hs7_4 => rfl)
    (case hs7_5 => rfl)
    (case hs7_6 => rfl)
    (case lw7 => rfl)
    (case q7_1 => k_is)
    (case q7_4 => k_is)
    (case q7_9 => k_is)
    (case q7_12 => k_is)
    (case q7_15 => k_is)
    (case q7_18 => k_is)
    (case q7_21 => k_is)
    (case xa0 => k_is)
    (case xq0 => k_exc)
    (case xk0 => k_is)
    (case xb0 => k_is)
    (case xt0 => k_is)
    (case xa1 => k_is)
    (case xq1 => k_exc)
    (case xk1 => k_is)
    (case xb1 => k_is)
    (case xt1 => k_is)
