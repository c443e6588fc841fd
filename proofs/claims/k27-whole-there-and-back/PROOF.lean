import PyProof.Rows.All
import Wide.All
import OpenK.AllK
import Wide.FinOn
import HandS.ForMost
import HandS.ForExc
import HandS.Wide
import HandS.IsInst
import HandS.Flow
import HandS.CallSlots
import HandS.ExcIs
import HandS.Strs
import HandS.TupAny
import HandS.TupMul
import KE.GoesEnum
import HandS.Conv
import HandS.Deep
import HandS.ExcField
import HandS.Style
import HandS.Ends
import HandS.SortRule
import HandS.SortInts
import HandS.Dict
import HandS.DictComp
import HandS.Defaults
import HandS.MakeKwOnly
import HandS.TryOnly
import HandS.SetFor
import PyProof.P3In
import HandS.More
import PyProof.ReprRoads
import HandS.TryMany
import HandS.ExcInit
import HandS.ClsMeth
import HandS.ExcValue
import HandS.LawCells
import HandS.JoinGen
import HandS.GenList
import KE.SortData
import HandS.Text
import HandS.StrMore
import HandS.RaiseMore
import HandS.Steps
import HandS.Iter
import PyProof.StrOps2
import PyProof.Rows.StrMul
import HandS.Property
import HandS.Small
import KE.KFromBytes
import KE.KOpsOwn
import HandS.ExcSuper
import HandS.FStr
import HandS.Star
import PySem.Challenge.RW_hoursmeant_k27_whole_there_and_back
import PyProof.ReprLen
import PyProof.FitsInt
set_option Elab.async false
set_option linter.all false
set_option maxRecDepth 100000
set_option maxHeartbeats 4000000
-- text DmCore
/-! Plain data in place of the heap: values D, a store of cells, programs as Lean functions of both. -/
namespace Dm
open PySem L2
open PySem.W (Frag)
inductive D where
  | non | bl (b : Bool) | int (i : Int) | str (x : Str)
  | tup (xs : List D) | lst (xs : List D)
  | cell (n : Nat) | glo (x : Str)
  | exn (c : Str) (fs : List (Str × Int))
inductive Cell where
  | lst (xs : List D)
  | obj (c : Str) (fs : List (Str × D))
  | exc (c : Str) (fs : List (Str × D))
  | dic (kvs : List (Key × D))
  | set (xs : List Int)
abbrev Sto := List Cell
inductive Res (α : Type) where
  | ok (a : α) (S : Sto)
  | exc (c : Str) (fs : List (Str × D)) (S : Sto)
  | bad
def Res.bind {α β : Type} (r : Res α) (f : α → Sto → Res β) : Res β := match r with
  | .ok a S => f a S
  | .exc c fs S => .exc c fs S
  | .bad => .bad
abbrev Rho := List (Option D)
abbrev ME := Rho → Sto → Res D
abbrev MA := Rho → Sto → Res (List D)
inductive Out where
  | nx (ρ : Rho) (S : Sto) | rt (d : D) (S : Sto) | bk (ρ : Rho) (S : Sto) | ct (ρ : Rho) (S : Sto)
  | exc (c : Str) (fs : List (Str × D)) (ρ : Rho) (S : Sto) | bad
abbrev MS := Rho → Sto → Out
/-! ### what stands for what -/
def KT (K : Frag) (a : Addr) (xs : List V) : Prop := ∃ (o : Obj) (its : Array Value) (n : Nat), K.lookup a = some o ∧ o.cls = .type "tuple" ∧ o.dict = none ∧ o.data = .seq its n ∧ its.size ≤ sizeLine ∧ Vals xs its.toList
def KL (K : Frag) (a : Addr) (xs : List V) : Prop := ∃ (o : Obj) (its : Array Value) (n : Nat), K.lookup a = some o ∧ o.cls = .type "list" ∧ o.dict = none ∧ o.data = .seq its n ∧ its.size ≤ sizeLine ∧ Vals xs its.toList
/-- what is fixed: the written part, the module's names, the addresses of lists that are being made -/
structure Fx where
  K : Frag
  mg : Str → Option Value
  ξ : List Addr
  w : World
abbrev fx (X : Cx) (ξ : List Addr) : Fx := ⟨X.K, X.mg, ξ, X.w⟩
/-- a tuple whose object is known to have no dict -/
def RdT (H : Hp) (a : Addr) (xs : List V) : Prop := ∃ o : Obj, o.dict = none ∧ H a = some (.frz o (.tup xs))
def FzT (F : Fx) (μ : List Addr) (H : Hp) (a : Addr) (xs : List V) : Prop := (RdT H a xs ∧ a ∉ μ ∧ a ∉ F.ξ) ∨ KT F.K a xs
def FzL (F : Fx) (μ : List Addr) (H : Hp) (a : Addr) (xs : List V) : Prop := (Rd H a (.lst xs) ∧ a ∉ μ ∧ a ∉ F.ξ) ∨ KL F.K a xs
theorem FzT.sq {F : Fx} {μ : List Addr} {H : Hp} {a : Addr} {xs : List V} (h : FzT F μ H a xs) : SqT F.K H a xs := h.imp (fun z => let ⟨o, _, e⟩ := z.1; .inr ⟨o, e⟩) (fun ⟨o, its, n, e1, e2, _, e3⟩ => ⟨o, its, n, e1, e2, e3⟩)
theorem FzL.sq {F : Fx} {μ : List Addr} {H : Hp} {a : Addr} {xs : List V} (h : FzL F μ H a xs) : SqL F.K H a xs := h.imp (·.1) id
/-- at a: an exception that was raised once, of the class cls, its dict -/
def ExV (cls : Value) (d : Option Addr) (a : Addr) : HO := .ext fun h => ∃ (oe : Obj) (vs : Array Value), h.get? a = some oe ∧ Zc cls d oe ∧ oe.data = .fields vs
def intFs (ns : List (Str × Int)) : List (Str × V) := ns.map fun p => (p.1, .int p.2)
/-- an own error class: isinstance asks its instances rightly, they are of no plain type -/
def PlX (K : Frag) (cls : Value) : Prop := ∃ D : Addr, cls = .ref D ∧ ExcC K D ∧ ∀ x : String, x ∈ ["tuple", "list", "int", "str", "bool", "dict"] → PySem.W.kitOne K (.ref D) (.type x) = some false
structure ClsK (K : Frag) (mg : Str → Option Value) (c : Str) (cls : Value) : Prop where
  mg : mg c = some cls
  pl : PlX K cls
/-- an exception as a value; without fields: its fields are not known -/
def FzX (F : Fx) (μ : List Addr) (H : Hp) (a : Addr) (c : Str) (ns : List (Str × Int)) : Prop := ∃ cls dd, ClsK F.K F.mg c cls ∧ (H a = some (ExV cls dd a) ∧ a ∉ μ ∧ a ∉ F.ξ) ∧ ((ns = [] ∧ dd = none) ∨ ∃ d fs, dd = some d ∧ H d = some (.xd fs) ∧ (ns = [] ∨ fs = intFs ns) ∧ d ∉ μ ∧ d ∉ F.ξ)
/-- an own class whose instances hold a state: isinstance asks them rightly, they are of no plain type -/
structure PlO (K : Frag) (C : Addr) : Prop where
  cl : Cls K C
  ha : PySem.W.findIn K (.ref C) "__class__" = some (some (.builtin "object.__class__"))
  hn : PySem.W.specialIn K (.builtin "object.__class__") "__get__" = some (some (.builtin "getset_descriptor.__get__"))
  tk : PySem.W.takesIn K (.builtin "object.__class__") = some true
  hm : PySem.W.mroIn K C (.type "object") = some true
  no : ∀ x : String, x ∈ ["tuple", "list", "int", "str", "bool", "dict"] → PySem.W.kitOne K (.ref C) (.type x) = some false
mutual
inductive RD (F : Fx) (μ : List Addr) (H : Hp) : V → D → Prop
  | non : RD F μ H .non .non
  | bl (b : Bool) : RD F μ H (.bl b) (.bl b)
  | int (i : Int) : RD F μ H (.int i) (.int i)
  | str (x : Str) : RD F μ H (.str x) (.str x)
  | tup {a : Addr} {xs : List V} {ds : List D} : FzT F μ H a xs → RDs F μ H xs ds → RD F μ H (.ref a) (.tup ds)
  | lst {a : Addr} {xs : List V} {ds : List D} : FzL F μ H a xs → RDs F μ H xs ds → RD F μ H (.ref a) (.lst ds)
  | cell {a : Addr} {n : Nat} : μ[n]? = some a → RD F μ H (.ref a) (.cell n)
  | glo {a : Addr} {x : Str} : F.mg x = some (.ref a) → RD F μ H (.ref a) (.glo x)
  | exn {a : Addr} {c : Str} {ns : List (Str × Int)} : FzX F μ H a c ns → RD F μ H (.ref a) (.exn c ns)
inductive RDs (F : Fx) (μ : List Addr) (H : Hp) : List V → List D → Prop
  | nil : RDs F μ H [] []
  | cons {v : V} {vs : List V} {d : D} {ds : List D} : RD F μ H v d → RDs F μ H vs ds → RDs F μ H (v :: vs) (d :: ds)
end
/-- what has gone on: new cells behind the old ones, all but the cells is as it was -/
structure Up (μ : List Addr) (H : Hp) (μ' : List Addr) (H' : Hp) : Prop where
  pre : ∃ ν, μ' = μ ++ ν
  new : ∀ a, a ∈ μ' → a ∉ μ → H a = none
  keep : ∀ a o, H a = some o → a ∉ μ → H' a = some o
section
variable {F : Fx} {μ μ' μ1 μ2 : List Addr} {H H' H1 H2 : Hp}
theorem Up.refl : Up μ H μ H := ⟨⟨[], (List.append_nil _).symm⟩, fun _ h n => absurd h n, fun _ _ h _ => h⟩
theorem Up.notin (u : Up μ H μ' H') {a : Addr} {o : HO} (h : H a = some o) (n : a ∉ μ) : a ∉ μ' := fun z => by
  have q := u.new a z n
  rw [h] at q; cases q
theorem Up.trans (u : Up μ H μ1 H1) (v : Up μ1 H1 μ2 H2) : Up μ H μ2 H2 := by
  obtain ⟨ν, e⟩ := u.pre
  obtain ⟨ν', e'⟩ := v.pre
  refine ⟨⟨ν ++ ν', by rw [e', e, List.append_assoc]⟩, fun a h n => ?_, fun a o h n => v.keep a o (u.keep a o h n) (u.notin h n)⟩
  by_cases h1 : a ∈ μ1
  · exact u.new a h1 n
  · have q := v.new a h h1
    cases z : H a with
    | none => rfl
    | some o =>
      rw [u.keep a o z n] at q; cases q
theorem Up.back (u : Up μ H μ' H') {p : Addr} (h : H' p = none) (n : p ∉ μ := by assumption) : H p = none := by
  cases z : H p with
  | none => rfl
  | some o =>
    rw [u.keep p o z n] at h; cases h
theorem Up.mem (u : Up μ H μ' H') {a : Addr} (h : a ∈ μ) : a ∈ μ' := by
  obtain ⟨ν, e⟩ := u.pre
  rw [e]
  exact List.mem_append_left _ h
theorem Up.get (u : Up μ H μ' H') {n : Nat} {a : Addr} (h : μ[n]? = some a) : μ'[n]? = some a := by
  obtain ⟨ν, e⟩ := u.pre
  rw [e, List.getElem?_append_left (List.getElem?_eq_some_iff.mp h).1]
  exact h
theorem FzT.up (u : Up μ H μ' H') {a : Addr} {xs : List V} (h : FzT F μ H a xs) : FzT F μ' H' a xs := by
  rcases h with ⟨⟨o, d, h⟩, n, nx⟩ | h
  · exact .inl ⟨⟨o, d, u.keep _ _ h n⟩, u.notin h n, nx⟩
  · exact .inr h
theorem FzL.up (u : Up μ H μ' H') {a : Addr} {xs : List V} (h : FzL F μ H a xs) : FzL F μ' H' a xs := by
  rcases h with ⟨h, n, nx⟩ | h
  · rcases h with h | ⟨o, h⟩
    · exact .inl ⟨.inl (u.keep _ _ h n), u.notin h n, nx⟩
    · exact .inl ⟨.inr ⟨o, u.keep _ _ h n⟩, u.notin h n, nx⟩
  · exact .inr h
theorem FzX.up (u : Up μ H μ' H') {a : Addr} {c : Str} {ns : List (Str × Int)} (h : FzX F μ H a c ns) : FzX F μ' H' a c ns := by
  obtain ⟨cls, dd, e, ⟨h1, h2, h3⟩, h4⟩ := h
  refine ⟨cls, dd, e, ⟨u.keep _ _ h1 h2, u.notin h1 h2, h3⟩, h4.imp id ?_⟩
  rintro ⟨d, fs, e2, h5, hf, h6, h7⟩
  exact ⟨d, fs, e2, u.keep _ _ h5 h6, hf, u.notin h5 h6, h7⟩
mutual
theorem RD.up (u : Up μ H μ' H') : ∀ {v : V} (d : D), RD F μ H v d → RD F μ' H' v d
  | _, .non, h => by cases h; exact .non
  | _, .bl b, h => by cases h; exact .bl b
  | _, .int i, h => by cases h; exact .int i
  | _, .str x, h => by cases h; exact .str x
  | _, .tup ds, h => by
    cases h with
    | tup f r => exact .tup (f.up u) (RDs.up u ds r)
  | _, .lst ds, h => by
    cases h with
    | lst f r => exact .lst (f.up u) (RDs.up u ds r)
  | _, .cell n, h => by
    cases h with
    | cell e => exact .cell (u.get e)
  | _, .glo x, h => by
    cases h with
    | glo e => exact .glo e
  | _, .exn c ns, h => by
    cases h with
    | exn f => exact .exn (f.up u)
theorem RDs.up (u : Up μ H μ' H') : ∀ {vs : List V} (ds : List D), RDs F μ H vs ds → RDs F μ' H' vs ds
  | _, [], h => by cases h; exact .nil
  | _, d :: ds, h => by
    cases h with
    | cons a b => exact .cons (RD.up u d a) (RDs.up u ds b)
end
theorem RDs.length : ∀ {vs : List V} {ds : List D}, RDs F μ H vs ds → vs.length = ds.length
  | _, [], h => by cases h; rfl
  | _, d :: ds, h => by
    cases h with
    | cons a b => rw [List.length_cons, List.length_cons, RDs.length b]
theorem RDs.get : ∀ {vs : List V} {ds : List D}, RDs F μ H vs ds → ∀ {i : Nat} {d : D}, ds[i]? = some d → ∃ v, vs[i]? = some v ∧ RD F μ H v d
  | _, [], _, i, d, e => by simp at e
  | _, d0 :: ds, h, 0, d, e => by
    cases h with
    | cons a b =>
      simp at e; subst e
      exact ⟨_, rfl, a⟩
  | _, d0 :: ds, h, i + 1, d, e => by
    cases h with
    | cons a b =>
      obtain ⟨v, h1, h2⟩ := RDs.get b (i := i) (d := d) (by simpa using e)
      exact ⟨v, by simpa using h1, h2⟩
theorem RDs.getV : ∀ {vs : List V} {ds : List D}, RDs F μ H vs ds → ∀ {i : Nat} {v : V}, vs[i]? = some v → ∃ d, ds[i]? = some d ∧ RD F μ H v d
  | _, [], h, i, v, e => by cases h; simp at e
  | _, d0 :: ds, h, 0, v, e => by
    cases h with
    | cons a b =>
      simp at e; subst e
      exact ⟨_, rfl, a⟩
  | _, d0 :: ds, h, i + 1, v, e => by
    cases h with
    | cons a b =>
      obtain ⟨d, h1, h2⟩ := RDs.getV b (i := i) (v := v) (by simpa using e)
      exact ⟨d, by simpa using h1, h2⟩
theorem RDs.append : ∀ {vs ws : List V} {ds es : List D}, RDs F μ H vs ds → RDs F μ H ws es → RDs F μ H (vs ++ ws) (ds ++ es)
  | _, _, [], _, h, k => by cases h; exact k
  | _, _, d :: ds, _, h, k => by
    cases h with
    | cons a b => exact .cons a (RDs.append b k)
theorem RDs.take : ∀ {vs : List V} {ds : List D} (n : Nat), RDs F μ H vs ds → RDs F μ H (vs.take n) (ds.take n)
  | _, _, 0, _ => .nil
  | _, [], _ + 1, h => by cases h; exact .nil
  | _, d :: ds, n + 1, h => by
    cases h with
    | cons a b => exact .cons a (RDs.take n b)
theorem RDs.drop : ∀ {vs : List V} {ds : List D} (n : Nat), RDs F μ H vs ds → RDs F μ H (vs.drop n) (ds.drop n)
  | _, _, 0, h => h
  | _, [], _ + 1, h => by cases h; exact .nil
  | _, d :: ds, n + 1, h => by
    cases h with
    | cons a b => exact RDs.drop n b
theorem RDs.reverse : ∀ {vs : List V} {ds : List D}, RDs F μ H vs ds → RDs F μ H vs.reverse ds.reverse
  | _, [], h => by cases h; exact .nil
  | _, d :: ds, h => by
    cases h with
    | cons a b =>
      rw [List.reverse_cons, List.reverse_cons]
      exact RDs.append (RDs.reverse b) (.cons a .nil)
theorem RDs.set : ∀ {vs : List V} {ds : List D} (n : Nat) {v : V} {d : D}, RDs F μ H vs ds → RD F μ H v d → RDs F μ H (vs.set n v) (ds.set n d)
  | _, [], n, _, _, h, _ => by cases h; exact .nil
  | _, d0 :: ds, 0, _, _, h, k => by
    cases h with
    | cons a b => exact .cons k b
  | _, d0 :: ds, n + 1, _, _, h, k => by
    cases h with
    | cons a b => exact .cons a (RDs.set n b k)
end
/-- fields by name -/
def FsR (F : Fx) (μ : List Addr) (H : Hp) (vfs : List (Str × V)) (fs : List (Str × D)) : Prop := Paired (fun p q => p.1 = q.1 ∧ RD F μ H p.2 q.2) vfs fs
def KvR (F : Fx) (μ : List Addr) (H : Hp) (vk : List (Key × V)) (kvs : List (Key × D)) : Prop := Paired (fun p q => p.1 = q.1 ∧ RD F μ H p.2 q.2) vk kvs
theorem FsR.up {F : Fx} {μ μ' : List Addr} {H H' : Hp} (u : Up μ H μ' H') {vfs : List (Str × V)} {fs : List (Str × D)} (h : FsR F μ H vfs fs) : FsR F μ' H' vfs fs :=
  Paired.mapP h fun _ _ z => ⟨z.1, z.2.up u⟩
theorem KvR.up {F : Fx} {μ μ' : List Addr} {H H' : Hp} (u : Up μ H μ' H') {vfs : List (Key × V)} {fs : List (Key × D)} (h : KvR F μ H vfs fs) : KvR F μ' H' vfs fs :=
  Paired.mapP h fun _ _ z => ⟨z.1, z.2.up u⟩
/-- a cell at its address -/
def CellOk (F : Fx) (μ : List Addr) (H : Hp) (a : Addr) : Cell → Prop
  | .lst ds => ∃ xs, H a = some (.lst xs) ∧ RDs F μ H xs ds
  | .obj c fs => ∃ C dx vfs, H a = some (.ins C dx vfs) ∧ F.mg c = some (.ref C) ∧ FsR F μ H vfs fs ∧ PlO F.K C
  | .dic kvs => ∃ vk, H a = some (.dK vk) ∧ KvR F μ H vk kvs
  | .exc _ _ => False
  | .set ns => ns.Nodup ∧ H a = some (SetO F.w a (fun j => decide (j ∈ ns)) ns.length)
structure RS (F : Fx) (μ : List Addr) (H : Hp) (S : Sto) : Prop where
  len : μ.length = S.length
  nd : μ.Nodup
  at_ : ∀ (n : Nat) (a : Addr) (c : Cell), μ[n]? = some a → S[n]? = some c → CellOk F μ H a c
  xi : ∀ a, a ∈ F.ξ → a ∉ μ ∧ ∃ o, H a = some o
/-- the slots -/
structure RG (F : Fx) (μ : List Addr) (H : Hp) (σ : St) (ρ : Rho) : Prop where
  len : σ.length = ρ.length
  at_ : ∀ (i : Nat) (d : D), ρ[i]? = some (some d) → ∃ v, σ[i]? = some (some v) ∧ RD F μ H v d
/-- an exception in the air -/
def XR (F : Fx) (μ : List Addr) (H : Hp) (cls : Value) (dd : Option Addr) (c : Str) (fs : List (Str × D)) : Prop :=
  F.mg c = some cls ∧ ((fs = [] ∧ dd = none) ∨ ∃ d vfs, dd = some d ∧ H d = some (.xd vfs) ∧ d ∉ μ ∧ d ∉ F.ξ ∧ FsR F μ H vfs fs)
section
variable {F : Fx} {μ μ' μ1 : List Addr} {H H' H1 : Hp} {S S' S1 : Sto} {σ : St} {ρ : Rho}
theorem RG.up (u : Up μ H μ' H') (g : RG F μ H σ ρ) : RG F μ' H' σ ρ := ⟨g.len, fun i d e => by
  obtain ⟨v, h, r⟩ := g.at_ i d e
  exact ⟨v, h, r.up u⟩⟩
theorem RG.set {v : V} {d : D} (i : Nat) (g : RG F μ H σ ρ) (r : RD F μ H v d) : RG F μ H (σ.set i (some v)) (ρ.set i (some d)) := ⟨by rw [List.length_set, List.length_set, g.len], fun j d' e => by
  by_cases hj : i = j
  · subst hj
    by_cases hl : i < ρ.length
    · rw [List.getElem?_set_self hl] at e; cases e
      exact ⟨v, List.getElem?_set_self (by rw [g.len]; exact hl), r⟩
    · rw [List.getElem?_eq_none (by simpa using hl)] at e; cases e
  · rw [List.getElem?_set_ne hj] at e
    obtain ⟨w, h, r'⟩ := g.at_ j d' e
    exact ⟨w, by rw [List.getElem?_set_ne hj]; exact h, r'⟩⟩
theorem RG.forget {σ' : St} (i : Nat) (g : RG F μ H σ ρ) : RG F μ H (σ.set i none) (ρ.set i none) := ⟨by rw [List.length_set, List.length_set, g.len], fun j d' e => by
  by_cases hj : i = j
  · subst hj
    by_cases hl : i < ρ.length
    · rw [List.getElem?_set_self hl] at e; cases e
    · rw [List.getElem?_eq_none (by simpa using hl)] at e; cases e
  · rw [List.getElem?_set_ne hj] at e
    obtain ⟨w, h, r'⟩ := g.at_ j d' e
    exact ⟨w, by rw [List.getElem?_set_ne hj]; exact h, r'⟩⟩
/-- a new object beside the cells -/
theorem Up.fresh {p : Addr} {o : HO} (h : H p = none) : Up μ H μ (upd H p o) := ⟨⟨[], (List.append_nil _).symm⟩, fun _ h n => absurd h n, fun a u e _ => by rw [upd_ne (ne_of_none e h)]; exact e⟩
theorem CellOk.up (u : Up μ H μ' H') {a : Addr} {c : Cell} (e : H' a = H a) (h : CellOk F μ H a c) : CellOk F μ' H' a c := by
  cases c with
  | lst ds =>
    obtain ⟨xs, h1, h2⟩ := h
    exact ⟨xs, e.trans h1, h2.up u⟩
  | obj c fs =>
    obtain ⟨C, dx, vfs, h1, h2, h3⟩ := h
    exact ⟨C, dx, vfs, e.trans h1, h2, h3.1.up u, h3.2⟩
  | dic kvs =>
    obtain ⟨vk, h1, h2⟩ := h
    exact ⟨vk, e.trans h1, h2.up u⟩
  | exc _ _ => exact h.elim
  | set ns => exact ⟨h.1, e.trans h.2⟩
theorem CellOk.hasO {a : Addr} {c : Cell} (h : CellOk F μ H a c) : ∃ o, H a = some o := by
  cases c with
  | lst ds =>
    obtain ⟨xs, h1, h2⟩ := h
    exact ⟨_, h1⟩
  | obj c fs =>
    obtain ⟨C, dx, vfs, h1, _⟩ := h
    exact ⟨_, h1⟩
  | dic kvs =>
    obtain ⟨vk, h1, h2⟩ := h
    exact ⟨_, h1⟩
  | exc _ _ => exact h.elim
  | set ns => exact ⟨_, h.2⟩
theorem RS.there (r : RS F μ H S) {n : Nat} {a : Addr} (h : μ[n]? = some a) : ∃ c, S[n]? = some c := by
  have hn := (List.getElem?_eq_some_iff.mp h).1
  rw [r.len] at hn
  exact ⟨S[n], List.getElem?_eq_getElem hn⟩
theorem RS.hasO (r : RS F μ H S) {a : Addr} (h : a ∈ μ) : ∃ o, H a = some o := by
  obtain ⟨n, e⟩ := List.getElem?_of_mem h
  obtain ⟨c, hc⟩ := r.there e
  exact (r.at_ n a c e hc).hasO
theorem RS.out (r : RS F μ H S) {p : Addr} (h : H p = none) : p ∉ μ := fun z => by
  obtain ⟨o, e⟩ := r.hasO z
  rw [h] at e; cases e
theorem RS.outX (r : RS F μ H S) {p : Addr} (h : H p = none) : p ∉ F.ξ := fun z => by
  obtain ⟨_, o, e⟩ := r.xi p z
  rw [h] at e; cases e
theorem RS.fresh (r : RS F μ H S) {p : Addr} {o : HO} (h : H p = none) : RS F μ (upd H p o) S := ⟨r.len, r.nd, fun n a c e1 e2 => by
  have q := r.at_ n a c e1 e2
  refine q.up (.fresh h) (upd_ne ?_)
  intro z
  subst z
  obtain ⟨o', e⟩ := q.hasO
  rw [h] at e; exact (nomatch e), fun a ha => ⟨(r.xi a ha).1, by
    obtain ⟨o', e⟩ := (r.xi a ha).2
    exact ⟨o', by rw [upd_ne (ne_of_none e h)]; exact e⟩⟩⟩
/-- a new cell -/
theorem Up.alloc {p : Addr} {o : HO} (h : H p = none) : Up μ H (μ ++ [p]) (upd H p o) := ⟨⟨[p], rfl⟩, fun a ha n => by
  rcases List.mem_append.mp ha with z | z
  · exact absurd z n
  · rw [List.mem_singleton.mp z]; exact h, fun a u e _ => by rw [upd_ne (ne_of_none e h)]; exact e⟩
theorem RS.alloc (r : RS F μ H S) {p : Addr} {o : HO} {c : Cell} (h : H p = none) (hc : CellOk F (μ ++ [p]) (upd H p o) p c) : RS F (μ ++ [p]) (upd H p o) (S ++ [c]) := by
  refine ⟨by rw [List.length_append, List.length_append, r.len] <;> rfl, ?_, fun n a c' e1 e2 => ?_, fun a ha => ⟨fun z => ?_, ?_⟩⟩
  · refine List.nodup_append.mpr ⟨r.nd, by simp, fun a ha b hb => ?_⟩
    rw [List.mem_singleton.mp hb]
    rintro rfl
    exact r.out h ha
  · by_cases hn : n < μ.length
    · rw [List.getElem?_append_left hn] at e1
      rw [List.getElem?_append_left (by rw [← r.len]; exact hn)] at e2
      have q := r.at_ n a c' e1 e2
      refine q.up (.alloc h) (upd_ne ?_)
      intro z
      subst z
      obtain ⟨o', e⟩ := q.hasO
      rw [h] at e; cases e
    · have hn' : n = μ.length := by
        have q := (List.getElem?_eq_some_iff.mp e1).1
        rw [List.length_append, List.length_singleton] at q
        omega
      subst hn'
      rw [List.getElem?_append_right (Nat.le_refl _), Nat.sub_self] at e1
      rw [List.getElem?_append_right (by rw [r.len]; exact Nat.le_refl _), r.len, Nat.sub_self] at e2
      cases e1; cases e2
      exact hc
  · rcases List.mem_append.mp z with z | z
    · exact (r.xi a ha).1 z
    · rw [List.mem_singleton.mp z] at ha
      exact r.outX h ha
  · obtain ⟨o', e⟩ := (r.xi a ha).2
    exact ⟨o', by rw [upd_ne (ne_of_none e h)]; exact e⟩
theorem alloc_at {p : Addr} : (μ ++ [p])[μ.length]? = some p := by rw [List.getElem?_append_right (Nat.le_refl _), Nat.sub_self]; rfl
/-- a cell is written -/
theorem Up.write {n : Nat} {a : Addr} {o : HO} (h : μ[n]? = some a) : Up μ H μ (upd H a o) := ⟨⟨[], (List.append_nil _).symm⟩, fun _ h n => absurd h n, fun b u e nb => by
  rw [upd_ne]
  · exact e
  · rintro rfl
    exact nb (List.mem_of_getElem? h)⟩
theorem RS.write (r : RS F μ H S) {n : Nat} {a : Addr} {o : HO} {c : Cell} (h : μ[n]? = some a) (hc : CellOk F μ (upd H a o) a c) : RS F μ (upd H a o) (S.set n c) := by
  refine ⟨by rw [List.length_set, r.len], r.nd, fun m b c' e1 e2 => ?_, fun b hb => ⟨(r.xi b hb).1, by
    obtain ⟨o', e⟩ := (r.xi b hb).2
    refine ⟨o', ?_⟩
    rw [upd_ne]
    · exact e
    · rintro rfl
      exact (r.xi b hb).1 (List.mem_of_getElem? h)⟩⟩
  by_cases hm : n = m
  · subst hm
    rw [h] at e1; cases e1
    have hl : n < S.length := by rw [← r.len]; exact (List.getElem?_eq_some_iff.mp h).1
    rw [List.getElem?_set_self hl] at e2; cases e2
    exact hc
  · rw [List.getElem?_set_ne hm] at e2
    refine (r.at_ m b c' e1 e2).up (.write h) (upd_ne ?_)
    rintro rfl
    have h1 := (List.getElem?_eq_some_iff.mp h)
    have h2 := (List.getElem?_eq_some_iff.mp e1)
    exact hm ((List.getElem_inj r.nd).mp (h1.2.trans h2.2.symm))
/-- a list that is being made: reserved, then let go -/
def Fx.hold (F : Fx) (p : Addr) : Fx := ⟨F.K, F.mg, p :: F.ξ, F.w⟩
theorem FzT.free {p a : Addr} {xs : List V} (h : FzT (F.hold p) μ H a xs) : FzT F μ H a xs := h.imp (fun z => ⟨z.1, z.2.1, fun q => z.2.2 (List.mem_cons_of_mem _ q)⟩) id
theorem FzL.free {p a : Addr} {xs : List V} (h : FzL (F.hold p) μ H a xs) : FzL F μ H a xs := h.imp (fun z => ⟨z.1, z.2.1, fun q => z.2.2 (List.mem_cons_of_mem _ q)⟩) id
theorem FzX.free {p a : Addr} {c : Str} {ns : List (Str × Int)} (h : FzX (F.hold p) μ H a c ns) : FzX F μ H a c ns := by
  obtain ⟨cls, dd, e, ⟨h1, h2, h3⟩, h4⟩ := h
  refine ⟨cls, dd, e, ⟨h1, h2, fun q => h3 (List.mem_cons_of_mem _ q)⟩, h4.imp id ?_⟩
  rintro ⟨d, fs, e2, h5, hf, h6, h7⟩
  exact ⟨d, fs, e2, h5, hf, h6, fun q => h7 (List.mem_cons_of_mem _ q)⟩
mutual
theorem RD.free {p : Addr} : ∀ {v : V} (d : D), RD (F.hold p) μ H v d → RD F μ H v d
  | _, .non, h => by cases h; exact .non
  | _, .bl b, h => by cases h; exact .bl b
  | _, .int i, h => by cases h; exact .int i
  | _, .str x, h => by cases h; exact .str x
  | _, .tup ds, h => by
    cases h with
    | tup f r => exact .tup f.free (RDs.free ds r)
  | _, .lst ds, h => by
    cases h with
    | lst f r => exact .lst f.free (RDs.free ds r)
  | _, .cell n, h => by
    cases h with
    | cell e => exact .cell e
  | _, .glo x, h => by
    cases h with
    | glo e => exact .glo e
  | _, .exn c ns, h => by
    cases h with
    | exn f => exact .exn f.free
theorem RDs.free {p : Addr} : ∀ {vs : List V} (ds : List D), RDs (F.hold p) μ H vs ds → RDs F μ H vs ds
  | _, [], h => by cases h; exact .nil
  | _, d :: ds, h => by
    cases h with
    | cons a b => exact .cons (RD.free d a) (RDs.free ds b)
end
/-- .. reserved at its making, .. written while it is reserved -/
theorem FzT.holds {p a : Addr} {o : HO} {xs : List V} (hp : H p = none) (h : FzT F μ H a xs) : FzT (F.hold p) μ (upd H p o) a xs := by
  rcases h with ⟨⟨o, d, h⟩, n, nx⟩ | h
  · have hne : a ≠ p := ne_of_none h hp
    exact .inl ⟨⟨o, d, by rw [upd_ne hne]; exact h⟩, n, fun q => (List.mem_cons.mp q).elim hne nx⟩
  · exact .inr h
theorem FzL.holds {p a : Addr} {o : HO} {xs : List V} (hp : H p = none) (h : FzL F μ H a xs) : FzL (F.hold p) μ (upd H p o) a xs := by
  rcases h with ⟨h, n, nx⟩ | h
  · have hne : a ≠ p := by
      rcases h with h | ⟨o, h⟩ <;> exact ne_of_none h hp
    refine .inl ⟨?_, n, fun q => (List.mem_cons.mp q).elim hne nx⟩
    rcases h with h | ⟨o, h⟩
    · exact .inl (by rw [upd_ne hne]; exact h)
    · exact .inr ⟨o, by rw [upd_ne hne]; exact h⟩
  · exact .inr h
theorem FzT.wr {p a : Addr} {o : HO} {xs : List V} (h : FzT (F.hold p) μ H a xs) : FzT (F.hold p) μ (upd H p o) a xs := by
  rcases h with ⟨⟨o, d, h⟩, n, nx⟩ | h
  · have hne : a ≠ p := fun z => nx (z ▸ List.mem_cons_self)
    exact .inl ⟨⟨o, d, by rw [upd_ne hne]; exact h⟩, n, nx⟩
  · exact .inr h
theorem FzL.wr {p a : Addr} {o : HO} {xs : List V} (h : FzL (F.hold p) μ H a xs) : FzL (F.hold p) μ (upd H p o) a xs := by
  rcases h with ⟨h, n, nx⟩ | h
  · have hne : a ≠ p := fun z => nx (z ▸ List.mem_cons_self)
    refine .inl ⟨?_, n, nx⟩
    rcases h with h | ⟨o, h⟩
    · exact .inl (by rw [upd_ne hne]; exact h)
    · exact .inr ⟨o, by rw [upd_ne hne]; exact h⟩
  · exact .inr h
theorem FzX.upHold {p a : Addr} {c : Str} {ns : List (Str × Int)} (u : Up μ H μ' H') (hp : H p = none) (h : FzX F μ H a c ns) : FzX (F.hold p) μ' H' a c ns := by
  obtain ⟨cls, dd, e, ⟨h1, h2, h3⟩, h4⟩ := h
  refine ⟨cls, dd, e, ⟨u.keep _ _ h1 h2, u.notin h1 h2, fun q => (List.mem_cons.mp q).elim (ne_of_none h1 hp) h3⟩, h4.imp id ?_⟩
  rintro ⟨d, fs, e2, h5, hf, h6, h7⟩
  exact ⟨d, fs, e2, u.keep _ _ h5 h6, hf, u.notin h5 h6, fun q => (List.mem_cons.mp q).elim (ne_of_none h5 hp) h7⟩
theorem FzX.holds {p a : Addr} {o : HO} {c : Str} {ns : List (Str × Int)} (hp : H p = none) (h : FzX F μ H a c ns) : FzX (F.hold p) μ (upd H p o) a c ns := by
  obtain ⟨cls, dd, e, ⟨h1, h2, h3⟩, h4⟩ := h
  refine ⟨cls, dd, e, ⟨by rw [upd_ne (ne_of_none h1 hp)]; exact h1, h2, fun q => (List.mem_cons.mp q).elim (ne_of_none h1 hp) h3⟩, h4.imp id ?_⟩
  rintro ⟨d, fs, e2, h5, hf, h6, h7⟩
  exact ⟨d, fs, e2, by rw [upd_ne (ne_of_none h5 hp)]; exact h5, hf, h6, fun q => (List.mem_cons.mp q).elim (ne_of_none h5 hp) h7⟩
theorem FzX.wr {p a : Addr} {o : HO} {c : Str} {ns : List (Str × Int)} (h : FzX (F.hold p) μ H a c ns) : FzX (F.hold p) μ (upd H p o) a c ns := by
  obtain ⟨cls, dd, e, ⟨h1, h2, h3⟩, h4⟩ := h
  have ne : ∀ {b : Addr}, b ∉ (F.hold p).ξ → b ≠ p := fun n z => n (by rw [z]; exact List.mem_cons_self)
  refine ⟨cls, dd, e, ⟨by rw [upd_ne (ne h3)]; exact h1, h2, h3⟩, h4.imp id ?_⟩
  rintro ⟨d, fs, e2, h5, hf, h6, h7⟩
  exact ⟨d, fs, e2, by rw [upd_ne (ne h7)]; exact h5, hf, h6, h7⟩
theorem FzX.asCell {p a : Addr} {c : Str} {ns : List (Str × Int)} (h : FzX (F.hold p) μ H a c ns) : FzX F (μ ++ [p]) H a c ns := by
  have no : ∀ {b : Addr}, b ∉ μ → b ∉ (F.hold p).ξ → b ∉ μ ++ [p] := fun h1 h2 q => (List.mem_append.mp q).elim h1 fun q => h2 (by rw [List.mem_singleton.mp q]; exact List.mem_cons_self)
  obtain ⟨cls, dd, e, ⟨h1, h2, h3⟩, h4⟩ := h
  refine ⟨cls, dd, e, ⟨h1, no h2 h3, fun q => h3 (List.mem_cons_of_mem _ q)⟩, h4.imp id ?_⟩
  rintro ⟨d, fs, e2, h5, hf, h6, h7⟩
  exact ⟨d, fs, e2, h5, hf, no h6 h7, fun q => h7 (List.mem_cons_of_mem _ q)⟩
/-- .. as a cell -/
theorem FzT.asCell {p a : Addr} {xs : List V} (h : FzT (F.hold p) μ H a xs) : FzT F (μ ++ [p]) H a xs :=
  h.imp (fun z => ⟨z.1, fun q => (List.mem_append.mp q).elim z.2.1 fun q => z.2.2 (by rw [List.mem_singleton.mp q]; exact List.mem_cons_self), fun q => z.2.2 (List.mem_cons_of_mem _ q)⟩) id
theorem FzL.asCell {p a : Addr} {xs : List V} (h : FzL (F.hold p) μ H a xs) : FzL F (μ ++ [p]) H a xs :=
  h.imp (fun z => ⟨z.1, fun q => (List.mem_append.mp q).elim z.2.1 fun q => z.2.2 (by rw [List.mem_singleton.mp q]; exact List.mem_cons_self), fun q => z.2.2 (List.mem_cons_of_mem _ q)⟩) id
theorem getl {n : Nat} {a p : Addr} (h : μ[n]? = some a) : (μ ++ [p])[n]? = some a := by
  rw [List.getElem?_append_left (List.getElem?_eq_some_iff.mp h).1]
  exact h
/-- a map of what stands for what -/
structure Mv (F : Fx) (μ : List Addr) (H : Hp) (F' : Fx) (μ' : List Addr) (H' : Hp) : Prop where
  t : ∀ {a : Addr} {xs : List V}, FzT F μ H a xs → FzT F' μ' H' a xs
  l : ∀ {a : Addr} {xs : List V}, FzL F μ H a xs → FzL F' μ' H' a xs
  c : ∀ {n : Nat} {a : Addr}, μ[n]? = some a → μ'[n]? = some a
  gw : (F'.mg, F'.w, F'.K) = (F.mg, F.w, F.K)
  x : ∀ {a : Addr} {c : Str} {ns : List (Str × Int)}, FzX F μ H a c ns → FzX F' μ' H' a c ns
theorem Mv.g {F F' : Fx} {μ μ' : List Addr} {H H' : Hp} (m : Mv F μ H F' μ' H') : F'.mg = F.mg := congrArg Prod.fst m.gw
theorem Mv.w {F F' : Fx} {μ μ' : List Addr} {H H' : Hp} (m : Mv F μ H F' μ' H') : F'.w = F.w := congrArg (·.2.1) m.gw
theorem Mv.k {F F' : Fx} {μ μ' : List Addr} {H H' : Hp} (m : Mv F μ H F' μ' H') : F'.K = F.K := congrArg (·.2.2) m.gw
mutual
theorem RD.mv {F' : Fx} (m : Mv F μ H F' μ' H') : ∀ {v : V} (d : D), RD F μ H v d → RD F' μ' H' v d
  | _, .non, h => by cases h; exact .non
  | _, .bl b, h => by cases h; exact .bl b
  | _, .int i, h => by cases h; exact .int i
  | _, .str x, h => by cases h; exact .str x
  | _, .tup ds, h => by
    cases h with
    | tup f r => exact .tup (m.t f) (RDs.mv m ds r)
  | _, .lst ds, h => by
    cases h with
    | lst f r => exact .lst (m.l f) (RDs.mv m ds r)
  | _, .cell n, h => by
    cases h with
    | cell e => exact .cell (m.c e)
  | _, .glo x, h => by
    cases h with
    | glo e => exact .glo (by rw [m.g]; exact e)
  | _, .exn c ns, h => by
    cases h with
    | exn f => exact .exn (m.x f)
theorem RDs.mv {F' : Fx} (m : Mv F μ H F' μ' H') : ∀ {vs : List V} (ds : List D), RDs F μ H vs ds → RDs F' μ' H' vs ds
  | _, [], h => by cases h; exact .nil
  | _, d :: ds, h => by
    cases h with
    | cons a b => exact .cons (RD.mv m d a) (RDs.mv m ds b)
end
theorem Mv.holds {p : Addr} {o : HO} (hp : H p = none) : Mv F μ H (F.hold p) μ (upd H p o) := ⟨fun h => h.holds hp, fun h => h.holds hp, fun h => h, rfl, fun h => h.holds hp⟩
theorem Mv.wr {p : Addr} {o : HO} : Mv (F.hold p) μ H (F.hold p) μ (upd H p o) := ⟨fun h => h.wr, fun h => h.wr, fun h => h, rfl, fun h => h.wr⟩
theorem Mv.asCell {p : Addr} : Mv (F.hold p) μ H F (μ ++ [p]) H := ⟨fun h => h.asCell, fun h => h.asCell, fun h => getl h, rfl, fun h => h.asCell⟩
theorem Mv.free {p : Addr} : Mv (F.hold p) μ H F μ H := ⟨fun h => h.free, fun h => h.free, fun h => h, rfl, fun h => h.free⟩
theorem CellOk.mv {F' : Fx} (m : Mv F μ H F' μ' H') {a : Addr} {c : Cell} (e : H' a = H a) (h : CellOk F μ H a c) : CellOk F' μ' H' a c := by
  cases c with
  | lst ds =>
    obtain ⟨xs, h1, h2⟩ := h
    exact ⟨xs, e.trans h1, h2.mv m⟩
  | obj c fs =>
    obtain ⟨C, dx, vfs, h1, h2, h3⟩ := h
    exact ⟨C, dx, vfs, e.trans h1, by rw [m.g]; exact h2, Paired.mapP h3.1 fun _ _ z => ⟨z.1, z.2.mv m⟩, by rw [m.k]; exact h3.2⟩
  | dic kvs =>
    obtain ⟨vk, h1, h2⟩ := h
    exact ⟨vk, e.trans h1, Paired.mapP h2 fun _ _ z => ⟨z.1, z.2.mv m⟩⟩
  | exc _ _ => exact h.elim
  | set ns => exact ⟨h.1, by rw [m.w]; exact e.trans h.2⟩
theorem RG.mv {F' : Fx} (m : Mv F μ H F' μ' H') (g : RG F μ H σ ρ) : RG F' μ' H' σ ρ := ⟨g.len, fun i d e => by
  obtain ⟨v, h, r⟩ := g.at_ i d e
  exact ⟨v, h, r.mv m⟩⟩
theorem RS.holds (r : RS F μ H S) {p : Addr} {o : HO} (hp : H p = none) : RS (F.hold p) μ (upd H p o) S := ⟨r.len, r.nd, fun n a c e1 e2 => by
  have q := r.at_ n a c e1 e2
  refine q.mv (.holds hp) (upd_ne ?_)
  rintro rfl
  obtain ⟨o', e⟩ := q.hasO
  rw [hp] at e; exact (nomatch e), fun a ha => by
  rcases List.mem_cons.mp ha with z | z
  · rw [z]; exact ⟨r.out hp, o, upd_same⟩
  · obtain ⟨h1, o', e⟩ := r.xi a z
    exact ⟨h1, o', by rw [upd_ne (ne_of_none e hp)]; exact e⟩⟩
theorem RS.wr {p : Addr} {o : HO} (r : RS (F.hold p) μ H S) : RS (F.hold p) μ (upd H p o) S := ⟨r.len, r.nd, fun n a c e1 e2 => by
  have q := r.at_ n a c e1 e2
  refine q.mv .wr (upd_ne fun z => ?_)
  rw [z] at e1
  exact (r.xi p List.mem_cons_self).1 (List.mem_of_getElem? e1), fun a ha => by
  obtain ⟨h1, o', e⟩ := r.xi a ha
  by_cases z : a = p
  · rw [z] at h1 ⊢; exact ⟨h1, o, upd_same⟩
  · exact ⟨h1, o', by rw [upd_ne z]; exact e⟩⟩
theorem RS.free {p : Addr} (r : RS (F.hold p) μ H S) : RS F μ H S := ⟨r.len, r.nd, fun n a c e1 e2 => (r.at_ n a c e1 e2).mv .free rfl, fun a ha => r.xi a (List.mem_cons_of_mem _ ha)⟩
theorem RS.asCell {p : Addr} {ds : List D} {xs : List V} (r : RS (F.hold p) μ H S) (hx : p ∉ F.ξ) (h : H p = some (.lst xs)) (q : RDs (F.hold p) μ H xs ds) : RS F (μ ++ [p]) H (S ++ [.lst ds]) := by
  have np := (r.xi p List.mem_cons_self).1
  refine ⟨by rw [List.length_append, List.length_append, r.len] <;> rfl, ?_, fun n a c' e1 e2 => ?_, fun a ha => ⟨fun z => ?_, (r.xi a (List.mem_cons_of_mem _ ha)).2⟩⟩
  · refine List.nodup_append.mpr ⟨r.nd, by simp, fun a ha b hb => ?_⟩
    rw [List.mem_singleton.mp hb]
    rintro rfl
    exact np ha
  · by_cases hn : n < μ.length
    · rw [List.getElem?_append_left hn] at e1
      rw [List.getElem?_append_left (by rw [← r.len]; exact hn)] at e2
      exact (r.at_ n a c' e1 e2).mv .asCell rfl
    · have hn' : n = μ.length := by
        have q := (List.getElem?_eq_some_iff.mp e1).1
        rw [List.length_append, List.length_singleton] at q
        omega
      subst hn'
      rw [List.getElem?_append_right (Nat.le_refl _), Nat.sub_self] at e1
      rw [List.getElem?_append_right (by rw [r.len]; exact Nat.le_refl _), r.len, Nat.sub_self] at e2
      cases e1; cases e2
      exact ⟨xs, h, q.mv .asCell⟩
  · rcases List.mem_append.mp z with z | z
    · exact (r.xi a (List.mem_cons_of_mem _ ha)).1 z
    · rw [List.mem_singleton.mp z] at ha
      exact hx ha
theorem XR.up (u : Up μ H μ' H') {cls : Value} {dd : Option Addr} {c : Str} {fs : List (Str × D)} (h : XR F μ H cls dd c fs) : XR F μ' H' cls dd c fs := by
  obtain ⟨h1, h2⟩ := h
  refine ⟨h1, h2.imp id ?_⟩
  rintro ⟨d, vfs, e, h3, h4, h6, h5⟩
  exact ⟨d, vfs, e, u.keep _ _ h3 h4, u.notin h3 h4, h6, h5.up u⟩
end
/-! ### what is wanted of a run -/
def WR {α β : Type} (F : Fx) (rel : List Addr → Hp → β → α → Prop) (r : Res α) (Q : β → Hp → Prop) (Wx : Value → Option Addr → Hp → Prop) (μ : List Addr) (H : Hp) : Prop := match r with
  | .ok d S' => ∀ v μ' H', Up μ H μ' H' → RS F μ' H' S' → rel μ' H' v d → Q v H'
  | .exc c fs S' => ∀ cls dd μ' H', Up μ H μ' H' → RS F μ' H' S' → XR F μ' H' cls dd c fs → Wx cls dd H'
  | .bad => False
abbrev WE' (F : Fx) := WR F (fun μ H v d => RD F μ H v d)
abbrev WA' (F : Fx) := WR F (fun μ H v d => RDs F μ H v d)
/-- a fresh list: reserved yet -/
def WL' (F : Fx) (r : Res (List D)) (Q : VK) (Wx : Value → Option Addr → Hp → Prop) (μ : List Addr) (H : Hp) : Prop := match r with
  | .ok ds S' => ∀ p xs μ' H', Up μ H μ' H' → H p = none → RS (F.hold p) μ' H' S' → RDs (F.hold p) μ' H' xs ds → H' p = some (.lst xs) → Q (.ref p) H'
  | .exc c fs S' => ∀ cls dd μ' H', Up μ H μ' H' → RS F μ' H' S' → XR F μ' H' cls dd c fs → Wx cls dd H'
  | .bad => False
/-- a truth value -/
def WT' (F : Fx) (r : Res D) (Q : Bool → Hp → Prop) (Wx : Value → Option Addr → Hp → Prop) (μ : List Addr) (H : Hp) : Prop := match r with
  | .ok (.bl b) S' => ∀ μ' H', Up μ H μ' H' → RS F μ' H' S' → Q b H'
  | .exc c fs S' => ∀ cls dd μ' H', Up μ H μ' H' → RS F μ' H' S' → XR F μ' H' cls dd c fs → Wx cls dd H'
  | _ => False
def WS' (F : Fx) (r : Out) (E : Ends) (W : WX) (μ : List Addr) (H : Hp) : Prop := match r with
  | .nx ρ S => ∀ σ μ' H', Up μ H μ' H' → RS F μ' H' S → RG F μ' H' σ ρ → E.nx σ H'
  | .rt d S => ∀ v μ' H', Up μ H μ' H' → RS F μ' H' S → RD F μ' H' v d → E.rt v H'
  | .bk ρ S => ∀ σ μ' H', Up μ H μ' H' → RS F μ' H' S → RG F μ' H' σ ρ → E.bk σ H'
  | .ct ρ S => ∀ σ μ' H', Up μ H μ' H' → RS F μ' H' S → RG F μ' H' σ ρ → E.ct σ H'
  | .exc c fs ρ S => ∀ cls dd σ μ' H', Up μ H μ' H' → RS F μ' H' S → RG F μ' H' σ ρ → XR F μ' H' cls dd c fs → W cls dd σ H'
  | .bad => False
section
variable {F : Fx} {α β γ δ : Type} {rel : List Addr → Hp → β → α → Prop} {rel' : List Addr → Hp → δ → γ → Prop} {μ μ1 : List Addr} {H H1 : Hp} {Q : β → Hp → Prop} {Wx : Value → Option Addr → Hp → Prop}
theorem WR.shift {r : Res α} (u : Up μ H μ1 H1) (h : WR F rel r Q Wx μ H) : WR F rel r Q Wx μ1 H1 := by
  cases r with
  | ok d S => exact fun v μ' H' u' => h v μ' H' (u.trans u')
  | exc c fs S => exact fun cls dd μ' H' u' => h cls dd μ' H' (u.trans u')
  | bad => exact h
theorem WS'.shift {r : Out} {E : Ends} {W : WX} (u : Up μ H μ1 H1) (h : WS' F r E W μ H) : WS' F r E W μ1 H1 := by
  cases r with
  | nx ρ S => exact fun σ μ' H' u' => h σ μ' H' (u.trans u')
  | rt d S => exact fun v μ' H' u' => h v μ' H' (u.trans u')
  | bk ρ S => exact fun σ μ' H' u' => h σ μ' H' (u.trans u')
  | ct ρ S => exact fun σ μ' H' u' => h σ μ' H' (u.trans u')
  | exc c fs ρ S => exact fun cls dd σ μ' H' u' => h cls dd σ μ' H' (u.trans u')
  | bad => exact h
/-- first r, then f -/
theorem WR.bind {r : Res γ} {f : γ → Sto → Res α} {Q1 : δ → Hp → Prop} (h : WR F rel (r.bind f) Q Wx μ H)
    (k : ∀ x S1 v μ1 H1, Up μ H μ1 H1 → RS F μ1 H1 S1 → rel' μ1 H1 v x → WR F rel (f x S1) Q Wx μ1 H1 → Q1 v H1) : WR F rel' r Q1 Wx μ H := by
  cases r with
  | ok x S1 => exact fun v μ1 H1 u1 s1 r1 => k x S1 v μ1 H1 u1 s1 r1 (WR.shift u1 h)
  | exc c fs S => exact h
  | bad => exact h
theorem WL'.shift {r : Res (List D)} {Q : VK} (u : Up μ H μ1 H1) (h : WL' F r Q Wx μ H) : WL' F r Q Wx μ1 H1 := by
  cases r with
  | ok d S =>
    intro p xs μ' H' u' hp s' r' e'
    have np : p ∉ μ := fun z => (s'.xi p List.mem_cons_self).1 (u'.mem (u.mem z))
    exact h p xs μ' H' (u.trans u') (u.back hp np) s' r' e'
  | exc c fs S => exact fun cls dd μ' H' u' => h cls dd μ' H' (u.trans u')
  | bad => exact h
theorem WL'.bind {r : Res γ} {f : γ → Sto → Res (List D)} {Q : VK} {Q1 : δ → Hp → Prop} (h : WL' F (r.bind f) Q Wx μ H)
    (k : ∀ x S1 v μ1 H1, Up μ H μ1 H1 → RS F μ1 H1 S1 → rel' μ1 H1 v x → WL' F (f x S1) Q Wx μ1 H1 → Q1 v H1) : WR F rel' r Q1 Wx μ H := by
  cases r with
  | ok x S1 => exact fun v μ1 H1 u1 s1 r1 => k x S1 v μ1 H1 u1 s1 r1 (WL'.shift u1 h)
  | exc c fs S => exact h
  | bad => exact h
theorem WT'.shift {r : Res D} {Q : Bool → Hp → Prop} (u : Up μ H μ1 H1) (h : WT' F r Q Wx μ H) : WT' F r Q Wx μ1 H1 := by
  cases r with
  | ok d S =>
    cases d with
    | bl b => exact fun μ' H' u' => h μ' H' (u.trans u')
    | _ => exact h
  | exc c fs S => exact fun cls dd μ' H' u' => h cls dd μ' H' (u.trans u')
  | bad => exact h
/-- first r, then f, whose answer is a truth value -/
theorem WT'.bind {r : Res γ} {f : γ → Sto → Res D} {Q : Bool → Hp → Prop} {Q1 : δ → Hp → Prop} (h : WT' F (r.bind f) Q Wx μ H)
    (k : ∀ x S1 v μ1 H1, Up μ H μ1 H1 → RS F μ1 H1 S1 → rel' μ1 H1 v x → WT' F (f x S1) Q Wx μ1 H1 → Q1 v H1) : WR F rel' r Q1 Wx μ H := by
  cases r with
  | ok x S1 => exact fun v μ1 H1 u1 s1 r1 => k x S1 v μ1 H1 u1 s1 r1 (WT'.shift u1 h)
  | exc c fs S => exact h
  | bad => exact h
/-- first a test, then f -/
theorem WR.bindT {r : Res D} {f : D → Sto → Res α} {Q1 : Bool → Hp → Prop} (h : WR F rel (r.bind f) Q Wx μ H) (hb : ∀ d S, (∀ b, d ≠ .bl b) → f d S = .bad)
    (k : ∀ b S1 μ1 H1, Up μ H μ1 H1 → RS F μ1 H1 S1 → WR F rel (f (.bl b) S1) Q Wx μ1 H1 → Q1 b H1) : WT' F r Q1 Wx μ H := by
  cases r with
  | ok d S =>
    have h : WR F rel (f d S) Q Wx μ H := h
    cases d with
    | bl b => exact fun μ1 H1 u1 s1 => k b S μ1 H1 u1 s1 (WR.shift u1 h)
    | _ =>
      rw [hb _ _ (by intro b e; cases e)] at h
      exact h
  | exc c fs S => exact h
  | bad => exact h
theorem WT'.bindT {r : Res D} {f : D → Sto → Res D} {Q Q1 : Bool → Hp → Prop} (h : WT' F (r.bind f) Q Wx μ H) (hb : ∀ d S, (∀ b, d ≠ .bl b) → f d S = .bad)
    (k : ∀ b S1 μ1 H1, Up μ H μ1 H1 → RS F μ1 H1 S1 → WT' F (f (.bl b) S1) Q Wx μ1 H1 → Q1 b H1) : WT' F r Q1 Wx μ H := by
  cases r with
  | ok d S =>
    have h : WT' F (f d S) Q Wx μ H := h
    cases d with
    | bl b => exact fun μ1 H1 u1 s1 => k b S μ1 H1 u1 s1 (WT'.shift u1 h)
    | _ =>
      rw [hb _ _ (by intro b e; cases e)] at h
      exact h
  | exc c fs S => exact h
  | bad => exact h
/-- as a value -/
theorem WT'.val {r : Res D} {Q : Bool → Hp → Prop} (h : WT' F r Q Wx μ H) : WE' F r (fun x H' => ∃ k, x = .bl k ∧ Q k H') Wx μ H := by
  cases r with
  | ok d S =>
    cases d with
    | bl b =>
      intro v μ' H' u' s' r'
      cases r'
      exact ⟨b, rfl, h μ' H' u' s'⟩
    | _ => exact h.elim
  | exc c fs S => exact h
  | bad => exact h
end
end Dm
-- text DmFz
/-! Tuples made at run time, kept with their object: it has no dict. -/
namespace Dm
open PySem L2 PySem.Spec PyProof.Rows
open PySem.W (Frag)
/-- a new tuple's wish -/
abbrev NwT (H : Hp) (Q : VK) (xs : List V) : Prop := ∀ (p : Addr) (o : Obj), H p = none → o.dict = none → Q (.ref p) (upd H p (.frz o (.tup xs)))
theorem RdT.new {H : Hp} {p : Addr} {o : Obj} {xs : List V} (d : o.dict = none) : RdT (upd H p (.frz o (.tup xs))) p xs := ⟨o, d, upd_same⟩
section
variable {X : Cx} {pins : List (Addr × Obj)} {σ : L2.St} {H : Hp} {s : Shared} {Q : VK} {h' : Heap} {xs : List V} {its : List Value}
theorem tup_laid {t' : Nat} (I : Inv X pins σ H s) (k : ∀ b u, s.heap.get? b = some u → h'.get? b = some u) {p : Addr} (hp : s.heap.objs.size ≤ p) {n : Nat} (e : h'.get? p = some { cls := .type "tuple", data := .seq its.toArray n }) (hz : xs.length ≤ sizeLine) (r : Vals xs its) (q : NwT H Q xs) : EP X pins σ Q (.ref p) { s with heap := h', toks := t' } :=
  ⟨.ref p, _, I.laid (t' := t') (o := .frz { cls := .type "tuple", data := .seq its.toArray n } (.tup xs)) k hp ⟨e, hz, its, r, ⟨_, e, rfl, n, rfl⟩⟩, rfl, q p _ (I.hok.fresh hp) rfl⟩
theorem tup_here (I : Inv X pins σ H s) (hz : xs.length ≤ sizeLine) (r : Vals xs its) (q : NwT H Q xs) : EP X pins σ Q (.ref s.heap.objs.size) { s with heap := s.heap.push { cls := .type "tuple", data := .seq its.toArray } } :=
  tup_laid (t' := s.toks) I (fun b u e => Heap.get?_push_of_some _ e) (Nat.le_refl _) (Heap.get?_push_size _ rfl) hz r q
end
section
variable {X : Cx} {es : List Expr} {t : TA} {pos : Pos}
def tTupF (t : TA) : TE := fun σ H Q => t σ H fun xs H1 => xs.length ≤ sizeLine ∧ NwT H1 Q xs
theorem pe_tupF {x1} (h : PA X es t) : PE X (.Tuple es x1 pos) (tTupF t) :=
  ⟨fun pins s σ H Q I hq => wpAny_Tuple_spliced (thn (h.run pos pins s σ H _ I hq) fun us s1 ⟨xs, H1, I1, r, z, q⟩ => ⟨by rw [← r.length]; exact z, tup_here I1 z r q⟩)⟩
def rCatF (K : Frag) : R2 := fun x y H Q => ∃ a b xs ys, x = .ref a ∧ y = .ref b ∧ SqT K H a xs ∧ SqT K H b ys ∧ xs.length + ys.length ≤ sizeLine ∧ (xs = [] → Q (.ref b) H) ∧ (xs ≠ [] → ys = [] → Q (.ref a) H) ∧ (xs ≠ [] → ys ≠ [] → NwT H Q (xs ++ ys))
theorem op_catF : OpR X (binaryOp .Add) (rCatF X.K) := by
  rintro pins s σ H x y v u Q I rx ry ⟨a, b, xs, ys, rfl, rfl, ha, hb, hz, q0, q1, q2⟩
  by_cases hc : xs = [] ∨ ys = []
  · refine op_catA pins s σ H _ _ v u Q I rx ry ⟨a, b, xs, ys, rfl, rfl, ha, hb, hz, q0, q1, fun h1 h2 => ?_⟩
    exact (hc.elim h1 h2).elim
  · have h1 : xs ≠ [] := fun z => hc (.inl z)
    have h2 : ys ≠ [] := fun z => hc (.inr z)
    cases rx; cases ry
    obtain ⟨i1, r1, p1, _⟩ := I.tuple ha
    obtain ⟨i2, r2, p2, _⟩ := I.tuple hb
    refine HT.cat_tup p1 p2 (fun z => h1 (r1.nil_iff.mp z)) (fun z => (h2 (r2.nil_iff.mp z)).elim) (fun _ => tup_here I ?_ (r1.append r2) (q2 h1 h2)) ?_
    · rw [List.length_append]
      exact hz
    · rw [← r1.length, ← r2.length]
      exact hz
def rSlF (K : Frag) : V → Option Int → Option Int → Hp → VK → Prop := fun x lo hi H Q => ∃ a xs, x = .ref a ∧ SqT K H a xs ∧
  (HT.sIx xs.length 0 lo = 0 ∧ HT.sIx xs.length xs.length hi = xs.length → Q (.ref a) H) ∧ (¬ (HT.sIx xs.length 0 lo = 0 ∧ HT.sIx xs.length xs.length hi = xs.length) → NwT H Q (cutV xs lo hi))
theorem sl_tupF : SlR X (rSlF X.K) := by
  rintro pins s σ H x v vl vu lo hi sl Q I rx hs pl pu ⟨a, xs, rfl, hx, q1, q2⟩
  by_cases hw : HT.sIx xs.length 0 lo = 0 ∧ HT.sIx xs.length xs.length hi = xs.length
  · exact sl_tupA pins s σ H _ v vl vu lo hi sl Q I rx hs pl pu ⟨a, xs, rfl, hx, q1, fun n => (n hw).elim⟩
  · cases rx
    obtain ⟨its, r, ht, hz⟩ := I.tuple hx
    have e : its.toArray.size = xs.length := by rw [List.size_toArray, r.length]
    refine ⟨"tuple", _, PyProof.Rows.slot_tuple_getitem.lookup, ht.typeIs, HT.getItem_tuple_cut ht hs pl pu (by rw [e]; exact hw) ?_ (by rw [e]; exact hz)⟩
    rw [e]
    exact tup_here I (Nat.le_trans (cutV_length xs lo hi) hz) ((r.drop _).take _) (q2 hw)
theorem call_tupF : CallR X (.type "tuple") (fun xs H Q => ∃ p ys, xs = [.ref p] ∧ ((SqL X.K H p ys ∧ NwT H Q ys) ∨ (SqT X.K H p ys ∧ Q (.ref p) H))) := by
  rintro pins s σ H xs us Q I r ⟨p, ys, rfl, h⟩
  rcases h with ⟨hq, q⟩ | ⟨hq, q⟩
  · obtain ⟨u, rfl, rx⟩ := vals1 r
    cases rx
    obtain ⟨its, r', pl, hz⟩ := I.list hq
    have hn := r'.length
    refine call_tuple_list pl.isList (fun h' kp => ?_) (by rw [List.size_toArray]; omega)
    have I1 := I.kept (t' := s.toks) kp
    exact tup_here (s := { s with heap := h' }) I1 hz r' q
  · exact call_tuple_of pins s σ H _ us Q I r ⟨p, ys, rfl, .inr ⟨hq, q⟩⟩
end
end Dm
-- text DmRules
namespace Dm
open PySem L2
open PySem.W (Frag)
structure DE (X : Cx) (W : WX) (e : Expr) (m : ME) : Prop where
  ex : ∃ te, PE X e te ∧ ∀ ξ μ σ H ρ S Q, RG (fx X ξ) μ H σ ρ → RS (fx X ξ) μ H S → WE' (fx X ξ) (m ρ S) Q (fun cls dd H' => W cls dd σ H') μ H → te σ H Q
structure DT (X : Cx) (W : WX) (e : Expr) (m : ME) : Prop where
  ex : ∃ te, PT X e te ∧ ∀ ξ μ σ H ρ S Q, RG (fx X ξ) μ H σ ρ → RS (fx X ξ) μ H S → WT' (fx X ξ) (m ρ S) Q (fun cls dd H' => W cls dd σ H') μ H → te σ H Q
structure DW (X : Cx) (W : WX) (e : Expr) (m : ME) : Prop where
  ex : ∃ te, PW X e te ∧ ∀ ξ μ σ H ρ S Q, RG (fx X ξ) μ H σ ρ → RS (fx X ξ) μ H S → WT' (fx X ξ) (m ρ S) Q (fun cls dd H' => W cls dd σ H') μ H → te σ H Q
structure DA (X : Cx) (W : WX) (es : List Expr) (m : MA) : Prop where
  ex : ∃ te, PA X es te ∧ ∀ ξ μ σ H ρ S Q, RG (fx X ξ) μ H σ ρ → RS (fx X ξ) μ H S → WA' (fx X ξ) (m ρ S) Q (fun cls dd H' => W cls dd σ H') μ H → te σ H Q
/-- a fresh list, its items -/
structure DL (X : Cx) (W : WX) (e : Expr) (m : MA) : Prop where
  ex : ∃ te, PE X e te ∧ ∀ ξ μ σ H ρ S Q, RG (fx X ξ) μ H σ ρ → RS (fx X ξ) μ H S →
    WL' (fx X ξ) (m ρ S) Q (fun cls dd H' => W cls dd σ H') μ H → te σ H Q
structure DS (X : Cx) (W : WX) (st : Stmt) (m : MS) : Prop where
  ex : ∃ ts, PS X st ts ∧ ∀ ξ μ σ H ρ S D, RG (fx X ξ) μ H σ ρ → RS (fx X ξ) μ H S → WS' (fx X ξ) (m ρ S) D W μ H → ts D σ H
structure DSs (X : Cx) (W : WX) (st : List Stmt) (m : MS) : Prop where
  ex : ∃ ts, PSs X st ts ∧ ∀ ξ μ σ H ρ S D, RG (fx X ξ) μ H σ ρ → RS (fx X ξ) μ H S → WS' (fx X ξ) (m ρ S) D W μ H → ts D σ H
/-! ### the words -/
def mVar (i : Nat) : ME := fun ρ S => match ρ[i]? with
  | some (some d) => .ok d S
  | _ => .bad
def mK (d : D) : ME := fun _ S => .ok d S
def mOp (g : Sto → D → D → Option D) (a b : ME) : ME := fun ρ S => (a ρ S).bind fun x S1 => (b ρ S1).bind fun y S2 => match g S2 x y with
  | some z => .ok z S2
  | none => .bad
def mUn (g : Sto → D → Option D) (a : ME) : ME := fun ρ S => (a ρ S).bind fun x S1 => match g S1 x with
  | some z => .ok z S1
  | none => .bad
def mAnd (a b : ME) : ME := fun ρ S => (a ρ S).bind fun x S1 => match x with
  | .bl true => b ρ S1
  | .bl false => .ok (.bl false) S1
  | _ => .bad
def mOr (a b : ME) : ME := fun ρ S => (a ρ S).bind fun x S1 => match x with
  | .bl true => .ok (.bl true) S1
  | .bl false => b ρ S1
  | _ => .bad
def mNot (a : ME) : ME := fun ρ S => (a ρ S).bind fun x S1 => match x with
  | .bl c => .ok (.bl (!c)) S1
  | _ => .bad
def mIf (c a b : ME) : ME := fun ρ S => (c ρ S).bind fun x S1 => match x with
  | .bl true => a ρ S1
  | .bl false => b ρ S1
  | _ => .bad
def mNil : MA := fun _ S => .ok [] S
def mCons (a : ME) (r : MA) : MA := fun ρ S => (a ρ S).bind fun x S1 => (r ρ S1).bind fun xs S2 => .ok (x :: xs) S2
def mTup (a : MA) : ME := fun ρ S => (a ρ S).bind fun xs S1 => if xs.length ≤ 16777216 then .ok (.tup xs) S1 else .bad
def mLst (a : MA) : MA := fun ρ S => (a ρ S).bind fun xs S1 => if xs.length ≤ 16777216 then .ok xs S1 else .bad
def mCall (f : List D → Sto → Res D) (a : MA) : ME := fun ρ S => (a ρ S).bind fun xs S1 => f xs S1
/-- a fresh list as plain data; as a cell -/
def mFz (a : MA) : ME := fun ρ S => (a ρ S).bind fun xs S1 => .ok (.lst xs) S1
def mNew (a : MA) : ME := fun ρ S => (a ρ S).bind fun xs S1 => .ok (.cell S1.length) (S1 ++ [.lst xs])
section
variable {X : Cx} {W : WX} {e a b c : Expr} {es : List Expr} {ma mb mc m : ME} {mr : MA} {pos : Pos}
/-- weakening by what a rule asks -/
theorem d_var (i : Nat) {x : Str} (hN : X.N[i]? = some x := by rfl) (hv : Vis X.env.scope x := by first | exact Or.inl rfl | exact Or.inr (Or.inl rfl) | exact Or.inr (Or.inr rfl)) (hd : (x == ("__debug__" : Str)) = false := by decide)
    (hcd : (x == ("__classdict__" : Str)) = false := by decide) : DE X W (.Name x pos) (mVar i) :=
  ⟨_, pe_var hN hv hd hcd, fun ξ μ σ H ρ S Q g s h => by
    unfold mVar at h
    cases e : ρ[i]? with
    | none => rw [e] at h; exact h.elim
    | some o =>
      cases o with
      | none => rw [e] at h; exact h.elim
      | some d =>
        rw [e] at h
        obtain ⟨v, hv, r⟩ := g.at_ i d e
        exact ⟨v, hv, h v μ H .refl s r⟩⟩
theorem d_k {te : TE} {v : V} {d : D} (hp : PE X e te) (ht : te = tC v) (hr : ∀ ξ μ H, RD (fx X ξ) μ H v d) : DE X W e (mK d) :=
  ⟨te, hp, fun ξ μ σ H ρ S Q g s h => by subst ht; exact h v μ H .refl s (hr ξ μ H)⟩
theorem d_int {i : Int} {j} : DE X W (.Constant (.int i) j pos) (mK (.int i)) := d_k pe_int rfl fun _ _ _ => .int i
theorem d_bl {i : Bool} {j} : DE X W (.Constant (.bool i) j pos) (mK (.bl i)) := d_k pe_bl rfl fun _ _ _ => .bl i
theorem d_non {j} : DE X W (.Constant .none j pos) (mK .non) := d_k pe_non rfl fun _ _ _ => .non
theorem d_str {i : Str} {j} : DE X W (.Constant (.str i) j pos) (mK (.str i)) := d_k pe_str rfl fun _ _ _ => .str i
/-- a constant of the module -/
def GlD (X : Cx) (x : Str) (d : D) : Prop := ∃ u v, X.mg x = some u ∧ RelV v u ∧ ∀ ξ μ H, RD (fx X ξ) μ H v d
theorem d_glob {x : Str} {d : D} (hg : Gl X x) (hm : GlD X x d) (hd : (x == ("__debug__" : Str)) = false := by decide) : DE X W (.Name x pos) (mK d) := by
  obtain ⟨u, v, h1, h2, h3⟩ := hm
  exact d_k (pe_glob hg h1 h2 hd) rfl h3
/-! operators -/
def OpD (X : Cx) (r : R2) (g : Sto → D → D → Option D) : Prop :=
  ∀ ξ μ H S x y v u z Q, RS (fx X ξ) μ H S → RD (fx X ξ) μ H v x → RD (fx X ξ) μ H u y → g S x y = some z → (∀ w μ' H', Up μ H μ' H' → RS (fx X ξ) μ' H' S → RD (fx X ξ) μ' H' w z → Q w H') → r v u H Q
theorem op2 {r : R2} {g : Sto → D → D → Option D} {ta tb : TE} {μ ξ : List Addr} {σ : St} {H : Hp} {ρ : Rho} {S : Sto} {Q : VK} (hd : OpD X r g)
    (ka : ∀ ξ μ σ H ρ S Q, RG (fx X ξ) μ H σ ρ → RS (fx X ξ) μ H S → WE' (fx X ξ) (ma ρ S) Q (fun cls dd H' => W cls dd σ H') μ H → ta σ H Q)
    (kb : ∀ ξ μ σ H ρ S Q, RG (fx X ξ) μ H σ ρ → RS (fx X ξ) μ H S → WE' (fx X ξ) (mb ρ S) Q (fun cls dd H' => W cls dd σ H') μ H → tb σ H Q)
    (g0 : RG (fx X ξ) μ H σ ρ) (s : RS (fx X ξ) μ H S) (h : WE' (fx X ξ) (mOp g ma mb ρ S) Q (fun cls dd H' => W cls dd σ H') μ H) : tOp r ta tb σ H Q := by
  refine ka ξ μ σ H ρ S _ g0 s (WR.bind h fun x S1 v μ1 H1 u1 s1 r1 h1 => ?_)
  refine kb ξ μ1 σ H1 ρ S1 _ (g0.up u1) s1 (WR.bind h1 fun y S2 v2 μ2 H2 u2 s2 r2 h2 => ?_)
  cases e : g S2 x y with
  | none => rw [e] at h2; exact h2.elim
  | some z =>
    rw [e] at h2
    exact hd ξ μ2 H2 S2 x y v v2 z Q s2 (r1.up u2) r2 e fun w μ' H' u' s' r' => h2 w μ' H' u' s' r'
theorem d_op {op : Operator} {r : R2} {g : Sto → D → D → Option D} (ho : OpR X (binaryOp op) r) (hd : OpD X r g) (ha : DE X W a ma) (hb : DE X W b mb) : DE X W (.BinOp a op b pos) (mOp g ma mb) := by
  obtain ⟨ta, pa, ka⟩ := ha
  obtain ⟨tb, pb, kb⟩ := hb
  exact ⟨_, pe_op ho pa pb, fun ξ μ σ H ρ S Q g0 s h => op2 (ξ := ξ) hd ka kb g0 s h⟩
theorem d_cmp {op : CmpOp} {r : R2} {g : Sto → D → D → Option D} (ho : OpR X (compareOp op) r) (hd : OpD X r g) (ha : DE X W a ma) (hb : DE X W b mb) (hm : behindInMarks op b = false := by first | exact nomark _ | rfl) : DE X W (.Compare a [op] [b] pos) (mOp g ma mb) := by
  obtain ⟨ta, pa, ka⟩ := ha
  obtain ⟨tb, pb, kb⟩ := hb
  exact ⟨_, pe_cmpR ho pa pb hm, fun ξ μ σ H ρ S Q g0 s h => op2 (ξ := ξ) hd ka kb g0 s h⟩
theorem dt_val (h : DE X W e m) (he : ∀ whole, isTrue e X.env whole = (do let v ← whole; standAt e.pos; holding [v] (truthy v)) := by intro _; rfl) : DT X W e m := by
  obtain ⟨te, p, k⟩ := h
  exact ⟨_, pt_val p he, fun ξ μ σ H ρ S Q g s h => k ξ μ σ H ρ S _ g s (WT'.val h)⟩
theorem dt_cmp {op : CmpOp} {r : R2} {g : Sto → D → D → Option D} (ho : OpR X (compareOp op) r) (hd : OpD X r g) (ha : DE X W a ma) (hb : DE X W b mb) (hm : behindInMarks op b = false := by first | exact nomark _ | rfl) : DT X W (.Compare a [op] [b] pos) (mOp g ma mb) := by
  obtain ⟨ta, pa, ka⟩ := ha
  obtain ⟨tb, pb, kb⟩ := hb
  exact ⟨_, pt_cmpR ho pa pb hm, fun ξ μ σ H ρ S Q g0 s h => op2 (ξ := ξ) hd ka kb g0 s (WT'.val h)⟩
theorem DT.w (h : DW X W e m) : DT X W e m := let ⟨t, p, k⟩ := h; ⟨t, p.pt, k⟩
theorem notb2 {α : Type} {k l : Sto → Res α} : ∀ (d : D) (S : Sto), (∀ b, d ≠ .bl b) → (match d with | .bl true => k S | .bl false => l S | _ => Res.bad) = Res.bad := fun d S h => by
  cases d with
  | bl b => exact absurd rfl (h b)
  | _ => rfl
theorem dw_and1 (ha : DT X W a ma) : DW X W (.BoolOp .And [a] pos) ma := let ⟨_, p, k⟩ := ha; ⟨_, pw_and1 p, k⟩
theorem dw_or1 (ha : DT X W a ma) : DW X W (.BoolOp .Or [a] pos) ma := let ⟨_, p, k⟩ := ha; ⟨_, pw_or1 p, k⟩
theorem dw_and {rest : List Expr} (ha : DT X W a ma) (hb : DW X W (.BoolOp .And (b :: rest) pos) mb) : DW X W (.BoolOp .And (a :: b :: rest) pos) (mAnd ma mb) := by
  obtain ⟨ta, pa, ka⟩ := ha
  obtain ⟨tb, pb, kb⟩ := hb
  refine ⟨_, pw_and pa pb, fun ξ μ σ H ρ S Q g s h => ?_⟩
  refine ka ξ μ σ H ρ S _ g s (WT'.bindT h (fun d S h => notb2 d S h) fun c S1 μ1 H1 u1 s1 h1 => ?_)
  cases c with
  | true => exact kb ξ μ1 σ H1 ρ S1 Q (g.up u1) s1 h1
  | false => exact h1 μ1 H1 .refl s1
theorem dw_or {rest : List Expr} (ha : DT X W a ma) (hb : DW X W (.BoolOp .Or (b :: rest) pos) mb) : DW X W (.BoolOp .Or (a :: b :: rest) pos) (mOr ma mb) := by
  obtain ⟨ta, pa, ka⟩ := ha
  obtain ⟨tb, pb, kb⟩ := hb
  refine ⟨_, pw_or pa pb, fun ξ μ σ H ρ S Q g s h => ?_⟩
  refine ka ξ μ σ H ρ S _ g s (WT'.bindT h (fun d S h => notb2 d S h) fun c S1 μ1 H1 u1 s1 h1 => ?_)
  cases c with
  | false => exact kb ξ μ1 σ H1 ρ S1 Q (g.up u1) s1 h1
  | true => exact h1 μ1 H1 .refl s1
theorem dt_not (ha : DT X W a ma) : DT X W (.UnaryOp .Not a pos) (mNot ma) := by
  obtain ⟨ta, pa, ka⟩ := ha
  refine ⟨_, pt_not pa, fun ξ μ σ H ρ S Q g s h => ?_⟩
  refine ka ξ μ σ H ρ S _ g s (WT'.bindT h (fun d S h => by cases d <;> first | rfl | exact absurd rfl (h _)) fun c S1 μ1 H1 u1 s1 h1 => ?_)
  exact h1 μ1 H1 .refl s1
/-- and, or, not as values -/
theorem d_one {op} (h : DE X W a m) : DE X W (.BoolOp op [a] pos) m := let ⟨_, p, k⟩ := h; ⟨_, pe_one p, k⟩
theorem WE'.boolv {r : Res D} {f : D → Sto → Res D} {Q Q1 : VK} {Wx : Value → Option Addr → Hp → Prop} {μ ξ : List Addr} {H : Hp} (h : WE' (fx X ξ) (r.bind f) Q Wx μ H) (hb : ∀ d S, (∀ b, d ≠ .bl b) → f d S = .bad)
    (k : ∀ b S1 μ1 H1, Up μ H μ1 H1 → RS (fx X ξ) μ1 H1 S1 → WE' (fx X ξ) (f (.bl b) S1) Q Wx μ1 H1 → Q1 (.bl b) H1) : WE' (fx X ξ) r Q1 Wx μ H := by
  refine WR.bind h fun x S1 v μ1 H1 u1 s1 r1 h1 => ?_
  cases r1 with
  | bl b => exact k b S1 μ1 H1 u1 s1 h1
  | _ =>
    rw [hb _ _ (by intro b e; cases e)] at h1
    exact h1.elim
theorem d_and {rest : List Expr} (ha : DE X W a ma) (hb : DE X W (.BoolOp .And (b :: rest) pos) mb) : DE X W (.BoolOp .And (a :: b :: rest) pos) (mAnd ma mb) := by
  obtain ⟨ta, pa, ka⟩ := ha
  obtain ⟨tb, pb, kb⟩ := hb
  refine ⟨_, pe_and pa pb, fun ξ μ σ H ρ S Q g s h => ?_⟩
  refine ka ξ μ σ H ρ S _ g s (WE'.boolv h (fun d S h => notb2 d S h) fun c S1 μ1 H1 u1 s1 h1 => ⟨c, rfl, ?_⟩)
  cases c with
  | true => exact kb ξ μ1 σ H1 ρ S1 Q (g.up u1) s1 h1
  | false => exact h1 _ μ1 H1 .refl s1 (.bl _)
theorem d_or {rest : List Expr} (ha : DE X W a ma) (hb : DE X W (.BoolOp .Or (b :: rest) pos) mb) : DE X W (.BoolOp .Or (a :: b :: rest) pos) (mOr ma mb) := by
  obtain ⟨ta, pa, ka⟩ := ha
  obtain ⟨tb, pb, kb⟩ := hb
  refine ⟨_, pe_or pa pb, fun ξ μ σ H ρ S Q g s h => ?_⟩
  refine ka ξ μ σ H ρ S _ g s (WE'.boolv h (fun d S h => notb2 d S h) fun c S1 μ1 H1 u1 s1 h1 => ⟨c, rfl, ?_⟩)
  cases c with
  | false => exact kb ξ μ1 σ H1 ρ S1 Q (g.up u1) s1 h1
  | true => exact h1 _ μ1 H1 .refl s1 (.bl _)
theorem d_not (ha : DE X W a ma) : DE X W (.UnaryOp .Not a pos) (mNot ma) := by
  obtain ⟨ta, pa, ka⟩ := ha
  refine ⟨_, pe_not pa, fun ξ μ σ H ρ S Q g s h => ?_⟩
  exact ka ξ μ σ H ρ S _ g s (WE'.boolv h (fun d S h => by cases d <;> first | rfl | exact absurd rfl (h _)) fun c S1 μ1 H1 u1 s1 h1 => ⟨c, rfl, h1 _ μ1 H1 .refl s1 (.bl _)⟩)
theorem d_ifExp (hc : DT X W c mc) (ha : DE X W a ma) (hb : DE X W b mb) : DE X W (.IfExp c a b pos) (mIf mc ma mb) := by
  obtain ⟨tc, pc, kc⟩ := hc
  obtain ⟨ta, pa, ka⟩ := ha
  obtain ⟨tb, pb, kb⟩ := hb
  refine ⟨_, pe_ifExp pc pa pb, fun ξ μ σ H ρ S Q g s h => ?_⟩
  refine kc ξ μ σ H ρ S _ g s (WR.bindT h (fun d S h => notb2 d S h) fun c S1 μ1 H1 u1 s1 h1 => ?_)
  cases c with
  | true => exact ka ξ μ1 σ H1 ρ S1 Q (g.up u1) s1 h1
  | false => exact kb ξ μ1 σ H1 ρ S1 Q (g.up u1) s1 h1
/-- one-place operators -/
def UnD (X : Cx) (r : V → Hp → VK → Prop) (g : Sto → D → Option D) : Prop :=
  ∀ ξ μ H S x v z Q, RS (fx X ξ) μ H S → RD (fx X ξ) μ H v x → g S x = some z → (∀ w μ' H', Up μ H μ' H' → RS (fx X ξ) μ' H' S → RD (fx X ξ) μ' H' w z → Q w H') → r v H Q
theorem d_un {op : UnaryOp} {r : V → Hp → VK → Prop} {g : Sto → D → Option D} (ho : UnR X (unaryOp op) r) (hd : UnD X r g) (ha : DE X W a ma) : DE X W (.UnaryOp op a pos) (mUn g ma) := by
  obtain ⟨ta, pa, ka⟩ := ha
  refine ⟨_, pe_un ho pa, fun ξ μ σ H ρ S Q g0 s h => ka ξ μ σ H ρ S _ g0 s (WR.bind h fun x S1 v μ1 H1 u1 s1 r1 h1 => ?_)⟩
  cases e : g S1 x with
  | none => rw [e] at h1; exact h1.elim
  | some z =>
    rw [e] at h1
    exact hd ξ μ1 H1 S1 x v z Q s1 r1 e h1
/-- arguments -/
theorem da_nil : DA X W [] mNil := ⟨_, pa_nil, fun ξ μ σ H ρ S Q g s h => h [] μ H .refl s .nil⟩
theorem da_cons (ha : DE X W e ma) (hr : DA X W es mr) (hs : starEach (e :: es) X.env = (false, eval e X.env) :: starEach es X.env := by rfl) : DA X W (e :: es) (mCons ma mr) := by
  obtain ⟨ta, pa, ka⟩ := ha
  obtain ⟨tr, pr, kr⟩ := hr
  refine ⟨_, pa_cons pa pr hs, fun ξ μ σ H ρ S Q g s h => ka ξ μ σ H ρ S _ g s (WR.bind h fun x S1 v μ1 H1 u1 s1 r1 h1 => ?_)⟩
  refine kr ξ μ1 σ H1 ρ S1 _ (g.up u1) s1 (WR.bind h1 fun xs S2 vs μ2 H2 u2 s2 r2 h2 => ?_)
  exact h2 _ μ2 H2 .refl s2 (.cons (r1.up u2) r2)
theorem d_tup {x1} (h : DA X W es mr) : DE X W (.Tuple es x1 pos) (mTup mr) := by
  obtain ⟨ta, pa, ka⟩ := h
  refine ⟨_, pe_tupF pa, fun ξ μ σ H ρ S Q g s h => ka ξ μ σ H ρ S _ g s (WR.bind h fun xs S1 vs μ1 H1 u1 s1 r1 h1 => ?_)⟩
  by_cases hz : xs.length ≤ 16777216
  · rw [if_pos hz] at h1
    refine ⟨by rw [r1.length, sizeLine_eq]; exact hz, fun p o hp ho => ?_⟩
    exact h1 _ μ1 _ (.fresh hp) (s1.fresh hp) (.tup (.inl ⟨.new ho, s1.out hp, s1.outX hp⟩) (r1.up (.fresh hp)))
  · rw [if_neg hz] at h1; exact h1.elim
theorem dl_lst (h : DA X W es mr) : DL X W (.List es pos) (mLst mr) := by
  obtain ⟨ta, pa, ka⟩ := h
  refine ⟨_, pe_lst pa, fun ξ μ σ H ρ S Q g s h => ka ξ μ σ H ρ S _ g s (WL'.bind h fun xs S1 vs μ1 H1 u1 s1 r1 h1 => ?_)⟩
  by_cases hz : xs.length ≤ 16777216
  · rw [if_pos hz] at h1
    exact ⟨by rw [r1.length, sizeLine_eq]; exact hz, fun p hp => h1 p vs μ1 _ (.fresh hp) hp (s1.holds hp) (r1.mv (.holds hp)) upd_same⟩
  · rw [if_neg hz] at h1; exact h1.elim
/-- a fresh list as data, as a cell -/
theorem d_fz (h : DL X W e mr) : DE X W e (mFz mr) := by
  obtain ⟨te, p, k⟩ := h
  refine ⟨_, p, fun ξ μ σ H ρ S Q g s h => k ξ μ σ H ρ S Q g s ?_⟩
  unfold mFz at h
  cases e : mr ρ S with
  | bad => rw [e] at h; exact h.elim
  | exc c fs S' => rw [e] at h; exact h
  | ok ds S' =>
    rw [e] at h
    intro q xs μ' H' u' hq s' r' e'
    exact h _ μ' H' u' s'.free (.lst (.inl ⟨.inl e', (s'.xi q List.mem_cons_self).1, s.outX hq⟩) (r'.mv .free))
theorem d_new (h : DL X W e mr) : DE X W e (mNew mr) := by
  obtain ⟨te, p, k⟩ := h
  refine ⟨_, p, fun ξ μ σ H ρ S Q g s h => k ξ μ σ H ρ S Q g s ?_⟩
  unfold mNew at h
  cases e : mr ρ S with
  | bad => rw [e] at h; exact h.elim
  | exc c fs S' => rw [e] at h; exact h
  | ok ds S' =>
    rw [e] at h
    intro q xs μ' H' u' hq s' r' e'
    have l : S'.length = μ'.length := s'.len.symm
    refine h (.ref q) (μ' ++ [q]) H' ⟨?_, fun a ha n => ?_, u'.keep⟩ (s'.asCell (s.outX hq) e' r') (.cell (by rw [l]; exact alloc_at))
    · obtain ⟨ν, z⟩ := u'.pre
      exact ⟨ν ++ [q], by rw [z, List.append_assoc]⟩
    · rcases List.mem_append.mp ha with z | z
      · exact u'.new a z n
      · rw [List.mem_singleton.mp z]; exact hq
end
end Dm
-- text DmOps
namespace Dm
open PySem L2
open PySem.W (Frag)
/-! ### the items of a tuple, a list -/
def lstOf (S : Sto) : D → Option (List D)
  | .lst ds => some ds
  | .cell n => match S[n]? with
    | some (.lst ds) => some ds
    | _ => none
  | _ => none
def seqOf (S : Sto) : D → Option (List D)
  | .tup ds => some ds
  | d => lstOf S d
section
variable {F : Fx} {μ : List Addr} {H : Hp} {S : Sto} {v : V} {d : D} {ds : List D}
theorem RD.lstS (s : RS F μ H S) (r : RD F μ H v d) (h : lstOf S d = some ds) : ∃ a xs, v = .ref a ∧ SqL F.K H a xs ∧ RDs F μ H xs ds := by
  cases r with
  | lst f r =>
    cases h
    exact ⟨_, _, rfl, f.sq, r⟩
  | @cell a n e =>
    simp only [lstOf] at h
    cases q : S[n]? with
    | none => rw [q] at h; exact nomatch h
    | some c =>
      rw [q] at h
      cases c with
      | lst es =>
        cases h
        obtain ⟨xs, h1, h2⟩ := s.at_ n a _ e q
        exact ⟨a, xs, rfl, SqL.of h1, h2⟩
      | _ => exact nomatch h
  | _ => exact nomatch h
theorem RD.seqS (s : RS F μ H S) (r : RD F μ H v d) (h : seqOf S d = some ds) : ∃ a xs, v = .ref a ∧ (SqL F.K H a xs ∨ SqT F.K H a xs) ∧ RDs F μ H xs ds := by
  cases r with
  | tup f r =>
    cases h
    exact ⟨_, _, rfl, .inr f.sq, r⟩
  | lst f r =>
    obtain ⟨a, xs, e, q, z⟩ := RD.lstS s (.lst f r) h
    exact ⟨a, xs, e, .inl q, z⟩
  | cell e =>
    obtain ⟨a, xs, e, q, z⟩ := RD.lstS s (.cell e) h
    exact ⟨a, xs, e, .inl q, z⟩
  | _ => exact nomatch h
theorem RDs.atI {vs : List V} {i : Int} (r : RDs F μ H vs ds) (h : atI ds i = some d) : ∃ v, L2.atI vs i = some v ∧ RD F μ H v d := by
  unfold L2.atI at h ⊢
  rw [r.length]
  cases e : ixN ds.length i with
  | none => rw [e] at h; exact nomatch h
  | some j =>
    rw [e] at h
    exact r.get h
end
/-! ### whole numbers -/
def gI (f : Int → Int → D) : Sto → D → D → Option D := fun _ x y => match x, y with
  | .int i, .int j => some (f i j)
  | _, _ => none
def gIC (C : Int → Int → Prop) [∀ i j, Decidable (C i j)] (f : Int → Int → D) : Sto → D → D → Option D := fun _ x y => match x, y with
  | .int i, .int j => if C i j then some (f i j) else none
  | _, _ => none
section
variable {X : Cx}
theorem opd_I0 {fv : Int → Int → V} {fd : Int → Int → D} (h : ∀ i j ξ μ H, RD (fx X ξ) μ H (fv i j) (fd i j)) : OpD X (rI0 fv) (gI fd) := by
  intro ξ μ H S x y v u z Q s rx ry e k
  cases rx with
  | int i =>
    cases ry with
    | int j =>
      cases e
      exact ⟨i, j, rfl, rfl, k _ μ H .refl s (h i j ξ μ H)⟩
    | _ => exact nomatch e
  | _ => exact nomatch e
theorem opd_I {C : Int → Int → Prop} [∀ i j, Decidable (C i j)] {fv : Int → Int → V} {fd : Int → Int → D} (h : ∀ i j ξ μ H, RD (fx X ξ) μ H (fv i j) (fd i j)) : OpD X (rI C fv) (gIC C fd) := by
  intro ξ μ H S x y v u z Q s rx ry e k
  cases rx with
  | int i =>
    cases ry with
    | int j =>
      unfold gIC at e
      by_cases c : C i j
      · simp only [if_pos c] at e
        cases e
        exact ⟨i, j, rfl, rfl, c, k _ μ H .refl s (h i j ξ μ H)⟩
      · simp only [if_neg c] at e
        exact nomatch e
    | _ => exact nomatch e
  | _ => exact nomatch e
theorem OpD.or {r r' : R2} {g g' : Sto → D → D → Option D} (h : OpD X r g) (h' : OpD X r' g') : OpD X (fun x y H Q => r x y H Q ∨ r' x y H Q) (fun S x y => (g S x y).or (g' S x y)) := by
  intro ξ μ H S x y v u z Q s rx ry e k
  have e : (g S x y).or (g' S x y) = some z := e
  cases q : g S x y with
  | some w =>
    rw [q] at e
    cases e
    exact .inl (h ξ μ H S x y v u _ Q s rx ry q k)
  | none =>
    rw [q] at e
    exact .inr (h' ξ μ H S x y v u z Q s rx ry e k)
abbrev gSub := gI fun i j => .int (i - j)
abbrev gLt := gI fun i j => .bl (decide (i < j))
abbrev gLe := gI fun i j => .bl (decide (i ≤ j))
abbrev gGt := gI fun i j => .bl (decide (j < i))
abbrev gGe := gI fun i j => .bl (decide (j ≤ i))
instance : ∀ i j, Decidable (CMulW i j) := fun i j => inferInstanceAs (Decidable (_ < _))
instance : ∀ i j, Decidable (CDivW i j) := fun i j => inferInstanceAs (Decidable (_ ∧ _))
instance : ∀ i j, Decidable (CPow i j) := fun i j => inferInstanceAs (Decidable (_ ∧ _ ∧ _))
abbrev gMul := gIC CMulW fun i j => .int (i * j)
abbrev gFdiv := gIC CDivW fun i j => .int (i / j)
abbrev gMod := gIC (fun _ j => 0 < j) fun i j => .int (i % j)
abbrev gPow := gIC CPow fun i j => .int (i ^ j.toNat)
theorem o_sub : OpD X (rI0 fun i j => .int (i - j)) gSub := opd_I0 fun _ _ _ _ _ => .int _
theorem o_lt : OpD X (rI0 fun i j => .bl (decide (i < j))) gLt := opd_I0 fun _ _ _ _ _ => .bl _
theorem o_le : OpD X (rI0 fun i j => .bl (decide (i ≤ j))) gLe := opd_I0 fun _ _ _ _ _ => .bl _
theorem o_gt : OpD X (rI0 fun i j => .bl (decide (j < i))) gGt := opd_I0 fun _ _ _ _ _ => .bl _
theorem o_ge : OpD X (rI0 fun i j => .bl (decide (j ≤ i))) gGe := opd_I0 fun _ _ _ _ _ => .bl _
theorem o_mul : OpD X (rI CMulW fun i j => .int (i * j)) gMul := opd_I fun _ _ _ _ _ => .int _
theorem o_fdiv : OpD X (rI CDivW fun i j => .int (i / j)) gFdiv := opd_I fun _ _ _ _ _ => .int _
theorem o_mod : OpD X (rI (fun _ j => 0 < j) fun i j => .int (i % j)) gMod := opd_I fun _ _ _ _ _ => .int _
theorem o_pow : OpD X (rI CPow fun i j => .int (i ^ j.toNat)) gPow := opd_I fun _ _ _ _ _ => .int _
/-- + of ints, of tuples -/
def gCatT : Sto → D → D → Option D := fun _ x y => match x, y with
  | .tup a, .tup b => if a.length + b.length ≤ 16777216 then some (.tup (a ++ b)) else none
  | _, _ => none
def gAdd : Sto → D → D → Option D := fun S x y => (gI (fun i j => .int (i + j)) S x y).or (gCatT S x y)
theorem o_catT : OpD X (rCatF X.K) gCatT := by
  intro ξ μ H S x y v u z Q s rx ry e k
  cases rx with
  | @tup a xs ds f r =>
    cases ry with
    | @tup b ys es f' r' =>
      unfold gCatT at e
      by_cases c : ds.length + es.length ≤ 16777216
      · simp only [if_pos c] at e
        cases e
        refine ⟨a, b, xs, ys, rfl, rfl, f.sq, f'.sq, by rw [r.length, r'.length, sizeLine_eq]; exact c, fun e => ?_, fun _ e => ?_, fun _ _ p o hp ho => ?_⟩
        · subst e
          have e' : ds = [] := List.eq_nil_of_length_eq_zero r.length.symm
          subst e'
          exact k _ μ H .refl s (.tup f' r')
        · subst e
          have e' : es = [] := List.eq_nil_of_length_eq_zero r'.length.symm
          subst e'
          rw [List.append_nil] at k
          exact k _ μ H .refl s (.tup f r)
        · exact k _ μ _ (.fresh hp) (s.fresh hp) (.tup (.inl ⟨.new ho, s.out hp, s.outX hp⟩) ((r.append r').up (.fresh hp)))
      · simp only [if_neg c] at e
        exact nomatch e
    | _ => exact nomatch e
  | _ => exact nomatch e
theorem op_addD : OpR X (binaryOp .Add) (fun x y H Q => rI0 (fun i j => .int (i + j)) x y H Q ∨ rCatF X.K x y H Q) := op_add.or op_catF
theorem o_add : OpD X (fun x y H Q => rI0 (fun i j => .int (i + j)) x y H Q ∨ rCatF X.K x y H Q) gAdd := (opd_I0 fun _ _ _ _ _ => .int _).or o_catT
/-- -i -/
def gNeg : Sto → D → Option D := fun _ x => match x with
  | .int i => some (.int (-i))
  | _ => none
theorem o_neg : UnD X (rU fun i => .int (-i)) gNeg := by
  intro ξ μ H S x v z Q s rx e k
  cases rx with
  | int i =>
    cases e
    exact ⟨i, rfl, k _ μ H .refl s (.int _)⟩
  | _ => exact nomatch e
/-! ### == -/
mutual
def toPy : D → Option PyData
  | .non => some .none
  | .bl b => some (.bool b)
  | .int i => some (.int i)
  | .str x => some (.str x)
  | .tup ds => (toPys ds).map .tuple
  | .lst ds => (toPys ds).map .list
  | .cell _ => none
  | .glo _ => none
  | .exn _ _ => none
def toPys : List D → Option (List PyData)
  | [] => some []
  | d :: ds => (toPy d).bind fun p => (toPys ds).map fun ps => p :: ps
end
/-- a cell's list, its items plain -/
def toPyS (S : Sto) (d : D) : Option PyData := match d with
  | .cell n => match S[n]? with
    | some (.lst ds) => (toPys ds).map .list
    | _ => none
  | d => toPy d
section
variable {F : Fx} {μ : List Addr} {H : Hp} {S : Sto}
mutual
theorem dp_of : ∀ {v : V} (d : D) {p : PyData}, RD F μ H v d → toPy d = some p → Dp F.K H v p
  | _, .non, p, r, e => by cases r; cases e; exact .non
  | _, .bl b, p, r, e => by cases r; cases e; exact .bl b
  | _, .int i, p, r, e => by cases r; cases e; exact .int i
  | _, .str x, p, r, e => by cases r; cases e; exact .str x
  | _, .tup ds, p, r, e => by
    cases r with
    | tup f r =>
      unfold toPy at e
      cases q : toPys ds with
      | none => rw [q] at e; exact nomatch e
      | some ps =>
        rw [q] at e; cases e
        exact .tup f.sq (dps_of ds r q)
  | _, .lst ds, p, r, e => by
    cases r with
    | lst f r =>
      unfold toPy at e
      cases q : toPys ds with
      | none => rw [q] at e; exact nomatch e
      | some ps =>
        rw [q] at e; cases e
        exact .lst f.sq (dps_of ds r q)
  | _, .cell _, p, r, e => nomatch e
  | _, .glo _, p, r, e => nomatch e
  | _, .exn _ _, p, r, e => nomatch e
theorem dps_of : ∀ {vs : List V} (ds : List D) {ps : List PyData}, RDs F μ H vs ds → toPys ds = some ps → DpAll F.K H vs ps
  | _, [], ps, r, e => by cases r; cases e; exact .nil
  | _, d :: ds, ps, r, e => by
    cases r with
    | cons a b =>
      unfold toPys at e
      cases q : toPy d with
      | none => rw [q] at e; exact nomatch e
      | some p =>
        rw [q] at e
        cases q' : toPys ds with
        | none => rw [q'] at e; exact nomatch e
        | some ps' =>
          rw [q'] at e; cases e
          exact .cons (dp_of d a q) (dps_of ds b q')
end
theorem dpS_of {v : V} {d : D} {p : PyData} (s : RS F μ H S) (r : RD F μ H v d) (e : toPyS S d = some p) : Dp F.K H v p := by
  cases d with
  | cell n =>
    unfold toPyS at e
    cases r with
    | @cell a _ ea =>
      cases q : S[n]? with
      | none => simp only [q] at e; exact nomatch e
      | some c =>
        simp only [q] at e
        cases c with
        | lst ds =>
          cases q' : toPys ds with
          | none => simp only [q'] at e; exact nomatch e
          | some ps =>
            simp only [q'] at e; cases e
            obtain ⟨xs, h1, h2⟩ := s.at_ n a _ ea q
            exact .lst (SqL.of h1) (dps_of ds h2 q')
        | _ => exact nomatch e
  | _ => exact dp_of _ r e
end
/-- == of two values; none: no rule -/
def eqD (S : Sto) (x y : D) : Option Bool := match x, y with
  | .int i, .int j => some (i == j)
  | .str i, .str j => some (i == j)
  | x, y => match toPyS S x, toPyS S y with
    | some p, some q => if SeqAt.shaped p = true ∧ SeqAt.shaped q = true then some (PyData.eqv p q) else none
    | _, _ => none
theorem eqD_cases {S : Sto} {x y : D} {b : Bool} (h : eqD S x y = some b) : (∃ i j, x = .int i ∧ y = .int j ∧ b = (i == j)) ∨ (∃ i j, x = .str i ∧ y = .str j ∧ b = (i == j)) ∨
    ∃ p q, toPyS S x = some p ∧ toPyS S y = some q ∧ SeqAt.shaped p = true ∧ SeqAt.shaped q = true ∧ b = PyData.eqv p q := by
  unfold eqD at h
  split at h
  · cases h; exact .inl ⟨_, _, rfl, rfl, rfl⟩
  · cases h; exact .inr (.inl ⟨_, _, rfl, rfl, rfl⟩)
  · split at h
    · rename_i p q hp hq
      split at h
      · rename_i hs
        cases h
        exact .inr (.inr ⟨p, q, hp, hq, hs.1, hs.2, rfl⟩)
      · exact nomatch h
    · exact nomatch h
def gEq : Sto → D → D → Option D := fun S x y => (eqD S x y).map .bl
def gNe : Sto → D → D → Option D := fun S x y => (eqD S x y).map fun b => .bl (!b)
def rEqA (K : Frag) : R2 := fun x y H Q => rEq x y H Q ∨ rEqD K x y H Q
def rNeA (K : Frag) : R2 := fun x y H Q => rNe x y H Q ∨ rNeD K x y H Q
theorem op_eqA (hu : X.A.units + 64 < cLine) : OpR X (compareOp .Eq) (rEqA X.K) := op_eq.or (op_eqD hu)
theorem op_neA (hu : X.A.units + 64 < cLine) : OpR X (compareOp .NotEq) (rNeA X.K) := op_ne.or (op_neD hu)
theorem o_eq : OpD X (rEqA X.K) gEq := by
  intro ξ μ H S x y v u z Q s rx ry e k
  unfold gEq at e
  cases q : eqD S x y with
  | none => rw [q] at e; exact nomatch e
  | some b =>
    rw [q] at e; cases e
    rcases eqD_cases q with ⟨i, j, rfl, rfl, rfl⟩ | ⟨i, j, rfl, rfl, rfl⟩ | ⟨p, q', h1, h2, h3, h4, rfl⟩
    · cases rx; cases ry
      exact .inl ⟨rfl, by rw [dec_int]; exact k _ μ H .refl s (.bl _)⟩
    · cases rx; cases ry
      exact .inl ⟨rfl, by rw [dec_str]; exact k _ μ H .refl s (.bl _)⟩
    · exact .inr ⟨p, q', dpS_of s rx h1, dpS_of s ry h2, h3, h4, k _ μ H .refl s (.bl _)⟩
theorem o_ne : OpD X (rNeA X.K) gNe := by
  intro ξ μ H S x y v u z Q s rx ry e k
  unfold gNe at e
  cases q : eqD S x y with
  | none => rw [q] at e; exact nomatch e
  | some b =>
    rw [q] at e; cases e
    rcases eqD_cases q with ⟨i, j, rfl, rfl, rfl⟩ | ⟨i, j, rfl, rfl, rfl⟩ | ⟨p, q', h1, h2, h3, h4, rfl⟩
    · cases rx; cases ry
      exact .inl ⟨rfl, by rw [dec_int]; exact k _ μ H .refl s (.bl _)⟩
    · cases rx; cases ry
      exact .inl ⟨rfl, by rw [dec_str]; exact k _ μ H .refl s (.bl _)⟩
    · exact .inr ⟨p, q', dpS_of s rx h1, dpS_of s ry h2, h3, h4, k _ μ H .refl s (.bl _)⟩
/-! ### in -/
def flatD : D → Bool
  | .non => true
  | .bl _ => true
  | .int _ => true
  | .str _ => true
  | _ => false
def eqF : D → D → Bool
  | .non, .non => true
  | .bl a, .bl b => a == b
  | .bl a, .int b => (if a then 1 else 0) == b
  | .int a, .bl b => a == (if b then 1 else 0)
  | .int a, .int b => a == b
  | .str a, .str b => a == b
  | _, _ => false
theorem flat_of {F : Fx} {μ : List Addr} {H : Hp} {v : V} {d : D} (r : RD F μ H v d) : flatV v = flatD d := by cases r <;> rfl
theorem eqF_of {F : Fx} {μ : List Addr} {H : Hp} {v u : V} {d e : D} (r : RD F μ H v d) (r' : RD F μ H u e) : eqV v u = eqF d e := by cases r <;> cases r' <;> rfl
theorem flats_of {F : Fx} {μ : List Addr} {H : Hp} : ∀ {vs : List V} {ds : List D}, RDs F μ H vs ds → vs.all flatV = ds.all flatD
  | _, [], r => by cases r; rfl
  | _, d :: ds, r => by
    cases r with
    | cons a b => rw [List.all_cons, List.all_cons, flat_of a, flats_of b]
theorem anyF_of {F : Fx} {μ : List Addr} {H : Hp} {u : V} {e : D} (r' : RD F μ H u e) : ∀ {vs : List V} {ds : List D}, RDs F μ H vs ds → inV u vs = ds.any (eqF · e)
  | _, [], r => by cases r; rfl
  | _, d :: ds, r => by
    cases r with
    | cons a b =>
      have q := anyF_of r' b
      unfold inV at q ⊢
      rw [List.any_cons, List.any_cons, eqF_of a r', q]
def gIn (neg : Bool) : Sto → D → D → Option D := fun S x y => match seqOf S y with
  | some ds => if flatD x = true ∧ ds.all flatD = true then some (.bl (if neg then !ds.any (eqF · x) else ds.any (eqF · x))) else none
  | none => none
theorem o_in {neg : Bool} : OpD X (rIn X.K neg) (gIn neg) := by
  intro ξ μ H S x y v u z Q s rx ry e k
  unfold gIn at e
  cases q : seqOf S y with
  | none => rw [q] at e; exact nomatch e
  | some ds =>
    rw [q] at e
    by_cases c : flatD x = true ∧ ds.all flatD = true
    · simp only [if_pos c] at e
      cases e
      obtain ⟨a, xs, rfl, h1, h2⟩ := RD.seqS s ry q
      refine ⟨a, xs, rfl, h1, by rw [flat_of rx]; exact c.1, by rw [flats_of h2]; exact c.2, ?_⟩
      rw [anyF_of rx h2]
      exact k _ μ H .refl s (.bl _)
    · simp only [if_neg c] at e
      exact nomatch e
/-! ### is None -/
def isNon : D → Bool
  | .non => true
  | _ => false
def gIsN (neg : Bool) : Sto → D → D → Option D := fun _ x y => match y with
  | .non => some (.bl (if neg then !isNon x else isNon x))
  | _ => none
theorem isNon_of {F : Fx} {μ : List Addr} {H : Hp} {v : V} {d : D} (r : RD F μ H v d) : decide (v = .non) = isNon d := by cases r <;> rfl
theorem o_isN : OpD X (fun x y H Q => y = .non ∧ Q (.bl (decide (x = .non))) H) (gIsN false) := by
  intro ξ μ H S x y v u z Q s rx ry e k
  cases ry with
  | non =>
    cases e
    exact ⟨rfl, by rw [isNon_of rx]; exact k _ μ H .refl s (.bl _)⟩
  | _ => exact nomatch e
end
/-! ### chains -/
def mChain (g g' : Sto → D → D → Option D) (a b c : ME) : ME := fun ρ S => (a ρ S).bind fun x S1 => (b ρ S1).bind fun y S2 => match g S2 x y with
  | some (.bl true) => (c ρ S2).bind fun z S3 => match g' S3 y z with
    | some w => .ok w S3
    | none => .bad
  | some (.bl false) => .ok (.bl false) S2
  | _ => .bad
section
variable {X : Cx} {W : WX} {e a b c : Expr} {es : List Expr} {ma mb mc m : ME} {mr : MA} {pos : Pos}
theorem chain2 {r r' : R2} {g g' : Sto → D → D → Option D} {ta tb tc : TE} {ξ μ : List Addr} {σ : St} {H : Hp} {ρ : Rho} {S : Sto} {Q : VK} (hd : OpD X r g) (hd' : OpD X r' g')
    (ka : ∀ ξ μ σ H ρ S Q, RG (fx X ξ) μ H σ ρ → RS (fx X ξ) μ H S → WE' (fx X ξ) (ma ρ S) Q (fun cls dd H' => W cls dd σ H') μ H → ta σ H Q)
    (kb : ∀ ξ μ σ H ρ S Q, RG (fx X ξ) μ H σ ρ → RS (fx X ξ) μ H S → WE' (fx X ξ) (mb ρ S) Q (fun cls dd H' => W cls dd σ H') μ H → tb σ H Q)
    (kc : ∀ ξ μ σ H ρ S Q, RG (fx X ξ) μ H σ ρ → RS (fx X ξ) μ H S → WE' (fx X ξ) (mc ρ S) Q (fun cls dd H' => W cls dd σ H') μ H → tc σ H Q)
    (g0 : RG (fx X ξ) μ H σ ρ) (s : RS (fx X ξ) μ H S) (h : WE' (fx X ξ) (mChain g g' ma mb mc ρ S) Q (fun cls dd H' => W cls dd σ H') μ H) : tChain r r' ta tb tc σ H Q := by
  refine ka ξ μ σ H ρ S _ g0 s (WR.bind h fun x S1 v μ1 H1 u1 s1 r1 h1 => ?_)
  refine kb ξ μ1 σ H1 ρ S1 _ (g0.up u1) s1 (WR.bind h1 fun y S2 v2 μ2 H2 u2 s2 r2 h2 => ?_)
  cases e : g S2 x y with
  | none => rw [e] at h2; exact h2.elim
  | some z =>
    rw [e] at h2
    refine hd ξ μ2 H2 S2 x y v v2 z _ s2 (r1.up u2) r2 e fun w μ' H' u' s' r' => ?_
    cases r' with
    | bl k =>
      refine ⟨k, rfl, ?_⟩
      cases k with
      | false => exact h2 _ μ' H' u' s' (.bl false)
      | true =>
        refine kc ξ μ' σ H' ρ S2 _ (g0.up (u1.trans (u2.trans u'))) s' (WR.bind (WR.shift u' h2) fun z S3 v3 μ3 H3 u3 s3 r3 h3 => ?_)
        cases e3 : g' S3 y z with
        | none => rw [e3] at h3; exact h3.elim
        | some w =>
          rw [e3] at h3
          exact hd' ξ μ3 H3 S3 y z v2 v3 w Q s3 (r2.up (u'.trans u3)) r3 e3 h3
    | _ => exact h2.elim
theorem d_chain {op op' : CmpOp} {r r' : R2} {g g' : Sto → D → D → Option D} (ho : OpR X (compareOp op) r) (ho' : OpR X (compareOp op') r') (hd : OpD X r g) (hd' : OpD X r' g') (ha : DE X W a ma) (hb : DE X W b mb) (hc : DE X W c mc)
    (hm : lastMarks [op, op'] [b, c] = false := by with_unfolding_all rfl) : DE X W (.Compare a [op, op'] [b, c] pos) (mChain g g' ma mb mc) := by
  obtain ⟨ta, pa, ka⟩ := ha
  obtain ⟨tb, pb, kb⟩ := hb
  obtain ⟨tc, pc, kc⟩ := hc
  exact ⟨_, pe_chain ho ho' pa pb pc hm, fun ξ μ σ H ρ S Q g0 s h => chain2 hd hd' ka kb kc g0 s h⟩
theorem dt_chain {op op' : CmpOp} {r r' : R2} {g g' : Sto → D → D → Option D} (ho : OpR X (compareOp op) r) (ho' : OpR X (compareOp op') r') (hd : OpD X r g) (hd' : OpD X r' g') (ha : DE X W a ma) (hb : DE X W b mb) (hc : DE X W c mc)
    (hm : lastMarks [op, op'] [b, c] = false := by with_unfolding_all rfl) : DT X W (.Compare a [op, op'] [b, c] pos) (mChain g g' ma mb mc) := by
  obtain ⟨ta, pa, ka⟩ := ha
  obtain ⟨tb, pb, kb⟩ := hb
  obtain ⟨tc, pc, kc⟩ := hc
  exact ⟨_, pt_chain ho ho' pa pb pc hm, fun ξ μ σ H ρ S Q g0 s h => chain2 hd hd' ka kb kc g0 s (WT'.val h)⟩
/-! ### subscripts -/
def gIx : Sto → D → D → Option D := fun S x i => match i with
  | .int k => match x with
    | .str z => if z.length ≤ 16777216 then (atI z.cps.toList k).map fun c => .str ⟨#[c]⟩ else none
    | x => (seqOf S x).bind fun ds => atI ds k
  | _ => none
theorem o_ix : OpD X (rIx X.K) gIx := by
  intro ξ μ H S x y v u z Q s rx ry e k
  unfold gIx at e
  cases ry with
  | int i =>
    have main : ∀ ds, seqOf S x = some ds → atI ds i = some z → rIx X.K v (.int i) H Q := fun ds h1 h2 => by
      obtain ⟨a, xs, rfl, h3, h4⟩ := RD.seqS s rx h1
      obtain ⟨w, h5, h6⟩ := h4.atI h2
      rcases h3 with h3 | h3
      · exact .inl ⟨a, xs, i, w, rfl, rfl, h3, h5, k w μ H .refl s h6⟩
      · exact .inr (.inl ⟨a, xs, i, w, rfl, rfl, h3, h5, k w μ H .refl s h6⟩)
    cases rx with
    | str z =>
      simp only at e
      by_cases c : z.length ≤ 16777216
      · rw [if_pos c] at e
        cases q : atI z.cps.toList i with
        | none => rw [q] at e; exact nomatch e
        | some w =>
          rw [q] at e; cases e
          exact .inr (.inr ⟨z, i, w, rfl, rfl, by rw [sizeLine_eq]; exact c, q, k _ μ H .refl s (.str _)⟩)
      · rw [if_neg c] at e; exact nomatch e
    | tup f r =>
      exact main _ rfl e
    | @lst _ _ ds f r => exact main ds rfl e
    | @cell a n ea =>
      simp only at e
      cases q : seqOf S (.cell n) with
      | none => rw [q] at e; exact nomatch e
      | some ds => rw [q] at e; exact main ds q e
    | _ => exact nomatch e
  | _ => exact nomatch e
theorem d_ix {r : R2} {g : Sto → D → D → Option D} (hr : IxR X r) (hd : OpD X r g) (ha : DE X W a ma) (hb : DE X W b mb) (hs : PlainIx b := by exact fun _ _ => rfl) : DE X W (.Subscript a b pos) (mOp g ma mb) := by
  obtain ⟨ta, pa, ka⟩ := ha
  obtain ⟨tb, pb, kb⟩ := hb
  exact ⟨_, pe_ix hr pa pb hs, fun ξ μ σ H ρ S Q g0 s h => op2 (ξ := ξ) hd ka kb g0 s h⟩
/-- slices -/
abbrev MO := Rho → Sto → Res (Option Int)
structure DO (X : Cx) (W : WX) (e : Option Expr) (m : MO) : Prop where
  ex : ∃ te, PO X e te ∧ ∀ ξ μ σ H ρ S Q, RG (fx X ξ) μ H σ ρ → RS (fx X ξ) μ H S → WR (fx X ξ) (fun _ _ (o : Option Int) o' => o = o') (m ρ S) Q (fun cls dd H' => W cls dd σ H') μ H → te σ H Q
def mPart (m : ME) : MO := fun ρ S => (m ρ S).bind fun x S1 => match x with
  | .int i => .ok (some i) S1
  | _ => .bad
def mNoPart : MO := fun _ S => .ok none S
theorem do_none : DO X W none mNoPart := ⟨_, po_none, fun ξ μ σ H ρ S Q g s h => h none μ H .refl s rfl⟩
theorem do_some (h : DE X W e m) : DO X W (some e) (mPart m) := by
  obtain ⟨te, p, k⟩ := h
  refine ⟨_, po_some p, fun ξ μ σ H ρ S Q g s h => k ξ μ σ H ρ S _ g s (WR.bind h fun x S1 v μ1 H1 u1 s1 r1 h1 => ?_)⟩
  cases r1 with
  | int i => exact ⟨i, rfl, h1 _ μ1 H1 .refl s1 rfl⟩
  | _ => exact h1.elim
def cutD (ds : List D) (lo hi : Option Int) : List D := (ds.drop (HT.sIx ds.length 0 lo)).take (HT.sIx ds.length ds.length hi - HT.sIx ds.length 0 lo)
theorem cut_of {F : Fx} {μ : List Addr} {H : Hp} {vs : List V} {ds : List D} {lo hi : Option Int} (r : RDs F μ H vs ds) : RDs F μ H (cutV vs lo hi) (cutD ds lo hi) := by
  unfold cutV cutD
  rw [r.length]
  exact (r.drop _).take _
def mSlT (a : ME) (lo hi : MO) : ME := fun ρ S => (a ρ S).bind fun x S1 => (lo ρ S1).bind fun l S2 => (hi ρ S2).bind fun h S3 => match x with
  | .tup ds => .ok (.tup (cutD ds l h)) S3
  | _ => .bad
def mSlL (a : ME) (lo hi : MO) : MA := fun ρ S => (a ρ S).bind fun x S1 => (lo ρ S1).bind fun l S2 => (hi ρ S2).bind fun h S3 => match lstOf S3 x with
  | some ds => .ok (cutD ds l h) S3
  | none => .bad
variable {lo hi : Option Expr} {ml mh : MO} {p2 : Pos}
theorem cut_whole {ds : List D} {lo hi : Option Int} (h : HT.sIx ds.length 0 lo = 0 ∧ HT.sIx ds.length ds.length hi = ds.length) : cutD ds lo hi = ds := by
  unfold cutD
  rw [h.1, h.2, List.drop_zero, Nat.sub_zero, List.take_length]
theorem d_slT (ha : DE X W a ma) (hl : DO X W lo ml) (hh : DO X W hi mh) : DE X W (.Subscript a (.Slice lo hi none p2) pos) (mSlT ma ml mh) := by
  obtain ⟨ta, pa, ka⟩ := ha
  obtain ⟨tl, pl, kl⟩ := hl
  obtain ⟨th, ph, kh⟩ := hh
  refine ⟨_, pe_slice sl_tupF pa pl ph, fun ξ μ σ H ρ S Q g s h => ka ξ μ σ H ρ S _ g s (WR.bind h fun x S1 v μ1 H1 u1 s1 r1 h1 => ?_)⟩
  refine kl ξ μ1 σ H1 ρ S1 _ (g.up u1) s1 (WR.bind h1 fun l S2 l' μ2 H2 u2 s2 r2 h2 => ?_)
  subst r2
  refine kh ξ μ2 σ H2 ρ S2 _ (g.up (u1.trans u2)) s2 (WR.bind h2 fun u S3 u' μ3 H3 u3 s3 r3 h3 => ?_)
  subst r3
  have rx := r1.up (u2.trans u3)
  cases rx with
  | @tup a xs ds f r =>
    refine ⟨a, xs, rfl, f.sq, fun hw => ?_, fun _ p o hp ho => ?_⟩
    · rw [r.length] at hw
      have e := cut_whole hw
      exact h3 _ μ3 H3 .refl s3 (by rw [e]; exact .tup f r)
    · exact h3 _ μ3 _ (.fresh hp) (s3.fresh hp) (.tup (.inl ⟨.new ho, s3.out hp, s3.outX hp⟩) ((cut_of r).up (.fresh hp)))
  | _ => exact h3.elim
theorem dl_slL (ha : DE X W a ma) (hl : DO X W lo ml) (hh : DO X W hi mh) : DL X W (.Subscript a (.Slice lo hi none p2) pos) (mSlL ma ml mh) := by
  obtain ⟨ta, pa, ka⟩ := ha
  obtain ⟨tl, pl, kl⟩ := hl
  obtain ⟨th, ph, kh⟩ := hh
  refine ⟨_, pe_slice sl_list pa pl ph, fun ξ μ σ H ρ S Q g s h => ka ξ μ σ H ρ S _ g s (WL'.bind h fun x S1 v μ1 H1 u1 s1 r1 h1 => ?_)⟩
  refine kl ξ μ1 σ H1 ρ S1 _ (g.up u1) s1 (WL'.bind h1 fun l S2 l' μ2 H2 u2 s2 r2 h2 => ?_)
  subst r2
  refine kh ξ μ2 σ H2 ρ S2 _ (g.up (u1.trans u2)) s2 (WL'.bind h2 fun u S3 u' μ3 H3 u3 s3 r3 h3 => ?_)
  subst r3
  have rx := r1.up (u2.trans u3)
  cases e : lstOf S3 x with
  | none => rw [e] at h3; exact h3.elim
  | some ds =>
    rw [e] at h3
    obtain ⟨a, xs, rfl, h4, h5⟩ := RD.lstS s3 rx e
    exact ⟨a, xs, rfl, h4, fun p hp => h3 p _ μ3 _ (.fresh hp) hp (s3.holds hp) ((cut_of h5).mv (.holds hp)) upd_same⟩
end
end Dm
-- text DmIsV
/-! isinstance of an exception that was made or raised once -/
namespace Dm
open PySem L2 PySem.Spec PyProof.Rows
open PySem.W (Frag)
/-! ### isinstance(e, X) -/
section
variable {prog : Program} {w : World} {A : Around} {E : Value → Shared → Prop} {s : Shared} {K : Frag} {x D : Addr} {ox : Obj} {od : Option Obj}
open PySem.W in
theorem findObj_dataO {C : Addr} {name : Str} {a g : Value} (hc : (clsIn K C).isSome = true) (ha : findIn K (.ref C) name = some (some a)) (hg : specialIn K a "__get__" = some (some g)) (ht : takesIn K a = some true) : findObj K C od name = some (.bind g a) := by
  obtain ⟨cd, hc⟩ := Option.isSome_iff_exists.mp hc
  unfold findObj
  rw [hc, Option.bind_some, ha, Option.bind_some]
  simp [hg, ht]
open PySem.W PySem.Calls in
theorem kin_classO {Q : Option Value → Shared → Prop} (hga : findIn K (.ref D) "__getattribute__" = some (some (.builtin "BaseException.__getattribute__"))) (hgt : findIn K (.ref D) "__getattr__" = some none) (hsub : subIn K (.ref D) (.type "BaseException") = some true)
    (hdct : hasDictIn K D = true) (ha : findIn K (.ref D) "__class__" = some (some (.builtin "object.__class__")))
    (hn : specialIn K (.builtin "object.__class__") "__get__" = some (some (.builtin "getset_descriptor.__get__"))) (htk : takesIn K (.builtin "object.__class__") = some true) (hm : mroIn K D (.type "object") = some true)
    (X : K.In s.heap) (I : InstAt s.heap x ox D od) (h : Q (some (.ref D)) { s with toks := s.toks + 1 }) : wpAny (model prog w) A (getAttr? (.ref x) "__class__") Q E s := by
  have hf : findObj K D od "__class__" = some (.bind (.builtin "getset_descriptor.__get__") (.builtin "object.__class__")) := findObj_dataO (by obtain ⟨cd, hc, _⟩ := any_some hdct; rw [hc]; rfl) ha hn htk
  obtain ⟨hp, g, d, t, os⟩ := s
  have L0 := I.type (M := model prog w)
  have L1 := looks_findIn (M := model prog w) X hga
  have L2 := looks_findIn (M := model prog w) X hgt
  have L3 := looks_find (M := model prog w) X I hf
  have sub : Looks (model prog w) hp (isInstance (.ref x) (.type "BaseException")) true := L0.andThen (looks_subIn X hsub)
  have hx0 : (false && onTheHeap (Value.builtin "BaseException.__getattribute__")) = false := rfl
  have hx2 : (Value.builtin "BaseException.__getattribute__" == Value.builtin "object.__getattribute__") = false := by decide +kernel
  have hx1 : (onTheHeap (Value.ref D) && Value.builtin "BaseException.__getattribute__" == Value.builtin "object.__getattribute__") = false := by rw [hx2]; rfl
  unfold getAttr? getAttrBy? getAttrBy
  refine wpAny_bind (wpAny_mkText (wpAny_bind (wpAny_attempt (wpAny_holding (wpAny_bind (L0.at (wpAny_bind (L1.at ?_))))))))
  show wpAny _ _ (if (onTheHeap (Value.ref D) && Value.builtin "BaseException.__getattribute__" == Value.builtin "object.__getattribute__") = true then _ else _) _ _ _
  rw [hx1, if_neg Bool.false_ne_true]
  unfold getAttrByItsOwn hookBefore
  refine wpAny_bind ?_
  rw [if_pos (show onTheHeap (Value.ref D) = true from rfl)]
  refine L2.at ?_
  refine wpAny_bind (wpAny_attempt (wpAny_holding ?_))
  unfold callGetattribute
  rw [hx0, if_neg Bool.false_ne_true]
  unfold boundAndCalled
  rw [PySem.F.excAttr_ValueError.ga.bind (.ref x)]
  refine wpAny_bind (wpAny_pure ?_)
  show wpAny _ _ (call (.builtin "BaseException.__getattribute__") [.ref x, .str "__class__" t]) _ _ _
  refine wpAny_call (codeAny_call_builtin PySem.F.excAttr_ValueError.ga.plain PySem.F.entry_bexc_ga ?_)
  refine @check_slot (model prog w) _ _ ⟨hp, g, d, t + 1, os⟩ "BaseException.__getattribute__" "BaseException" "__getattribute__" (.ref x) [.str "__class__" t] [] _ (by decide +kernel) (by decide +kernel) sub (PySem.F.args_bexc_ga (.ref x) (.str "__class__" t)) ?_
  unfold Builtin.«object.__getattribute__»
  refine wpAny_bind (wpAny_of_eq (a := ((Value.ref x : Value), [Value.str "__class__" t])) (by first | rfl | (simp only [slotArgs]; rfl)) ?_)
  refine wpAny_bind (wpAny_pure (wpAny_bind (L0.at (wpAny_bind (L3.at ?_)))))
  show wpAny _ _ (holding [Value.builtin "object.__class__"] (call (.builtin "getset_descriptor.__get__") [.builtin "object.__class__", .ref x, .ref D]) >>= ret) _ _ _
  refine wpAny_bind (wpAny_holding (wpAny_call (class_get (s := ⟨hp, g, d, t + 1, os⟩) (ox := ox) (od := od) X I hm ?_)))
  refine wpAny_pure ?_
  show wpAny _ _ (handedOut (.ref D)) _ _ _
  rw [handedOut_of (v := .ref D) rfl]
  first
    | exact wpAny_pure (wpAny_pure h)
    | exact wpAny_pure h
    | exact wpAny_pure (wpAny_bind (wpAny_pure (wpAny_pure h)))
open PySem.W in
theorem kitx_excO (C : ExcC K D) : KitX K (.ref x) (.ref D) (fun h => InstAt h x ox D od) where
  ty := fun _ _ _ I => I.type
  it := fun _ _ X _ => by
    obtain ⟨cdD, hcD, _⟩ := any_some C.hd
    unfold clsIn at hcD
    split at hcD
    · rename_i c' d' cd' sl' ho
      intro A' Q' E' s' k q
      unfold isType loadHead
      exact wpAny_bind (wpAny_loadPart (k _ _ (X _ _ ho)) (wpAny_pure q))
    · cases hcD
  ne := (handS_kitx_exc (x := x) (ox := ox) C.hg C.hk C.hs C.hd C.ha C.hn C.ht C.hm).ne
  ca := fun X I k => kin_classO C.hg C.hk C.hs C.hd C.ha C.hn C.ht C.hm X I k
end
/-- isinstance(e, c), e an exception that was raised once -/
def rIsV (K : Frag) : List V → Hp → VK → Prop := fun xs H Q => ∃ (a D : Addr) (dd : Option Addr) (c : V) (cv : Value) (b : Bool), xs = [.ref a, c] ∧ H a = some (ExV (.ref D) dd a) ∧ ExcC K D ∧ (dd = none ∨ ∃ d fs, dd = some d ∧ H d = some (.xd fs)) ∧
  (∀ u, RelV c u → u = cv) ∧ PySem.W.kitOne K (.ref D) cv = some b ∧ Q (.bl b) H
theorem call_isV {X : Cx} : CallR X (.builtin "isinstance") (rIsV X.K) := by
  intro pins s σ H xs us Q I r h
  obtain ⟨a, D, dd, c, cv, b, rfl, ea, C, ed, hcv, e, q⟩ := h
  cases r with
  | cons rx rr =>
    cases rr with
    | cons rt rr =>
      cases rr
      cases rx
      have ec := hcv _ rt
      subst ec
      have xa : ObjOk X.prog X.w H s.heap a (.ext fun h => ∃ (oe : Obj) (vs : Array Value), h.get? a = some oe ∧ Zc (.ref D) dd oe ∧ oe.data = .fields vs) := I.hok a _ ea
      obtain ⟨oe, vs, hget, hz, hv⟩ := xa.1
      have J : ∃ od, PySem.W.InstAt s.heap a oe D od := by
        rcases ed with rfl | ⟨d, fs, rfl, ed⟩
        · exact ⟨none, hget, hz.1, by unfold PySem.W.notCls; rw [hv] <;> rfl, by rw [hz.2]; trivial⟩
        · have hx : ObjOk X.prog X.w H s.heap d (.xd fs) := I.hok d _ ed
          obtain ⟨mA, hns, hr⟩ := hx
          obtain ⟨od, ho, hl⟩ := lookIn_ns hns
          exact ⟨some od, hget, hz.1, by unfold PySem.W.notCls; rw [hv] <;> rfl, by rw [hz.2]; exact ho⟩
      obtain ⟨od, J⟩ := J
      exact PySem.W.kia_one (kitx_excO C) I.kIn J e (fun z => nomatch z) fun tk => ⟨.bl b, H, I.kept (t' := tk) fun _ _ z => z, rfl, q⟩
theorem call_or {X : Cx} {f : Value} {r1 r2 : List V → Hp → VK → Prop} (h1 : CallR X f r1) (h2 : CallR X f r2) : CallR X f (fun xs H Q => r1 xs H Q ∨ r2 xs H Q) :=
  fun pins s σ H xs us Q I r h => h.elim (h1 pins s σ H xs us Q I r) (h2 pins s σ H xs us Q I r)
end Dm
-- text DmStm
namespace Dm
open PySem L2
open PySem.W (Frag)
/-! ### isinstance -/
inductive Tn where | non | bl | int | str | tup | lst | dic | exn
  deriving DecidableEq
def tnName : Tn → String
  | .non => "NoneType" | .bl => "bool" | .int => "int" | .str => "str" | .tup => "tuple" | .lst => "list" | .dic => "dict" | .exn => "BaseException"
def isTn : Tn → Tn → Bool
  | .bl, .int => true
  | a, b => decide (a = b)
theorem kit_tn (a b : Tn) (h : b ≠ .non) (h2 : b ≠ .exn) (h3 : a ≠ .exn) : kitB (tnName a) (tnName b) = some (isTn a b) := by
  cases b <;> first | exact absurd rfl h | exact absurd rfl h2 | (cases a <;> first | exact absurd rfl h3 | decide +kernel)
def tyOf (S : Sto) : D → Option Tn
  | .non => some .non
  | .bl _ => some .bl
  | .int _ => some .int
  | .str _ => some .str
  | .tup _ => some .tup
  | .lst _ => some .lst
  | .cell n => match S[n]? with
    | some (.lst _) => some .lst
    | some (.dic _) => some .dic
    | some (.obj _ _) => some .exn
    | _ => none
  | .glo _ => none
  | .exn _ _ => some .exn
theorem tyX_of {F : Fx} {μ : List Addr} {H : Hp} {S : Sto} {v : V} {d : D} {t : Tn} (s : RS F μ H S) (r : RD F μ H v d) (e : tyOf S d = some t) (ht : t ≠ .exn) : TyX F.K H v (.type (tnName t)) := by
  cases r with
  | non => cases e; exact .base .non
  | bl b => cases e; exact .base (.bl b)
  | int i => cases e; exact .base (.int i)
  | str x => cases e; exact .base (.str x)
  | tup f r =>
    cases e
    rcases f with ⟨⟨o, _, h⟩, _⟩ | ⟨o, its, n, h1, h2, _⟩
    · exact .fTuple h
    · exact .kTuple h1 h2
  | lst f r =>
    cases e
    rcases f with ⟨h | ⟨o, h⟩, _⟩ | ⟨o, its, n, h1, h2, _⟩
    · exact .base (.lst h)
    · exact .base (.frz h)
    · exact .kList h1 h2
  | @cell a n ea =>
    simp only [tyOf] at e
    cases q : S[n]? with
    | none => rw [q] at e; exact nomatch e
    | some c =>
      rw [q] at e
      cases c with
      | lst ds =>
        cases e
        obtain ⟨xs, h1, _⟩ := s.at_ n a _ ea q
        exact .base (.lst h1)
      | dic kvs =>
        cases e
        obtain ⟨xs, h1, _⟩ := s.at_ n a _ ea q
        exact .base (.dK h1)
      | obj c fs => cases e; exact absurd rfl ht
      | _ => exact nomatch e
  | glo _ => exact nomatch e
  | exn f => cases e; exact absurd rfl ht
theorem tyOf_exn {S : Sto} {d : D} (e : tyOf S d = some .exn) : (∃ c fs, d = .exn c fs) ∨ ∃ n c fs, d = .cell n ∧ S[n]? = some (.obj c fs) := by
  cases d with
  | exn c fs => exact .inl ⟨c, fs, rfl⟩
  | cell n =>
    simp only [tyOf] at e
    cases q : S[n]? with
    | none => rw [q] at e; exact nomatch e
    | some c =>
      rw [q] at e
      cases c with
      | obj c fs => exact .inr ⟨n, c, fs, rfl, q⟩
      | _ => cases e
  | _ => cases e
/-- an instance of an own class with a state: its type -/
theorem tyX_obj {F : Fx} {μ : List Addr} {H : Hp} {S : Sto} {v : V} {n : Nat} {c : Str} {fs : List (Str × D)} (s : RS F μ H S) (r : RD F μ H v (.cell n)) (e : S[n]? = some (.obj c fs)) : ∃ C : Addr, TyX F.K H v (.ref C) ∧ PlO F.K C := by
  cases r with
  | cell ea =>
    obtain ⟨C, dx, vfs, h1, h2, h3, p⟩ := s.at_ n _ _ ea e
    exact ⟨C, .base (.ins h1 p.cl p.ha p.hn p.tk p.hm), p⟩
theorem tn_plain {T : Tn} (h : T ≠ .non) (h2 : T ≠ .exn) : tnName T ∈ ["tuple", "list", "int", "str", "bool", "dict"] ∧ isTn .exn T = false := by
  cases T <;> first | exact absurd rfl h | exact absurd rfl h2 | exact ⟨by decide, rfl⟩
def mIsi (T : Tn) (m : ME) : ME := mUn (fun S d => (tyOf S d).map fun t => .bl (isTn t T)) m
def mIsiT (Ts : List Tn) (m : ME) : ME := mUn (fun S d => (tyOf S d).map fun t => .bl (Ts.any (isTn t ·))) m
section
variable {X : Cx} {W : WX} {e a b c : Expr} {es : List Expr} {ma mb mc m : ME} {mr : MA} {pos p p1 p2 p3 : Pos}
theorem d_isi (T : Tn) {x : Str} (h : DE X W e m) (hm : X.mg "isinstance" = none) (hx : X.mg x = none) (hv : bootBuiltins x = some (.type (tnName T)) := by decide +kernel) (hT : T ≠ .non := by decide) (hT2 : T ≠ .exn := by decide) (hg : Gl X "isinstance" := by rfl) (hgx : Gl X x := by rfl)
    (hn : x ≠ "__name__" := by decide) (hd : (x == ("__debug__" : Str)) = false := by decide)
    (he : starEach [e, .Name x p1] X.env = (false, eval e X.env) :: starEach [.Name x p1] X.env := by rfl) (hpl : (backTo pos (starEach [.Name x p1] X.env)).any (·.1) = false := by rfl)
    (hs2 : starEach [.Name x p1] X.env = (false, eval (.Name x p1) X.env) :: starEach [] X.env := by rfl) :
    DE X W (.Call (.Name "isinstance" p) [e, .Name x p1] [] pos) (mIsi T m) := by
  obtain ⟨te, pe, k⟩ := h
  refine ⟨_, pe_callB (call_or call_isi call_isV) hg hm (by decide +kernel) (pa_cons pe (pa_cons (pe_bltn (v := .ty (tnName T)) hgx hx hv rfl hn hd) pa_nil hs2) he) (he := he) (hpl := hpl), fun ξ μ σ H ρ S Q g s h => k ξ μ σ H ρ S _ g s (WR.bind h fun x S1 v μ1 H1 u1 s1 r1 h1 => ?_)⟩
  cases q : tyOf S1 x with
  | none => simp only [q] at h1; exact h1.elim
  | some t =>
    simp only [q] at h1
    by_cases hx : t = .exn
    · subst hx
      obtain ⟨p1, p2⟩ := tn_plain hT hT2
      rcases tyOf_exn q with ⟨c, ns, rfl⟩ | ⟨n, c, fs, rfl, en⟩
      rotate_left
      · obtain ⟨C, t, p⟩ := tyX_obj s1 r1 en
        refine .inl ⟨v, .ty (tnName T), _, _, _, rfl, .ty _, t, p.no _ p1, ?_⟩
        have h1 := h1 _ μ1 H1 .refl s1 (.bl _)
        rw [p2] at h1
        exact h1
      cases r1 with
      | @exn a _ _ z =>
        obtain ⟨cls, dd, ⟨z1, D, rfl, z5, z6⟩, ⟨z2, z3, z4⟩, z7⟩ := z
        refine .inr ⟨a, D, dd, .ty (tnName T), .type (tnName T), _, rfl, z2, z5, ?_, fun u hu => hu, z6 _ p1, ?_⟩
        · rcases z7 with ⟨_, rfl⟩ | ⟨d, fs, q1, q2, _⟩
          · exact .inl rfl
          · exact .inr ⟨d, _, q1, q2⟩
        · have h1 := h1 _ μ1 H1 .refl s1 (.bl _)
          rw [p2] at h1
          exact h1
    · exact .inl ⟨v, .ty (tnName T), _, _, _, rfl, .ty _, tyX_of s1 r1 q hx, kit_ty (kit_tn t T hT hT2 hx), h1 _ μ1 H1 .refl s1 (.bl _)⟩
/-! ### built-in functions and types called -/
def CallD (X : Cx) (r : List V → Hp → VK → Prop) (g : Sto → List D → Option D) : Prop :=
  ∀ ξ μ H S ds vs z Q, RS (fx X ξ) μ H S → RDs (fx X ξ) μ H vs ds → g S ds = some z → (∀ w μ' H', Up μ H μ' H' → RS (fx X ξ) μ' H' S → RD (fx X ξ) μ' H' w z → Q w H') → r vs H Q
/-- .. that give a fresh list -/
def CallDL (X : Cx) (r : List V → Hp → VK → Prop) (g : Sto → List D → Option (List D)) : Prop :=
  ∀ ξ μ H S ds vs zs Q, RS (fx X ξ) μ H S → RDs (fx X ξ) μ H vs ds → g S ds = some zs → (∀ p xs μ' H', Up μ H μ' H' → H p = none → RS ((fx X ξ).hold p) μ' H' S → RDs ((fx X ξ).hold p) μ' H' xs zs → H' p = some (.lst xs) → Q (.ref p) H') → r vs H Q
def mCallB (g : Sto → List D → Option D) (a : MA) : ME := fun ρ S => (a ρ S).bind fun xs S1 => match g S1 xs with
  | some z => .ok z S1
  | none => .bad
def mCallBL (g : Sto → List D → Option (List D)) (a : MA) : MA := fun ρ S => (a ρ S).bind fun xs S1 => match g S1 xs with
  | some z => .ok z S1
  | none => .bad
theorem d_callB {id : String} {x : Str} {r : List V → Hp → VK → Prop} {g : Sto → List D → Option D} (hc : CallR X (.builtin id) r) (hd : CallD X r g) (hm : X.mg x = none) (ha : DA X W (e :: es) mr) (hv : bootBuiltins x = some (.builtin id) := by decide +kernel) (hg : Gl X x := by rfl)
    (hn : x ≠ "__name__" := by decide) (hdb : (x == ("__debug__" : Str)) = false := by decide)
    (he : starEach (e :: es) X.env = (false, eval e X.env) :: starEach es X.env := by rfl) (hpl : (backTo pos (starEach es X.env)).any (·.1) = false := by rfl) : DE X W (.Call (.Name x p) (e :: es) [] pos) (mCallB g mr) := by
  obtain ⟨ta, pa, ka⟩ := ha
  refine ⟨_, pe_callB hc hg hm hv pa hn hdb he hpl, fun ξ μ σ H ρ S Q g0 s h => ka ξ μ σ H ρ S _ g0 s (WR.bind h fun xs S1 vs μ1 H1 u1 s1 r1 h1 => ?_)⟩
  cases q : g S1 xs with
  | none => rw [q] at h1; exact h1.elim
  | some z =>
    rw [q] at h1
    exact hd ξ μ1 H1 S1 xs vs z Q s1 r1 q h1
theorem d_callTy {T : String} {x : Str} {r : List V → Hp → VK → Prop} {g : Sto → List D → Option D} (hc : CallR X (.type T) r) (hd : CallD X r g) (hm : X.mg x = none) (ha : DA X W (e :: es) mr) (hv : bootBuiltins x = some (.type T) := by decide +kernel) (hg : Gl X x := by rfl)
    (hn : x ≠ "__name__" := by decide) (hdb : (x == ("__debug__" : Str)) = false := by decide)
    (he : starEach (e :: es) X.env = (false, eval e X.env) :: starEach es X.env := by rfl) (hpl : (backTo pos (starEach es X.env)).any (·.1) = false := by rfl) : DE X W (.Call (.Name x p) (e :: es) [] pos) (mCallB g mr) := by
  obtain ⟨ta, pa, ka⟩ := ha
  refine ⟨_, pe_callTy hc hg hm hv pa hn hdb he hpl, fun ξ μ σ H ρ S Q g0 s h => ka ξ μ σ H ρ S _ g0 s (WR.bind h fun xs S1 vs μ1 H1 u1 s1 r1 h1 => ?_)⟩
  cases q : g S1 xs with
  | none => rw [q] at h1; exact h1.elim
  | some z =>
    rw [q] at h1
    exact hd ξ μ1 H1 S1 xs vs z Q s1 r1 q h1
theorem dl_callTy {T : String} {x : Str} {r : List V → Hp → VK → Prop} {g : Sto → List D → Option (List D)} (hc : CallR X (.type T) r) (hd : CallDL X r g) (hm : X.mg x = none) (ha : DA X W (e :: es) mr) (hv : bootBuiltins x = some (.type T) := by decide +kernel) (hg : Gl X x := by rfl)
    (hn : x ≠ "__name__" := by decide) (hdb : (x == ("__debug__" : Str)) = false := by decide)
    (he : starEach (e :: es) X.env = (false, eval e X.env) :: starEach es X.env := by rfl) (hpl : (backTo pos (starEach es X.env)).any (·.1) = false := by rfl) : DL X W (.Call (.Name x p) (e :: es) [] pos) (mCallBL g mr) := by
  obtain ⟨ta, pa, ka⟩ := ha
  refine ⟨_, pe_callTy hc hg hm hv pa hn hdb he hpl, fun ξ μ σ H ρ S Q g0 s h => ka ξ μ σ H ρ S _ g0 s (WL'.bind h fun xs S1 vs μ1 H1 u1 s1 r1 h1 => ?_)⟩
  cases q : g S1 xs with
  | none => rw [q] at h1; exact h1.elim
  | some z =>
    rw [q] at h1
    exact hd ξ μ1 H1 S1 xs vs z Q s1 r1 q h1
def gLen : Sto → List D → Option D := fun S ds => match ds with
  | [.str z] => if z.length ≤ 16777216 then some (.int z.length) else none
  | [d] => (seqOf S d).map fun ds => .int ds.length
  | _ => none
theorem c_len : CallD X (fun xs H Q => ∃ x n, xs = [x] ∧ LenV X.K x H n ∧ Q (.int n) H) gLen := by
  intro ξ μ H S ds vs z Q s r e k
  unfold gLen at e
  cases r with
  | nil => exact nomatch e
  | @cons v vs d ds r rr =>
    cases rr with
    | cons _ _ => cases d <;> exact nomatch e
    | nil =>
      have main : ∀ es, seqOf S d = some es → D.int es.length = z → ∃ x n, [v] = [x] ∧ LenV X.K x H n ∧ Q (.int n) H := fun es h1 h2 => by
        obtain ⟨a, xs, rfl, h3, h4⟩ := RD.seqS s r h1
        refine ⟨.ref a, xs.length, rfl, h3.imp (fun z => ⟨xs, z, rfl⟩) fun z => ⟨xs, z, rfl⟩, ?_⟩
        rw [h4.length]
        subst h2
        exact k _ μ H .refl s (.int _)
      cases r with
      | str x =>
        simp only at e
        by_cases c : x.length ≤ 16777216
        · rw [if_pos c] at e; cases e
          exact ⟨_, _, rfl, ⟨by rw [sizeLine_eq]; exact c, rfl⟩, k _ μ H .refl s (.int _)⟩
        · rw [if_neg c] at e; exact nomatch e
      | tup f r => exact main _ rfl (Option.some.inj e)
      | lst f r => exact main _ rfl (Option.some.inj e)
      | @cell a n ea =>
        simp only at e
        cases q : seqOf S (.cell n) with
        | none => rw [q] at e; exact nomatch e
        | some es => rw [q] at e; exact main es q (Option.some.inj e)
      | _ => exact nomatch e
def gInt1 : Sto → List D → Option D := fun _ ds => match ds with
  | [.int i] => some (.int i)
  | [.bl b] => some (.int (if b then 1 else 0))
  | _ => none
theorem c_int1 : CallD X (fun xs H Q => (∃ i, xs = [.int i] ∧ Q (.int i) H) ∨ ∃ k, xs = [.bl k] ∧ Q (.int (if k then 1 else 0)) H) gInt1 := by
  intro ξ μ H S ds vs z Q s r e k
  unfold gInt1 at e
  cases r with
  | nil => exact nomatch e
  | @cons v vs d ds r rr =>
    cases rr with
    | cons _ _ => cases d <;> exact nomatch e
    | nil =>
      cases r with
      | int i => cases e; exact .inl ⟨i, rfl, k _ μ H .refl s (.int _)⟩
      | bl b => cases e; exact .inr ⟨b, rfl, k _ μ H .refl s (.int _)⟩
      | _ => exact nomatch e
def gII (f : Int → Int → Int) : Sto → List D → Option D := fun _ ds => match ds with
  | [.int i, .int j] => some (.int (f i j))
  | _ => none
theorem c_II {f : Int → Int → Int} : CallD X (fun xs H Q => ∃ i j, xs = [.int i, .int j] ∧ Q (.int (f i j)) H) (gII f) := by
  intro ξ μ H S ds vs z Q s r e k
  unfold gII at e
  cases r with
  | nil => exact nomatch e
  | @cons v vs d ds r rr =>
    cases rr with
    | nil => cases d <;> exact nomatch e
    | @cons v2 vs2 d2 ds2 r2 rr2 =>
      cases rr2 with
      | cons _ _ => cases d <;> cases d2 <;> exact nomatch e
      | nil =>
        cases r with
        | int i =>
          cases r2 with
          | int j => cases e; exact ⟨i, j, rfl, k _ μ H .refl s (.int _)⟩
          | _ => exact nomatch e
        | _ => exact nomatch e
abbrev gMax2 := gII fun i j => if j > i then j else i
abbrev gMin2 := gII fun i j => if j < i then j else i
def gTuple : Sto → List D → Option D := fun S ds => match ds with
  | [d] => (seqOf S d).map .tup
  | _ => none
theorem c_tuple : CallD X (fun xs H Q => ∃ p ys, xs = [.ref p] ∧ ((SqL X.K H p ys ∧ NwT H Q ys) ∨ (SqT X.K H p ys ∧ Q (.ref p) H))) gTuple := by
  intro ξ μ H S ds vs z Q s r e k
  unfold gTuple at e
  cases r with
  | nil => exact nomatch e
  | @cons v vs d ds r rr =>
    cases rr with
    | cons _ _ => exact nomatch e
    | nil =>
      simp only at e
      have lst : ∀ es, lstOf S d = some es → D.tup es = z → ∃ p ys, [v] = [.ref p] ∧ ((SqL X.K H p ys ∧ NwT H Q ys) ∨ (SqT X.K H p ys ∧ Q (.ref p) H)) := fun es h1 h2 => by
        obtain ⟨a, xs, rfl, h3, h4⟩ := RD.lstS s r h1
        subst h2
        exact ⟨a, xs, rfl, .inl ⟨h3, fun l o hl ho => k _ μ _ (.fresh hl) (s.fresh hl) (.tup (.inl ⟨.new ho, s.out hl, s.outX hl⟩) (h4.up (.fresh hl)))⟩⟩
      cases r with
      | tup f r =>
        cases Option.some.inj e
        exact ⟨_, _, rfl, .inr ⟨f.sq, k _ μ H .refl s (.tup f r)⟩⟩
      | lst f r => exact lst _ rfl (Option.some.inj e)
      | @cell a n ea =>
        cases q : lstOf S (.cell n) with
        | none =>
          have e : (lstOf S (.cell n)).map D.tup = some z := e
          rw [q] at e; exact nomatch e
        | some es =>
          have e : (lstOf S (.cell n)).map D.tup = some z := e
          rw [q] at e; exact lst es q (Option.some.inj e)
      | _ => exact nomatch e
def gList : Sto → List D → Option (List D) := fun S ds => match ds with
  | [d] => seqOf S d
  | _ => none
theorem c_list : CallDL X (fun xs H Q => ∃ p ys, xs = [.ref p] ∧ (SqL X.K H p ys ∨ SqT X.K H p ys) ∧ ∀ l, H l = none → Q (.ref l) (upd H l (.lst ys))) gList := by
  intro ξ μ H S ds vs z Q s r e k
  unfold gList at e
  cases r with
  | nil => exact nomatch e
  | @cons v vs d ds r rr =>
    cases rr with
    | cons _ _ => exact nomatch e
    | nil =>
      obtain ⟨a, xs, rfl, h1, h2⟩ := RD.seqS s r e
      exact ⟨a, xs, rfl, h1, fun l hl => k l xs μ _ (.fresh hl) hl (s.holds hl) (h2.mv (.holds hl)) upd_same⟩
def blsOf : List D → Option (List Bool)
  | [] => some []
  | .bl b :: ds => (blsOf ds).map (b :: ·)
  | _ :: _ => none
theorem bls_of {F : Fx} {μ : List Addr} {H : Hp} : ∀ {vs : List V} {ds : List D} {bs : List Bool}, RDs F μ H vs ds → blsOf ds = some bs → vs = bs.map V.bl
  | _, [], bs, r, e => by cases r; cases e; rfl
  | _, d :: ds, bs, r, e => by
    cases r with
    | cons a b =>
      cases a with
      | bl x =>
        have e : (blsOf ds).map (x :: ·) = some bs := e
        cases q : blsOf ds with
        | none => rw [q] at e; exact nomatch e
        | some cs =>
          rw [q] at e; cases e
          rw [bls_of b q] <;> rfl
      | _ => exact nomatch e
def gAll : Sto → List D → Option D := fun S ds => match ds with
  | [d] => (lstOf S d).bind fun es => (blsOf es).map fun bs => .bl (bs.all id)
  | _ => none
theorem c_all : CallD X (rAll X.K) gAll := by
  intro ξ μ H S ds vs z Q s r e k
  unfold gAll at e
  cases r with
  | nil => exact nomatch e
  | @cons v vs d ds r rr =>
    cases rr with
    | cons _ _ => exact nomatch e
    | nil =>
      simp only at e
      cases q : lstOf S d with
      | none => rw [q] at e; exact nomatch e
      | some es =>
        rw [q] at e
        have e : (blsOf es).map (fun bs => D.bl (bs.all id)) = some z := e
        cases q' : blsOf es with
        | none => rw [q'] at e; exact nomatch e
        | some bs =>
          rw [q'] at e; cases e
          obtain ⟨a, xs, rfl, h1, h2⟩ := RD.lstS s r q
          have e := bls_of h2 q'
          subst e
          exact ⟨a, bs, rfl, h1, k _ μ H .refl s (.bl _)⟩
/-! ### lists put together -/
def mCatL (a b : MA) : MA := fun ρ S => (a ρ S).bind fun xs S1 => (b ρ S1).bind fun ys S2 => if xs.length + ys.length ≤ 16777216 then .ok (xs ++ ys) S2 else .bad
theorem WL'.bindL {F : Fx} {Q : VK} {Q1 : VK} {Wx : Value → Option Addr → Hp → Prop} {μ : List Addr} {H : Hp} {r : Res (List D)} {f : List D → Sto → Res (List D)} (h : WL' F (r.bind f) Q Wx μ H)
    (k : ∀ ds S1 p xs μ1 H1, Up μ H μ1 H1 → H p = none → RS (F.hold p) μ1 H1 S1 → RDs (F.hold p) μ1 H1 xs ds → H1 p = some (.lst xs) → WL' F (f ds S1) Q Wx μ1 H1 → Q1 (.ref p) H1) : WL' F r Q1 Wx μ H := by
  cases r with
  | ok x S1 => exact fun p xs μ1 H1 u1 hp s1 r1 e1 => k x S1 p xs μ1 H1 u1 hp s1 r1 e1 (WL'.shift u1 h)
  | exc c fs S => exact h
  | bad => exact h
theorem XR.hold {F : Fx} {μ : List Addr} {H : Hp} {cls : Value} {dd : Option Addr} {c : Str} {fs : List (Str × D)} {p : Addr} (h : XR (F.hold p) μ H cls dd c fs) : XR F μ H cls dd c fs := by
  obtain ⟨h1, h2⟩ := h
  refine ⟨h1, h2.imp id ?_⟩
  rintro ⟨d, vfs, e, h3, h4, h6, h5⟩
  exact ⟨d, vfs, e, h3, h4, fun q => h6 (List.mem_cons_of_mem _ q), Paired.mapP h5 fun _ _ z => ⟨z.1, z.2.mv .free⟩⟩
theorem dl_cat {na nb : MA} (ha : DL X W a na) (hb : DL X W b nb) : DL X W (.BinOp a .Add b pos) (mCatL na nb) := by
  obtain ⟨ta, pa, ka⟩ := ha
  obtain ⟨tb, pb, kb⟩ := hb
  refine ⟨_, pe_op op_cat pa pb, fun ξ μ σ H ρ S Q g s h => ka ξ μ σ H ρ S _ g s (WL'.bindL h fun ds S1 p xs μ1 H1 u1 hp s1 r1 e1 h1 => ?_)⟩
  refine kb (p :: ξ) μ1 σ H1 ρ S1 _ ?_ s1 ?_
  · exact ⟨g.len, fun i d e => by
      obtain ⟨v, h, r⟩ := (g.up u1).at_ i d e
      obtain ⟨v', h', r'⟩ := g.at_ i d e
      rw [h] at h'; cases h'
      have m : Mv (fx X ξ) μ H ((fx X ξ).hold p) μ1 H1 := ⟨fun {a xs} q => by
        rcases q.up u1 with ⟨z, n, nx⟩ | z
        · rcases q with ⟨z0, _⟩ | z0
          · refine .inl ⟨z, n, fun m => (List.mem_cons.mp m).elim (fun e => ?_) nx⟩
            subst e
            obtain ⟨o, _, z0⟩ := z0
            rw [hp] at z0; cases z0
          · exact .inr z0
        · exact .inr z, fun {a xs} q => by
        rcases q.up u1 with ⟨z, n, nx⟩ | z
        · rcases q with ⟨z0, _⟩ | z0
          · refine .inl ⟨z, n, fun m => (List.mem_cons.mp m).elim (fun e => ?_) nx⟩
            subst e
            rcases z0 with z0 | ⟨o, z0⟩ <;> (rw [hp] at z0; cases z0)
          · exact .inr z0
        · exact .inr z, fun q => u1.get q, rfl, fun q => q.upHold u1 hp⟩
      exact ⟨v, h, r'.mv m⟩⟩
  cases e : nb ρ S1 with
  | bad => rw [e] at h1; exact h1.elim
  | exc c fs S2 =>
    rw [e] at h1
    exact fun cls dd μ' H' u' s' x' => h1 cls dd μ' H' u' (RS.free (F := fx X ξ) (p := p) s') (XR.hold (F := fx X ξ) (p := p) x')
  | ok es S2 =>
    rw [e] at h1
    intro q ys μ2 H2 u2 hq s2 r2 e2
    have hpq : p ∉ μ1 := (s1.xi p List.mem_cons_self).1
    have ep := u2.keep _ _ e1 hpq
    by_cases c : ds.length + es.length ≤ 16777216
    · have h1 : WL' (fx X ξ) (if ds.length + es.length ≤ 16777216 then Res.ok (ds ++ es) S2 else .bad) Q (fun cls dd H' => W cls dd σ H') μ1 H1 := h1
      rw [if_pos c] at h1
      refine ⟨p, q, xs, ys, rfl, rfl, ep, e2, by rw [r1.length, r2.length, sizeLine_eq]; exact c, fun r hr => ?_⟩
      have rr : RDs (fx X ξ) μ2 H2 (xs ++ ys) (ds ++ es) := RDs.append ((r1.mv .free).up u2) ((RDs.free (F := fx X ξ) (p := p) es (RDs.free (F := fx X (p :: ξ)) (p := q) es r2)))
      have ss : RS (fx X ξ) μ2 H2 S2 := RS.free (F := fx X ξ) (p := p) (RS.free (F := fx X (p :: ξ)) (p := q) s2)
      have nr : r ∉ μ1 := fun z => ss.out hr (u2.mem z)
      exact h1 r _ μ2 _ (u2.trans (.fresh hr)) (u2.back hr nr) (ss.holds hr) (rr.mv (.holds hr)) upd_same
    · have h1 : WL' (fx X ξ) (if ds.length + es.length ≤ 16777216 then Res.ok (ds ++ es) S2 else .bad) Q (fun cls dd H' => W cls dd σ H') μ1 H1 := h1
      rw [if_neg c] at h1
      exact h1.elim
end
/-! ### statements -/
def mNop : MS := fun ρ S => .nx ρ S
def mSeq (a b : MS) : MS := fun ρ S => match a ρ S with
  | .nx ρ1 S1 => b ρ1 S1
  | o => o
def ofRes {α : Type} (r : Res α) (ρ : Rho) (k : α → Sto → Out) : Out := match r with
  | .ok a S => k a S
  | .exc c fs S => .exc c fs ρ S
  | .bad => .bad
def mAsg (i : Nat) (m : ME) : MS := fun ρ S => ofRes (m ρ S) ρ fun d S1 => .nx (ρ.set i (some d)) S1
def mRet (m : ME) : MS := fun ρ S => ofRes (m ρ S) ρ fun d S1 => .rt d S1
def mRetN : MS := fun _ S => .rt .non S
def mDrop (m : ME) : MS := fun ρ S => ofRes (m ρ S) ρ fun _ S1 => .nx ρ S1
def mIfS (c : ME) (a b : MS) : MS := fun ρ S => ofRes (c ρ S) ρ fun d S1 => match d with
  | .bl true => a ρ S1
  | .bl false => b ρ S1
  | _ => .bad
def mBrk : MS := fun ρ S => .bk ρ S
def mCont : MS := fun ρ S => .ct ρ S
section
variable {F : Fx} {α β : Type} {rel : List Addr → Hp → β → α → Prop} {μ : List Addr} {H : Hp} {E : Ends} {W : WX} {σ : St} {ρ : Rho}
/-- first r, then the statement's rest -/
theorem WS'.bind {r : Res α} {f : α → Sto → Out} {Q1 : β → Hp → Prop} (g : RG F μ H σ ρ) (h : WS' F (ofRes r ρ f) E W μ H)
    (k : ∀ x S1 v μ1 H1, Up μ H μ1 H1 → RS F μ1 H1 S1 → rel μ1 H1 v x → WS' F (f x S1) E W μ1 H1 → Q1 v H1) : WR F rel r Q1 (fun cls dd H' => W cls dd σ H') μ H := by
  cases r with
  | ok x S1 => exact fun v μ1 H1 u1 s1 r1 => k x S1 v μ1 H1 u1 s1 r1 (WS'.shift u1 h)
  | exc c fs S => exact fun cls dd μ' H' u' s' x' => h cls dd σ μ' H' u' s' (g.up u') x'
  | bad => exact h
theorem WS'.bindT {r : Res D} {f : D → Sto → Out} {Q1 : Bool → Hp → Prop} (g : RG F μ H σ ρ) (h : WS' F (ofRes r ρ f) E W μ H) (hb : ∀ d S, (∀ b, d ≠ .bl b) → f d S = .bad)
    (k : ∀ b S1 μ1 H1, Up μ H μ1 H1 → RS F μ1 H1 S1 → WS' F (f (.bl b) S1) E W μ1 H1 → Q1 b H1) : WT' F r Q1 (fun cls dd H' => W cls dd σ H') μ H := by
  cases r with
  | ok d S1 =>
    have h : WS' F (f d S1) E W μ H := h
    cases d with
    | bl b => exact fun μ1 H1 u1 s1 => k b S1 μ1 H1 u1 s1 (WS'.shift u1 h)
    | _ =>
      rw [hb _ _ (by intro b e; cases e)] at h
      exact h
  | exc c fs S => exact fun cls dd μ' H' u' s' x' => h cls dd σ μ' H' u' s' (g.up u') x'
  | bad => exact h
end
section
variable {X : Cx} {W : WX} {e a b c : Expr} {es : List Expr} {st : Stmt} {sts ts : List Stmt} {ma mb mc m : ME} {mr : MA} {m1 m2 : MS} {pos p p1 p2 p3 : Pos}
theorem dss_nil : DSs X W [] mNop := ⟨_, pss_nil, fun ξ μ σ H ρ S D g s h => h σ μ H .refl s g⟩
theorem WS'.seq {F : Fx} {μ : List Addr} {H : Hp} {D : Ends} {W : WX} {o : Out} {k : Rho → Sto → Out} {u : TS} (h : WS' F (match o with | .nx ρ1 S1 => k ρ1 S1 | o => o) D W μ H)
    (hu : ∀ σ ρ1 S1 μ1 H1, Up μ H μ1 H1 → RS F μ1 H1 S1 → RG F μ1 H1 σ ρ1 → WS' F (k ρ1 S1) D W μ1 H1 → u D σ H1) : WS' F o { D with nx := u D } W μ H := by
  cases o with
  | nx ρ1 S1 => exact fun σ μ1 H1 u1 s1 g1 => hu σ ρ1 S1 μ1 H1 u1 s1 g1 (WS'.shift u1 h)
  | _ => exact h
theorem dss_cons (h1 : DS X W st m1) (h2 : DSs X W sts m2) : DSs X W (st :: sts) (mSeq m1 m2) := by
  obtain ⟨ta, pa, ka⟩ := h1
  obtain ⟨tb, pb, kb⟩ := h2
  exact ⟨_, pss_cons pa pb, fun ξ μ σ H ρ S D g s h => ka ξ μ σ H ρ S _ g s (WS'.seq h fun σ' ρ1 S1 μ1 H1 u1 s1 g1 h1 => kb ξ μ1 σ' H1 ρ1 S1 D g1 s1 h1)⟩
theorem dss_one (h1 : DS X W st m1) : DSs X W [st] m1 := let ⟨_, p, k⟩ := h1; ⟨_, pss_one p, k⟩
theorem ds_break : DS X W (.Break pos) mBrk := ⟨_, ps_break, fun ξ μ σ H ρ S D g s h => h σ μ H .refl s g⟩
theorem ds_set (i : Nat) {x : Str} {pos' : Pos} (hN : X.N.Nodup) (he : DE X W e m) (hi : X.N[i]? = some x := by rfl) (hx : Loc X.env.scope x := by first | exact Or.inl rfl | exact Or.inr rfl) (hs : swapsWith e (some (.Name x pos')) pos.line X.env = pure false := by rfl)
    (hf : X.fn x = true ∨ X.env.scope.names.lookup x = some .local := by first | exact .inl rfl | exact .inr rfl) : DS X W (.Assign [.Name x pos'] e pos) (mAsg i m) := by
  obtain ⟨te, p, k⟩ := he
  refine ⟨_, ps_set hN hi hx p hs hf, fun ξ μ σ H ρ S D g s h => k ξ μ σ H ρ S _ g s (WS'.bind g h fun x S1 v μ1 H1 u1 s1 r1 h1 => ?_)⟩
  exact h1 _ μ1 H1 .refl s1 ((g.up u1).set i r1)
theorem ds_ret (he : DE X W e m) : DS X W (.Return (some e) pos) (mRet m) := by
  obtain ⟨te, p, k⟩ := he
  exact ⟨_, ps_ret p, fun ξ μ σ H ρ S D g s h => k ξ μ σ H ρ S _ g s (WS'.bind g h fun x S1 v μ1 H1 u1 s1 r1 h1 => h1 _ μ1 H1 .refl s1 r1)⟩
theorem ds_expr (he : DE X W e m) (hs : swapsWith e none pos.line X.env = pure false := by rfl) : DS X W (.Expr e pos) (mDrop m) := by
  obtain ⟨te, p, k⟩ := he
  exact ⟨_, ps_expr p hs, fun ξ μ σ H ρ S D g s h => k ξ μ σ H ρ S _ g s (WS'.bind g h fun x S1 v μ1 H1 u1 s1 r1 h1 => h1 _ μ1 H1 .refl s1 (g.up u1))⟩
theorem ds_if (hc : DT X W c mc) (ha : DSs X W sts m1) (hb : DSs X W ts m2) : DS X W (.If c sts ts pos) (mIfS mc m1 m2) := by
  obtain ⟨tc, pc, kc⟩ := hc
  obtain ⟨ta, pa, ka⟩ := ha
  obtain ⟨tb, pb, kb⟩ := hb
  refine ⟨_, ps_if pc pa pb, fun ξ μ σ H ρ S D g s h => kc ξ μ σ H ρ S _ g s (WS'.bindT g h (fun d S h => by cases d <;> first | rfl | exact absurd rfl (h _)) fun c S1 μ1 H1 u1 s1 h1 => ?_)⟩
  cases c with
  | true => exact ka ξ μ1 σ H1 ρ S1 D (g.up u1) s1 h1
  | false => exact kb ξ μ1 σ H1 ρ S1 D (g.up u1) s1 h1
/-! ### targets -/
structure DG (X : Cx) (tg : Expr) (f : D → Rho → Option Rho) (is : List Nat) : Prop where
  ex : ∃ t, PG X tg t ∧ ∀ ξ μ σ H ρ v d ρ' (Q : St → Hp → Prop), RG (fx X ξ) μ H σ ρ → RD (fx X ξ) μ H v d → f d ρ = some ρ' →
    (∀ σ', RG (fx X ξ) μ H σ' ρ' → (∀ js : List Nat, (∀ i ∈ is, i ∈ js) → wipe σ' js = wipe σ js) → Q σ' H) → t v σ H Q
structure DGs (X : Cx) (tg : List Expr) (f : List D → Rho → Option Rho) (is : List Nat) : Prop where
  ex : ∃ t, PGs X tg t ∧ ∀ ξ μ σ H ρ vs ds ρ' (Q : St → Hp → Prop), RG (fx X ξ) μ H σ ρ → RDs (fx X ξ) μ H vs ds → f ds ρ = some ρ' →
    (∀ σ', RG (fx X ξ) μ H σ' ρ' → (∀ js : List Nat, (∀ i ∈ is, i ∈ js) → wipe σ' js = wipe σ js) → Q σ' H) → t vs σ H Q
theorem wipe_get (σ : St) (i : Nat) : ∀ js : List Nat, (wipe σ js)[i]? = if i ∈ js ∧ i < σ.length then some none else σ[i]?
  | [] => by simp [wipe]
  | j :: js => by
    unfold wipe
    have ih := wipe_get σ i js
    by_cases hj : j = i
    · subst hj
      by_cases hl : j < σ.length
      · rw [List.getElem?_set_self (by rw [wipe_length]; exact hl), if_pos ⟨List.mem_cons_self, hl⟩]
      · rw [List.getElem?_eq_none (by rw [List.length_set, wipe_length]; omega), if_neg (fun z => hl z.2), List.getElem?_eq_none (by omega)]
    · rw [List.getElem?_set_ne hj, ih]
      have e : (i ∈ j :: js ∧ i < σ.length) ↔ (i ∈ js ∧ i < σ.length) := by
        constructor
        · rintro ⟨z, l⟩
          exact ⟨(List.mem_cons.mp z).resolve_left fun q => hj q.symm, l⟩
        · rintro ⟨z, l⟩
          exact ⟨List.mem_cons_of_mem _ z, l⟩
      by_cases q : i ∈ js ∧ i < σ.length
      · rw [if_pos q, if_pos (e.mpr q)]
      · rw [if_neg q, if_neg fun z => q (e.mp z)]
theorem wipe_set {σ : St} {i : Nat} {o : Option V} {js : List Nat} (h : i ∈ js) : wipe (σ.set i o) js = wipe σ js := by
  refine List.ext_getElem? fun k => ?_
  rw [wipe_get, wipe_get, List.length_set]
  by_cases q : k ∈ js ∧ k < σ.length
  · rw [if_pos q, if_pos q]
  · rw [if_neg q, if_neg q]
    by_cases e : i = k
    · subst e
      have l : ¬ i < σ.length := fun l => q ⟨h, l⟩
      rw [List.getElem?_eq_none (by rw [List.length_set]; omega), List.getElem?_eq_none (by omega)]
    · rw [List.getElem?_set_ne e]
def tgN (i : Nat) : D → Rho → Option Rho := fun d ρ => some (ρ.set i (some d))
theorem dg_name (i : Nat) {x : Str} (hN : X.N.Nodup) (hi : X.N[i]? = some x := by rfl) (hx : Loc X.env.scope x := by first | exact Or.inl rfl | exact Or.inr rfl) (hf : X.fn x = true ∨ X.env.scope.names.lookup x = some .local := by first | exact .inl rfl | exact .inr rfl) : DG X (.Name x pos) (tgN i) [i] :=
  ⟨_, pg_name hN hi hx hf, fun ξ μ σ H ρ v d ρ' Q g r e k => by
    cases e
    exact k _ (g.set i r) fun js h => wipe_set (h i List.mem_cons_self)⟩
def tgNil : List D → Rho → Option Rho := fun ds ρ => match ds with
  | [] => some ρ
  | _ => none
def tgCons (f : D → Rho → Option Rho) (g : List D → Rho → Option Rho) : List D → Rho → Option Rho := fun ds ρ => match ds with
  | d :: ds => (f d ρ).bind fun ρ1 => g ds ρ1
  | [] => none
theorem dgs_nil : DGs X [] tgNil [] := ⟨_, pgs_nil, fun ξ μ σ H ρ vs ds ρ' Q g r e k => by
  cases r with
  | nil => cases e; exact ⟨rfl, k σ g fun _ _ => rfl⟩
  | cons _ _ => exact nomatch e⟩
theorem dgs_cons {f : D → Rho → Option Rho} {fs : List D → Rho → Option Rho} {is js : List Nat} (h1 : DG X e f is) (h2 : DGs X es fs js) (hs : (assignEach (e :: es) X.env).map (·.2) = assign e X.env :: (assignEach es X.env).map (·.2) := by rfl) : DGs X (e :: es) (tgCons f fs) (is ++ js) := by
  obtain ⟨t1, p1, k1⟩ := h1
  obtain ⟨t2, p2, k2⟩ := h2
  refine ⟨_, pgs_cons p1 p2 hs, fun ξ μ σ H ρ vs ds ρ' Q g r e k => ?_⟩
  cases r with
  | nil => exact nomatch e
  | @cons v vs d ds r rr =>
    have e : (f d ρ).bind (fun ρ1 => fs ds ρ1) = some ρ' := e
    cases q : f d ρ with
    | none => rw [q] at e; exact nomatch e
    | some ρ1 =>
      rw [q] at e
      refine ⟨v, vs, rfl, k1 ξ μ σ H ρ v d ρ1 _ g r q fun σ1 g1 w1 => ?_⟩
      refine k2 ξ μ σ1 H ρ1 vs ds ρ' Q g1 rr e fun σ2 g2 w2 => k σ2 g2 fun ks hk => ?_
      rw [w2 ks fun i hi => hk i (List.mem_append_right _ hi), w1 ks fun i hi => hk i (List.mem_append_left _ hi)]
def tgT (n : Nat) (f : List D → Rho → Option Rho) : D → Rho → Option Rho := fun d ρ => match d with
  | .tup ds => if ds.length = n then f ds ρ else none
  | _ => none
theorem dg_tup {k n : Nat} {f : List D → Rho → Option Rho} {is : List Nat} {tp : Pos} (hc : X.calm = true) (h : DGs X es f is) (hn : (assignEach es X.env).length = n := by rfl) (hst : (assignEach es X.env).findIdx? (·.1) = none := by rfl) : DG X (.Tuple es k tp) (tgT n f) is := by
  obtain ⟨t, p, k⟩ := h
  refine ⟨_, pg_tup hc p hn hst, fun ξ μ σ H ρ v d ρ' Q g r e kk => ?_⟩
  cases r with
  | @tup a xs ds fz r =>
    unfold tgT at e
    by_cases c : ds.length = n
    · simp only [if_pos c] at e
      exact ⟨a, xs, rfl, fz.sq, by rw [r.length]; exact c, k ξ μ σ H ρ xs ds ρ' Q g r e kk⟩
    · simp only [if_neg c] at e
      exact nomatch e
  | _ => exact nomatch e
/-- target = e -/
def mAsgG (f : D → Rho → Option Rho) (m : ME) : MS := fun ρ S => ofRes (m ρ S) ρ fun d S1 => match f d ρ with
  | some ρ1 => .nx ρ1 S1
  | none => .bad
theorem ds_asg {tg : Expr} {f : D → Rho → Option Rho} {is : List Nat} (he : DE X W e m) (hg : DG X tg f is) (hs : swapsWithSole [tg] e pos.line X.env = pure false := by rfl) (hw : swappedStores [tg] e X.env = pure none := by rfl) (h1 : (assignEach [tg] X.env).map (·.2) = [assign tg X.env] := by rfl) : DS X W (.Assign [tg] e pos) (mAsgG f m) := by
  obtain ⟨te, p, k⟩ := he
  obtain ⟨tg, pg, kg⟩ := hg
  refine ⟨_, ps_asg p pg hs hw h1, fun ξ μ σ H ρ S D g s h => k ξ μ σ H ρ S _ g s (WS'.bind g h fun x S1 v μ1 H1 u1 s1 r1 h1 => ?_)⟩
  cases q : f x ρ with
  | none => rw [q] at h1; exact h1.elim
  | some ρ1 =>
    rw [q] at h1
    exact kg ξ μ1 σ H1 ρ v x ρ1 _ (g.up u1) r1 q fun σ' g' _ => h1 σ' μ1 H1 .refl s1 g'
/-- o[i] = e, o a list's cell -/
def mSetIx (m o i : ME) : MS := fun ρ S => ofRes (m ρ S) ρ fun d S1 => ofRes (o ρ S1) ρ fun x S2 => ofRes (i ρ S2) ρ fun y S3 => match x, y with
  | .cell n, .int j => match S3[n]? with
    | some (.lst ds) => match ixN ds.length j with
      | some k => .nx ρ (S3.set n (.lst (ds.set k d)))
      | none => .bad
    | _ => .bad
  | _, _ => .bad
theorem ds_setIx {o i : Expr} {mo mi : ME} (he : DE X W e m) (ho : DE X W o mo) (hi : DE X W i mi)
    (ha : ∀ v, assign (.Subscript o i p) X.env v = (do
      let ov ← holding [v] (eval o X.env)
      let iv ← holding [v, ov] (eval i X.env)
      standAt p
      holding [v, ov, iv] (setItem ov iv v)
      release [v, ov, iv] []) := by intro _; rfl) (hs : swapsWithSole [.Subscript o i p] e pos.line X.env = pure false := by rfl) (hw : swappedStores [.Subscript o i p] e X.env = pure none := by rfl) : DS X W (.Assign [.Subscript o i p] e pos) (mSetIx m mo mi) := by
  obtain ⟨te, pe, ke⟩ := he
  obtain ⟨to, po, ko⟩ := ho
  obtain ⟨ti, pi, ki⟩ := hi
  refine ⟨_, ps_asg pe (pg_sub po pi set_list ha) hs hw, fun ξ μ σ H ρ S D g s h => ke ξ μ σ H ρ S _ g s (WS'.bind g h fun d S1 v μ1 H1 u1 s1 r1 h1 => ?_)⟩
  refine ko ξ μ1 σ H1 ρ S1 _ (g.up u1) s1 (WS'.bind (g.up u1) h1 fun x S2 v2 μ2 H2 u2 s2 r2 h2 => ?_)
  refine ki ξ μ2 σ H2 ρ S2 _ (g.up (u1.trans u2)) s2 (WS'.bind (g.up (u1.trans u2)) h2 fun y S3 v3 μ3 H3 u3 s3 r3 h3 => ?_)
  have rd := r1.up (u2.trans u3)
  have rx := r2.up u3
  cases rx with
  | @cell a n ea =>
    cases r3 with
    | int j =>
      simp only at h3
      cases q : S3[n]? with
      | none => rw [q] at h3; exact h3.elim
      | some c =>
        rw [q] at h3
        cases c with
        | lst ds =>
          simp only at h3
          cases q2 : ixN ds.length j with
          | none => rw [q2] at h3; exact h3.elim
          | some k =>
            rw [q2] at h3
            obtain ⟨xs, e1, e2⟩ := s3.at_ n a _ ea q
            refine ⟨a, xs, j, k, rfl, rfl, e1, by rw [e2.length]; exact q2, ?_⟩
            exact h3 σ μ3 _ (.write ea) (s3.write ea ⟨_, upd_same, ((e2.set k rd).up (.write ea))⟩) (g.up (u1.trans (u2.trans (u3.trans (.write ea)))))
        | _ => exact h3.elim
    | _ => exact h3.elim
  | _ => exact h3.elim
/-- o.append(e), o a list's cell -/
def mApp (o m : ME) : MS := fun ρ S => ofRes (o ρ S) ρ fun x S1 => match x with
  | .cell n => match S1[n]? with
    | some (.lst _) => ofRes (m ρ S1) ρ fun d S2 => match S2[n]? with
      | some (.lst ds) => if ds.length < 16777216 then .nx ρ (S2.set n (.lst (ds ++ [d]))) else .bad
      | _ => .bad
    | _ => .bad
  | _ => .bad
theorem ds_app {o : Expr} {mo : ME} (ho : DE X W o mo) (he : DE X W e m) (hp : ∀ {to te : TE}, PE X o to → PE X e te → PS X st (tDrop (tBM X.K "list" rAppend to (tCons te tNil)))) : DS X W st (mApp mo m) := by
  obtain ⟨to, po, ko⟩ := ho
  obtain ⟨te, pe, ke⟩ := he
  refine ⟨_, hp po pe, fun ξ μ σ H ρ S D g s h => ?_⟩
  refine ko ξ μ σ H ρ S _ g s (WS'.bind g h fun x S1 v μ1 H1 u1 s1 r1 h1 => ?_)
  cases r1 with
  | @cell a n ea =>
    simp only at h1
    cases q : S1[n]? with
    | none => rw [q] at h1; exact h1.elim
    | some c =>
      rw [q] at h1
      cases c with
      | lst ds0 =>
        simp only at h1
        obtain ⟨xs0, e1, _⟩ := s1.at_ n a _ ea q
        refine ⟨.inl ⟨rfl, _, SqL.of e1⟩, ?_⟩
        refine ke ξ μ1 σ H1 ρ S1 _ (g.up u1) s1 (WS'.bind (g.up u1) h1 fun d S2 v2 μ2 H2 u2 s2 r2 h2 => ?_)
        cases q2 : S2[n]? with
        | none => simp only [q2] at h2; exact h2.elim
        | some c2 =>
          simp only [q2] at h2
          cases c2 with
          | lst ds =>
            simp only at h2
            by_cases l : ds.length < 16777216
            · rw [if_pos l] at h2
              have ea2 := u2.get ea
              obtain ⟨xs, e2, e3⟩ := s2.at_ n a _ ea2 q2
              refine ⟨a, xs, v2, rfl, rfl, e2, by rw [e3.length, sizeLine_eq]; exact l, ?_⟩
              exact h2 σ μ2 _ (.write ea2) (s2.write ea2 ⟨_, upd_same, (e3.append (.cons r2 .nil)).up (.write ea2)⟩) (g.up (u1.trans (u2.trans (.write ea2))))
            · rw [if_neg l] at h2; exact h2.elim
          | _ => exact h2.elim
      | _ => exact h1.elim
  | _ => exact h1.elim
end
end Dm
-- text DmLoop
namespace Dm
open PySem L2
open PySem.W (Frag)
/-- more may be reserved later -/
structure Ext (F F' : Fx) (H : Hp) : Prop where
  k : F'.K = F.K
  gw : (F'.mg, F'.w) = (F.mg, F.w)
  x : ∀ a, a ∈ F'.ξ → a ∈ F.ξ ∨ H a = none
theorem Ext.g {F F' : Fx} {H : Hp} (e : Ext F F' H) : F'.mg = F.mg := congrArg Prod.fst e.gw
theorem Ext.w {F F' : Fx} {H : Hp} (e : Ext F F' H) : F'.w = F.w := congrArg Prod.snd e.gw
theorem Ext.refl {F : Fx} {H : Hp} : Ext F F H := ⟨rfl, rfl, fun _ h => .inl h⟩
theorem Mv.ext {F F' : Fx} {μ μ' : List Addr} {H H' : Hp} (e : Ext F F' H) (u : Up μ H μ' H') : Mv F μ H F' μ' H' := ⟨fun {a xs} q => by
    rcases q.up u with ⟨z, n, nx⟩ | z
    · rcases q with ⟨z0, _⟩ | z0
      · refine .inl ⟨z, n, fun m => ?_⟩
        rcases e.x _ m with q | q
        · exact nx q
        · obtain ⟨o, _, z0⟩ := z0
          rw [q] at z0; cases z0
      · exact .inr (by rw [e.k]; exact z0)
    · exact .inr (by rw [e.k]; exact z), fun {a xs} q => by
    rcases q.up u with ⟨z, n, nx⟩ | z
    · rcases q with ⟨z0, _⟩ | z0
      · refine .inl ⟨z, n, fun m => ?_⟩
        rcases e.x _ m with q | q
        · exact nx q
        · rcases z0 with z0 | ⟨o, z0⟩ <;> (rw [q] at z0; cases z0)
      · exact .inr (by rw [e.k]; exact z0)
    · exact .inr (by rw [e.k]; exact z), fun q => u.get q, (by rw [e.g, e.w, e.k]), fun {a c ns} h => by
    obtain ⟨cls, dd, e0, ⟨h1, h2, h3⟩, h4⟩ := h
    have no : ∀ {b : Addr} {o : HO}, H b = some o → b ∉ F.ξ → b ∉ F'.ξ := fun {b o} hb n m => (e.x b m).elim n fun q => by
      rw [q] at hb; cases hb
    refine ⟨cls, dd, by rw [e.g, e.k]; exact e0, ⟨u.keep _ _ h1 h2, u.notin h1 h2, no h1 h3⟩, h4.imp id ?_⟩
    rintro ⟨d, fs, e2, h5, hf, h6, h7⟩
    exact ⟨d, fs, e2, u.keep _ _ h5 h6, hf, u.notin h5 h6, no h5 h7⟩⟩
/-- an iterator gives these items -/
def ItOk (F : Fx) (μ : List Addr) (H : Hp) (J : It) (ds : List D) : Prop := ds.length ≤ 16777216 ∧
  ∀ (F' : Fx) (μ' : List Addr) (H' : Hp) (S' : Sto) (i : Nat), Ext F F' H → Up μ H μ' H' → RS F' μ' H' S' → i ≤ ds.length →
    (∀ d, ds[i]? = some d → J.go i H' ∧ ∀ x H'', J.yld i H' x H'' → Up μ' H' μ' H'' ∧ RS F' μ' H'' S' ∧ RD F' μ' H'' x d) ∧ (i = ds.length → J.stop i H')
structure DI (X : Cx) (W : WX) (tg iter : Expr) (m : MA) : Prop where
  ex : ∃ wi, PI X tg iter wi ∧ ∀ ξ μ σ H ρ S R, RG (fx X ξ) μ H σ ρ → RS (fx X ξ) μ H S → WR (fx X ξ) (fun μ H (J : It) (ds : List D) => ItOk (fx X ξ) μ H J ds) (m ρ S) R (fun cls dd H' => W cls dd σ H') μ H → wi σ H R
section
variable {X : Cx} {W : WX} {tg e a b c : Expr} {es : List Expr} {st : Stmt} {sts ts : List Stmt} {ma mb mc m : ME} {mr : MA} {m1 m2 : MS} {pos p p1 p2 p3 : Pos}
def Sized (K : Frag) (H : Hp) : Prop := ∀ a xs, SqL K H a xs ∨ SqT K H a xs → xs.length ≤ 16777216
theorem sized_of {pins : List (Addr × Obj)} {σ : St} {H : Hp} {s : Shared} (I : Inv X pins σ H s) : Sized X.K H := fun a xs h => by
  rcases h with h | h
  · obtain ⟨_, _, _, z⟩ := I.list h
    rw [sizeLine_eq] at z; exact z
  · obtain ⟨_, _, _, z⟩ := I.tuple h
    rw [sizeLine_eq] at z; exact z
theorem piSized {wi : TI} (h : PI X tg e wi) : PI X tg e (fun σ H R => wi σ H fun J H1 => Sized X.K H1 → R J H1) := ⟨fun pins s σ H R I hw =>
  thn (h.run pins s σ H _ I hw) fun v s1 h1 => thn h1 fun itv s2 ⟨it, fp, tn, J, H', a1, a2, a3, a4, a5, a6⟩ => ⟨it, fp, tn, J, H', a1, a2, a3, a4, a5, a6 (sized_of a2)⟩⟩
theorem piOr {wi wj : TI} (h : PI X tg e wi) (h' : PI X tg e wj) : PI X tg e (fun σ H R => wi σ H R ∨ wj σ H R) := ⟨fun pins s σ H R I hw =>
  hw.elim (h.run pins s σ H R I) (h'.run pins s σ H R I)⟩
theorem itt_ok {F : Fx} {μ : List Addr} {H : Hp} {a : Addr} {xs : List V} {ds : List D} (f : FzT F μ H a xs) (r : RDs F μ H xs ds) (z : Sized F.K H) : ItOk F μ H (Itt F.K a) ds := by
  refine ⟨by rw [← r.length]; exact z a xs (.inr f.sq), fun F' μ' H' S' i e u s hi => ⟨fun d hd => ?_, fun hi => ?_⟩⟩
  · obtain ⟨v, h1, h2⟩ := r.get hd
    refine ⟨⟨xs, v, (f.up u).sq, h1⟩, fun x H'' y => ?_⟩
    obtain ⟨e1, y⟩ := y
    subst e1
    have q := y xs (f.up u).sq
    rw [h1] at q; cases q
    exact ⟨.refl, s, h2.mv (.ext e u)⟩
  · exact ⟨xs, (f.up u).sq, by rw [r.length, hi]; exact Nat.le_refl _⟩
theorem itl_ok {F : Fx} {μ : List Addr} {H : Hp} {a : Addr} {xs : List V} {ds : List D} (f : FzL F μ H a xs) (r : RDs F μ H xs ds) (z : Sized F.K H) : ItOk F μ H (Itl F.K a) ds := by
  refine ⟨by rw [← r.length]; exact z a xs (.inl f.sq), fun F' μ' H' S' i e u s hi => ⟨fun d hd => ?_, fun hi => ?_⟩⟩
  · obtain ⟨v, h1, h2⟩ := r.get hd
    refine ⟨⟨xs, v, (f.up u).sq, h1⟩, fun x H'' y => ?_⟩
    obtain ⟨e1, y⟩ := y
    subst e1
    have q := y xs (f.up u).sq
    rw [h1] at q; cases q
    exact ⟨.refl, s, h2.mv (.ext e u)⟩
  · exact ⟨xs, (f.up u).sq, by rw [r.length, hi]; exact Nat.le_refl _⟩
/-- over a tuple, a list that stands still -/
def iSeq (m : ME) : MA := fun ρ S => (m ρ S).bind fun d S1 => match d with
  | .tup ds => .ok ds S1
  | .lst ds => .ok ds S1
  | _ => .bad
theorem di_seq (h : DE X W e m) : DI X W tg e (iSeq m) := by
  obtain ⟨te, pe, k⟩ := h
  refine ⟨_, piOr (piSized (pi_tup pe)) (piSized (pi_list pe)), fun ξ μ σ H ρ S R g s h => ?_⟩
  cases e1 : m ρ S with
  | bad => unfold iSeq at h; rw [e1] at h; exact h.elim
  | exc c fs S1 =>
    unfold iSeq at h; rw [e1] at h
    refine .inl (k ξ μ σ H ρ S _ g s ?_)
    rw [e1]; exact h
  | ok d S1 =>
    cases d with
    | tup ds =>
      refine .inl (k ξ μ σ H ρ S _ g s ?_)
      unfold iSeq at h
      rw [e1] at h ⊢
      intro v μ1 H1 u1 s1 r1
      cases r1 with
      | @tup a xs _ f r => exact ⟨a, rfl, ⟨xs, f.sq⟩, fun z => h _ μ1 H1 u1 s1 (itt_ok f r z)⟩
    | lst ds =>
      refine .inr (k ξ μ σ H ρ S _ g s ?_)
      unfold iSeq at h
      rw [e1] at h ⊢
      intro v μ1 H1 u1 s1 r1
      cases r1 with
      | @lst a xs _ f r => exact ⟨a, rfl, ⟨xs, f.sq⟩, fun z => h _ μ1 H1 u1 s1 (itl_ok f r z)⟩
    | _ => unfold iSeq at h; rw [e1] at h; exact h.elim
/-- over range(n), range(a, n) -/
def rngD (lo : Int) (n : Nat) : List D := (List.range n).map fun (i : Nat) => D.int (lo + i)
theorem rngD_length {lo : Int} {n : Nat} : (rngD lo n).length = n := by unfold rngD; rw [List.length_map, List.length_range]
theorem itr_ok {F : Fx} {μ : List Addr} {H : Hp} {lo : Int} {n : Nat} (hn : n ≤ 16777216) : ItOk F μ H (Itr lo n) (rngD lo n) := by
  refine ⟨by rw [rngD_length]; exact hn, fun F' μ' H' S' i e u s hi => ⟨fun d hd => ?_, fun hi => ?_⟩⟩
  · have hl : i < n := by
      have q := (List.getElem?_eq_some_iff.mp hd).1
      rw [rngD_length] at q; exact q
    refine ⟨hl, fun x H'' y => ?_⟩
    obtain ⟨e1, y⟩ := y
    subst e1
    subst y
    have e2 : d = .int (lo + i) := by
      unfold rngD at hd
      rw [List.getElem?_map, List.getElem?_range hl] at hd
      exact (Option.some.inj hd).symm
    subst e2
    exact ⟨.refl, s, .int _⟩
  · rw [rngD_length] at hi
    exact Nat.le_of_eq hi.symm
noncomputable def iRange1 (a : MA) : MA := fun ρ S => (a ρ S).bind fun ds S1 => match ds with
  | [.int j] => @ite _ (j ≤ 16777216 ∧ -4611686018427387904 ≤ j) (Classical.propDecidable _) (.ok (rngD 0 j.toNat) S1) .bad
  | _ => .bad
theorem di_range1 (ha : DA X W [a] mr) (hm : X.mg "range" = none) (hg : Gl X "range" := by rfl) (hs : starEach [a] X.env = [(false, eval a X.env)] := by rfl) : DI X W tg (.Call (.Name "range" p) [a] [] pos) (iRange1 mr) := by
  obtain ⟨ta, pa, ka⟩ := ha
  refine ⟨_, pi_range1 hg hm pa hs, fun ξ μ σ H ρ S R g s h => ka ξ μ σ H ρ S _ g s (WR.bind h fun ds S1 vs μ1 H1 u1 s1 r1 h1 => ?_)⟩
  cases r1 with
  | nil => exact h1.elim
  | @cons v vs d ds r rr =>
    cases rr with
    | cons _ _ => cases d <;> exact h1.elim
    | nil =>
      cases r with
      | int j =>
        simp only at h1
        by_cases c : j ≤ 16777216 ∧ -4611686018427387904 ≤ j
        · rw [if_pos c] at h1
          exact ⟨j, rfl, by omega, by omega, h1 _ μ1 H1 .refl s1 (itr_ok (by omega))⟩
        · rw [if_neg c] at h1; exact h1.elim
      | _ => exact h1.elim
noncomputable def iRange2 (a : MA) : MA := fun ρ S => (a ρ S).bind fun ds S1 => match ds with
  | [.int i, .int j] => @ite _ (-1000000000000 ≤ i ∧ i ≤ 1000000000000 ∧ -1000000000000 ≤ j ∧ j ≤ 1000000000000 ∧ j - i ≤ 16777216) (Classical.propDecidable _) (.ok (rngD i (j - i).toNat) S1) .bad
  | _ => .bad
theorem di_range2 (ha : DA X W [a, b] mr) (hm : X.mg "range" = none) (hg : Gl X "range" := by rfl) (hs : starEach [a, b] X.env = [(false, eval a X.env), (false, eval b X.env)] := by rfl) (hs2 : starEach [b] X.env = [(false, eval b X.env)] := by rfl) :
    DI X W tg (.Call (.Name "range" p) [a, b] [] pos) (iRange2 mr) := by
  obtain ⟨ta, pa, ka⟩ := ha
  refine ⟨_, pi_range2 hg hm pa hs hs2, fun ξ μ σ H ρ S R g s h => ka ξ μ σ H ρ S _ g s (WR.bind h fun ds S1 vs μ1 H1 u1 s1 r1 h1 => ?_)⟩
  cases r1 with
  | nil => exact h1.elim
  | @cons v vs d ds r rr =>
    cases rr with
    | nil => cases d <;> exact h1.elim
    | @cons v2 vs2 d2 ds2 r2 rr2 =>
      cases rr2 with
      | cons _ _ => cases d <;> cases d2 <;> exact h1.elim
      | nil =>
        cases r with
        | int i =>
          cases r2 with
          | int j =>
            simp only at h1
            by_cases c : -1000000000000 ≤ i ∧ i ≤ 1000000000000 ∧ -1000000000000 ≤ j ∧ j ≤ 1000000000000 ∧ j - i ≤ 16777216
            · rw [if_pos c] at h1
              exact ⟨i, j, rfl, ⟨by omega, by omega, by omega, by omega⟩, h1 _ μ1 H1 .refl s1 (itr_ok (by omega))⟩
            · rw [if_neg c] at h1; exact h1.elim
          | _ => exact h1.elim
        | _ => exact h1.elim
/-! ### for -/
def forL (f : D → Rho → Option Rho) (mb : MS) : List D → Rho → Sto → Out
  | [], ρ, S => .nx ρ S
  | d :: r, ρ, S => match f d ρ with
    | none => .bad
    | some ρ1 => match mb ρ1 S with
      | .nx ρ2 S2 => forL f mb r ρ2 S2
      | .ct ρ2 S2 => forL f mb r ρ2 S2
      | .bk ρ2 S2 => .nx ρ2 S2
      | .rt d S2 => .rt d S2
      | .exc c fs ρ2 S2 => .exc c fs ρ2 S2
      | .bad => .bad
def mFor (mi : MA) (f : D → Rho → Option Rho) (mb : MS) : MS := fun ρ S => ofRes (mi ρ S) ρ fun ds S1 => forL f mb ds ρ S1
theorem ds_for {f : D → Rho → Option Rho} {is : List Nat} {mb : MS} (hp : PassesOwn (model X.prog X.w) X.A X.env X.xe) (hc : X.calm = true) (hi : DI X W tg e mr) (hg : DG X tg f is) (hb : DSs X W sts mb)
    (hs : ∀ x, foldedSetIterable e X.env x = pure x := by intro _; rfl) : DS X W (.For tg e sts [] pos) (mFor mr f mb) := by
  obtain ⟨wi, pi, ki⟩ := hi
  obtain ⟨tg', pg, kg⟩ := hg
  obtain ⟨tb, pb, kb⟩ := hb
  refine ⟨_, ps_for hp hc pi pg pb hs, fun ξ μ σ H ρ S D g s h => ki ξ μ σ H ρ S _ g s (WS'.bind g h fun ds S1 J μ1 H1 u1 s1 r1 h1 => ?_)⟩
  refine ⟨fun i m σ' H' => ∃ μ' ρ' S', Up μ1 H1 μ' H' ∧ RS (fx X ξ) μ' H' S' ∧ RG (fx X ξ) μ' H' σ' ρ' ∧ i ≤ ds.length ∧ m = ds.length - i ∧ WS' (fx X ξ) (forL f mb (ds.drop i) ρ' S') D W μ' H',
    ⟨_, μ1, ρ, S1, .refl, s1, g.up u1, Nat.zero_le _, rfl, by rw [List.drop_zero]; exact h1⟩, ?_⟩
  rintro i m σ' H' ⟨μ', ρ', S', u', s', g', hi, rfl, w⟩
  obtain ⟨t1, t2⟩ := r1.2 (fx X ξ) μ' H' S' i .refl u' s' hi
  by_cases hl : i < ds.length
  · have hd : ds[i]? = some ds[i] := List.getElem?_eq_getElem hl
    obtain ⟨go, yl⟩ := t1 _ hd
    rw [List.drop_eq_getElem_cons hl] at w
    unfold forL at w
    cases ef : f ds[i] ρ' with
    | none => rw [ef] at w; exact w.elim
    | some ρ1 =>
      rw [ef] at w
      simp only at w
      refine .inr ⟨go, fun σ2 H2 => ∃ μ' ρ' S', Up μ1 H1 μ' H2 ∧ RS (fx X ξ) μ' H2 S' ∧ RG (fx X ξ) μ' H2 σ2 ρ' ∧ WS' (fx X ξ) (forL f mb (ds.drop (i + 1)) ρ' S') D W μ' H2,
        fun σ2 H2 ⟨μ2, ρ2, S2, a1, a2, a3, a4⟩ => ⟨_, by omega, μ2, ρ2, S2, a1, a2, a3, hl, rfl, a4⟩, fun x H2 y => ?_⟩
      obtain ⟨u2, s2, r2⟩ := yl x H2 y
      refine kg ξ μ' σ' H2 ρ' x _ ρ1 _ (g'.up u2) r2 ef fun σ2 g2 _ => ?_
      refine kb ξ μ' σ2 H2 ρ1 S' _ g2 s2 ?_
      have w := WS'.shift u2 w
      cases eb : mb ρ1 S' with
      | nx ρ2 S2 =>
        rw [eb] at w
        exact fun σ3 μ3 H3 u3 s3 g3 => ⟨μ3, ρ2, S2, u'.trans (u2.trans u3), s3, g3, w.shift u3⟩
      | ct ρ2 S2 =>
        rw [eb] at w
        exact fun σ3 μ3 H3 u3 s3 g3 => ⟨μ3, ρ2, S2, u'.trans (u2.trans u3), s3, g3, w.shift u3⟩
      | bk ρ2 S2 => rw [eb] at w; exact w
      | rt d S2 => rw [eb] at w; exact w
      | exc c fs ρ2 S2 => rw [eb] at w; exact w
      | bad => rw [eb] at w; exact w
  · have e : i = ds.length := by omega
    rw [e, List.drop_length] at w
    exact .inl ⟨t2 e, w σ' μ' H' .refl s' g'⟩
/-! ### for over a list's cell, as it stands at each turn -/
/-! ### while -/
end
/-! ### comprehensions -/
def wipeD (ρ : Rho) : List Nat → Rho
  | [] => ρ
  | v :: vs => (wipeD ρ vs).set v none
theorem RG.wipe {F : Fx} {μ : List Addr} {H : Hp} {σ : St} {ρ : Rho} (g : RG F μ H σ ρ) : ∀ vs : List Nat, RG F μ H (L2.wipe σ vs) (wipeD ρ vs)
  | [] => g
  | v :: vs => (RG.wipe g vs).forget (σ' := σ) v
def lcL (f : D → Rho → Option Rho) (mt me : ME) (ρ : Rho) : List D → Sto → Option (List D × Sto)
  | [], S => some ([], S)
  | d :: r, S => match f d ρ with
    | none => none
    | some ρ1 => match mt ρ1 S with
      | .ok (.bl true) S1 => match me ρ1 S1 with
        | .ok y S2 => match lcL f mt me ρ r S2 with
          | some (ys, S3) => some (y :: ys, S3)
          | none => none
        | _ => none
      | .ok (.bl false) S1 => lcL f mt me ρ r S1
      | _ => none
def mLc (mi : MA) (f : D → Rho → Option Rho) (mt me : ME) (vs : List Nat) : MA := fun ρ S => (mi ρ S).bind fun ds S1 => match lcL f mt me (wipeD ρ vs) ds S1 with
  | some (ys, S2) => .ok ys S2
  | none => .bad
def mYes : ME := fun _ S => .ok (.bl true) S
abbrev W0 : WX := fun _ _ _ _ => False
structure DTs (X : Cx) (W : WX) (es : List Expr) (m : ME) : Prop where
  ex : ∃ te, PTs X es te ∧ ∀ ξ μ σ H ρ S Q, RG (fx X ξ) μ H σ ρ → RS (fx X ξ) μ H S → WT' (fx X ξ) (m ρ S) Q (fun cls dd H' => W cls dd σ H') μ H → te σ H Q
section
variable {X : Cx} {W : WX} {tg e a b c : Expr} {es : List Expr} {st : Stmt} {sts ts : List Stmt} {ma mb mc m : ME} {mr : MA} {m1 m2 : MS} {pos p p1 p2 p3 : Pos}
theorem dts_nil : DTs X W [] mYes := ⟨_, pts_nil, fun ξ μ σ H ρ S Q g s h => h μ H .refl s⟩
theorem dts_one (h : DT X W c mc) : DTs X W [c] mc := let ⟨_, p, k⟩ := h; ⟨_, pts_one p, k⟩
theorem fx_fam {ι : Type} {Xf : ι → Cx} {K : Frag} {mg : Str → Option Value} {w : World} {ξ : List Addr} {i : ι} (hK : ∀ i, (Xf i).K = K) (hg : ∀ i, ((Xf i).mg, (Xf i).w) = (mg, w)) : fx (Xf i) ξ = ⟨K, mg, ξ, w⟩ := by
  have e1 : (Xf i).mg = mg := congrArg Prod.fst (hg i)
  have e2 : (Xf i).w = w := congrArg Prod.snd (hg i)
  unfold fx
  rw [hK, e1, e2]
/-- one word for all contexts of a family -/
theorem de_all {ι : Type} {Xf : ι → Cx} {e : Expr} {m : ME} {K : Frag} {mg : Str → Option Value} {w : World} (hK : ∀ i, (Xf i).K = K) (hg : ∀ i, ((Xf i).mg, (Xf i).w) = (mg, w)) (h : ∀ i, DE (Xf i) W e m) :
    ∃ te, (∀ i, PE (Xf i) e te) ∧ ∀ ξ μ σ H ρ S Q, RG ⟨K, mg, ξ, w⟩ μ H σ ρ → RS ⟨K, mg, ξ, w⟩ μ H S → WE' ⟨K, mg, ξ, w⟩ (m ρ S) Q (fun cls dd H' => W cls dd σ H') μ H → te σ H Q := by
  refine ⟨fun σ H Q => ∀ i, ∃ te, PE (Xf i) e te ∧ te σ H Q, fun i => ⟨fun pins s σ H Q I hw => ?_⟩, fun ξ μ σ H ρ S Q g s hw i => ?_⟩
  · obtain ⟨te, p, q⟩ := hw i
    exact p.run pins s σ H Q I q
  · obtain ⟨te, p, k⟩ := h i
    refine ⟨te, p, k ξ μ σ H ρ S Q ?_ ?_ ?_⟩
    all_goals (rw [fx_fam hK hg]; assumption)
theorem dts_all {ι : Type} {Xf : ι → Cx} {es : List Expr} {m : ME} {K : Frag} {mg : Str → Option Value} {w : World} (hK : ∀ i, (Xf i).K = K) (hg : ∀ i, ((Xf i).mg, (Xf i).w) = (mg, w)) (h : ∀ i, DTs (Xf i) W es m) :
    ∃ te, (∀ i, PTs (Xf i) es te) ∧ ∀ ξ μ σ H ρ S Q, RG ⟨K, mg, ξ, w⟩ μ H σ ρ → RS ⟨K, mg, ξ, w⟩ μ H S → WT' ⟨K, mg, ξ, w⟩ (m ρ S) Q (fun cls dd H' => W cls dd σ H') μ H → te σ H Q := by
  refine ⟨fun σ H Q => ∀ i, ∃ te, PTs (Xf i) es te ∧ te σ H Q, fun i => ⟨fun pins s σ H Q I hw => ?_⟩, fun ξ μ σ H ρ S Q g s hw i => ?_⟩
  · obtain ⟨te, p, q⟩ := hw i
    exact p.run pins s σ H Q I q
  · obtain ⟨te, p, k⟩ := h i
    refine ⟨te, p, k ξ μ σ H ρ S Q ?_ ?_ ?_⟩
    all_goals (rw [fx_fam hK hg]; assumption)
theorem dg_all {ι : Type} {Xf : ι → Cx} {tg : Expr} {f : D → Rho → Option Rho} {is : List Nat} {K : Frag} {mg : Str → Option Value} {w : World} (hK : ∀ i, (Xf i).K = K) (hg : ∀ i, ((Xf i).mg, (Xf i).w) = (mg, w)) (h : ∀ i, DG (Xf i) tg f is) :
    ∃ t, (∀ i, PG (Xf i) tg t) ∧ ∀ ξ μ σ H ρ v d ρ' (Q : St → Hp → Prop), RG ⟨K, mg, ξ, w⟩ μ H σ ρ → RD ⟨K, mg, ξ, w⟩ μ H v d → f d ρ = some ρ' →
    (∀ σ', RG ⟨K, mg, ξ, w⟩ μ H σ' ρ' → (∀ js : List Nat, (∀ i ∈ is, i ∈ js) → wipe σ' js = wipe σ js) → Q σ' H) → t v σ H Q := by
  refine ⟨fun v σ H Q => ∀ i, ∃ t, PG (Xf i) tg t ∧ t v σ H Q, fun i => ⟨fun pins s σ H v u Q I r hw => ?_⟩, fun ξ μ σ H ρ v d ρ' Q g r e k i => ?_⟩
  · obtain ⟨t, p, q⟩ := hw i
    exact p.run pins s σ H v u Q I r q
  · obtain ⟨t, p, kk⟩ := h i
    refine ⟨t, p, kk ξ μ σ H ρ v d ρ' Q ?_ ?_ e fun σ' g' w => k σ' ?_ w⟩
    · rw [fx_fam hK hg]; exact g
    · rw [fx_fam hK hg]; exact r
    · have g'' := g'
      rw [fx_fam hK hg] at g''
      exact g''
abbrev Blk := Shared × Hp × Addr × List (Str × Addr) × List Addr
abbrev blkOf (X : Cx) (scope : Scope) (i : Blk) : Cx := X.blk i.1 i.2.1 scope (compEnvC scope i.2.2.2.1 i.2.2.1 X.env) i.2.2.2.2
/-- the reading of a comprehension -/
theorem lc_read {wi : TI} {tg' : TG} {tt : TT} {te : TE} {f : D → Rho → Option Rho} {is vs : List Nat} {ξ μ : List Addr} {σ : St} {H : Hp} {ρ : Rho} {S : Sto} {Q : VK} {Wx : Value → Option Addr → Hp → Prop} {mi : MA} {mt me : ME}
    (ki : ∀ R, WR (fx X ξ) (fun μ H (J : It) (ds : List D) => ItOk (fx X ξ) μ H J ds) (mi ρ S) R Wx μ H → wi σ H R)
    (kg : ∀ ξ μ σ H ρ v d ρ' (Q : St → Hp → Prop), RG (fx X ξ) μ H σ ρ → RD (fx X ξ) μ H v d → f d ρ = some ρ' → (∀ σ', RG (fx X ξ) μ H σ' ρ' → (∀ js : List Nat, (∀ i ∈ is, i ∈ js) → wipe σ' js = wipe σ js) → Q σ' H) → tg' v σ H Q)
    (kt : ∀ ξ μ σ H ρ S Q, RG (fx X ξ) μ H σ ρ → RS (fx X ξ) μ H S → WT' (fx X ξ) (mt ρ S) Q (fun cls dd H' => W0 cls dd σ H') μ H → tt σ H Q)
    (ke : ∀ ξ μ σ H ρ S Q, RG (fx X ξ) μ H σ ρ → RS (fx X ξ) μ H S → WE' (fx X ξ) (me ρ S) Q (fun cls dd H' => W0 cls dd σ H') μ H → te σ H Q)
    (hv : ∀ i ∈ is, i ∈ vs) (g : RG (fx X ξ) μ H σ ρ) (s : RS (fx X ξ) μ H S) (h : WL' (fx X ξ) (mLc mi f mt me vs ρ S) Q Wx μ H) : tLc wi tg' tt te vs σ H Q := by
  refine ki _ (WL'.bind h fun ds S1 J μ1 H1 u1 s1 r1 h1 => ?_)
  intro D hD
  obtain ⟨hz, r1⟩ := r1
  have n1 : D ∉ μ1 := s1.out hD
  have x1 : D ∉ ξ := s1.outX hD
  have ext : Ext (fx X ξ) ((fx X ξ).hold D) H1 := ⟨rfl, rfl, fun a ha => (List.mem_cons.mp ha).elim (fun z => .inr (by rw [z]; exact hD)) .inl⟩
  have main : WL' (fx X ξ) (match lcL f mt me (wipeD ρ vs) ds S1 with
    | some (ys, S2) => Res.ok ys S2
    | none => .bad) Q Wx μ1 H1 := h1
  refine ⟨fun i m H' => ∃ μ' S' acc dacc, Up μ1 H1 μ' H' ∧ RS ((fx X ξ).hold D) μ' H' S' ∧ H' D = some (.lst acc) ∧ RDs ((fx X ξ).hold D) μ' H' acc dacc ∧ acc.length ≤ i ∧ i ≤ ds.length ∧ m = ds.length - i ∧
      ∃ ys S2, lcL f mt me (wipeD ρ vs) (ds.drop i) S' = some (ys, S2) ∧ ∀ μ2 H2 xs, Up μ1 H1 μ2 H2 → RS ((fx X ξ).hold D) μ2 H2 S2 → RDs ((fx X ξ).hold D) μ2 H2 xs (dacc ++ ys) → H2 D = some (.lst xs) → Q (.ref D) H2,
    ⟨_, μ1, S1, [], [], .fresh hD, s1.holds hD, upd_same, .nil, Nat.le_refl _, Nat.zero_le _, rfl, ?_⟩, ?_⟩
  · rw [List.drop_zero]
    cases q : lcL f mt me (wipeD ρ vs) ds S1 with
    | none => rw [q] at main; exact main.elim
    | some r =>
      obtain ⟨ys, S2⟩ := r
      rw [q] at main
      exact ⟨ys, S2, rfl, fun μ2 H2 xs u2 s2 r2 e2 => main D xs μ2 H2 u2 hD s2 r2 e2⟩
  rintro i m H' ⟨μ', S', acc, dacc, u', s', hacc, racc, hla, hi, rfl, ys, S2, eL, fin⟩
  obtain ⟨t1, t2⟩ := r1 ((fx X ξ).hold D) μ' H' S' i ext u' s' hi
  by_cases hl : i < ds.length
  · obtain ⟨go, yl⟩ := t1 _ (List.getElem?_eq_getElem hl)
    rw [List.drop_eq_getElem_cons hl] at eL
    unfold lcL at eL
    cases ef : f ds[i] (wipeD ρ vs) with
    | none => rw [ef] at eL; exact nomatch eL
    | some ρ1 =>
      rw [ef] at eL
      simp only at eL
      refine .inr ⟨go, fun H2 => ∃ μ' S' acc dacc, Up μ1 H1 μ' H2 ∧ RS ((fx X ξ).hold D) μ' H2 S' ∧ H2 D = some (.lst acc) ∧ RDs ((fx X ξ).hold D) μ' H2 acc dacc ∧ acc.length ≤ i + 1 ∧
          ∃ ys S2, lcL f mt me (wipeD ρ vs) (ds.drop (i + 1)) S' = some (ys, S2) ∧ ∀ μ2 H2 xs, Up μ1 H1 μ2 H2 → RS ((fx X ξ).hold D) μ2 H2 S2 → RDs ((fx X ξ).hold D) μ2 H2 xs (dacc ++ ys) → H2 D = some (.lst xs) → Q (.ref D) H2,
        fun H2 ⟨μ2, S3, acc2, dacc2, a1, a2, a3, a4, a5, a6⟩ => ⟨_, by omega, μ2, S3, acc2, dacc2, a1, a2, a3, a4, a5, hl, rfl, a6⟩, fun x H2 y => ?_⟩
      obtain ⟨u2, s2, r2⟩ := yl x H2 y
      have g2 : RG (fx X (D :: ξ)) μ' H2 (wipe σ vs) (wipeD ρ vs) := (((g.up u1).mv (.ext ext (u'.trans u2)))).wipe vs
      refine kg (D :: ξ) μ' (wipe σ vs) H2 (wipeD ρ vs) x _ ρ1 _ g2 r2 ef fun σ3 g3 w3 => ?_
      have nD : D ∉ μ' := (s'.xi D List.mem_cons_self).1
      have eD : H2 D = some (.lst acc) := u2.keep _ _ hacc nD
      have ww : wipe (wipe σ vs) vs = wipe σ vs := by
        refine List.ext_getElem? fun k => ?_
        rw [wipe_get, wipe_get, wipe_length]
        by_cases q : k ∈ vs ∧ k < σ.length
        · rw [if_pos q, if_pos q]
        · rw [if_neg q, if_neg q]
      refine ⟨by rw [w3 vs hv, ww], ?_⟩
      refine kt (D :: ξ) μ' σ3 H2 ρ1 S' _ g3 s2 ?_
      have racc2 := racc.up u2
      cases et : mt ρ1 S' with
      | bad => rw [et] at eL; exact nomatch eL
      | exc c fs S3 => rw [et] at eL; exact nomatch eL
      | ok d S3 =>
        rw [et] at eL
        cases d with
        | bl b =>
          intro μ3 H3 u3 s3
          have eD3 : H3 D = some (.lst acc) := u3.keep _ _ eD nD
          cases b with
          | false =>
            exact ⟨μ3, S3, acc, dacc, u'.trans (u2.trans u3), s3, eD3, racc2.up u3, Nat.le_succ_of_le hla, ys, S2, eL, fin⟩
          | true =>
            simp only at eL
            refine ke (D :: ξ) μ3 σ3 H3 ρ1 S3 _ (g3.up u3) s3 ?_
            cases ee : me ρ1 S3 with
            | bad => rw [ee] at eL; exact nomatch eL
            | exc c fs S4 => rw [ee] at eL; exact nomatch eL
            | ok y S4 =>
              rw [ee] at eL
              intro v μ4 H4 u4 s4 r4
              simp only at eL
              cases er : lcL f mt me (wipeD ρ vs) (ds.drop (i + 1)) S4 with
              | none => rw [er] at eL; exact nomatch eL
              | some q =>
                obtain ⟨zs, S5⟩ := q
                rw [er] at eL
                cases eL
                have nD3 : D ∉ μ3 := (s3.xi D List.mem_cons_self).1
                have eD4 : H4 D = some (.lst acc) := u4.keep _ _ eD3 nD3
                refine ⟨acc, eD4, by rw [sizeLine_eq]; omega, μ4, S4, acc ++ [v], dacc ++ [y], ?_, RS.wr (F := fx X ξ) (p := D) s4, upd_same, RDs.mv (Mv.wr (F := fx X ξ) (p := D)) _ (RDs.append (F := (fx X ξ).hold D) ((racc2.up u3).up u4) (.cons r4 .nil)), by rw [List.length_append, List.length_singleton]; omega, zs, S2, er, fun μ5 H5 xs u5 s5 r5 e5 => fin μ5 H5 xs u5 s5 (by rw [List.append_assoc] at r5; exact r5) e5⟩
                have U := u'.trans (u2.trans (u3.trans u4))
                exact ⟨U.pre, U.new, fun a o ha na => by
                  rw [upd_ne (ne_of_none ha hD)]
                  exact U.keep a o ha na⟩
        | _ => exact nomatch eL
  · have e : i = ds.length := by omega
    rw [e, List.drop_length] at eL
    cases eL
    exact .inl ⟨t2 e, fin μ' H' acc u' s' (by rw [List.append_nil]; exact racc) hacc⟩
theorem dl_lc {elt : Expr} {ifs : List Expr} {scope : Scope} {own : List (Str × Nat)} {f : D → Rho → Option Rho} {is : List Nat} {mt me : ME} (hc : X.calm = true) (hN : X.N.Nodup) (hi : DI X W tg e mr) (ok : BlkOk X.N X.env.scope scope own)
    (hg : ∀ (s : Shared) (H : Hp) (C : Addr) (cl : List (Str × Addr)) (fp : List Addr), DG (X.blk s H scope (compEnvC scope cl C X.env) fp) tg f is)
    (ht : ∀ (s : Shared) (H : Hp) (C : Addr) (cl : List (Str × Addr)) (fp : List Addr), DTs (X.blk s H scope (compEnvC scope cl C X.env) fp) W0 ifs mt)
    (he : ∀ (s : Shared) (H : Hp) (C : Addr) (cl : List (Str × Addr)) (fp : List Addr), DE (X.blk s H scope (compEnvC scope cl C X.env) fp) W0 elt me)
    (hv : ∀ i ∈ is, i ∈ own.map (·.2) := by decide) (hs : ∀ x, foldedSetIterable e X.env x = pure x := by intro _; rfl) : DL X W (.ListComp elt [⟨tg, e, ifs, 0⟩] scope pos) (mLc mr f mt me (own.map (·.2))) := by
  obtain ⟨wi, pi, ki⟩ := hi
  obtain ⟨tg', pg, kg⟩ := dg_all (Xf := blkOf X scope) (K := X.K) (mg := X.mg) (fun _ => rfl) (fun _ => rfl) fun i => hg i.1 i.2.1 i.2.2.1 i.2.2.2.1 i.2.2.2.2
  obtain ⟨tt, pt, kt⟩ := dts_all (Xf := blkOf X scope) (K := X.K) (mg := X.mg) (fun _ => rfl) (fun _ => rfl) fun i => ht i.1 i.2.1 i.2.2.1 i.2.2.2.1 i.2.2.2.2
  obtain ⟨te, pe, ke⟩ := de_all (Xf := blkOf X scope) (K := X.K) (mg := X.mg) (fun _ => rfl) (fun _ => rfl) fun i => he i.1 i.2.1 i.2.2.1 i.2.2.2.1 i.2.2.2.2
  refine ⟨_, pe_lc hc hN pi ok (fun s H C cl fp => pg (s, H, C, cl, fp)) (fun s H C cl fp => pt (s, H, C, cl, fp)) (fun s H C cl fp => pe (s, H, C, cl, fp)) hs, fun ξ μ σ H ρ S Q g s h => ?_⟩
  exact lc_read (fun R => ki ξ μ σ H ρ S R g s) kg kt ke hv g s h
end
end Dm
-- text DmDef
namespace Dm
open PySem L2 PySem.Spec PyProof.Rows
open PySem.W (Frag)
/-! ### defs -/
def mDef (np nN : Nat) (b : MS) (ds : List D) (S : Sto) : Res D := if ds.length = np then
    match b (ds.map some ++ List.replicate (nN - np) none) S with
    | .nx _ S' => .ok .non S'
    | .rt d S' => .ok d S'
    | .exc c fs _ S' => .exc c fs S'
    | _ => .bad
  else .bad
/-- a def's promise: what its word says -/
def spD (w : World) (K : Frag) (mg : Str → Option Value) (m : List D → Sto → Res D) : Sp := fun vs H Q E => ∃ ξ μ ds S, RS ⟨K, mg, ξ, w⟩ μ H S ∧ RDs ⟨K, mg, ξ, w⟩ μ H vs ds ∧ WE' ⟨K, mg, ξ, w⟩ (m ds S) Q (fun cls dd H' => E cls dd H') μ H
structure FnD (P : Program) (w : World) (K : Frag) (mg : Str → Option Value) (base : Heap) (k : Nat) (x : Str) (st : Stmt) (ps : List Str) (m : List D → Sto → Res D) : Prop where
  ex : ∃ f fd, mg x = some (.ref f) ∧ Fun K x x st f fd ∧ Binds K fd ps [] ∧ FnOk P w K mg base (L2.CX P w) k f fd ps (spD w K mg m)
section
variable {P : Program} {w : World} {K : Frag} {mg : Str → Option Value} {base : Heap}
theorem FnD.mono {j k : Nat} {x : Str} {st : Stmt} {ps : List Str} {m : List D → Sto → Res D} (F : FnD P w K mg base j x st ps m) (h : j ≤ k) : FnD P w K mg base k x st ps m :=
  let ⟨f, fd, a, b, c, d⟩ := F; ⟨f, fd, a, b, c, d.mono h⟩
theorem rg_start {F : Fx} {μ : List Addr} {H : Hp} {N : List Str} {vs : List V} {ds : List D} (r : RDs F μ H vs ds) : RG F μ H (L2.start N vs) (ds.map some ++ List.replicate (N.length - ds.length) none) := by
  refine ⟨by unfold L2.start; rw [List.length_append, List.length_append, List.length_map, List.length_map, List.length_replicate, List.length_replicate, r.length], fun i d e => ?_⟩
  by_cases h : i < ds.length
  · rw [List.getElem?_append_left (by rw [List.length_map]; exact h), List.getElem?_map] at e
    cases q : ds[i]? with
    | none => rw [q] at e; exact nomatch e
    | some d' =>
      rw [q] at e
      cases e
      obtain ⟨v, h1, h2⟩ := r.get q
      refine ⟨v, ?_, h2⟩
      unfold L2.start
      rw [List.getElem?_append_left (by rw [List.length_map, r.length]; exact h), List.getElem?_map, h1] <;> rfl
  · rw [List.getElem?_append_right (by rw [List.length_map]; omega), List.getElem?_replicate] at e
    split at e <;> cases e
theorem fnd_mk {x : Str} {st : Stmt} {f : Addr} {fd : FuncData} {N ps : List Str} {k np nN : Nat} {mb : MS} (hm : mg x = some (.ref f)) (F : Fun K x x st f fd) (B : Binds K fd ps []) (S : FnScope N ps (defScope st)) (hnp : ps.length = np) (hnN : N.length = nN)
    (hb : ∀ (cdv : Value) (A : Around) (outer : List Env) (s : Shared) (H : Hp) (E : XK), Room k (A.deeper (envOfC x (defScope st) s.heap.objs.size f cdv)) →
      DSs (cxOf (L2.CX P w) P w K mg base N x (defScope st) f cdv A outer s H E) (fun cls d _ H => E cls d H) (defBody st) mb) : FnD P w K mg base (k + 1) x st ps (mDef np nN mb) := by
  subst hnp hnN
  refine ⟨f, fd, hm, F, B, F.okX S (fun vs H Q E h => ?_) (fun cdv A outer s H vs Q E hr h => ?_)⟩
  · obtain ⟨ξ, μ, ds, S0, s0, r0, w0⟩ := h
    unfold mDef at w0
    by_cases c : ds.length = ps.length
    · rw [r0.length]; exact c
    · rw [if_neg c] at w0; exact w0.elim
  · obtain ⟨ξ, μ, ds, S0, s0, r0, w0⟩ := h
    obtain ⟨ts, pt, kt⟩ := hb cdv A outer s H E hr
    refine ⟨ts, pt, ?_⟩
    unfold mDef at w0
    by_cases c : ds.length = ps.length
    · rw [if_pos c] at w0
      refine kt ξ μ _ H _ S0 _ (rg_start r0) s0 ?_
      show WS' ⟨K, mg, ξ, w⟩ _ _ _ μ H
      rw [c]
      cases e : mb (ds.map some ++ List.replicate (N.length - ps.length) none) S0 with
      | nx ρ S' => rw [e] at w0; exact fun σ μ' H' u s g => w0 _ μ' H' u s .non
      | rt d S' => rw [e] at w0; exact w0
      | exc c fs ρ S' => rw [e] at w0; exact fun cls dd σ μ' H' u s g x => w0 cls dd μ' H' u s x
      | bk ρ S' => rw [e] at w0; exact w0.elim
      | ct ρ S' => rw [e] at w0; exact w0.elim
      | bad => rw [e] at w0; exact w0.elim
    · rw [if_neg c] at w0; exact w0.elim
end
/-! ### calls of defs -/
theorem vals_perm : ∀ (p : List Nat) {vs : List V} {us : List Value}, Vals vs us → Vals (p.filterMap (vs[·]?)) (p.filterMap (us[·]?))
  | [], _, _, _ => .nil
  | i :: p, vs, us, r => by
    rw [List.filterMap_cons, List.filterMap_cons]
    cases e : vs[i]? with
    | none =>
      rw [r.none_of e]
      exact vals_perm p r
    | some v =>
      obtain ⟨u, h1, h2⟩ := r.get e
      rw [h1]
      exact .cons h2 (vals_perm p r)
theorem rds_perm {F : Fx} {μ : List Addr} {H : Hp} : ∀ (p : List Nat) {vs : List V} {ds : List D}, RDs F μ H vs ds → RDs F μ H (p.filterMap (vs[·]?)) (p.filterMap (ds[·]?))
  | [], _, _, _ => .nil
  | i :: p, vs, ds, r => by
    rw [List.filterMap_cons, List.filterMap_cons]
    cases e : vs[i]? with
    | none =>
      have e' : ds[i]? = none := by
        rw [List.getElem?_eq_none_iff] at e ⊢
        rw [← r.length]; exact e
      rw [e']
      exact rds_perm p r
    | some v =>
      obtain ⟨d, h1, h2⟩ := r.getV e
      rw [h1]
      exact .cons h2 (rds_perm p r)
section
variable {X : Cx} {W : WX} {tg e a b c : Expr} {es : List Expr} {kws : List Keyword} {st : Stmt} {sts ts : List Stmt} {ma mb mc m : ME} {mr mk : MA} {m1 m2 : MS} {pos p p1 p2 p3 kpos : Pos} {nm : Option Str}
/-- f(e, ..) -/
theorem d_call {j k : Nat} {x : Str} {ps : List Str} {f : List D → Sto → Res D} (F : FnD X.prog X.w X.K X.mg X.base j x st ps f) (hr : Room k X.A) (tk : Takes X W) (ha : DA X W (e :: es) mr) (hj : j ≤ k := by decide) (hg : Gl X x := by rfl)
    (hdb : (x == ("__debug__" : Str)) = false := by decide) (he : starEach (e :: es) X.env = (false, eval e X.env) :: starEach es X.env := by rfl) (hpl : (backTo pos (starEach es X.env)).any (·.1) = false := by rfl) :
    DE X W (.Call (.Name x p) (e :: es) [] pos) (mCall f mr) := by
  obtain ⟨fa, fd, hm, Fu, B, G⟩ := F
  obtain ⟨ta, pa, ka⟩ := ha
  refine ⟨_, pe_callSD G (hr.mono hj) hg hm Fu.kp B .nil (fun σ => passAt tk σ) pa hdb he hpl, fun ξ μ σ H ρ S Q g s h => ka ξ μ σ H ρ S _ g s (WR.bind h fun xs S1 vs μ1 H1 u1 s1 r1 h1 => ?_)⟩
  rw [List.append_nil]
  exact ⟨ξ, μ1, xs, S1, s1, r1, h1⟩
/-- f(e, .., k = v, ..): perm puts the written values, then the keywords', in the parameters' order; n, q: how many of each -/
def mCallK (f : List D → Sto → Res D) (n q : Nat) (perm : List Nat) (a k : MA) : ME := fun ρ S => (a ρ S).bind fun xs S1 => (k ρ S1).bind fun zs S2 => if xs.length = n ∧ zs.length = q then f (perm.filterMap ((xs ++ zs)[·]?)) S2 else .bad
/-! ### raise X('..') -/
structure XcOk (K : Frag) (mg : Str → Option Value) (x : Str) : Prop where
  ex : ∃ C : Addr, mg x = some (.ref C) ∧ PySem.W.excIn K C [.type "ValueError", .type "Exception", .type "BaseException", .type "object"] "ValueError.__new__" = true ∧ PySem.W.keepIn K (.ref C) = true ∧ PySem.W.subIn K (.ref C) (.type "BaseException") = some true ∧ PySem.W.typeIn K (.ref C) = some (.type "type")
def mRaise (c : Str) : MS := fun ρ S => .exc c [] ρ S
theorem ds_raise {x msg : Str} {jj : Nat} {pos2 : Pos} (C : XcOk X.K X.mg x) (hc : X.calm = true) (tk : Takes X W) (hg : Gl X x := by rfl) (hdb : (x == ("__debug__" : Str)) = false := by decide) :
    DS X W (.Raise (some (.Call (.Name x p) [.Constant (.str msg) jj p2] [] pos)) none pos2) (mRaise x) := by
  obtain ⟨C, h1, h2, h3, h4, h5⟩ := C
  exact ⟨_, ps_raise hc tk (pmk_own PySem.F.excBase_ValueError h2 h1 h3 (raises_own h4 h5) hg hdb), fun ξ μ σ H ρ S D g s h => h _ none σ μ H .refl s g ⟨h1, .inl ⟨rfl, rfl⟩⟩⟩
/-- x += e -/
def mAug (i : Nat) (f : Int → Int → Int) (m : ME) : MS := fun ρ S => match ρ[i]? with
  | some (some (.int a)) => ofRes (m ρ S) ρ fun d S1 => match d with
    | .int b => .nx (ρ.set i (some (.int (f a b)))) S1
    | _ => .bad
  | _ => .bad
end
end Dm
-- text DmIter
namespace Dm
open PySem L2 PySem.Spec PyProof.Rows
open PySem.W (Frag)
/-! ### enumerate of a tuple -/
theorem enumNew1 {v : Value} {o : Obj} {Hh : Heap → Prop} (B : Begins v o Hh) :
    Meets (Builtin.«enumerate.__new__» ⟨[.type "enumerate", v], []⟩) (fun _ R s => Hh s.heap ∧
      R (.ok (.ret (.ref (s.heap.push o).objs.size))) { s with heap := (s.heap.push o).push { cls := .type "enumerate", data := .fields #[.none, .bool false, .ref s.heap.objs.size, rawInt 0, .none, .none] } }) :=
  .of_wp fun prog w A R s hh => by
    obtain ⟨hp, g, d, tk, os⟩ := s
    obtain ⟨ha, hb⟩ := hh
    have hsub := sub_enumerate
    have q1 : ∀ {A' : Around} {E : Value → Shared → Prop} {Q : Value → Shared → Prop}, Q (.ref hp.objs.size) ⟨hp.push o, g, d, tk, os⟩ → wpAny (model prog w) A' (pyIter v) Q E ⟨hp, g, d, tk, os⟩ :=
      fun q => B.iter prog w _ _ ⟨hp, g, d, tk, os⟩ _ ha q
    wp_walk using q1
    refine wpAny_stack_any fun st => wpAny_pure ?_
    split
    · rename_i c _ _ _ _ _
      cases (c == Value.type "enumerate") <;> (wp_walk using q1; exact ⟨_, rfl, hb⟩)
    · (wp_walk using q1); exact ⟨_, rfl, hb⟩
theorem enumBegin1 {prog : Program} {w : World} {A : Around} {E : Value → Shared → Prop} {s : Shared} {v : Value} {o : Obj} {Hh : Heap → Prop} {Q : Value → Shared → Prop} (B : Begins v o Hh) (ha : Hh s.heap)
    (k : ∀ h', IsEnum h' (s.heap.objs.size + 1) s.heap.objs.size 0 .none → h'.get? s.heap.objs.size = some o → (∀ b u, s.heap.get? b = some u → h'.get? b = some u) → Q (.ref (s.heap.objs.size + 1)) { s with heap := h' }) :
    wpAny (model prog w) A (call (.type "enumerate") [v]) Q E s := by
  refine callType_new F.called_enumerate (by decide) (F.typeCall_enumerate_1 _) (F.newCall_enumerate_1 _) (fun obj => F.args_object_init_2 obj _) F.entry_enumerate_new (enumNew1 B) ⟨ha, ?_⟩
  have z : (s.heap.push o).objs.size = s.heap.objs.size + 1 := Heap.size_push ..
  have en := Heap.get?_push_size (s.heap.push o) (o := { cls := .type "enumerate", data := .fields #[.none, .bool false, .ref s.heap.objs.size, rawInt 0, .none, .none] }) rfl
  rw [z] at en
  show _ ∧ _
  rw [z]
  exact ⟨⟨_, en, rfl⟩, k _ en (Heap.get?_push_of_some _ (Heap.get?_push_size _ B.free)) fun b u q => Heap.get?_push_of_some _ (Heap.get?_push_of_some _ q)⟩
/-- at each turn the next item in a new pair -/
def PrF (i : Nat) (x : V) (H : Hp) (T : Addr) (H' : Hp) : Prop := ∃ o : Obj, o.dict = none ∧ H T = none ∧ H' = upd H T (.frz o (.tup [.int (i : Nat), x]))
def IteT (K : Frag) (a : Addr) : It :=
  ⟨fun i H => ∃ (xs : List V) (x : V), SqT K H a xs ∧ xs[i]? = some x, fun i H v H' => ∃ T x, v = .ref T ∧ PrF i x H T H' ∧ ∀ xs, SqT K H a xs → xs[i]? = some x, fun i H => ∃ xs : List V, SqT K H a xs ∧ xs.length ≤ i⟩
theorem turn_enumT {P : Program} {w : World} {K : Frag} {elts : List Expr} {kk : Nat} {tpos : Pos} (a e it : Addr) (hne : e ≠ it) :
    Turn P w K (.Tuple elts kk tpos) (IteT K a) [e, it] e (fun i h => (∃ old, IsEnum h e it ((i : Nat) : Int) old) ∧ h.IsTupleIter it a i) where
  mem := List.mem_cons_self
  obj := fun i h st b hb => by
    obtain ⟨⟨old, he⟩, ⟨o, ho, hc, hd⟩⟩ := st
    rcases List.mem_cons.mp hb with z | z
    · rw [z]; exact ⟨_, he, fun v q => nomatch q⟩
    · rw [List.mem_singleton.mp z]; exact ⟨o, ho, fun v q => by rw [hd] at q; cases q⟩
  keep := fun i h h' st k => by
    obtain ⟨⟨old, he⟩, ⟨o, ho, r⟩⟩ := st
    exact ⟨⟨old, k e List.mem_cons_self _ he⟩, ⟨o, k it (List.mem_cons_of_mem _ List.mem_cons_self) o ho, r⟩⟩
  item := by
    intro X hP hw hK hc i pins s σ H E I hf st hg
    subst hP hw hK
    obtain ⟨⟨old, he⟩, hit⟩ := st
    obtain ⟨xs, x, hq, hx⟩ := hg
    obtain ⟨its, rv, ht, hz⟩ := I.tuple hq
    obtain ⟨u, hu, ru⟩ := rv.get hx
    have hel : e < s.heap.objs.size := Heap.lt_size he
    have hil : it < s.heap.objs.size := by obtain ⟨_, q, _⟩ := hit; exact Heap.lt_size q
    have nai : a ≠ it := by
      rintro rfl
      obtain ⟨o1, q1, c1, _⟩ := ht
      obtain ⟨o2, q2, c2, _⟩ := hit
      rw [q1] at q2; cases q2
      rw [c1] at c2
      exact absurd (Value.type.inj c2) (by decide)
    have nae : e ∉ [it, a] := fun z => by
      rcases List.mem_cons.mp z with z | z
      · exact hne z
      · rw [List.mem_singleton.mp z] at he
        obtain ⟨o1, q1, c1, _⟩ := ht
        have he' : s.heap.get? a = some _ := he
        rw [q1] at he'; cases he'
        exact absurd (Value.type.inj c1) (by decide)
    have D := Draws.tuple (prog := X.prog) (w := X.w) (A := X.A.in1) (by exact I.ok.hd hc) it a nai its.toArray
    have hlt : i < its.toArray.size := by
      have q := (List.getElem?_eq_some_iff.mp hu).1
      rw [List.size_toArray]; exact q
    refine wpAny_pyNext_enum_itemD D he ⟨hit, ht⟩ hlt hne nae fun x' h' tk hx' ho hit' hT hsz hk => ?_
    have ex : x' = u := by
      have hx'' : its.toArray[i]? = some x' := hx'
      rw [List.getElem?_toArray, hu] at hx''
      exact (Option.some.inj hx'').symm
    subst ex
    refine ⟨_, rfl, wpAny_letOwnedTupleGo_enum (s := { s with heap := h', toks := tk + 1 }) ho fun h'' he' sb => ?_⟩
    have hT2 : h''.get? s.heap.objs.size = some { cls := .type "tuple", data := .seq #[.int i tk, x'] } := (sb.2 _ (Nat.ne_of_gt hel)).trans hT
    have new : ObjOk X.prog X.w (upd H s.heap.objs.size (.frz { cls := .type "tuple", data := .seq #[.int i tk, x'] } (.tup [.int (i : Nat), x]))) h'' s.heap.objs.size (.frz { cls := .type "tuple", data := .seq #[.int i tk, x'] } (.tup [.int (i : Nat), x])) :=
      ⟨hT2, by rw [sizeLine_eq]; show 2 ≤ 16777216; decide, [.int i tk, x'], .cons ⟨_, rfl⟩ (.cons ru .nil), ⟨_, hT2, rfl, _, rfl⟩⟩
    have I1 : Inv X pins σ (upd H s.heap.objs.size (.frz { cls := .type "tuple", data := .seq #[.int i tk, x'] } (.tup [.int (i : Nat), x]))) { s with heap := h'', toks := tk + 1 } :=
      I.turnedNew (ch := [e, it]) (fun b ob hb q => (sb.2 b fun z => hb (by rw [z]; exact List.mem_cons_self)).trans (hk b ob (fun z => hb (by rw [z]; exact List.mem_cons_self)) (fun z => hb (by rw [z]; exact List.mem_cons_of_mem _ List.mem_cons_self)) q)) hf (Nat.le_refl _) new
    refine ⟨.ref s.heap.objs.size, _, I1, rfl, ⟨_, x, rfl, ⟨_, rfl, I.hok.fresh (Nat.le_refl _), rfl⟩, fun ys hy => by rw [I.tuple_inj hy hq]; exact hx⟩, ⟨⟨x', ?_⟩, ?_⟩, fun b hb => ?_⟩
    · have e1 : ((i + 1 : Nat) : Int) = (i : Int) + 1 := by omega
      rw [e1]; exact he'
    · obtain ⟨⟨o1, q1, r1⟩, _⟩ := hit'
      exact ⟨o1, (sb.2 it hne.symm).trans q1, r1⟩
    · have hb' : b < s.heap.objs.size := by
        rcases List.mem_cons.mp hb with z | z
        · rw [z]; exact hel
        · rw [List.mem_singleton.mp z]; exact hil
      rw [upd_ne (Nat.ne_of_lt hb')]
      exact (hf b hb).1
  done := by
    intro X hP hw hK hc i pins s σ H E I hf st hg
    subst hP hw hK
    obtain ⟨⟨old, he⟩, hit⟩ := st
    obtain ⟨xs, hq, hx⟩ := hg
    obtain ⟨its, rv, ht, hz⟩ := I.tuple hq
    obtain ⟨f0, f1, f2, f3, f4, f5⟩ := hf it (List.mem_cons_of_mem _ List.mem_cons_self)
    have hl := rv.length
    have nx : its.toArray[i]? = none := by
      rw [List.getElem?_toArray]
      exact List.getElem?_eq_none_iff.mpr (by omega)
    have D : Draws X.prog X.w X.A.in1 it [it, a] i (fun _ _ => False) (fun j hh => j = i ∧ hh.IsTupleIter it a i ∧ hh.IsTuple a its.toArray) :=
      { live := fun j hh z => let ⟨o, ho, _⟩ := z.2.1; ⟨o, ho⟩
        frame := fun j hh h' z k => by
          obtain ⟨z1, ⟨o1, e1, r1⟩, ⟨o2, e2, r2⟩⟩ := z
          exact ⟨z1, ⟨o1, k it List.mem_cons_self o1 e1, r1⟩, ⟨o2, k a (List.mem_cons_of_mem _ List.mem_cons_self) o2 e2, r2⟩⟩
        item := fun j s Q E hj z => absurd z.1 (Nat.ne_of_lt hj)
        done := fun s Q E z kE => wpAny_nextOf_tuple_end (I.ok.hd hc) z.2.1 z.2.2 nx kE }
    exact wpAny_pyNext_enum_endD D he ⟨rfl, hit, ht⟩ fun h' eb => ⟨rfl, I.turned (t' := s.toks) (fun b o hb q => eb b o hb q) f0 f1 f3 f4 f5⟩
  self := fun A i s Q E st k => let ⟨⟨_, he⟩, _⟩ := st; wpAny_pyIter_enum he k
def iEnumT (K : Frag) (ta : TA) : TI := fun σ H R => ta σ H fun vs H1 => ∃ a xs, vs = [.ref a] ∧ SqT K H1 a xs ∧ R (IteT K a) H1
theorem pi_enumT {X : Cx} {e : Expr} {ta : TA} {p pos tpos : Pos} {elts : List Expr} {kk : Nat} (hg : Gl X "enumerate") (hm : X.mg "enumerate" = none) (ha : PA X [e] ta) (hs : starEach [e] X.env = [(false, eval e X.env)] := by rfl) :
    PI X (.Tuple elts kk tpos) (.Call (.Name "enumerate" p) [e] [] pos) (iEnumT X.K ta) := by
  refine ⟨fun pins s σ H R I hw => ?_⟩
  refine Call_ (ld_blt I hg hm boot_enumerate (PyProof.Rows.callWith_type1 (thn (ha.run pos pins s σ H _ I hw) fun us s1 hh => ?_) hs rfl))
  obtain ⟨vs, H1, I1, r1, a, xs, ex, hq, q⟩ := hh
  subst ex
  cases r1 with
  | cons r rr =>
    cases rr
    cases r
    obtain ⟨its, rv, ht, hz⟩ := I1.tuple hq
    refine enumBegin1 (begins_tuple a its.toArray) ht fun h' he ho hk => wpAny_pyIter_enum he ?_
    have I2 : Inv X pins σ H1 { s1 with heap := h' } := I1.kept (t' := s1.toks) hk
    refine ⟨s1.heap.objs.size + 1, [s1.heap.objs.size + 1, s1.heap.objs.size], _, _, H1, rfl, I2, turn_enumT a (s1.heap.objs.size + 1) s1.heap.objs.size (Nat.succ_ne_self _), ⟨⟨.none, he⟩, ⟨_, ho, rfl, rfl⟩⟩, fun b hb => ?_, q⟩
    have hle : s1.heap.objs.size ≤ b := by
      rcases List.mem_cons.mp hb with z | z
      · rw [z]; exact Nat.le_succ _
      · rw [List.mem_singleton.mp z]; exact Nat.le_refl _
    exact I1.fpOk hle (I1.hok.fresh hle)
/-! ### enumerate of a list -/
def IteL (K : Frag) (a : Addr) : It :=
  ⟨fun i H => ∃ (xs : List V) (x : V), SqL K H a xs ∧ xs[i]? = some x, fun i H v H' => ∃ T x, v = .ref T ∧ PrF i x H T H' ∧ ∀ xs, SqL K H a xs → xs[i]? = some x, fun i H => ∃ xs : List V, SqL K H a xs ∧ xs.length ≤ i⟩
theorem turn_enumL {P : Program} {w : World} {K : Frag} {elts : List Expr} {kk : Nat} {tpos : Pos} (a e it : Addr) (hne : e ≠ it) :
    Turn P w K (.Tuple elts kk tpos) (IteL K a) [e, it] e (fun i h => (∃ old, IsEnum h e it ((i : Nat) : Int) old) ∧ h.IsListIter it a i) where
  mem := List.mem_cons_self
  obj := fun i h st b hb => by
    obtain ⟨⟨old, he⟩, ⟨o, ho, hc, hd⟩⟩ := st
    rcases List.mem_cons.mp hb with z | z
    · rw [z]; exact ⟨_, he, fun v q => nomatch q⟩
    · rw [List.mem_singleton.mp z]; exact ⟨o, ho, fun v q => by rw [hd] at q; cases q⟩
  keep := fun i h h' st k => by
    obtain ⟨⟨old, he⟩, hi⟩ := st
    exact ⟨⟨old, k e List.mem_cons_self _ he⟩, hi.at fun o q => k it (List.mem_cons_of_mem _ List.mem_cons_self) o q⟩
  item := by
    intro X hP hw hK hc i pins s σ H E I hf st hg
    subst hP hw hK
    obtain ⟨⟨old, he⟩, hit⟩ := st
    obtain ⟨xs, x, hq, hx⟩ := hg
    obtain ⟨its, rv, p, hz⟩ := I.list hq
    obtain ⟨u, hu, ru⟩ := rv.get hx
    have hel : e < s.heap.objs.size := Heap.lt_size he
    have hil : it < s.heap.objs.size := by obtain ⟨_, q, _⟩ := hit; exact Heap.lt_size q
    refine wpAny_pyNext_enum_item he hit p.isList (x := u) (by rw [List.getElem?_toArray]; exact hu) hne fun h' ho hit' hT hsz hk => ?_
    refine ⟨_, rfl, wpAny_letOwnedTupleGo_enum (s := { s with heap := h', toks := s.toks + 1 }) ho fun h2 he' sb => ?_⟩
    have hT2 : h2.get? s.heap.objs.size = some { cls := .type "tuple", data := .seq #[.int i s.toks, u] } := (sb.2 _ (Nat.ne_of_gt hel)).trans hT
    have new : ObjOk X.prog X.w (upd H s.heap.objs.size (.frz { cls := .type "tuple", data := .seq #[.int i s.toks, u] } (.tup [.int (i : Nat), x]))) h2 s.heap.objs.size (.frz { cls := .type "tuple", data := .seq #[.int i s.toks, u] } (.tup [.int (i : Nat), x])) :=
      ⟨hT2, by rw [sizeLine_eq]; show 2 ≤ 16777216; decide, [.int i s.toks, u], .cons ⟨_, rfl⟩ (.cons ru .nil), ⟨_, hT2, rfl, _, rfl⟩⟩
    have I1 : Inv X pins σ (upd H s.heap.objs.size (.frz { cls := .type "tuple", data := .seq #[.int i s.toks, u] } (.tup [.int (i : Nat), x]))) { s with heap := h2, toks := s.toks + 1 } :=
      I.turnedNew (ch := [e, it]) (fun b ob hb q => (sb.2 b fun z => hb (by rw [z]; exact List.mem_cons_self)).trans (hk b ob (fun z => hb (by rw [z]; exact List.mem_cons_self)) (fun z => hb (by rw [z]; exact List.mem_cons_of_mem _ List.mem_cons_self)) q)) hf (Nat.le_refl _) new
    refine ⟨.ref s.heap.objs.size, _, I1, rfl, ⟨_, x, rfl, ⟨_, rfl, I.hok.fresh (Nat.le_refl _), rfl⟩, fun ys hy => by rw [I.list_inj hy hq]; exact hx⟩, ⟨⟨u, ?_⟩, hit'.at fun o q => (sb.2 it hne.symm).trans q⟩, fun b hb => ?_⟩
    · have e1 : ((i + 1 : Nat) : Int) = (i : Int) + 1 := by omega
      rw [e1]; exact he'
    · have hb' : b < s.heap.objs.size := by
        rcases List.mem_cons.mp hb with z | z
        · rw [z]; exact hel
        · rw [List.mem_singleton.mp z]; exact hil
      rw [upd_ne (Nat.ne_of_lt hb')]
      exact (hf b hb).1
  done := by
    intro X hP hw hK hc i pins s σ H E I hf st hg
    subst hP hw hK
    obtain ⟨⟨old, he⟩, hit⟩ := st
    obtain ⟨xs, hq, hx⟩ := hg
    obtain ⟨its, rv, p, hz⟩ := I.list hq
    obtain ⟨f0, f1, f2, f3, f4, f5⟩ := hf it (List.mem_cons_of_mem _ List.mem_cons_self)
    have hl := rv.length
    exact wpAny_pyNext_enum_end (I.ok.hd hc) he hit p.isList (by rw [List.getElem?_toArray]; exact List.getElem?_eq_none_iff.mpr (by omega)) fun h' eb => ⟨rfl, I.turned (t' := s.toks) (fun b o hb q => eb b o hb q) f0 f1 f3 f4 f5⟩
  self := fun A i s Q E st k => let ⟨⟨_, he⟩, _⟩ := st; wpAny_pyIter_enum he k
def iEnumL (K : Frag) (ta : TA) : TI := fun σ H R => ta σ H fun vs H1 => ∃ a xs, vs = [.ref a] ∧ SqL K H1 a xs ∧ R (IteL K a) H1
theorem pi_enumL {X : Cx} {e : Expr} {ta : TA} {p pos tpos : Pos} {elts : List Expr} {kk : Nat} (hg : Gl X "enumerate") (hm : X.mg "enumerate" = none) (ha : PA X [e] ta) (hs : starEach [e] X.env = [(false, eval e X.env)] := by rfl) :
    PI X (.Tuple elts kk tpos) (.Call (.Name "enumerate" p) [e] [] pos) (iEnumL X.K ta) := by
  refine ⟨fun pins s σ H R I hw => ?_⟩
  refine Call_ (ld_blt I hg hm boot_enumerate (PyProof.Rows.callWith_type1 (thn (ha.run pos pins s σ H _ I hw) fun us s1 hh => ?_) hs rfl))
  obtain ⟨vs, H1, I1, r1, a, xs, ex, hq, q⟩ := hh
  subst ex
  cases r1 with
  | cons r rr =>
    cases rr
    cases r
    obtain ⟨its, rv, p', hz⟩ := I1.list hq
    refine call_enumerate_list p'.isList fun h' he hit hsz hk => wpAny_pyIter_enum he ?_
    have I2 : Inv X pins σ H1 { s1 with heap := h' } := I1.kept (t' := s1.toks) hk
    refine ⟨s1.heap.objs.size + 1, [s1.heap.objs.size + 1, s1.heap.objs.size], _, _, H1, rfl, I2, turn_enumL a (s1.heap.objs.size + 1) s1.heap.objs.size (Nat.succ_ne_self _), ⟨⟨.none, he⟩, hit⟩, fun b hb => ?_, q⟩
    have hle : s1.heap.objs.size ≤ b := by
      rcases List.mem_cons.mp hb with z | z
      · rw [z]; exact Nat.le_succ _
      · rw [List.mem_singleton.mp z]; exact Nat.le_refl _
    exact I1.fpOk hle (I1.hok.fresh hle)
/-- enumerate(v): a tuple, a list that stands still -/
def enumD (ds : List D) : List D := ds.zipIdx.map fun p => .tup [.int (p.2 : Nat), p.1]
theorem enumD_length {ds : List D} : (enumD ds).length = ds.length := by unfold enumD; rw [List.length_map, List.length_zipIdx]
theorem enumD_get {ds : List D} {i : Nat} {d : D} (h : (enumD ds)[i]? = some d) : ∃ x, ds[i]? = some x ∧ d = .tup [.int (i : Nat), x] := by
  unfold enumD at h
  rw [List.getElem?_map, List.getElem?_zipIdx] at h
  cases q : ds[i]? with
  | none => rw [q] at h; exact nomatch h
  | some x =>
    rw [q] at h
    refine ⟨x, rfl, ?_⟩
    have h' := Option.some.inj h
    rw [← h', Nat.zero_add]
def iEnumS (m : ME) : MA := fun ρ S => (m ρ S).bind fun d S1 => match d with
  | .tup ds => .ok (enumD ds) S1
  | .lst ds => .ok (enumD ds) S1
  | _ => .bad
section
variable {X : Cx} {W : WX} {tg e a b c : Expr} {m : ME} {pos p tpos : Pos}
theorem di_enum {elts : List Expr} {kk : Nat} (h : DE X W e m) (hm : X.mg "enumerate" = none) (hg : Gl X "enumerate" := by rfl) (hs : starEach [e] X.env = [(false, eval e X.env)] := by rfl)
    (hs1 : starEach [e] X.env = (false, eval e X.env) :: starEach [] X.env := by rfl) : DI X W (.Tuple elts kk tpos) (.Call (.Name "enumerate" p) [e] [] pos) (iEnumS m) := by
  obtain ⟨te, pe, k⟩ := h
  refine ⟨_, piOr (piSized (pi_enumT hg hm (pa_cons pe pa_nil hs1) hs)) (piSized (pi_enumL hg hm (pa_cons pe pa_nil hs1) hs)), fun ξ μ σ H ρ S R g s h => ?_⟩
  cases e1 : m ρ S with
  | bad => unfold iEnumS at h; rw [e1] at h; exact h.elim
  | exc c fs S1 =>
    unfold iEnumS at h; rw [e1] at h
    refine .inl (k ξ μ σ H ρ S _ g s ?_)
    rw [e1]; exact h
  | ok d S1 =>
    cases d with
    | tup ds =>
      refine .inl (k ξ μ σ H ρ S _ g s ?_)
      unfold iEnumS at h
      rw [e1] at h ⊢
      intro v μ1 H1 u1 s1 r1
      cases r1 with
      | @tup a xs _ f r =>
        refine ⟨a, xs, rfl, f.sq, fun z => h _ μ1 H1 u1 s1 ⟨by rw [enumD_length, ← r.length]; exact z a xs (.inr f.sq), fun F' μ' H' S' i ex u s hi => ⟨fun d hd => ?_, fun hi => ?_⟩⟩⟩
        · obtain ⟨x, hx, rfl⟩ := enumD_get hd
          obtain ⟨v, h1, h2⟩ := r.get hx
          refine ⟨⟨xs, v, (f.up u).sq, h1⟩, fun y H'' yy => ?_⟩
          obtain ⟨T, x', e2, ⟨o, ho, e3, e4⟩, e5⟩ := yy
          subst e2 e4
          have q := e5 xs (f.up u).sq
          rw [h1] at q; cases q
          exact ⟨.fresh e3, s.fresh e3, .tup (.inl ⟨.new ho, s.out e3, s.outX e3⟩) (.cons (.int _) (.cons ((h2.mv (.ext ex u)).up (.fresh e3)) .nil))⟩
        · rw [enumD_length] at hi
          exact ⟨xs, (f.up u).sq, by rw [r.length, hi]; exact Nat.le_refl _⟩
    | lst ds =>
      refine .inr (k ξ μ σ H ρ S _ g s ?_)
      unfold iEnumS at h
      rw [e1] at h ⊢
      intro v μ1 H1 u1 s1 r1
      cases r1 with
      | @lst a xs _ f r =>
        refine ⟨a, xs, rfl, f.sq, fun z => h _ μ1 H1 u1 s1 ⟨by rw [enumD_length, ← r.length]; exact z a xs (.inl f.sq), fun F' μ' H' S' i ex u s hi => ⟨fun d hd => ?_, fun hi => ?_⟩⟩⟩
        · obtain ⟨x, hx, rfl⟩ := enumD_get hd
          obtain ⟨v, h1, h2⟩ := r.get hx
          refine ⟨⟨xs, v, (f.up u).sq, h1⟩, fun y H'' yy => ?_⟩
          obtain ⟨T, x', e2, ⟨o, ho, e3, e4⟩, e5⟩ := yy
          subst e2 e4
          have q := e5 xs (f.up u).sq
          rw [h1] at q; cases q
          exact ⟨.fresh e3, s.fresh e3, .tup (.inl ⟨.new ho, s.out e3, s.outX e3⟩) (.cons (.int _) (.cons ((h2.mv (.ext ex u)).up (.fresh e3)) .nil))⟩
        · rw [enumD_length] at hi
          exact ⟨xs, (f.up u).sq, by rw [r.length, hi]; exact Nat.le_refl _⟩
    | _ => unfold iEnumS at h; rw [e1] at h; exact h.elim
end
end Dm
-- text DmRev
namespace Dm
open PySem L2 PySem.Spec PyProof.Rows
open PySem.W (Frag)
/-! ### t[::-1] of a tuple -/
section
variable {prog : Program} {w : World} {A : Around} {E : Value → Shared → Prop} {s : Shared}
theorem backPlaces (n : Nat) : Builtin.Slice.sliceAdjust none none (-1) (n : Int) = ((n : Int) - 1, -1) ∧ Builtin.Slice.slicePlaces ((n : Int) - 1) (-1) (-1) = n := by
  refine ⟨rfl, ?_⟩
  unfold Builtin.Slice.slicePlaces
  rw [if_neg (by decide)]
  by_cases hn : n = 0
  · subst hn; decide
  · rw [if_pos (by omega)]
    have e : ((n : Int) - 1 - -1 - 1) / (- -1) = (n : Int) - 1 := by
      rw [show (- -1 : Int) = 1 from rfl, Int.ediv_one]; omega
    rw [e]; omega
theorem fm_congr {α β : Type} {f g : α → Option β} : ∀ l : List α, (∀ x ∈ l, f x = g x) → l.filterMap f = l.filterMap g
  | [], _ => rfl
  | x :: l, h => by rw [List.filterMap_cons, List.filterMap_cons, h x List.mem_cons_self, fm_congr l fun y hy => h y (List.mem_cons_of_mem _ hy)]
theorem backPick (xs : Array Value) : ((List.range xs.size).filterMap fun (m : Nat) => xs[(((xs.size : Nat) : Int) - 1 + (m : Int) * -1).toNat]?) = xs.toList.reverse := by
  refine List.ext_getElem? fun k => ?_
  have e : ((List.range xs.size).filterMap fun (m : Nat) => xs[(((xs.size : Nat) : Int) - 1 + (m : Int) * -1).toNat]?) = (List.range xs.size).map fun m => xs.toList.reverse.getD m .none := by
    rw [← List.filterMap_eq_map]
    refine fm_congr _ fun m hm => ?_
    have hl : m < xs.size := List.mem_range.mp hm
    have e1 : (((xs.size : Nat) : Int) - 1 + (m : Int) * -1).toNat = xs.size - 1 - m := by omega
    rw [e1]
    have hr : m < xs.toList.reverse.length := by rw [List.length_reverse, Array.length_toList]; exact hl
    have h2 : xs.size - 1 - m < xs.size := by omega
    rw [Array.getElem?_eq_getElem h2]
    show some _ = some (xs.toList.reverse.getD m .none)
    rw [List.getD_eq_getElem?_getD, List.getElem?_eq_getElem hr, List.getElem_reverse]
    simp
  rw [e, List.getElem?_map]
  by_cases hk : k < xs.size
  · rw [List.getElem?_range hk]
    have hr : k < xs.toList.reverse.length := by rw [List.length_reverse, Array.length_toList]; exact hk
    rw [List.getElem?_eq_getElem hr]
    show some (xs.toList.reverse.getD k .none) = _
    rw [List.getD_eq_getElem?_getD, List.getElem?_eq_getElem hr] <;> rfl
  · rw [List.getElem?_eq_none (by rw [List.length_range]; omega), List.getElem?_eq_none (by rw [List.length_reverse, Array.length_toList]; omega)] <;> rfl
theorem backSlice {t sl : Addr} {items : Array Value} {vl vu vs : Value} {Q : Value → Shared → Prop} (ht : IsTup s.heap t items) (hs : s.heap.IsSliceOf sl vl vu vs) (pl : IsPart vl none) (pu : IsPart vu none) (ps : IsPart vs (some (-1)))
    (h : Q (.ref s.heap.objs.size) { s with heap := s.heap.push { cls := .type "tuple", data := .seq items.toList.reverse.toArray } }) (hsz : items.size ≤ sizeLine) : wpAny (model prog w) A (getItem (.ref t) (.ref sl)) Q E s := by
  have fits : sizeOk (.seq items.toList.reverse.toArray) := by
    show items.toList.reverse.toArray.size ≤ sizeLine
    rw [List.size_toArray, List.length_reverse, Array.length_toList]; exact hsz
  obtain ⟨os, hos, hcs, hds⟩ := id hs
  have tS : s.TypeIs (.ref sl) "slice" := ⟨os, hos, hcs⟩
  unfold getItem
  try with_reducible refine wpAny_holding ?_
  first | refine wpAny_bind (wpAny_pure ?_) | skip
  refine wpAny_bind (wpAny_sequenceKey ht.typeIs (by decide) ?_)
  refine wpAny_bind (wpAny_callSpecial?_slot (name := Str.ofString "__getitem__") ht.typeIs PyProof.Rows.slot_tuple_getitem (wpAny_call_entry PyProof.Rows.slot_tuple_getitem ht.typeIs entry_tuple_getitem ?_ (args_tuple_getitem _ _)))
  show wpAny _ _ (Builtin.Tuple.tupleItemsOf (.ref t) >>= _) _ _ s
  refine wpAny_bind (tupleItemsOf_ ht (wpAny_bind (wpAny_typeOf tS ?_)))
  rw [if_pos (by decide)]
  have app : ∀ {Q' : Int × Int × Nat → Shared → Prop} {E' : Value → Shared → Prop} {A' : Around}, Q' ((items.size : Int) - 1, -1, items.size) s → wpAny (model prog w) A' (Builtin.Slice.sliceApplied (.ref sl) (pure (items.size : Int))) Q' E' s := fun {Q' E' A'} hq => by
    unfold Builtin.Slice.sliceApplied Builtin.Slice.sliceFields
    refine wpAny_bind (wpAny_bind (wpAny_field hos hds (x := vl) rfl (wpAny_bind (wpAny_field hos hds (x := vu) rfl (wpAny_bind (wpAny_field hos hds (x := vs) rfl (wpAny_pure ?_)))))))
    refine wpAny_bind (HT.slicePart_ ps ?_)
    show wpAny _ _ (if ((-1 : Int) == 0) = true then _ else _) _ _ s
    rw [if_neg (by decide)]
    refine wpAny_bind (HT.slicePart_ pl (wpAny_bind (HT.slicePart_ pu (wpAny_bind (wpAny_pure ?_)))))
    show wpAny _ _ (match Builtin.Slice.sliceAdjust none none (-1) (items.size : Int) with | (lo, hi) => pure (lo, (-1 : Int), Builtin.Slice.slicePlaces lo hi (-1))) _ _ s
    rw [(backPlaces items.size).1]
    show wpAny _ _ (pure ((items.size : Int) - 1, (-1 : Int), Builtin.Slice.slicePlaces ((items.size : Int) - 1) (-1) (-1))) _ _ s
    rw [(backPlaces items.size).2]
    exact wpAny_pure hq
  refine wpAny_bind (app ?_)
  have no : ¬ ((((items.size : Int) - 1) == 0 && (-1 : Int) == 1 && items.size == items.size) = true) := by
    intro q
    rw [Bool.and_eq_true, Bool.and_eq_true] at q
    exact absurd q.1.2 (by decide)
  show wpAny _ _ (if (((items.size : Int) - 1) == 0 && (-1 : Int) == 1 && items.size == items.size) = true then _ else _) _ _ s
  rw [if_neg no]
  rw [backPick]
  first
    | exact wpAny_bind (m := Builtin.Tuple.tupleExact _) (wpAny_newObj_type (wpAny_pure ⟨_, rfl, wpAny_pure h⟩) fits)
    | exact wpAny_bind (m := Builtin.Tuple.tupleExact _) (wpAny_newObj_type (wpAny_bind (wpAny_pure (wpAny_pure ⟨_, rfl, wpAny_pure h⟩))) fits)
    | exact wpAny_bind (wpAny_bind (m := Builtin.Tuple.tupleExact _) (wpAny_newObj_type (wpAny_pure (wpAny_pure ⟨_, rfl, wpAny_pure h⟩)) fits))
    | exact wpAny_bind (wpAny_bind (m := Builtin.Tuple.tupleExact _) (wpAny_newObj_type (wpAny_pure ⟨_, rfl, wpAny_pure h⟩) fits))
end
def tBackT (K : Frag) (te : TE) : TE := fun σ H Q => te σ H fun x H1 => ∃ a xs, x = .ref a ∧ SqT K H1 a xs ∧ NwT H1 Q xs.reverse
section
variable {X : Cx} {W : WX} {e : Expr} {m : ME} {te : TE} {k : Nat} {p1 p2 p3 pos : Pos}
theorem pe_backT (he : PE X e te) : PE X (.Subscript e (.Slice none none (some (.UnaryOp .USub (.Constant (.int 1) k p1) p2)) p3) pos) (tBackT X.K te) := by
  refine ⟨fun pins s σ H Q I hw => ?_⟩
  refine Subscript_ (thn (he.run pins s σ H _ I hw) fun v s1 hh => ?_)
  obtain ⟨x, H1, I1, r1, a, xs, ex, hx, q⟩ := hh
  subst ex
  cases r1
  have stp : PO X (some (.UnaryOp .USub (.Constant (.int 1) k p1) p2)) (tPart (tUn (rU fun i => .int (-i)) (tC (.int 1)))) := po_some (pe_un un_neg pe_int)
  refine wpAny_Slice (thn (po_none.run pins s1 σ H1 (fun o H2 => o = none ∧ H2 = H1) I1 ⟨rfl, rfl⟩) fun vl s2 hh => ?_)
  obtain ⟨l, H2, I2, pl, el, e2⟩ := hh
  subst el e2
  refine thn (po_none.run pins s2 σ H2 (fun o H3 => o = none ∧ H3 = H2) I2 ⟨rfl, rfl⟩) fun vu s3 hh => ?_
  obtain ⟨u, H3, I3, pu, eu, e3⟩ := hh
  subst eu e3
  refine thn (stp.run pins s3 σ H3 (fun o H4 => o = some (-1) ∧ H4 = H3) I3 ⟨1, rfl, -1, rfl, rfl, rfl⟩) fun vs s4 hh => ?_
  obtain ⟨o, H4, I4, ps, eo, e4⟩ := hh
  subst eo e4
  have I5 : Inv X pins σ H4 { s4 with heap := s4.heap.push { cls := .type "slice", data := .fields #[vl, vu, vs] } } := I4.kept (t' := s4.toks) fun b ob q => Heap.get?_push_of_some _ q
  obtain ⟨its, r, ht, hz⟩ := I5.tuple hx
  have hlen := r.length
  show wpAny (model X.prog X.w) X.A (subscriptTail e (.Slice none none (some (.UnaryOp .USub (.Constant (.int 1) k p1) p2)) p3) (.ref a) (.ref s4.heap.objs.size)) (EP X pins σ Q) X.xe { s4 with heap := s4.heap.push { cls := .type "slice", data := .fields #[vl, vu, vs] } }
  refine tail_any (ops := [.ref a, .ref s4.heap.objs.size]) ht.typeIs (PyProof.Rows.slot_tuple_getitem.lookup) ?_ (by with_unfolding_all rfl)
  refine backSlice ht (Heap.IsSliceOf.new _ vl vu vs) pl pu ps ?_ (by rw [List.size_toArray]; omega)
  exact tup_here I5 (by rw [List.length_reverse]; exact hz) r.reverse q
def mBack (m : ME) : ME := fun ρ S => (m ρ S).bind fun x S1 => match x with
  | .tup ds => .ok (.tup ds.reverse) S1
  | _ => .bad
theorem d_back (h : DE X W e m) : DE X W (.Subscript e (.Slice none none (some (.UnaryOp .USub (.Constant (.int 1) k p1) p2)) p3) pos) (mBack m) := by
  obtain ⟨te, pe, ke⟩ := h
  refine ⟨_, pe_backT pe, fun ξ μ σ H ρ S Q g s h => ke ξ μ σ H ρ S _ g s (WR.bind h fun x S1 v μ1 H1 u1 s1 r1 h1 => ?_)⟩
  cases r1 with
  | @tup a xs ds f r =>
    exact ⟨a, xs, rfl, f.sq, fun p o hp ho => h1 _ μ1 _ (.fresh hp) (s1.fresh hp) (.tup (.inl ⟨.new ho, s1.out hp, s1.outX hp⟩) (r.reverse.up (.fresh hp)))⟩
  | _ => exact h1.elim
end
end Dm
-- text DmEnd
namespace Dm
open PySem L2 PySem.Spec PyProof.Rows
open PySem.W (Frag)
theorem d_fold {X : Cx} {W : WX} {e : Expr} {m : ME} {d : D} (h : DE X W e m) (hm : ∀ ρ S, m ρ S = .ok d S) : DE X W e (mK d) := by
  have q : m = mK d := funext fun ρ => funext fun S => hm ρ S
  rw [← q]; exact h
def LawTrue (m : List D → Sto → Res D) : Prop := ∀ ns : List Int, ns.length ≤ 63 → ∃ S', m [.lst (ns.map .int)] [] = .ok (.bl true) S'
def spLaw (K : Frag) : Sp := fun vs H Q _ => ∃ (a : Addr) (ns : List Int), vs = [.ref a] ∧ SqL K H a (ns.map V.int) ∧ ns.length ≤ 63 ∧ ∀ H', Q (.bl true) H'
section
variable {P : Program} {w : World} {K : Frag} {mg : Str → Option Value} {base : Heap}
theorem rds_ints {F : Fx} {μ : List Addr} {H : Hp} : ∀ ns : List Int, RDs F μ H (ns.map V.int) (ns.map D.int)
  | [] => .nil
  | n :: ns => .cons (.int n) (rds_ints ns)
theorem law_ok {x sp : Str} {st : Stmt} {f : Addr} {fd : FuncData} {k : Nat} {m : List D → Sto → Res D} (hm : mg x = some (.ref f)) (F : Fun K x x st f fd) (G : FnD P w K mg base k x st [sp] m) (h : LawTrue m) :
    FnOk P w K mg base (L2.CX P w) k f fd [sp] (spLaw K) := by
  obtain ⟨f', fd', hm', F', B', G'⟩ := G
  rw [hm] at hm'
  cases hm'
  have e : fd = fd' := by
    obtain ⟨oc, od, kV, doc, pm, an, cdv, ct, osl, e1, lk, hcd⟩ := F.ex
    obtain ⟨oc', od', kV', doc', pm', an', cdv', ct', osl', e1', lk', hcd'⟩ := F'.ex
    rw [lk] at lk'
    have q := Option.some.inj lk'
    injection q with q1 q2 q3 q4
    injection q3
  subst e
  refine G'.imp fun vs H Q E hh => ?_
  obtain ⟨a, ns, rfl, hS, hl, q⟩ := hh
  obtain ⟨S', e⟩ := h ns hl
  refine ⟨[], [], [.lst (ns.map .int)], [], ⟨rfl, .nil, (fun n a c e _ => nomatch e), (fun a h => nomatch h)⟩, .cons (.lst ?_ (rds_ints ns)) .nil, ?_⟩
  · exact hS.imp (fun z => ⟨z, List.not_mem_nil, List.not_mem_nil⟩) id
  · rw [e]
    intro v μ' H' u s r
    cases r
    exact q H'
theorem cx_no {P : Program} {w : World} {H : Hp} {s s' : Shared} {e : Value} (z : L2.CX P w [] H s (fun _ _ _ => False) e s') : False := by
  obtain ⟨_, _, _, _, _, _, _, _, _, _, _, _, z⟩ := z
  exact z
end
end Dm
-- text DmMore
namespace Dm
open PySem L2
open PySem.W (Frag)
section
variable {X : Cx} {W : WX} {tg e a b c : Expr} {es : List Expr} {ma mb mc m : ME} {pos p p1 p2 p3 : Pos}
/-! ### a list some times -/
def mRepL (a : MA) (b : ME) : MA := fun ρ S => (a ρ S).bind fun xs S1 => (b ρ S1).bind fun y S2 => match y with
  | .int k => if k < 1000000 ∧ xs.length * k.toNat ≤ 16777216 ∧ -1000000 < k then .ok (List.replicate k.toNat xs).flatten S2 else .bad
  | _ => .bad
theorem RDs.rep {F : Fx} {μ : List Addr} {H : Hp} {vs : List V} {ds : List D} (h : RDs F μ H vs ds) : ∀ k : Nat, RDs F μ H (List.replicate k vs).flatten (List.replicate k ds).flatten
  | 0 => .nil
  | k + 1 => by
    rw [List.replicate_succ, List.replicate_succ, List.flatten_cons, List.flatten_cons]
    exact RDs.append h (RDs.rep h k)
theorem mv_hold {ξ : List Addr} {μ μ1 : List Addr} {H H1 : Hp} {p : Addr} {xs : List V} (u1 : Up μ H μ1 H1) (hp : H p = none) (e1 : H1 p = some (.lst xs)) : Mv (fx X ξ) μ H ((fx X ξ).hold p) μ1 H1 :=
  ⟨fun {a xs} q => by
    rcases q.up u1 with ⟨z, n, nx⟩ | z
    · rcases q with ⟨z0, _⟩ | z0
      · refine .inl ⟨z, n, fun m => (List.mem_cons.mp m).elim (fun e => ?_) nx⟩
        subst e
        obtain ⟨o, _, z0⟩ := z0
        rw [hp] at z0; cases z0
      · exact .inr z0
    · exact .inr z, fun {a xs} q => by
    rcases q.up u1 with ⟨z, n, nx⟩ | z
    · rcases q with ⟨z0, _⟩ | z0
      · refine .inl ⟨z, n, fun m => (List.mem_cons.mp m).elim (fun e => ?_) nx⟩
        subst e
        rcases z0 with z0 | ⟨o, z0⟩ <;> (rw [hp] at z0; cases z0)
      · exact .inr z0
    · exact .inr z, fun q => u1.get q, rfl, fun q => q.upHold u1 hp⟩
theorem dl_rep {na : MA} (ha : DL X W a na) (hb : DE X W b mb) : DL X W (.BinOp a .Mult b pos) (mRepL na mb) := by
  obtain ⟨ta, pa, ka⟩ := ha
  obtain ⟨tb, pb, kb⟩ := hb
  refine ⟨_, pe_op op_rep pa pb, fun ξ μ σ H ρ S Q g s h => ka ξ μ σ H ρ S _ g s (WL'.bindL h fun ds S1 p xs μ1 H1 u1 hp s1 r1 e1 h1 => ?_)⟩
  refine kb (p :: ξ) μ1 σ H1 ρ S1 _ ?_ s1 ?_
  · exact ⟨g.len, fun i d e => by
      obtain ⟨v, h, r⟩ := (g.up u1).at_ i d e
      obtain ⟨v', h', r'⟩ := g.at_ i d e
      rw [h] at h'; cases h'
      exact ⟨v, h, r'.mv (mv_hold u1 hp e1)⟩⟩
  cases e : mb ρ S1 with
  | bad => rw [e] at h1; exact h1.elim
  | exc c fs S2 =>
    rw [e] at h1
    exact fun cls dd μ' H' u' s' x' => h1 cls dd μ' H' u' (RS.free (F := fx X ξ) (p := p) s') (XR.hold (F := fx X ξ) (p := p) x')
  | ok y S2 =>
    rw [e] at h1
    intro v μ2 H2 u2 s2 r2
    have hpq : p ∉ μ1 := (s1.xi p List.mem_cons_self).1
    have ep := u2.keep _ _ e1 hpq
    cases y with
    | int k =>
      cases r2
      by_cases c : k < 1000000 ∧ ds.length * k.toNat ≤ 16777216 ∧ -1000000 < k
      · have h1 : WL' (fx X ξ) (if k < 1000000 ∧ ds.length * k.toNat ≤ 16777216 ∧ -1000000 < k then Res.ok (List.replicate k.toNat ds).flatten S2 else .bad) Q (fun cls dd H' => W cls dd σ H') μ1 H1 := h1
        rw [if_pos c] at h1
        refine ⟨p, k, xs, rfl, rfl, ep, by omega, by omega, by rw [r1.length, sizeLine_eq]; exact c.2.1, fun r hr => ?_⟩
        have rr : RDs (fx X ξ) μ2 H2 (List.replicate k.toNat xs).flatten (List.replicate k.toNat ds).flatten := RDs.rep ((r1.mv .free).up u2) _
        have ss : RS (fx X ξ) μ2 H2 S2 := RS.free (F := fx X ξ) (p := p) s2
        have nr : r ∉ μ1 := fun z => ss.out hr (u2.mem z)
        exact h1 r _ μ2 _ (u2.trans (.fresh hr)) (u2.back hr nr) (ss.holds hr) (rr.mv (.holds hr)) upd_same
      · have h1 : WL' (fx X ξ) (if k < 1000000 ∧ ds.length * k.toNat ≤ 16777216 ∧ -1000000 < k then Res.ok (List.replicate k.toNat ds).flatten S2 else .bad) Q (fun cls dd H' => W cls dd σ H') μ1 H1 := h1
        rw [if_neg c] at h1
        exact h1.elim
    | _ => exact h1.elim
/-! ### a comprehension that is kept by a name -/
abbrev RdL (X : Cx) (W : WX) (te : TE) (mr : MA) : Prop := ∀ ξ μ σ H ρ S Q, RG (fx X ξ) μ H σ ρ → RS (fx X ξ) μ H S → WL' (fx X ξ) (mr ρ S) Q (fun cls dd H' => W cls dd σ H') μ H → te σ H Q
abbrev RdE (X : Cx) (W : WX) (te : TE) (m : ME) : Prop := ∀ ξ μ σ H ρ S Q, RG (fx X ξ) μ H σ ρ → RS (fx X ξ) μ H S → WE' (fx X ξ) (m ρ S) Q (fun cls dd H' => W cls dd σ H') μ H → te σ H Q
theorem rd_fz {te : TE} {mr : MA} (k : RdL X W te mr) : RdE X W te (mFz mr) := by
  intro ξ μ σ H ρ S Q g s h
  refine k ξ μ σ H ρ S Q g s ?_
  unfold mFz at h
  cases e : mr ρ S with
  | bad => rw [e] at h; exact h.elim
  | exc c fs S' => rw [e] at h; exact h
  | ok ds S' =>
    rw [e] at h
    exact fun q xs μ' H' u' hq s' r' e' => h _ μ' H' u' s'.free (.lst (.inl ⟨.inl e', (s'.xi q List.mem_cons_self).1, s.outX hq⟩) (r'.mv .free))
theorem rd_new {te : TE} {mr : MA} (k : RdL X W te mr) : RdE X W te (mNew mr) := by
  intro ξ μ σ H ρ S Q g s h
  refine k ξ μ σ H ρ S Q g s ?_
  unfold mNew at h
  cases e : mr ρ S with
  | bad => rw [e] at h; exact h.elim
  | exc c fs S' => rw [e] at h; exact h
  | ok ds S' =>
    rw [e] at h
    intro q xs μ' H' u' hq s' r' e'
    have l : S'.length = μ'.length := s'.len.symm
    refine h (.ref q) (μ' ++ [q]) H' ⟨?_, fun a ha n => (List.mem_append.mp ha).elim (fun z => u'.new a z n) (fun z => by rw [List.mem_singleton.mp z]; exact hq), u'.keep⟩ (s'.asCell (s.outX hq) e' r') (.cell (by rw [l]; exact alloc_at))
    obtain ⟨ν, z⟩ := u'.pre
    exact ⟨ν ++ [q], by rw [z, List.append_assoc]⟩
/-- .. the ways to keep it: as it is, or as a cell -/
theorem ds_setLc {mr : MA} (i : Nat) {y : Str} {py spos : Pos} {elt : Expr} {ifs : List Expr} {scope : Scope} {own : List (Str × Nat)} {f : D → Rho → Option Rho} {is : List Nat} {mt me : ME} {mw : MA → ME} (hw : ∀ {te : TE} {mr : MA}, RdL X W te mr → RdE X W te (mw mr)) (hc : X.calm = true) (hN : X.N.Nodup) (hi : DI X W tg e mr) (ok : BlkOk X.N X.env.scope scope own)
    (hg : ∀ (s : Shared) (H : Hp) (C : Addr) (cl : List (Str × Addr)) (fp : List Addr), DG (X.blk s H scope (compEnvC scope cl C X.env) fp) tg f is)
    (ht : ∀ (s : Shared) (H : Hp) (C : Addr) (cl : List (Str × Addr)) (fp : List Addr), DTs (X.blk s H scope (compEnvC scope cl C X.env) fp) W0 ifs mt)
    (he : ∀ (s : Shared) (H : Hp) (C : Addr) (cl : List (Str × Addr)) (fp : List Addr), DE (X.blk s H scope (compEnvC scope cl C X.env) fp) W0 elt me)
    (hv : ∀ i ∈ is, i ∈ own.map (·.2) := by decide) (hy : X.N[i]? = some y := by rfl) (hyl : X.env.scope.names.lookup y = some .local := by rfl)
    (hsw : swapsWith (.ListComp elt [⟨tg, e, ifs, 0⟩] scope pos) (some (.Name y py)) spos.line X.env = pure true := by rfl) (hs : ∀ x, foldedSetIterable e X.env x = pure x := by intro _; rfl) :
    DS X W (.Assign [.Name y py] (.ListComp elt [⟨tg, e, ifs, 0⟩] scope pos) spos) (mAsg i (mw (mLc mr f mt me (own.map (·.2))))) := by
  obtain ⟨wi, pi, ki⟩ := hi
  obtain ⟨tg', pg, kg⟩ := dg_all (Xf := blkOf X scope) (K := X.K) (mg := X.mg) (fun _ => rfl) (fun _ => rfl) fun i => hg i.1 i.2.1 i.2.2.1 i.2.2.2.1 i.2.2.2.2
  obtain ⟨tt, pt, kt⟩ := dts_all (Xf := blkOf X scope) (K := X.K) (mg := X.mg) (fun _ => rfl) (fun _ => rfl) fun i => ht i.1 i.2.1 i.2.2.1 i.2.2.2.1 i.2.2.2.2
  obtain ⟨te, pe, ke⟩ := de_all (Xf := blkOf X scope) (K := X.K) (mg := X.mg) (fun _ => rfl) (fun _ => rfl) fun i => he i.1 i.2.1 i.2.2.1 i.2.2.2.1 i.2.2.2.2
  have rd : RdL X W (tLc wi tg' tt te (own.map (·.2))) (mLc mr f mt me (own.map (·.2))) := fun ξ μ σ H ρ S Q g s h => lc_read (fun R => ki ξ μ σ H ρ S R g s) kg kt ke hv g s h
  refine ⟨_, ps_setLc (i := i) hc hN hy hyl hsw pi ok (fun s H C cl fp => pg (s, H, C, cl, fp)) (fun s H C cl fp => pt (s, H, C, cl, fp)) (fun s H C cl fp => pe (s, H, C, cl, fp)) hs, fun ξ μ σ H ρ S D g s h => ?_⟩
  exact hw rd ξ μ σ H ρ S _ g s (WS'.bind g h fun x S1 v μ1 H1 u1 s1 r1 h1 => h1 _ μ1 H1 .refl s1 ((g.up u1).set i r1))
/-! ### a kept list and a new one behind it -/
def mCatC (a : ME) (b : MA) : MA := fun ρ S => (a ρ S).bind fun x S1 => (b ρ S1).bind fun ys S2 => match x with
  | .cell n => match S2[n]? with
    | some (.lst xs) => if xs.length + ys.length ≤ 16777216 then .ok (xs ++ ys) S2 else .bad
    | _ => .bad
  | _ => .bad
theorem dl_catC {nb : MA} (ha : DE X W a ma) (hb : DL X W b nb) : DL X W (.BinOp a .Add b pos) (mCatC ma nb) := by
  obtain ⟨ta, pa, ka⟩ := ha
  obtain ⟨tb, pb, kb⟩ := hb
  refine ⟨_, pe_op op_cat pa pb, fun ξ μ σ H ρ S Q g s h => ka ξ μ σ H ρ S _ g s (WL'.bind h fun x S1 v μ1 H1 u1 s1 r1 h1 => ?_)⟩
  refine kb ξ μ1 σ H1 ρ S1 _ (g.up u1) s1 (WL'.bindL h1 fun es S2 q ys μ2 H2 u2 hq s2 r2 e2 h2 => ?_)
  cases r1 with
  | @cell a n ea =>
    cases c : S2[n]? with
    | none => simp only [c] at h2; exact h2.elim
    | some cc =>
      cases cc with
      | lst ds =>
        simp only [c] at h2
        obtain ⟨xs, e3, r3⟩ := s2.at_ n a _ (u2.get ea) c
        by_cases l : ds.length + es.length ≤ 16777216
        · rw [if_pos l] at h2
          refine ⟨a, q, xs, ys, rfl, rfl, e3, e2, by rw [r3.length, r2.length, sizeLine_eq]; exact l, fun r hr => ?_⟩
          have rr : RDs (fx X ξ) μ2 H2 (xs ++ ys) (ds ++ es) := RDs.free (F := fx X ξ) (p := q) _ (RDs.append r3 r2)
          have ss : RS (fx X ξ) μ2 H2 S2 := RS.free (F := fx X ξ) (p := q) s2
          exact h2 r _ μ2 _ (.fresh hr) hr (ss.holds hr) (rr.mv (.holds hr)) upd_same
        · rw [if_neg l] at h2
          exact h2.elim
      | _ => simp only [c] at h2; exact h2.elim
  | _ => exact h2.elim
end
end Dm
-- text DmCat
namespace Dm
open PySem L2 PySem.Spec PyProof.Rows
open PySem.W (Frag)
section
variable {X : Cx} {W : WX} {tg e a b c : Expr} {es : List Expr} {ma mb mc m : ME} {pos p p1 p2 p3 : Pos}
def rCatB (K : Frag) : R2 := fun x y H Q => ∃ l b xs zs, x = .ref l ∧ y = .ref b ∧ SqL K H l xs ∧ SqL K H b zs ∧ xs.length + zs.length ≤ sizeLine ∧ ∀ p, H p = none → Q (.ref p) (upd H p (.lst (xs ++ zs)))
theorem op_catB : OpR X (binaryOp .Add) (rCatB X.K) := by
  intro pins s σ H x y v u Q I rx ry h
  obtain ⟨l, b, xs, zs, rfl, rfl, hl, hb, hz, q⟩ := h
  cases rx
  cases ry
  obtain ⟨its, r, ⟨o, n, ho, hc, hd, hs⟩, z⟩ := I.list hl
  obtain ⟨its2, r2, ⟨o2, n2, ho2, hc2, hd2, hs2⟩, z2⟩ := I.list hb
  obtain ⟨cls, dd, data, sl⟩ := o
  obtain ⟨cls2, dd2, data2, sl2⟩ := o2
  simp only at hc hd hs hc2 hd2 hs2
  subst hc hd hs hc2 hd2 hs2
  have ea : its.toArray ++ its2.toArray = (its ++ its2).toArray := by simp
  refine concat_meets ⟨_, ho, rfl⟩ ⟨_, ho2, rfl⟩ noFill_list_add seq_list_add PySem.F.slot_list_add PySem.F.entry_list_add (PySem.F.args_list_add_2 _ _) (list_addW l b its.toArray its2.toArray n n2 none none sl sl2 (by rw [List.size_toArray, List.size_toArray, ← r.length, ← r2.length]; exact hz)) ⟨ho, ho2, ?_⟩
  rw [ea]
  exact ⟨.ref _, _, I.lnew (t' := s.toks) (r.append r2) (by rw [List.length_append]; exact hz), rfl, q _ I.fresh⟩
/-- a list that stands somewhere and a new one behind it -/
def mCatV (a : ME) (b : MA) : MA := fun ρ S => (a ρ S).bind fun x S1 => (b ρ S1).bind fun ys S2 => match lstOf S2 x with
  | some xs => if xs.length + ys.length ≤ 16777216 then .ok (xs ++ ys) S2 else .bad
  | none => .bad
theorem dl_catV {nb : MA} (ha : DE X W a ma) (hb : DL X W b nb) : DL X W (.BinOp a .Add b pos) (mCatV ma nb) := by
  obtain ⟨ta, pa, ka⟩ := ha
  obtain ⟨tb, pb, kb⟩ := hb
  refine ⟨_, pe_op op_catB pa pb, fun ξ μ σ H ρ S Q g s h => ka ξ μ σ H ρ S _ g s (WL'.bind h fun x S1 v μ1 H1 u1 s1 r1 h1 => ?_)⟩
  refine kb ξ μ1 σ H1 ρ S1 _ (g.up u1) s1 (WL'.bindL h1 fun es S2 q ys μ2 H2 u2 hq s2 r2 e2 h2 => ?_)
  cases c : lstOf S2 x with
  | none => simp only [c] at h2; exact h2.elim
  | some ds =>
    simp only [c] at h2
    have ss : RS (fx X ξ) μ2 H2 S2 := RS.free (F := fx X ξ) (p := q) s2
    obtain ⟨l, xs, rfl, h4, r3⟩ := RD.lstS ss (r1.up u2) c
    by_cases l : ds.length + es.length ≤ 16777216
    · rw [if_pos l] at h2
      refine ⟨_, q, xs, ys, rfl, rfl, h4, SqL.of e2, by rw [r3.length, r2.length, sizeLine_eq]; exact l, fun r hr => ?_⟩
      have rr : RDs (fx X ξ) μ2 H2 (xs ++ ys) (ds ++ es) := RDs.append r3 (RDs.free (F := fx X ξ) (p := q) _ r2)
      exact h2 r _ μ2 _ (.fresh hr) hr (ss.holds hr) (rr.mv (.holds hr)) upd_same
    · rw [if_neg l] at h2
      exact h2.elim
end
end Dm
-- text DmAll

-- text Hw
namespace Dm
open PySem L2
noncomputable section
def m_is_integer : List D → Sto → Res D := mDef 1 1 (mRet (mAnd (mIsi .int (mVar 0)) (mNot (mIsi .bl (mVar 0)))))
def m_is_zone : List D → Sto → Res D := mDef 1 5 (mSeq (mIfS (mOr (mNot (mIsi .tup (mVar 0))) (mOp gNe (mCallB gLen (mCons (mVar 0) mNil)) (mK (.int 2)))) (mRet (mK (.bl false))) mNop) (mSeq (mAsgG (tgT 2 (tgCons (tgN 1) (tgCons (tgN 2) tgNil))) (mVar 0)) (mSeq (mIfS (mOr (mNot (mIsi .tup (mVar 1))) (mNot (mChain gLe gLe (mK (.int 1)) (mCallB gLen (mCons (mVar 1) mNil)) (mK (.int 3))))) (mRet (mK (.bl false))) mNop) (mSeq (mFor (iSeq (mVar 1)) (tgN 3) (mIfS (mOr (mNot (mCall m_is_integer (mCons (mVar 3) mNil))) (mNot (mChain gLe gLe (mUn gNeg (mK (.int 900))) (mVar 3) (mK (.int 900))))) (mRet (mK (.bl false))) mNop)) (mSeq (mFor (iRange2 (mCons (mK (.int 1)) (mCons (mCallB gLen (mCons (mVar 1) mNil)) mNil))) (tgN 4) (mIfS (mOp gLe (mOp gIx (mVar 1) (mVar 4)) (mOp gIx (mVar 1) (mOp gSub (mVar 4) (mK (.int 1))))) (mRet (mK (.bl false))) mNop)) (mRet (mAnd (mCall m_is_integer (mCons (mVar 2) mNil)) (mChain gLt gLe (mOp gSub (mOp gIx (mVar 1) (mK (.int (-1)))) (mOp gIx (mVar 1) (mK (.int 0)))) (mVar 2) (mK (.int 1000000))))))))))
def m_need_zone : List D → Sto → Res D := mDef 1 1 (mIfS (mNot (mCall m_is_zone (mCons (mVar 0) mNil))) (mRaise "InvalidZone") mNop)
def m_need_number : List D → Sto → Res D := mDef 1 1 (mIfS (mNot (mCall m_is_integer (mCons (mVar 0) mNil))) (mRaise "InvalidNumber") mNop)
def m_is_offset : List D → Sto → Res D := mDef 2 2 (mRet (mAnd (mCall m_is_integer (mCons (mVar 1) mNil)) (mOp (gIn false) (mVar 1) (mOp gIx (mVar 0) (mK (.int 0))))))
def m_is_mark : List D → Sto → Res D := mDef 2 2 (mRet (mAnd (mIsi .tup (mVar 1)) (mAnd (mOp gEq (mCallB gLen (mCons (mVar 1) mNil)) (mK (.int 2))) (mAnd (mCall m_is_integer (mCons (mOp gIx (mVar 1) (mK (.int 0))) mNil)) (mCall m_is_offset (mCons (mVar 0) (mCons (mOp gIx (mVar 1) (mK (.int 1))) mNil)))))))
def m_is_table : List D → Sto → Res D := mDef 2 6 (mSeq (mDrop (mCall m_need_zone (mCons (mVar 0) mNil))) (mSeq (mIfS (mOr (mNot (mIsi .tup (mVar 1))) (mOr (mOp gNe (mCallB gLen (mCons (mVar 1) mNil)) (mK (.int 2))) (mNot (mCall m_is_offset (mCons (mVar 0) (mCons (mOp gIx (mVar 1) (mK (.int 0))) mNil)))))) (mRet (mK (.bl false))) mNop) (mSeq (mAsgG (tgT 2 (tgCons (tgN 2) (tgCons (tgN 3) tgNil))) (mVar 1)) (mSeq (mIfS (mNot (mIsi .tup (mVar 3))) (mRet (mK (.bl false))) mNop) (mSeq (mFor (iEnumS (mVar 3)) (tgT 2 (tgCons (tgN 4) (tgCons (tgN 5) tgNil))) (mSeq (mIfS (mOr (mNot (mCall m_is_mark (mCons (mVar 0) (mCons (mVar 5) mNil)))) (mOp gEq (mOp gIx (mVar 5) (mK (.int 1))) (mVar 2))) (mRet (mK (.bl false))) mNop) (mSeq (mIfS (mAnd (mOp gGt (mVar 4) (mK (.int 0))) (mOp gLt (mOp gSub (mOp gIx (mVar 5) (mK (.int 0))) (mOp gIx (mOp gIx (mVar 3) (mOp gSub (mVar 4) (mK (.int 1)))) (mK (.int 0)))) (mOp gIx (mVar 0) (mK (.int 1))))) (mRet (mK (.bl false))) mNop) (mAsg 2 (mOp gIx (mVar 5) (mK (.int 1))))))) (mRet (mK (.bl true))))))))
def m_need_table : List D → Sto → Res D := mDef 2 2 (mIfS (mNot (mCall m_is_table (mCons (mVar 0) (mCons (mVar 1) mNil)))) (mRaise "InvalidTable") mNop)
def m_offset_in : List D → Sto → Res D := mDef 2 5 (mSeq (mAsg 2 (mOp gIx (mVar 0) (mK (.int 0)))) (mSeq (mFor (iSeq (mOp gIx (mVar 0) (mK (.int 1)))) (tgT 2 (tgCons (tgN 3) (tgCons (tgN 4) tgNil))) (mSeq (mIfS (mOp gGt (mVar 3) (mVar 1)) mBrk mNop) (mAsg 2 (mVar 4)))) (mRet (mVar 2))))
end
end Dm
-- text DmSort
namespace Dm
open PySem L2 PySem.Spec PyProof.Rows
open PySem.W (Frag)
/-! ### sorted of ints, of pairs of ints -/
def insP (x : Int × Int) : List (Int × Int) → List (Int × Int)
  | [] => [x]
  | y :: r => if SrtO.lexB y x then y :: insP x r else x :: y :: r
def srtP : List (Int × Int) → List (Int × Int)
  | [] => []
  | x :: r => insP x (srtP r)
def insN (x : Int) : List Int → List Int
  | [] => [x]
  | y :: r => if y < x then y :: insN x r else x :: y :: r
def srtN : List Int → List Int
  | [] => []
  | x :: r => insN x (srtN r)
theorem IsPair.inj {h : Heap} {v : Value} {x y x' y' : Int} (a : Srt.IsPair h v x y) (b : Srt.IsPair h v x' y') : x = x' ∧ y = y' := by
  obtain ⟨a1, o, t, u, n, rfl, e1, e2, e3⟩ := a
  obtain ⟨a2, o', t', u', n', e0, f1, f2, f3⟩ := b
  cases e0
  rw [e1] at f1; cases f1
  rw [e3] at f3
  cases f3
  exact ⟨rfl, rfl⟩
section
variable {X : Cx}
def intsOf : List D → Option (List Int)
  | [] => some []
  | .int i :: ds => (intsOf ds).map (i :: ·)
  | _ :: _ => none
def pairsOf : List D → Option (List (Int × Int))
  | [] => some []
  | .tup [.int i, .int j] :: ds => (pairsOf ds).map ((i, j) :: ·)
  | _ :: _ => none
def prD (p : Int × Int) : D := .tup [.int p.1, .int p.2]
theorem intsOf_eq : ∀ {ds : List D} {ns : List Int}, intsOf ds = some ns → ds = ns.map .int
  | [], ns, e => by cases e; rfl
  | d :: ds, ns, e => by
    cases d with
    | int i =>
      have e : (intsOf ds).map (i :: ·) = some ns := e
      cases q : intsOf ds with
      | none => rw [q] at e; exact nomatch e
      | some m =>
        rw [q] at e; cases e
        rw [intsOf_eq q] <;> rfl
    | _ => exact nomatch e
@[simp] theorem intsOf_map {ns : List Int} : intsOf (ns.map .int) = some ns := by
  induction ns with
  | nil => rfl
  | cons n ns ih => rw [List.map_cons]; show (intsOf _).map _ = _; rw [ih] <;> rfl
@[simp] theorem pairsOf_map {ps : List (Int × Int)} : pairsOf (ps.map prD) = some ps := by
  induction ps with
  | nil => rfl
  | cons n ns ih => rw [List.map_cons]; show (pairsOf _).map _ = _; rw [ih] <;> rfl
def sortD (ds : List D) : Option (List D) := match intsOf ds with
  | some ns => some ((srtN ns).map .int)
  | none => (pairsOf ds).map fun ps => (srtP ps).map prD
def gSort : Sto → List D → Option (List D) := fun S ds => match ds with
  | [d] => (lstOf S d).bind sortD
  | _ => none
theorem rdsInts {F : Fx} {μ : List Addr} {H : Hp} {ns : List Int} : ∀ {vs : List V}, RDs F μ H vs (ns.map .int) → vs = ns.map V.int := by
  induction ns with
  | nil => intro vs r; cases r; rfl
  | cons p ps ih =>
    intro vs r
    cases r with
    | cons a b =>
      cases a
      rw [ih b] <;> rfl
theorem CallR.or {f : Value} {r r' : List V → Hp → VK → Prop} (h : CallR X f r) (h' : CallR X f r') : CallR X f (fun vs H Q => r vs H Q ∨ r' vs H Q) := by
  intro pins s σ H vs us Q I rv z
  rcases z with z | z
  · exact h pins s σ H vs us Q I rv z
  · exact h' pins s σ H vs us Q I rv z
end
@[simp] theorem gSort_ints {S : Sto} {d : D} {ns : List Int} (h : lstOf S d = some (ns.map .int)) : gSort S [d] = some ((srtN ns).map .int) := by
  show (lstOf S d).bind sortD = _
  rw [h]
  show sortD _ = _
  unfold sortD
  rw [intsOf_map]
end Dm
-- text DmWp
namespace Dm
open PySem L2
/-! ### what a word does -/
abbrev EX := Str → List (Str × D) → Sto → Prop
abbrev EXO := Str → List (Str × D) → Rho → Sto → Prop
def NoE : EX := fun _ _ _ => False
def NoEO : EXO := fun _ _ _ _ => False
/-- what is wished of an exception: of an expression's at these slots; of a def's body -/
def eAt (E : EXO) (ρ : Rho) : EX := fun c fs S => E c fs ρ S
def eOut (E : EX) : EXO := fun c fs _ S => E c fs S
@[simp] theorem eAt_out {E : EX} {ρ : Rho} : eAt (eOut E) ρ = E := rfl
@[simp] theorem eAt_no {ρ : Rho} : eAt NoEO ρ = NoE := rfl
@[simp] theorem eOut_no : eOut NoE = NoEO := rfl
@[simp] theorem noE_app {c : Str} {fs : List (Str × D)} {S : Sto} : NoE c fs S = False := rfl
@[simp] theorem noEO_app {c : Str} {fs : List (Str × D)} {ρ : Rho} {S : Sto} : NoEO c fs ρ S = False := rfl
def Res.DoesE {α : Type} (r : Res α) (E : EX) (Q : α → Sto → Prop) : Prop := match r with
  | .ok a S => Q a S
  | .exc c fs S => E c fs S
  | .bad => False
def Out.DoesE (o : Out) (E : EXO) (N : Rho → Sto → Prop) (R : D → Sto → Prop) (B : Rho → Sto → Prop := fun _ _ => False) (C : Rho → Sto → Prop := fun _ _ => False) : Prop := match o with
  | .nx ρ S => N ρ S
  | .rt d S => R d S
  | .bk ρ S => B ρ S
  | .ct ρ S => C ρ S
  | .exc c fs ρ S => E c fs ρ S
  | .bad => False
abbrev Res.Does {α : Type} (r : Res α) (Q : α → Sto → Prop) : Prop := r.DoesE NoE Q
abbrev Out.Does (o : Out) (N : Rho → Sto → Prop) (R : D → Sto → Prop) (B : Rho → Sto → Prop := fun _ _ => False) (C : Rho → Sto → Prop := fun _ _ => False) : Prop := o.DoesE NoEO N R B C
section
variable {α β : Type} {a : α} {S : Sto} {ρ : Rho} {Q : α → Sto → Prop} {N B C : Rho → Sto → Prop} {R : D → Sto → Prop} {E : EX} {EO : EXO}
@[simp] theorem does_ok : (Res.ok a S).DoesE E Q = Q a S := rfl
@[simp] theorem does_bind {r : Res β} {f : β → Sto → Res α} : (r.bind f).DoesE E Q = r.DoesE E fun b S => (f b S).DoesE E Q := by cases r <;> rfl
@[simp] theorem bind_ok {f : α → Sto → Res β} : (Res.ok a S).bind f = f a S := rfl
@[simp] theorem ofRes_ok {k : α → Sto → Out} : ofRes (.ok a S) ρ k = k a S := rfl
@[simp] theorem does_ofRes {r : Res α} {k : α → Sto → Out} : (ofRes r ρ k).DoesE EO N R B C = r.DoesE (eAt EO ρ) fun a S => (k a S).DoesE EO N R B C := by cases r <;> rfl
@[simp] theorem does_nx : (Out.nx ρ S).DoesE EO N R B C = N ρ S := rfl
@[simp] theorem does_rt {d : D} : (Out.rt d S).DoesE EO N R B C = R d S := rfl
@[simp] theorem does_bk : (Out.bk ρ S).DoesE EO N R B C = B ρ S := rfl
@[simp] theorem does_ct : (Out.ct ρ S).DoesE EO N R B C = C ρ S := rfl
theorem Res.DoesE.mono {r : Res α} {Q Q' : α → Sto → Prop} (h : r.DoesE E Q) (k : ∀ a S, Q a S → Q' a S) : r.DoesE E Q' := by
  cases r with
  | ok a S => exact k a S h
  | _ => exact h
theorem Res.DoesE.monoE {r : Res α} {E' : EX} {Q Q' : α → Sto → Prop} (h : r.DoesE E Q) (e : ∀ c fs S, E c fs S → E' c fs S) (k : ∀ a S, Q a S → Q' a S) : r.DoesE E' Q' := by
  cases r with
  | ok a S => exact k a S h
  | exc c fs S => exact e _ _ _ h
  | bad => exact h
theorem Res.DoesE.toE {r : Res α} {Q : α → Sto → Prop} (h : r.DoesE NoE Q) : r.DoesE E Q := h.monoE (fun _ _ _ z => z.elim) fun _ _ z => z
theorem Res.Does.toE {r : Res α} {Q : α → Sto → Prop} (h : r.Does Q) : r.DoesE E Q := Res.DoesE.toE h
theorem Res.Does.mono {r : Res α} {Q Q' : α → Sto → Prop} (h : r.Does Q) (k : ∀ a S, Q a S → Q' a S) : r.Does Q' := Res.DoesE.mono h k
theorem Res.DoesE.eq {r : Res α} {Q : α → Sto → Prop} (h : r.DoesE NoE Q) : ∃ a S, r = .ok a S ∧ Q a S := by
  cases r with
  | ok a S => exact ⟨a, S, rfl, h⟩
  | _ => exact h.elim
theorem Res.Does.eq {r : Res α} {Q : α → Sto → Prop} (h : r.Does Q) : ∃ a S, r = .ok a S ∧ Q a S := Res.DoesE.eq h
theorem Out.DoesE.mono {o : Out} {N' B' C' : Rho → Sto → Prop} {R' : D → Sto → Prop} (h : o.DoesE EO N R B C) (hN : ∀ ρ S, N ρ S → N' ρ S) (hR : ∀ d S, R d S → R' d S) (hB : ∀ ρ S, B ρ S → B' ρ S) (hC : ∀ ρ S, C ρ S → C' ρ S) : o.DoesE EO N' R' B' C' := by
  cases o with
  | nx ρ S => exact hN _ _ h
  | rt d S => exact hR _ _ h
  | bk ρ S => exact hB _ _ h
  | ct ρ S => exact hC _ _ h
  | _ => exact h
theorem Out.Does.mono {o : Out} {N' B' C' : Rho → Sto → Prop} {R' : D → Sto → Prop} (h : o.Does N R B C) (hN : ∀ ρ S, N ρ S → N' ρ S) (hR : ∀ d S, R d S → R' d S) (hB : ∀ ρ S, B ρ S → B' ρ S) (hC : ∀ ρ S, C ρ S → C' ρ S) : o.Does N' R' B' C' := Out.DoesE.mono h hN hR hB hC
end
section
variable {S : Sto} {ρ : Rho} {Q : D → Sto → Prop} {N B C : Rho → Sto → Prop} {R : D → Sto → Prop} {E : EX} {EO : EXO}
@[simp] theorem does_seq {a b : MS} : (mSeq a b ρ S).DoesE EO N R B C = (a ρ S).DoesE EO (fun ρ S => (b ρ S).DoesE EO N R B C) R B C := by
  unfold mSeq
  cases a ρ S <;> rfl
@[simp] theorem does_asg {i : Nat} {m : ME} : (mAsg i m ρ S).DoesE EO N R B C = (m ρ S).DoesE (eAt EO ρ) fun d S => N (ρ.set i (some d)) S := by
  unfold mAsg
  rw [does_ofRes] <;> rfl
@[simp] theorem does_ret {m : ME} : (mRet m ρ S).DoesE EO N R B C = (m ρ S).DoesE (eAt EO ρ) R := by
  unfold mRet
  rw [does_ofRes] <;> rfl
@[simp] theorem does_retN : (mRetN ρ S).DoesE EO N R B C = R .non S := rfl
@[simp] theorem does_drop {m : ME} : (mDrop m ρ S).DoesE EO N R B C = (m ρ S).DoesE (eAt EO ρ) fun _ S => N ρ S := by
  unfold mDrop
  rw [does_ofRes] <;> rfl
@[simp] theorem does_nop : (mNop ρ S).DoesE EO N R B C = N ρ S := rfl
@[simp] theorem does_brk : (mBrk ρ S).DoesE EO N R B C = B ρ S := rfl
@[simp] theorem does_cont : (mCont ρ S).DoesE EO N R B C = C ρ S := rfl
/-- an if by what its test says -/
def BlQ (k : Bool → Sto → Prop) : D → Sto → Prop := fun d S => match d with
  | .bl b => k b S
  | _ => False
@[simp] theorem blQ_bl {k : Bool → Sto → Prop} {b : Bool} : BlQ k (.bl b) S = k b S := rfl
@[simp] theorem does_ifS {c : ME} {a b : MS} : (mIfS c a b ρ S).DoesE EO N R B C = (c ρ S).DoesE (eAt EO ρ) (BlQ fun k S => if k = true then (a ρ S).DoesE EO N R B C else (b ρ S).DoesE EO N R B C) := by
  unfold mIfS
  rw [does_ofRes]
  congr 1
  funext d S
  cases d with
  | bl k => cases k <;> rfl
  | _ => rfl
@[simp] theorem does_var {i : Nat} : (mVar i ρ S).DoesE E Q = match ρ[i]? with
    | some (some d) => Q d S
    | _ => False := by
  unfold mVar
  cases ρ[i]? with
  | none => rfl
  | some o => cases o <;> rfl
@[simp] theorem does_k {d : D} : (mK d ρ S).DoesE E Q = Q d S := rfl
@[simp] theorem var_eq {i : Nat} : mVar i ρ S = match ρ[i]? with
    | some (some d) => .ok d S
    | _ => .bad := rfl
@[simp] theorem k_eq {d : D} : mK d ρ S = .ok d S := rfl
def OptQ (o : Option D) (k : D → Prop) : Prop := match o with
  | some d => k d
  | none => False
@[simp] theorem optQ_some {d : D} {k : D → Prop} : OptQ (some d) k = k d := rfl
@[simp] theorem does_op {g : Sto → D → D → Option D} {a b : ME} : (mOp g a b ρ S).DoesE E Q = (a ρ S).DoesE E fun x S1 => (b ρ S1).DoesE E fun y S2 => OptQ (g S2 x y) fun z => Q z S2 := by
  unfold mOp
  rw [does_bind]
  congr 1
  funext x S1
  rw [does_bind]
  congr 1
  funext y S2
  cases g S2 x y <;> rfl
@[simp] theorem does_un {g : Sto → D → Option D} {a : ME} : (mUn g a ρ S).DoesE E Q = (a ρ S).DoesE E fun x S1 => OptQ (g S1 x) fun z => Q z S1 := by
  unfold mUn
  rw [does_bind]
  congr 1
  funext x S1
  cases g S1 x <;> rfl
@[simp] theorem does_and {a b : ME} : (mAnd a b ρ S).DoesE E Q = (a ρ S).DoesE E (BlQ fun k S1 => if k = true then (b ρ S1).DoesE E Q else Q (.bl false) S1) := by
  unfold mAnd
  rw [does_bind]
  congr 1
  funext d S
  cases d with
  | bl k => cases k <;> rfl
  | _ => rfl
@[simp] theorem does_or {a b : ME} : (mOr a b ρ S).DoesE E Q = (a ρ S).DoesE E (BlQ fun k S1 => if k = true then Q (.bl true) S1 else (b ρ S1).DoesE E Q) := by
  unfold mOr
  rw [does_bind]
  congr 1
  funext d S
  cases d with
  | bl k => cases k <;> rfl
  | _ => rfl
@[simp] theorem does_not {a : ME} : (mNot a ρ S).DoesE E Q = (a ρ S).DoesE E (BlQ fun k S1 => Q (.bl (!k)) S1) := by
  unfold mNot
  rw [does_bind]
  congr 1
  funext d S
  cases d <;> rfl
@[simp] theorem does_if {c a b : ME} : (mIf c a b ρ S).DoesE E Q = (c ρ S).DoesE E (BlQ fun k S1 => if k = true then (a ρ S1).DoesE E Q else (b ρ S1).DoesE E Q) := by
  unfold mIf
  rw [does_bind]
  congr 1
  funext d S
  cases d with
  | bl k => cases k <;> rfl
  | _ => rfl
@[simp] theorem does_nil {Q : List D → Sto → Prop} : (mNil ρ S).DoesE E Q = Q [] S := rfl
@[simp] theorem does_cons {a : ME} {r : MA} {Q : List D → Sto → Prop} : (mCons a r ρ S).DoesE E Q = (a ρ S).DoesE E fun x S1 => (r ρ S1).DoesE E fun xs S2 => Q (x :: xs) S2 := by
  unfold mCons
  rw [does_bind]
  congr 1
  funext x S1
  rw [does_bind] <;> rfl
@[simp] theorem does_tup {a : MA} : (mTup a ρ S).DoesE E Q = (a ρ S).DoesE E fun xs S1 => xs.length ≤ 16777216 ∧ Q (.tup xs) S1 := by
  unfold mTup
  rw [does_bind]
  congr 1
  funext xs S1
  by_cases h : xs.length ≤ 16777216
  · rw [if_pos h]; simp [h]
  · rw [if_neg h]; simp [h, Res.DoesE]
@[simp] theorem does_lst {a : MA} {Q : List D → Sto → Prop} : (mLst a ρ S).DoesE E Q = (a ρ S).DoesE E fun xs S1 => xs.length ≤ 16777216 ∧ Q xs S1 := by
  unfold mLst
  rw [does_bind]
  congr 1
  funext xs S1
  by_cases h : xs.length ≤ 16777216
  · rw [if_pos h]; simp [h]
  · rw [if_neg h]; simp [h, Res.DoesE]
@[simp] theorem does_fz {a : MA} : (mFz a ρ S).DoesE E Q = (a ρ S).DoesE E fun xs S1 => Q (.lst xs) S1 := by
  unfold mFz
  rw [does_bind] <;> rfl
@[simp] theorem does_new {a : MA} : (mNew a ρ S).DoesE E Q = (a ρ S).DoesE E fun xs S1 => Q (.cell S1.length) (S1 ++ [.lst xs]) := by
  unfold mNew
  rw [does_bind] <;> rfl
@[simp] theorem does_call {f : List D → Sto → Res D} {a : MA} : (mCall f a ρ S).DoesE E Q = (a ρ S).DoesE E fun xs S1 => (f xs S1).DoesE E Q := by
  unfold mCall
  rw [does_bind] <;> rfl
@[simp] theorem does_callB {g : Sto → List D → Option D} {a : MA} : (mCallB g a ρ S).DoesE E Q = (a ρ S).DoesE E fun xs S1 => OptQ (g S1 xs) fun z => Q z S1 := by
  unfold mCallB
  rw [does_bind]
  congr 1
  funext x S1
  cases g S1 x <;> rfl
@[simp] theorem does_callK {f : List D → Sto → Res D} {n q : Nat} {p : List Nat} {a k : MA} : (mCallK f n q p a k ρ S).DoesE E Q = (a ρ S).DoesE E fun xs S1 => (k ρ S1).DoesE E fun zs S2 => (xs.length = n ∧ zs.length = q) ∧ (f (p.filterMap ((xs ++ zs)[·]?)) S2).DoesE E Q := by
  unfold mCallK
  rw [does_bind]
  congr 1
  funext xs S1
  rw [does_bind]
  congr 1
  funext zs S2
  by_cases h : xs.length = n ∧ zs.length = q
  · rw [if_pos h]; simp [h]
  · rw [if_neg h]; simp [h, Res.DoesE]
@[simp] theorem does_chain {g g' : Sto → D → D → Option D} {a b c : ME} : (mChain g g' a b c ρ S).DoesE E Q = (a ρ S).DoesE E fun x S1 => (b ρ S1).DoesE E fun y S2 => OptQ (g S2 x y) fun z => BlQ (fun k S2 => if k = true then (c ρ S2).DoesE E fun w S3 => OptQ (g' S3 y w) fun z => Q z S3 else Q (.bl false) S2) z S2 := by
  unfold mChain
  rw [does_bind]
  congr 1
  funext x S1
  rw [does_bind]
  congr 1
  funext y S2
  cases g S2 x y with
  | none => rfl
  | some z =>
    cases z with
    | bl k =>
      cases k with
      | false => rfl
      | true =>
        show ((c ρ S2).bind _).DoesE E Q = _
        rw [does_bind]
        show _ = (c ρ S2).DoesE E _
        congr 1
        funext w S3
        cases g' S3 y w <;> rfl
    | _ => rfl
@[simp] theorem does_isi {T : Tn} {m : ME} : (mIsi T m ρ S).DoesE E Q = (m ρ S).DoesE E fun d S1 => OptQ ((tyOf S1 d).map fun t => .bl (isTn t T)) fun z => Q z S1 := by
  unfold mIsi
  rw [does_un]
@[simp] theorem does_isiT {T : List Tn} {m : ME} : (mIsiT T m ρ S).DoesE E Q = (m ρ S).DoesE E fun d S1 => OptQ ((tyOf S1 d).map fun t => .bl (T.any (isTn t ·))) fun z => Q z S1 := by
  unfold mIsiT
  rw [does_un]
@[simp] theorem does_asgG {f : D → Rho → Option Rho} {m : ME} : (mAsgG f m ρ S).DoesE EO N R B C = (m ρ S).DoesE (eAt EO ρ) fun d S1 => match f d ρ with
    | some ρ1 => N ρ1 S1
    | none => False := by
  unfold mAsgG
  rw [does_ofRes]
  congr 1
  funext d S1
  cases f d ρ <;> rfl
/-- a def -/
theorem does_def {np nN : Nat} {b : MS} {ds : List D} (h : ds.length = np) (hb : (b (ds.map some ++ List.replicate (nN - np) none) S).DoesE (eOut E) (fun _ S' => Q .non S') Q) : (mDef np nN b ds S).DoesE E Q := by
  unfold mDef
  rw [if_pos h]
  cases e : b (ds.map some ++ List.replicate (nN - np) none) S <;> rw [e] at hb <;> exact hb
@[simp] theorem does_for {mi : MA} {f : D → Rho → Option Rho} {mb : MS} : (mFor mi f mb ρ S).DoesE EO N R B C = (mi ρ S).DoesE (eAt EO ρ) fun ds S1 => (forL f mb ds ρ S1).DoesE EO N R B C := by
  unfold mFor
  rw [does_ofRes]
@[simp] theorem does_forL_nil {f : D → Rho → Option Rho} {mb : MS} : (forL f mb [] ρ S).DoesE EO N R B C = N ρ S := rfl
@[simp] theorem does_forL_cons {f : D → Rho → Option Rho} {mb : MS} {d : D} {r : List D} : (forL f mb (d :: r) ρ S).DoesE EO N R B C = match f d ρ with
    | none => False
    | some ρ1 => (mb ρ1 S).DoesE EO (fun ρ S => (forL f mb r ρ S).DoesE EO N R B C) R N (fun ρ S => (forL f mb r ρ S).DoesE EO N R B C) := by
  rw [forL]
  cases f d ρ with
  | none => rfl
  | some ρ1 =>
    simp only
    cases mb ρ1 S <;> rfl
/-- a loop by what holds ahead of each turn -/
theorem forL_does {f : D → Rho → Option Rho} {mb : MS} (I : List D → Rho → Sto → Prop) (step : ∀ d r ρ S, I (d :: r) ρ S → ∃ ρ1, f d ρ = some ρ1 ∧ (mb ρ1 S).DoesE EO (I r) R N (I r)) (stop : ∀ ρ S, I [] ρ S → N ρ S) :
    ∀ (ds : List D) (ρ : Rho) (S : Sto), I ds ρ S → (forL f mb ds ρ S).DoesE EO N R B C
  | [], ρ, S, h => stop ρ S h
  | d :: r, ρ, S, h => by
    obtain ⟨ρ1, e, k⟩ := step d r ρ S h
    unfold forL
    rw [e]
    simp only
    cases q : mb ρ1 S with
    | nx ρ2 S2 => rw [q] at k; exact forL_does I step stop r ρ2 S2 k
    | ct ρ2 S2 => rw [q] at k; exact forL_does I step stop r ρ2 S2 k
    | bk ρ2 S2 => rw [q] at k; exact k
    | rt d S2 => rw [q] at k; exact k
    | exc c fs ρ2 S2 => rw [q] at k; exact k
    | bad => rw [q] at k; exact k
theorem forL_cut {f : D → Rho → Option Rho} {mb : MS} (I : List D → Rho → Sto → Prop) (ds : List D) (start : I ds ρ S) (step : ∀ d r ρ S, I (d :: r) ρ S → ∃ ρ1, f d ρ = some ρ1 ∧ ∀ M : Rho → Sto → Prop, (∀ ρ S, I r ρ S → M ρ S) → (mb ρ1 S).DoesE EO M R N M) (stop : ∀ ρ S, I [] ρ S → N ρ S) :
    (forL f mb ds ρ S).DoesE EO N R B C :=
  forL_does I (fun d r ρ S h => let ⟨ρ1, e, k⟩ := step d r ρ S h; ⟨ρ1, e, k _ fun _ _ h => h⟩) stop ds ρ S start
@[simp] theorem does_iSeq {m : ME} {Q : List D → Sto → Prop} : (iSeq m ρ S).DoesE E Q = (m ρ S).DoesE E fun d S1 => match d with
    | .tup ds => Q ds S1
    | .lst ds => Q ds S1
    | _ => False := by
  unfold iSeq
  rw [does_bind]
  congr 1
  funext d S1
  cases d <;> rfl
@[simp] theorem does_iEnumS {m : ME} {Q : List D → Sto → Prop} : (iEnumS m ρ S).DoesE E Q = (m ρ S).DoesE E fun d S1 => match d with
    | .tup ds => Q (enumD ds) S1
    | .lst ds => Q (enumD ds) S1
    | _ => False := by
  unfold iEnumS
  rw [does_bind]
  congr 1
  funext d S1
  cases d <;> rfl
@[simp] theorem does_iRange1 {a : MA} {Q : List D → Sto → Prop} : (iRange1 a ρ S).DoesE E Q = (a ρ S).DoesE E fun ds S1 => match ds with
    | [.int j] => (j ≤ 16777216 ∧ -4611686018427387904 ≤ j) ∧ Q (rngD 0 j.toNat) S1
    | _ => False := by
  unfold iRange1
  rw [does_bind]
  congr 1
  funext ds S1
  split
  · rename_i j
    by_cases h : j ≤ 16777216 ∧ -4611686018427387904 ≤ j
    · rw [if_pos h]; simp [h]
    · rw [if_neg h]; simp [h, Res.DoesE]
  · rename_i h
    first
    | rfl
    | (split <;> first
      | rfl
      | (rename_i j; exact absurd rfl (h j)))
@[simp] theorem does_iRange2 {a : MA} {Q : List D → Sto → Prop} : (iRange2 a ρ S).DoesE E Q = (a ρ S).DoesE E fun ds S1 => match ds with
    | [.int i, .int j] => (-1000000000000 ≤ i ∧ i ≤ 1000000000000 ∧ -1000000000000 ≤ j ∧ j ≤ 1000000000000 ∧ j - i ≤ 16777216) ∧ Q (rngD i (j - i).toNat) S1
    | _ => False := by
  unfold iRange2
  rw [does_bind]
  congr 1
  funext ds S1
  split
  · rename_i i j
    by_cases h : -1000000000000 ≤ i ∧ i ≤ 1000000000000 ∧ -1000000000000 ≤ j ∧ j ≤ 1000000000000 ∧ j - i ≤ 16777216
    · rw [if_pos h]; simp [h]
    · rw [if_neg h]; simp [h, Res.DoesE]
  · rename_i h
    first
    | rfl
    | (split <;> first
      | rfl
      | (rename_i i j; exact absurd rfl (h i j)))
/-- what a comprehension gives -/
def LcQ (f : D → Rho → Option Rho) (mt me : ME) (ρ : Rho) (ds : List D) (S : Sto) (Q : List D → Sto → Prop) : Prop := ∃ ys S2, lcL f mt me ρ ds S = some (ys, S2) ∧ Q ys S2
@[simp] theorem lcQ_nil {f : D → Rho → Option Rho} {mt me : ME} {Q : List D → Sto → Prop} : LcQ f mt me ρ [] S Q = Q [] S := by
  refine propext ⟨?_, fun q => ⟨[], S, rfl, q⟩⟩
  rintro ⟨ys, S2, e, q⟩
  cases e
  exact q
@[simp] theorem lcQ_cons {f : D → Rho → Option Rho} {mt me : ME} {d : D} {r : List D} {Q : List D → Sto → Prop} : LcQ f mt me ρ (d :: r) S Q = match f d ρ with
    | none => False
    | some ρ1 => (mt ρ1 S).Does (BlQ fun k S1 => if k = true then (me ρ1 S1).Does fun y S2 => LcQ f mt me ρ r S2 fun ys S3 => Q (y :: ys) S3 else LcQ f mt me ρ r S1 Q) := by
  unfold LcQ
  rw [lcL]
  cases f d ρ with
  | none => simp
  | some ρ1 =>
    simp only
    cases mt ρ1 S with
    | ok v S1 =>
      cases v with
      | bl b =>
        cases b with
        | true =>
          simp only [does_ok, blQ_bl, if_true]
          cases me ρ1 S1 with
          | ok y S2 =>
            simp only [does_ok]
            cases lcL f mt me ρ r S2 with
            | none => simp
            | some z =>
              obtain ⟨ys, S3⟩ := z
              refine propext ⟨?_, ?_⟩
              · rintro ⟨ys', S', e, q⟩
                cases e
                exact ⟨_, _, rfl, q⟩
              · rintro ⟨ys', S', e, q⟩
                cases e
                exact ⟨_, _, rfl, q⟩
          | _ => simp [Res.DoesE]
        | false => simp [does_ok, blQ_bl]
      | _ => simp [does_ok, BlQ]
    | _ => simp [Res.DoesE]
@[simp] theorem does_yes {Q : D → Sto → Prop} : (mYes ρ S).DoesE E Q = Q (.bl true) S := rfl
@[simp] theorem does_lc {mi : MA} {f : D → Rho → Option Rho} {mt me : ME} {vs : List Nat} {Q : List D → Sto → Prop} : (mLc mi f mt me vs ρ S).DoesE E Q = (mi ρ S).DoesE E fun ds S1 => LcQ f mt me (wipeD ρ vs) ds S1 Q := by
  unfold mLc
  rw [does_bind]
  congr 1
  funext ds S1
  unfold LcQ
  cases e : lcL f mt me (wipeD ρ vs) ds S1 with
  | none => simp [Res.DoesE]
  | some r =>
    obtain ⟨ys, S2⟩ := r
    refine propext ⟨fun q => ⟨ys, S2, rfl, q⟩, ?_⟩
    rintro ⟨ys', S2', e', q⟩
    cases e'
    exact q
@[simp] theorem does_slT {a : ME} {lo hi : MO} : (mSlT a lo hi ρ S).DoesE E Q = (a ρ S).DoesE E fun x S1 => (lo ρ S1).DoesE E fun l S2 => (hi ρ S2).DoesE E fun h S3 => match x with
    | .tup ds => Q (.tup (cutD ds l h)) S3
    | _ => False := by
  unfold mSlT
  rw [does_bind]; congr 1; funext x S1
  rw [does_bind]; congr 1; funext l S2
  rw [does_bind]; congr 1; funext h S3
  cases x <;> rfl
@[simp] theorem does_slL {a : ME} {lo hi : MO} {Q : List D → Sto → Prop} : (mSlL a lo hi ρ S).DoesE E Q = (a ρ S).DoesE E fun x S1 => (lo ρ S1).DoesE E fun l S2 => (hi ρ S2).DoesE E fun h S3 => match lstOf S3 x with
    | some ds => Q (cutD ds l h) S3
    | none => False := by
  unfold mSlL
  rw [does_bind]; congr 1; funext x S1
  rw [does_bind]; congr 1; funext l S2
  rw [does_bind]; congr 1; funext h S3
  cases lstOf S3 x <;> rfl
@[simp] theorem does_part {m : ME} {Q : Option Int → Sto → Prop} : (mPart m ρ S).DoesE E Q = (m ρ S).DoesE E fun x S1 => match x with
    | .int i => Q (some i) S1
    | _ => False := by
  unfold mPart
  rw [does_bind]; congr 1; funext x S1
  cases x <;> rfl
@[simp] theorem does_noPart {Q : Option Int → Sto → Prop} : (mNoPart ρ S).DoesE E Q = Q none S := rfl
@[simp] theorem does_back {m : ME} : (mBack m ρ S).DoesE E Q = (m ρ S).DoesE E fun x S1 => match x with
    | .tup ds => Q (.tup ds.reverse) S1
    | _ => False := by
  unfold mBack
  rw [does_bind]; congr 1; funext x S1
  cases x <;> rfl
@[simp] theorem does_catL {a b : MA} {Q : List D → Sto → Prop} : (mCatL a b ρ S).DoesE E Q = (a ρ S).DoesE E fun xs S1 => (b ρ S1).DoesE E fun ys S2 => xs.length + ys.length ≤ 16777216 ∧ Q (xs ++ ys) S2 := by
  unfold mCatL
  rw [does_bind]; congr 1; funext xs S1
  rw [does_bind]; congr 1; funext ys S2
  by_cases h : xs.length + ys.length ≤ 16777216
  · rw [if_pos h]; simp [h]
  · rw [if_neg h]; simp [h, Res.DoesE]
@[simp] theorem does_app {o m : ME} : (mApp o m ρ S).DoesE EO N R B C = (o ρ S).DoesE (eAt EO ρ) fun x S1 => match x with
    | .cell n => ∃ ds0, S1[n]? = some (.lst ds0) ∧ (m ρ S1).DoesE (eAt EO ρ) fun d S2 => ∃ ds, S2[n]? = some (.lst ds) ∧ ds.length < 16777216 ∧ N ρ (S2.set n (.lst (ds ++ [d])))
    | _ => False := by
  unfold mApp
  rw [does_ofRes]; congr 1; funext x S1
  cases x with
  | cell n =>
    simp only
    cases e : S1[n]? with
    | none => simp [Out.DoesE]
    | some c =>
      cases c with
      | lst ds0 =>
        simp only [does_ofRes]
        refine propext ⟨fun q => ⟨ds0, rfl, q.mono fun d S2 z => ?_⟩, ?_⟩
        · revert z
          cases e2 : S2[n]? with
          | none => exact fun z => z.elim
          | some c2 =>
            cases c2 with
            | lst ds =>
              intro z
              by_cases l : ds.length < 16777216
              · simp only [if_pos l] at z
                exact ⟨ds, rfl, l, z⟩
              · simp only [if_neg l] at z
                exact z.elim
            | _ => exact fun z => z.elim
        · rintro ⟨ds', e', q⟩
          refine q.mono fun d S2 z => ?_
          obtain ⟨ds, e2, l, z⟩ := z
          simp only [e2, if_pos l]
          exact z
      | _ => simp [Out.DoesE]
  | _ => rfl
@[simp] theorem does_setIx {m o i : ME} : (mSetIx m o i ρ S).DoesE EO N R B C = (m ρ S).DoesE (eAt EO ρ) fun d S1 => (o ρ S1).DoesE (eAt EO ρ) fun x S2 => (i ρ S2).DoesE (eAt EO ρ) fun y S3 => match x, y with
    | .cell n, .int j => ∃ ds k, S3[n]? = some (.lst ds) ∧ ixN ds.length j = some k ∧ N ρ (S3.set n (.lst (ds.set k d)))
    | _, _ => False := by
  unfold mSetIx
  rw [does_ofRes]; congr 1; funext d S1
  rw [does_ofRes]; congr 1; funext x S2
  rw [does_ofRes]; congr 1; funext y S3
  cases x with
  | cell n =>
    cases y with
    | int j =>
      simp only
      cases e : S3[n]? with
      | none => simp [Out.DoesE]
      | some c =>
        cases c with
        | lst ds =>
          simp only
          cases e2 : ixN ds.length j with
          | none => simp [Out.DoesE, e2]
          | some k => simp [e2]
        | _ => simp [Out.DoesE]
    | _ => rfl
  | _ => rfl
@[simp] theorem does_aug {i : Nat} {f : Int → Int → Int} {m : ME} : (mAug i f m ρ S).DoesE EO N R B C = match ρ[i]? with
    | some (some (.int a)) => (m ρ S).DoesE (eAt EO ρ) fun d S1 => match d with
      | .int b => N (ρ.set i (some (.int (f a b)))) S1
      | _ => False
    | _ => False := by
  unfold mAug
  cases ρ[i]? with
  | none => rfl
  | some o =>
    cases o with
    | none => rfl
    | some d =>
      cases d with
      | int a =>
        simp only
        rw [does_ofRes]; congr 1; funext d S1
        cases d <;> rfl
      | _ => rfl
@[simp] theorem does_repL {a : MA} {b : ME} {Q : List D → Sto → Prop} : (mRepL a b ρ S).DoesE E Q = (a ρ S).DoesE E fun xs S1 => (b ρ S1).DoesE E fun y S2 => match y with
    | .int k => (k < 1000000 ∧ xs.length * k.toNat ≤ 16777216 ∧ -1000000 < k) ∧ Q (List.replicate k.toNat xs).flatten S2
    | _ => False := by
  unfold mRepL
  rw [does_bind]; congr 1; funext xs S1
  rw [does_bind]; congr 1; funext y S2
  cases y with
  | int k =>
    simp only
    by_cases h : k < 1000000 ∧ xs.length * k.toNat ≤ 16777216 ∧ -1000000 < k
    · rw [if_pos h]; simp [h]
    · rw [if_neg h]; simp [h, Res.DoesE]
  | _ => rfl
@[simp] theorem does_catC {a : ME} {b : MA} {Q : List D → Sto → Prop} : (mCatC a b ρ S).DoesE E Q = (a ρ S).DoesE E fun x S1 => (b ρ S1).DoesE E fun ys S2 => match x with
    | .cell n => ∃ xs, S2[n]? = some (.lst xs) ∧ xs.length + ys.length ≤ 16777216 ∧ Q (xs ++ ys) S2
    | _ => False := by
  unfold mCatC
  rw [does_bind]; congr 1; funext x S1
  rw [does_bind]; congr 1; funext ys S2
  cases x with
  | cell n =>
    simp only
    cases e : S2[n]? with
    | none => simp [Res.DoesE]
    | some c =>
      cases c with
      | lst xs =>
        simp only
        by_cases h : xs.length + ys.length ≤ 16777216
        · rw [if_pos h]; simp [h]
        · rw [if_neg h]; simp [h, Res.DoesE]
      | _ => simp [Res.DoesE]
  | _ => rfl
@[simp] theorem does_catV {a : ME} {b : MA} {Q : List D → Sto → Prop} : (mCatV a b ρ S).DoesE E Q = (a ρ S).DoesE E fun x S1 => (b ρ S1).DoesE E fun ys S2 => match lstOf S2 x with
    | some xs => xs.length + ys.length ≤ 16777216 ∧ Q (xs ++ ys) S2
    | none => False := by
  unfold mCatV
  rw [does_bind]; congr 1; funext x S1
  rw [does_bind]; congr 1; funext ys S2
  cases e : lstOf S2 x with
  | none => simp [Res.DoesE]
  | some xs =>
    simp only
    by_cases h : xs.length + ys.length ≤ 16777216
    · rw [if_pos h]; simp [h]
    · rw [if_neg h]; simp [h, Res.DoesE]
end
end Dm
-- text DmAny
namespace Dm
open PySem L2 PySem.Spec PyProof.Rows
open PySem.W (Frag)
/-! ### over what stands in a tuple, a list, a cell, as it stands at each turn -/
def ItA (F : Fx) (μ : List Addr) (H : Hp) (J : It) (p : D × Nat) : Prop := p.2 ≤ 16777216 ∧
  ∀ (F' : Fx) (μ' : List Addr) (H' : Hp) (S' : Sto) (i : Nat), Ext F F' H → Up μ H μ' H' → RS F' μ' H' S' → ∀ ds, seqOf S' p.1 = some ds →
    (∀ x, ds[i]? = some x → J.go i H' ∧ ∀ v H'', J.yld i H' v H'' → H'' = H' ∧ RD F' μ' H' v x) ∧ (i = ds.length → J.stop i H')
/-- the word: the thing and its length at the beginning -/
abbrev MP := Rho → Sto → Res (D × Nat)
def iAny (m : ME) : MP := fun ρ S => (m ρ S).bind fun d S1 => match seqOf S1 d with
  | some ds => .ok (d, ds.length) S1
  | none => .bad
structure DIA (X : Cx) (W : WX) (tg iter : Expr) (m : MP) : Prop where
  ex : ∃ wi, PI X tg iter wi ∧ ∀ ξ μ σ H ρ S R, RG (fx X ξ) μ H σ ρ → RS (fx X ξ) μ H S → WR (fx X ξ) (fun μ H (J : It) (p : D × Nat) => ItA (fx X ξ) μ H J p) (m ρ S) R (fun cls dd H' => W cls dd σ H') μ H → wi σ H R
section
variable {X : Cx} {W : WX} {tg e a b c : Expr} {es : List Expr} {st : Stmt} {sts ts : List Stmt} {ma mb mc m : ME} {mr : MA} {m1 m2 : MS} {pos p p1 p2 p3 : Pos}
theorem itA_tup {F : Fx} {μ : List Addr} {H : Hp} {a : Addr} {xs : List V} {ds : List D} (f : FzT F μ H a xs) (r : RDs F μ H xs ds) (z : Sized F.K H) : ItA F μ H (Itt F.K a) (.tup ds, ds.length) := by
  obtain ⟨h1, h2⟩ := itt_ok f r z
  refine ⟨h1, fun F' μ' H' S' i e u s es h => ?_⟩
  cases h
  refine ⟨fun x hx => ?_, fun hi => (h2 F' μ' H' S' i e u s (by omega)).2 hi⟩
  have hl := (List.getElem?_eq_some_iff.mp hx).1
  obtain ⟨k1, k2⟩ := (h2 F' μ' H' S' i e u s (by omega)).1 x hx
  refine ⟨k1, fun v H'' y => ?_⟩
  obtain ⟨e1, _⟩ := id y
  obtain ⟨_, _, k3⟩ := k2 v H'' y
  subst e1
  exact ⟨rfl, k3⟩
theorem itA_lst {F : Fx} {μ : List Addr} {H : Hp} {v : V} {d : D} {ds : List D} {S : Sto} {a : Addr} (ev : v = .ref a) (s : RS F μ H S) (r : RD F μ H v d) (e : lstOf S d = some ds) (z : Sized F.K H) : ItA F μ H (Itl F.K a) (d, ds.length) := by
  obtain ⟨a', xs, e1, h1, h2⟩ := RD.lstS s r e
  rw [ev] at e1; cases e1
  refine ⟨by rw [← h2.length]; exact z _ _ (.inl h1), fun F' μ' H' S' i ex u s' es h => ?_⟩
  have r' : RD F' μ' H' v d := r.mv (.ext ex u)
  have eL : lstOf S' d = some es := by
    cases d with
    | tup _ => exact nomatch e
    | lst _ => exact h
    | cell n => exact h
    | _ => exact nomatch e
  obtain ⟨a2, ys, e2, h3, h4⟩ := RD.lstS s' r' eL
  rw [ev] at e2; cases e2
  rw [ex.k] at h3
  refine ⟨fun x hx => ?_, fun hi => ⟨ys, h3, by rw [h4.length, hi]; exact Nat.le_refl _⟩⟩
  obtain ⟨w, h5, h6⟩ := h4.get hx
  refine ⟨⟨ys, w, h3, h5⟩, fun v' H'' y => ?_⟩
  obtain ⟨e3, y⟩ := y
  have q := y ys h3
  rw [h5] at q; cases q
  exact ⟨e3, h6⟩
theorem dia_any (h : DE X W e m) : DIA X W tg e (iAny m) := by
  obtain ⟨te, pe, k⟩ := h
  refine ⟨_, piOr (piSized (pi_tup pe)) (piSized (pi_list pe)), fun ξ μ σ H ρ S R g s h => ?_⟩
  cases e1 : m ρ S with
  | bad => unfold iAny at h; rw [e1] at h; exact h.elim
  | exc c fs S1 =>
    unfold iAny at h; rw [e1] at h
    refine .inl (k ξ μ σ H ρ S _ g s ?_)
    rw [e1]; exact h
  | ok d S1 =>
    unfold iAny at h
    rw [e1] at h
    have h : WR (fx X ξ) (fun μ H (J : It) (p : D × Nat) => ItA (fx X ξ) μ H J p) (match seqOf S1 d with | some ds => .ok (d, ds.length) S1 | none => .bad) R (fun cls dd H' => W cls dd σ H') μ H := h
    by_cases c : ∃ ds, d = .tup ds
    · obtain ⟨ds, rfl⟩ := c
      refine .inl (k ξ μ σ H ρ S _ g s ?_)
      rw [e1]
      intro v μ1 H1 u1 s1 r1
      cases r1 with
      | @tup a xs _ f r => exact ⟨a, rfl, ⟨xs, f.sq⟩, fun z => h _ μ1 H1 u1 s1 (itA_tup f r z)⟩
    · cases q : seqOf S1 d with
      | none => rw [q] at h; exact h.elim
      | some ds =>
        rw [q] at h
        refine .inr (k ξ μ σ H ρ S _ g s ?_)
        rw [e1]
        have eL : lstOf S1 d = some ds := by
          cases d with
          | tup es => exact absurd ⟨es, rfl⟩ c
          | lst _ => exact q
          | cell n => exact q
          | _ => exact nomatch q
        intro v μ1 H1 u1 s1 r1
        obtain ⟨a, xs, rfl, h3, h4⟩ := RD.lstS s1 r1 eL
        exact ⟨a, rfl, ⟨xs, h3⟩, fun z => h _ μ1 H1 u1 s1 (itA_lst rfl s1 r1 eL z)⟩
def forA (d : D) (f : D → Rho → Option Rho) (mb : MS) : Nat → Nat → Rho → Sto → Out
  | 0, _, _, _ => .bad
  | k + 1, i, ρ, S => match seqOf S d with
    | some ds => match ds[i]? with
      | none => if i = ds.length then .nx ρ S else .bad
      | some x => match f x ρ with
        | none => .bad
        | some ρ1 => match mb ρ1 S with
          | .nx ρ2 S2 => forA d f mb k (i + 1) ρ2 S2
          | .ct ρ2 S2 => forA d f mb k (i + 1) ρ2 S2
          | .bk ρ2 S2 => .nx ρ2 S2
          | .rt d S2 => .rt d S2
          | .exc c fs ρ2 S2 => .exc c fs ρ2 S2
          | .bad => .bad
    | none => .bad
def mForA (m : ME) (f : D → Rho → Option Rho) (mb : MS) : MS := fun ρ S => ofRes (iAny m ρ S) ρ fun p S1 => forA p.1 f mb (p.2 + 1) 0 ρ S1
theorem ds_forA {f : D → Rho → Option Rho} {is : List Nat} {mb : MS} (hp : PassesOwn (model X.prog X.w) X.A X.env X.xe) (hc : X.calm = true) (hi : DE X W e m) (hg : DG X tg f is) (hb : DSs X W sts mb)
    (hs : ∀ x, foldedSetIterable e X.env x = pure x := by intro _; rfl) : DS X W (.For tg e sts [] pos) (mForA m f mb) := by
  obtain ⟨wi, pi, ki⟩ := dia_any (tg := tg) hi
  obtain ⟨tg', pg, kg⟩ := hg
  obtain ⟨tb, pb, kb⟩ := hb
  refine ⟨_, ps_for hp hc pi pg pb hs, fun ξ μ σ H ρ S D g s h => ki ξ μ σ H ρ S _ g s (WS'.bind g h fun p S1 J μ1 H1 u1 s1 r1 h1 => ?_)⟩
  obtain ⟨d, n0⟩ := p
  refine ⟨fun i k σ' H' => ∃ μ' ρ' S', Up μ1 H1 μ' H' ∧ RS (fx X ξ) μ' H' S' ∧ RG (fx X ξ) μ' H' σ' ρ' ∧ WS' (fx X ξ) (forA d f mb k i ρ' S') D W μ' H',
    ⟨_, μ1, ρ, S1, .refl, s1, g.up u1, h1⟩, ?_⟩
  rintro i k σ' H' ⟨μ', ρ', S', u', s', g', w⟩
  cases k with
  | zero => exact w.elim
  | succ k =>
    unfold forA at w
    cases q' : seqOf S' d with
    | none => rw [q'] at w; exact w.elim
    | some es =>
      rw [q'] at w
      simp only at w
      obtain ⟨t1, t2⟩ := r1.2 (fx X ξ) μ' H' S' i .refl u' s' es q'
      cases q2 : es[i]? with
      | none =>
        rw [q2] at w
        simp only at w
        by_cases hi : i = es.length
        · rw [if_pos hi] at w
          exact .inl ⟨t2 hi, w σ' μ' H' .refl s' g'⟩
        · rw [if_neg hi] at w; exact w.elim
      | some x =>
        rw [q2] at w
        simp only at w
        obtain ⟨go, yl⟩ := t1 x q2
        cases ef : f x ρ' with
        | none => rw [ef] at w; exact w.elim
        | some ρ1 =>
          rw [ef] at w
          simp only at w
          refine .inr ⟨go, fun σ2 H2 => ∃ μ' ρ' S', Up μ1 H1 μ' H2 ∧ RS (fx X ξ) μ' H2 S' ∧ RG (fx X ξ) μ' H2 σ2 ρ' ∧ WS' (fx X ξ) (forA d f mb k (i + 1) ρ' S') D W μ' H2,
            fun σ2 H2 z => ⟨k, Nat.lt_succ_self k, z⟩, fun v H2 y => ?_⟩
          obtain ⟨y1, y2⟩ := yl v H2 y
          subst y1
          refine kg ξ μ' σ' _ ρ' v x ρ1 _ g' y2 ef fun σ2 g2 _ => ?_
          refine kb ξ μ' σ2 _ ρ1 S' _ g2 s' ?_
          cases eb : mb ρ1 S' with
          | nx ρ2 S2 =>
            rw [eb] at w
            exact fun σ3 μ3 H3 u3 s3 g3 => ⟨μ3, ρ2, S2, u'.trans u3, s3, g3, w.shift u3⟩
          | ct ρ2 S2 =>
            rw [eb] at w
            exact fun σ3 μ3 H3 u3 s3 g3 => ⟨μ3, ρ2, S2, u'.trans u3, s3, g3, w.shift u3⟩
          | bk ρ2 S2 => rw [eb] at w; exact w
          | rt d S2 => rw [eb] at w; exact w
          | exc c fs ρ2 S2 => rw [eb] at w; exact w
          | bad => rw [eb] at w; exact w
/-! ### comprehensions -/
def lcA (d : D) (f : D → Rho → Option Rho) (mt me : ME) (ρ : Rho) : Nat → Nat → Sto → Option (List D × Sto)
  | 0, _, _ => none
  | k + 1, i, S => match seqOf S d with
    | none => none
    | some ds => match ds[i]? with
      | none => if i = ds.length then some ([], S) else none
      | some x => match f x ρ with
        | none => none
        | some ρ1 => match mt ρ1 S with
          | .ok (.bl true) S1 => match me ρ1 S1 with
            | .ok y S2 => match lcA d f mt me ρ k (i + 1) S2 with
              | some (ys, S3) => some (y :: ys, S3)
              | none => none
            | _ => none
          | .ok (.bl false) S1 => lcA d f mt me ρ k (i + 1) S1
          | _ => none
def mLcA (m : ME) (f : D → Rho → Option Rho) (mt me : ME) (vs : List Nat) : MA := fun ρ S => (iAny m ρ S).bind fun p S1 => match lcA p.1 f mt me (wipeD ρ vs) (p.2 + 1) 0 S1 with
  | some (ys, S2) => .ok ys S2
  | none => .bad
theorem lcA_pos {d : D} {f : D → Rho → Option Rho} {mt me : ME} {ρ : Rho} {k i : Nat} {S : Sto} {r : List D × Sto} (h : lcA d f mt me ρ k i S = some r) : 0 < k := by
  cases k with
  | zero => exact nomatch h
  | succ k => exact Nat.succ_pos k
/-- the reading of a comprehension -/
theorem lcA_read {wi : TI} {tg' : TG} {tt : TT} {te : TE} {f : D → Rho → Option Rho} {is vs : List Nat} {ξ μ : List Addr} {σ : L2.St} {H : Hp} {ρ : Rho} {S : Sto} {Q : VK} {Wx : Value → Option Addr → Hp → Prop} {m mt me : ME}
    (ki : ∀ R, WR (fx X ξ) (fun μ H (J : It) (p : D × Nat) => ItA (fx X ξ) μ H J p) (iAny m ρ S) R Wx μ H → wi σ H R)
    (kg : ∀ ξ μ σ H ρ v d ρ' (Q : L2.St → Hp → Prop), RG (fx X ξ) μ H σ ρ → RD (fx X ξ) μ H v d → f d ρ = some ρ' → (∀ σ', RG (fx X ξ) μ H σ' ρ' → (∀ js : List Nat, (∀ i ∈ is, i ∈ js) → wipe σ' js = wipe σ js) → Q σ' H) → tg' v σ H Q)
    (kt : ∀ ξ μ σ H ρ S Q, RG (fx X ξ) μ H σ ρ → RS (fx X ξ) μ H S → WT' (fx X ξ) (mt ρ S) Q (fun cls dd H' => W0 cls dd σ H') μ H → tt σ H Q)
    (ke : ∀ ξ μ σ H ρ S Q, RG (fx X ξ) μ H σ ρ → RS (fx X ξ) μ H S → WE' (fx X ξ) (me ρ S) Q (fun cls dd H' => W0 cls dd σ H') μ H → te σ H Q)
    (hv : ∀ i ∈ is, i ∈ vs) (g : RG (fx X ξ) μ H σ ρ) (s : RS (fx X ξ) μ H S) (h : WL' (fx X ξ) (mLcA m f mt me vs ρ S) Q Wx μ H) : tLc wi tg' tt te vs σ H Q := by
  refine ki _ (WL'.bind h fun p S1 J μ1 H1 u1 s1 r1 h1 => ?_)
  obtain ⟨d, n0⟩ := p
  intro D hD
  obtain ⟨hz, r1⟩ := r1
  have hz : n0 ≤ 16777216 := hz
  have n1 : D ∉ μ1 := s1.out hD
  have x1 : D ∉ ξ := s1.outX hD
  have ext : Ext (fx X ξ) ((fx X ξ).hold D) H1 := ⟨rfl, rfl, fun a ha => (List.mem_cons.mp ha).elim (fun z => .inr (by rw [z]; exact hD)) .inl⟩
  have main : WL' (fx X ξ) (match lcA d f mt me (wipeD ρ vs) (n0 + 1) 0 S1 with
    | some (ys, S2) => Res.ok ys S2
    | none => .bad) Q Wx μ1 H1 := h1
  refine ⟨fun i k H' => ∃ μ' S' acc dacc, Up μ1 H1 μ' H' ∧ RS ((fx X ξ).hold D) μ' H' S' ∧ H' D = some (.lst acc) ∧ RDs ((fx X ξ).hold D) μ' H' acc dacc ∧ acc.length ≤ i ∧ i + k = n0 + 1 ∧
      ∃ ys S2, lcA d f mt me (wipeD ρ vs) k i S' = some (ys, S2) ∧ ∀ μ2 H2 xs, Up μ1 H1 μ2 H2 → RS ((fx X ξ).hold D) μ2 H2 S2 → RDs ((fx X ξ).hold D) μ2 H2 xs (dacc ++ ys) → H2 D = some (.lst xs) → Q (.ref D) H2,
    ⟨_, μ1, S1, [], [], .fresh hD, s1.holds hD, upd_same, .nil, Nat.le_refl _, Nat.zero_add _, ?_⟩, ?_⟩
  · cases q : lcA d f mt me (wipeD ρ vs) (n0 + 1) 0 S1 with
    | none => rw [q] at main; exact main.elim
    | some r =>
      obtain ⟨ys, S2⟩ := r
      rw [q] at main
      exact ⟨ys, S2, rfl, fun μ2 H2 xs u2 s2 r2 e2 => main D xs μ2 H2 u2 hD s2 r2 e2⟩
  rintro i k H' ⟨μ', S', acc, dacc, u', s', hacc, racc, hla, hi, ys, S2, eL, fin⟩
  cases k with
  | zero => exact nomatch eL
  | succ k =>
    unfold lcA at eL
    cases q' : seqOf S' d with
    | none => rw [q'] at eL; exact nomatch eL
    | some es =>
      rw [q'] at eL
      simp only at eL
      obtain ⟨t1, t2⟩ := r1 ((fx X ξ).hold D) μ' H' S' i ext u' s' es q'
      cases q2 : es[i]? with
      | none =>
        rw [q2] at eL
        simp only at eL
        by_cases e : i = es.length
        · rw [if_pos e] at eL
          cases eL
          exact .inl ⟨t2 e, fin μ' H' acc u' s' (by rw [List.append_nil]; exact racc) hacc⟩
        · rw [if_neg e] at eL; exact nomatch eL
      | some x0 =>
        rw [q2] at eL
        simp only at eL
        obtain ⟨go, yl⟩ := t1 x0 q2
        cases ef : f x0 (wipeD ρ vs) with
        | none => rw [ef] at eL; exact nomatch eL
        | some ρ1 =>
          rw [ef] at eL
          simp only at eL
          refine .inr ⟨go, fun H2 => ∃ μ' S' acc dacc, Up μ1 H1 μ' H2 ∧ RS ((fx X ξ).hold D) μ' H2 S' ∧ H2 D = some (.lst acc) ∧ RDs ((fx X ξ).hold D) μ' H2 acc dacc ∧ acc.length ≤ i + 1 ∧ (i + 1) + k = n0 + 1 ∧
              ∃ ys S2, lcA d f mt me (wipeD ρ vs) k (i + 1) S' = some (ys, S2) ∧ ∀ μ2 H2 xs, Up μ1 H1 μ2 H2 → RS ((fx X ξ).hold D) μ2 H2 S2 → RDs ((fx X ξ).hold D) μ2 H2 xs (dacc ++ ys) → H2 D = some (.lst xs) → Q (.ref D) H2,
            fun H2 z => ⟨k, Nat.lt_succ_self k, z⟩, fun x H2 y => ?_⟩
          obtain ⟨eH, r2⟩ := yl x H2 y
          subst eH
          have g2 : RG (fx X (D :: ξ)) μ' H2 (wipe σ vs) (wipeD ρ vs) := (((g.up u1).mv (.ext ext u'))).wipe vs
          refine kg (D :: ξ) μ' (wipe σ vs) H2 (wipeD ρ vs) x _ ρ1 _ g2 r2 ef fun σ3 g3 w3 => ?_
          have nD : D ∉ μ' := (s'.xi D List.mem_cons_self).1
          have ww : wipe (wipe σ vs) vs = wipe σ vs := by
            refine List.ext_getElem? fun k => ?_
            rw [wipe_get, wipe_get, wipe_length]
            by_cases q : k ∈ vs ∧ k < σ.length
            · rw [if_pos q, if_pos q]
            · rw [if_neg q, if_neg q]
          refine ⟨by rw [w3 vs hv, ww], ?_⟩
          refine kt (D :: ξ) μ' σ3 H2 ρ1 S' _ g3 s' ?_
          cases et : mt ρ1 S' with
          | bad => rw [et] at eL; exact nomatch eL
          | exc c fs S3 => rw [et] at eL; exact nomatch eL
          | ok dd S3 =>
            rw [et] at eL
            cases dd with
            | bl b =>
              intro μ3 H3 u3 s3
              have eD3 : H3 D = some (.lst acc) := u3.keep _ _ hacc nD
              cases b with
              | false =>
                exact ⟨μ3, S3, acc, dacc, u'.trans u3, s3, eD3, racc.up u3, Nat.le_succ_of_le hla, by omega, ys, S2, eL, fin⟩
              | true =>
                simp only at eL
                refine ke (D :: ξ) μ3 σ3 H3 ρ1 S3 _ (g3.up u3) s3 ?_
                cases ee : me ρ1 S3 with
                | bad => rw [ee] at eL; exact nomatch eL
                | exc c fs S4 => rw [ee] at eL; exact nomatch eL
                | ok y S4 =>
                  rw [ee] at eL
                  intro v μ4 H4 u4 s4 r4
                  simp only at eL
                  cases er : lcA d f mt me (wipeD ρ vs) k (i + 1) S4 with
                  | none => rw [er] at eL; exact nomatch eL
                  | some q =>
                    obtain ⟨zs, S5⟩ := q
                    have kp := lcA_pos er
                    rw [er] at eL
                    cases eL
                    have nD3 : D ∉ μ3 := (s3.xi D List.mem_cons_self).1
                    have eD4 : H4 D = some (.lst acc) := u4.keep _ _ eD3 nD3
                    refine ⟨acc, eD4, by rw [sizeLine_eq]; omega, μ4, S4, acc ++ [v], dacc ++ [y], ?_, RS.wr (F := fx X ξ) (p := D) s4, upd_same, RDs.mv (Mv.wr (F := fx X ξ) (p := D)) _ (RDs.append (F := (fx X ξ).hold D) ((racc.up u3).up u4) (.cons r4 .nil)), by rw [List.length_append, List.length_singleton]; omega, by omega, zs, S2, er, fun μ5 H5 xs u5 s5 r5 e5 => fin μ5 H5 xs u5 s5 (by rw [List.append_assoc] at r5; exact r5) e5⟩
                    have U := u'.trans (u3.trans u4)
                    exact ⟨U.pre, U.new, fun a o ha na => by
                      rw [upd_ne (ne_of_none ha hD)]
                      exact U.keep a o ha na⟩
            | _ => exact nomatch eL
theorem dl_lcA {elt : Expr} {ifs : List Expr} {scope : Scope} {own : List (Str × Nat)} {f : D → Rho → Option Rho} {is : List Nat} {mt me : ME} (hc : X.calm = true) (hN : X.N.Nodup) (hi : DE X W e m) (ok : BlkOk X.N X.env.scope scope own)
    (hg : ∀ (s : Shared) (H : Hp) (C : Addr) (cl : List (Str × Addr)) (fp : List Addr), DG (X.blk s H scope (compEnvC scope cl C X.env) fp) tg f is)
    (ht : ∀ (s : Shared) (H : Hp) (C : Addr) (cl : List (Str × Addr)) (fp : List Addr), DTs (X.blk s H scope (compEnvC scope cl C X.env) fp) W0 ifs mt)
    (he : ∀ (s : Shared) (H : Hp) (C : Addr) (cl : List (Str × Addr)) (fp : List Addr), DE (X.blk s H scope (compEnvC scope cl C X.env) fp) W0 elt me)
    (hv : ∀ i ∈ is, i ∈ own.map (·.2) := by decide) (hs : ∀ x, foldedSetIterable e X.env x = pure x := by intro _; rfl) : DL X W (.ListComp elt [⟨tg, e, ifs, 0⟩] scope pos) (mLcA m f mt me (own.map (·.2))) := by
  obtain ⟨wi, pi, ki⟩ := dia_any (tg := tg) hi
  obtain ⟨tg', pg, kg⟩ := dg_all (Xf := blkOf X scope) (K := X.K) (mg := X.mg) (fun _ => rfl) (fun _ => rfl) fun i => hg i.1 i.2.1 i.2.2.1 i.2.2.2.1 i.2.2.2.2
  obtain ⟨tt, pt, kt⟩ := dts_all (Xf := blkOf X scope) (K := X.K) (mg := X.mg) (fun _ => rfl) (fun _ => rfl) fun i => ht i.1 i.2.1 i.2.2.1 i.2.2.2.1 i.2.2.2.2
  obtain ⟨te, pe, ke⟩ := de_all (Xf := blkOf X scope) (K := X.K) (mg := X.mg) (fun _ => rfl) (fun _ => rfl) fun i => he i.1 i.2.1 i.2.2.1 i.2.2.2.1 i.2.2.2.2
  refine ⟨_, pe_lc hc hN pi ok (fun s H C cl fp => pg (s, H, C, cl, fp)) (fun s H C cl fp => pt (s, H, C, cl, fp)) (fun s H C cl fp => pe (s, H, C, cl, fp)) hs, fun ξ μ σ H ρ S Q g s h => ?_⟩
  exact lcA_read (fun R => ki ξ μ σ H ρ S R g s) kg kt ke hv g s h
theorem ds_setLcA (i : Nat) {y : Str} {py spos : Pos} {elt : Expr} {ifs : List Expr} {scope : Scope} {own : List (Str × Nat)} {f : D → Rho → Option Rho} {is : List Nat} {mt me : ME} {mw : MA → ME} (hw : ∀ {te : TE} {mr : MA}, RdL X W te mr → RdE X W te (mw mr)) (hc : X.calm = true) (hN : X.N.Nodup) (hi : DE X W e m) (ok : BlkOk X.N X.env.scope scope own)
    (hg : ∀ (s : Shared) (H : Hp) (C : Addr) (cl : List (Str × Addr)) (fp : List Addr), DG (X.blk s H scope (compEnvC scope cl C X.env) fp) tg f is)
    (ht : ∀ (s : Shared) (H : Hp) (C : Addr) (cl : List (Str × Addr)) (fp : List Addr), DTs (X.blk s H scope (compEnvC scope cl C X.env) fp) W0 ifs mt)
    (he : ∀ (s : Shared) (H : Hp) (C : Addr) (cl : List (Str × Addr)) (fp : List Addr), DE (X.blk s H scope (compEnvC scope cl C X.env) fp) W0 elt me)
    (hv : ∀ i ∈ is, i ∈ own.map (·.2) := by decide) (hy : X.N[i]? = some y := by rfl) (hyl : X.env.scope.names.lookup y = some .local := by rfl)
    (hsw : swapsWith (.ListComp elt [⟨tg, e, ifs, 0⟩] scope pos) (some (.Name y py)) spos.line X.env = pure true := by rfl) (hs : ∀ x, foldedSetIterable e X.env x = pure x := by intro _; rfl) :
    DS X W (.Assign [.Name y py] (.ListComp elt [⟨tg, e, ifs, 0⟩] scope pos) spos) (mAsg i (mw (mLcA m f mt me (own.map (·.2))))) := by
  obtain ⟨wi, pi, ki⟩ := dia_any (tg := tg) hi
  obtain ⟨tg', pg, kg⟩ := dg_all (Xf := blkOf X scope) (K := X.K) (mg := X.mg) (fun _ => rfl) (fun _ => rfl) fun i => hg i.1 i.2.1 i.2.2.1 i.2.2.2.1 i.2.2.2.2
  obtain ⟨tt, pt, kt⟩ := dts_all (Xf := blkOf X scope) (K := X.K) (mg := X.mg) (fun _ => rfl) (fun _ => rfl) fun i => ht i.1 i.2.1 i.2.2.1 i.2.2.2.1 i.2.2.2.2
  obtain ⟨te, pe, ke⟩ := de_all (Xf := blkOf X scope) (K := X.K) (mg := X.mg) (fun _ => rfl) (fun _ => rfl) fun i => he i.1 i.2.1 i.2.2.1 i.2.2.2.1 i.2.2.2.2
  have rd : RdL X W (tLc wi tg' tt te (own.map (·.2))) (mLcA m f mt me (own.map (·.2))) := fun ξ μ σ H ρ S Q g s h => lcA_read (fun R => ki ξ μ σ H ρ S R g s) kg kt ke hv g s h
  refine ⟨_, ps_setLc (i := i) hc hN hy hyl hsw pi ok (fun s H C cl fp => pg (s, H, C, cl, fp)) (fun s H C cl fp => pt (s, H, C, cl, fp)) (fun s H C cl fp => pe (s, H, C, cl, fp)) hs, fun ξ μ σ H ρ S D g s h => ?_⟩
  exact hw rd ξ μ σ H ρ S _ g s (WS'.bind g h fun x S1 v μ1 H1 u1 s1 r1 h1 => h1 _ μ1 H1 .refl s1 ((g.up u1).set i r1))
end
/-! ### what they do -/
section
variable {S : Sto} {ρ : Rho} {N B C : Rho → Sto → Prop} {R : D → Sto → Prop} {f : D → Rho → Option Rho} {mt me : ME} {mb : MS} {E : EX} {EO : EXO}
theorem seqOf_fix {d : D} {ds : List D} (h : d = .tup ds ∨ d = .lst ds) (S : Sto) : seqOf S d = some ds := by
  rcases h with rfl | rfl <;> rfl
theorem forA_fix {d : D} {ds : List D} (h : d = .tup ds ∨ d = .lst ds) : ∀ (r pre : List D) (ρ : Rho) (S : Sto), ds = pre ++ r → forA d f mb (r.length + 1) pre.length ρ S = forL f mb r ρ S
  | [], pre, ρ, S, e => by
    unfold forA
    rw [seqOf_fix h]
    have e1 : ds[pre.length]? = none := by rw [e, List.append_nil]; exact List.getElem?_eq_none (Nat.le_refl _)
    simp only [e1]
    rw [if_pos (by rw [e, List.append_nil])] <;> rfl
  | x :: r, pre, ρ, S, e => by
    unfold forA
    rw [seqOf_fix h]
    have e1 : ds[pre.length]? = some x := by rw [e, List.getElem?_append_right (Nat.le_refl _), Nat.sub_self] <;> rfl
    simp only [e1]
    rw [forL]
    cases f x ρ with
    | none => rfl
    | some ρ1 =>
      simp only
      have q : ∀ ρ2 S2, forA d f mb (x :: r).length (pre.length + 1) ρ2 S2 = forL f mb r ρ2 S2 := fun ρ2 S2 => by
        have q := forA_fix h r (pre ++ [x]) ρ2 S2 (by rw [e, List.append_assoc] <;> rfl)
        rw [List.length_append, List.length_singleton] at q
        exact q
      cases mb ρ1 S <;> first | rfl | exact q _ _
def forAS (d : D) (f : D → Rho → Option Rho) (mb : MS) (ρ : Rho) (S : Sto) : Out := match seqOf S d with
  | some ds => forA d f mb (ds.length + 1) 0 ρ S
  | none => .bad
@[simp] theorem does_forA {m : ME} : (mForA m f mb ρ S).DoesE EO N R B C = (m ρ S).DoesE (eAt EO ρ) fun d S1 => (forAS d f mb ρ S1).DoesE EO N R B C := by
  unfold mForA
  rw [does_ofRes]
  unfold iAny
  rw [does_bind]
  congr 1
  funext d S1
  unfold forAS
  cases seqOf S1 d <;> rfl
@[simp] theorem forAS_tup {ds : List D} : forAS (.tup ds) f mb ρ S = forL f mb ds ρ S := forA_fix (.inl rfl) ds [] ρ S rfl
@[simp] theorem forAS_lst {ds : List D} : forAS (.lst ds) f mb ρ S = forL f mb ds ρ S := forA_fix (.inr rfl) ds [] ρ S rfl
/-- a comprehension over a cell that stays: an invariant of the stores; the items kept -/
def LcAQ (d : D) (f : D → Rho → Option Rho) (mt me : ME) (ρ : Rho) (n : Nat) (S : Sto) (Q : List D → Sto → Prop) : Prop := ∃ ys S', lcA d f mt me ρ (n + 1) 0 S = some (ys, S') ∧ Q ys S'
@[simp] theorem does_lcA {m : ME} {vs : List Nat} {Q : List D → Sto → Prop} : (mLcA m f mt me vs ρ S).DoesE E Q = (m ρ S).DoesE E fun d S1 => match seqOf S1 d with
    | some ds => LcAQ d f mt me (wipeD ρ vs) ds.length S1 Q
    | none => False := by
  unfold mLcA iAny
  rw [does_bind, does_bind]
  congr 1
  funext d S1
  cases seqOf S1 d with
  | none => rfl
  | some ds =>
    simp only [does_ok]
    unfold LcAQ
    cases e : lcA d f mt me (wipeD ρ vs) (ds.length + 1) 0 S1 with
    | none => simp [Res.DoesE]
    | some r =>
      obtain ⟨ys, S2⟩ := r
      refine propext ⟨fun q => ⟨ys, S2, rfl, q⟩, ?_⟩
      rintro ⟨ys', S2', e', q⟩
      cases e'
      exact q
theorem lcAQ_inv {d : D} {Q : List D → Sto → Prop} (I : Sto → Prop) {α : Type} {i : α → D} (t : α → Bool) (g : α → D) {as0 : List α} (hI : ∀ S, I S → seqOf S d = some (as0.map i))
    (h : ∀ a, a ∈ as0 → ∀ S1, I S1 → ∃ ρ1, f (i a) ρ = some ρ1 ∧ (mt ρ1 S1).Does (fun d S2 => d = .bl (t a) ∧ I S2) ∧ ∀ S2, I S2 → t a = true → (me ρ1 S2).Does (fun d S3 => d = g a ∧ I S3)) :
    ∀ {as pre : List α} {S : Sto}, as0 = pre ++ as → I S → (∀ S', I S' → Q ((as.filter t).map g) S') → ∃ ys S', lcA d f mt me ρ (as.length + 1) pre.length S = some (ys, S') ∧ Q ys S'
  | [], pre, S, e, hS, q => by
    refine ⟨[], S, ?_, q S hS⟩
    unfold lcA
    rw [hI S hS]
    have e1 : (as0.map i)[pre.length]? = none := by rw [e, List.append_nil]; exact List.getElem?_eq_none (by rw [List.length_map]; exact Nat.le_refl _)
    simp only [e1]
    rw [if_pos (by rw [e, List.append_nil, List.length_map])]
  | a :: as, pre, S, e, hS, q => by
    have ha : a ∈ as0 := by rw [e]; exact List.mem_append.mpr (.inr List.mem_cons_self)
    obtain ⟨ρ1, ef, k1, k2⟩ := h a ha S hS
    have e1 : (as0.map i)[pre.length]? = some (i a) := by rw [List.getElem?_map, e, List.getElem?_append_right (Nat.le_refl _), Nat.sub_self] <;> rfl
    have en : as0 = (pre ++ [a]) ++ as := by rw [e, List.append_assoc] <;> rfl
    have lp : (pre ++ [a]).length = pre.length + 1 := by rw [List.length_append, List.length_singleton]
    unfold lcA
    rw [hI S hS]
    simp only [e1, ef]
    obtain ⟨d1, S1, e2, rfl, hS1⟩ := k1.eq
    rw [e2]
    cases c : t a with
    | false =>
      simp only
      obtain ⟨ys, S', z1, z2⟩ := lcAQ_inv (as := as) (pre := pre ++ [a]) I t g hI h en hS1 (fun S' h' => by
        have := q S' h'
        rw [List.filter_cons, if_neg (by rw [c]; decide)] at this
        exact this)
      rw [lp] at z1
      exact ⟨ys, S', z1, z2⟩
    | true =>
      simp only
      obtain ⟨d2, S2, e3, rfl, hS2⟩ := (k2 S1 hS1 c).eq
      rw [e3]
      simp only
      obtain ⟨ys, S', z1, z2⟩ := lcAQ_inv (as := as) (pre := pre ++ [a]) (Q := fun ys S' => Q (g a :: ys) S') I t g hI h en hS2 (fun S' h' => by
        have := q S' h'
        rw [List.filter_cons, if_pos c] at this
        exact this)
      rw [lp] at z1
      have z1 : lcA d f mt me ρ (a :: as).length (pre.length + 1) S2 = some (ys, S') := z1
      rw [z1]
      exact ⟨_, _, rfl, z2⟩
theorem lcAQ_ext {d : D} {Q : List D → Sto → Prop} (I : Sto → Prop) {α : Type} {i : α → D} (t : α → Bool) (g : α → D) {as : List α} {n : Nat} (hn : n = as.length) (hI : ∀ S, I S → seqOf S d = some (as.map i)) (hS : I S)
    (h : ∀ a, a ∈ as → ∀ S1, I S1 → ∃ ρ1, f (i a) ρ = some ρ1 ∧ (mt ρ1 S1).Does (fun d S2 => d = .bl (t a) ∧ I S2) ∧ ∀ S2, I S2 → t a = true → (me ρ1 S2).Does (fun d S3 => d = g a ∧ I S3))
    (q : ∀ S', I S' → Q ((as.filter t).map g) S') : LcAQ d f mt me ρ n S Q := by
  subst hn
  exact lcAQ_inv (pre := []) I t g hI h rfl hS q
theorem lcA_fix {d : D} {ds : List D} (h : d = .tup ds ∨ d = .lst ds) : ∀ (r pre : List D) (S : Sto), ds = pre ++ r → lcA d f mt me ρ (r.length + 1) pre.length S = lcL f mt me ρ r S
  | [], pre, S, e => by
    unfold lcA
    rw [seqOf_fix h]
    have e1 : ds[pre.length]? = none := by rw [e, List.append_nil]; exact List.getElem?_eq_none (Nat.le_refl _)
    simp only [e1]
    rw [if_pos (by rw [e, List.append_nil])] <;> rfl
  | x :: r, pre, S, e => by
    unfold lcA
    rw [seqOf_fix h]
    have e1 : ds[pre.length]? = some x := by rw [e, List.getElem?_append_right (Nat.le_refl _), Nat.sub_self] <;> rfl
    simp only [e1]
    rw [lcL]
    have q : ∀ S2, lcA d f mt me ρ (x :: r).length (pre.length + 1) S2 = lcL f mt me ρ r S2 := fun S2 => by
      have q := lcA_fix h r (pre ++ [x]) S2 (by rw [e, List.append_assoc] <;> rfl)
      rw [List.length_append, List.length_singleton] at q
      exact q
    cases f x ρ with
    | none => rfl
    | some ρ1 =>
      simp only
      cases mt ρ1 S with
      | ok d1 S1 =>
        cases d1 with
        | bl b =>
          cases b with
          | true =>
            simp only
            cases me ρ1 S1 with
            | ok y S2 =>
              simp only
              rw [q] <;> (cases lcL f mt me ρ r S2 <;> rfl)
            | _ => rfl
          | false => exact q S1
        | _ => rfl
      | _ => rfl
theorem lcAQ_fix {d : D} {ds : List D} {Q : List D → Sto → Prop} {n : Nat} (h : d = .tup ds ∨ d = .lst ds) (hn : n = ds.length) : LcAQ d f mt me ρ n S Q = LcQ f mt me ρ ds S Q := by
  subst hn
  unfold LcAQ LcQ
  have := lcA_fix (f := f) (mt := mt) (me := me) (ρ := ρ) h ds [] S rfl
  rw [show (([] : List D).length) = 0 from rfl] at this
  rw [this]
@[simp] theorem lcAQ_tup {ds : List D} {Q : List D → Sto → Prop} : LcAQ (.tup ds) f mt me ρ ds.length S Q = LcQ f mt me ρ ds S Q := lcAQ_fix (.inl rfl) rfl
@[simp] theorem lcAQ_lst {ds : List D} {Q : List D → Sto → Prop} : LcAQ (.lst ds) f mt me ρ ds.length S Q = LcQ f mt me ρ ds S Q := lcAQ_fix (.inr rfl) rfl
end
@[simp] theorem lcAQ_fixT {ds : List D} {f : D → Rho → Option Rho} {mt me : ME} {ρ : Rho} {n : Nat} {S : Sto} {Q : List D → Sto → Prop} {α : Type} {g : α → D} {as : List α} : LcAQ (.tup (as.map g)) f mt me ρ as.length S Q = LcQ f mt me ρ (as.map g) S Q := lcAQ_fix (.inl rfl) (by rw [List.length_map])
@[simp] theorem lcAQ_fixL {ds : List D} {f : D → Rho → Option Rho} {mt me : ME} {ρ : Rho} {n : Nat} {S : Sto} {Q : List D → Sto → Prop} {α : Type} {g : α → D} {as : List α} : LcAQ (.lst (as.map g)) f mt me ρ as.length S Q = LcQ f mt me ρ (as.map g) S Q := lcAQ_fix (.inr rfl) (by rw [List.length_map])
theorem seqOf_cell {S : Sto} {n : Nat} {ds : List D} (h : S[n]? = some (.lst ds)) : seqOf S (.cell n) = some ds := by
  show (match S[n]? with | some (Cell.lst ds) => some ds | _ => none) = _
  rw [h]
end Dm
-- text Hw2
namespace Dm
open PySem L2
end Dm
-- text DmSimp
namespace Dm
open PySem L2
section
variable {S : Sto} {k : D → Prop} {i j : Int} {ds es : List D} {n : Nat} {a b : Bool} {x y : Str}
@[simp] theorem optQ_none : OptQ none k = False := rfl
@[simp] theorem optQ_ite {c : Prop} [Decidable c] {d : D} : OptQ (if c then some d else none) k = (c ∧ k d) := by
  by_cases h : c
  · rw [if_pos h]; simp [h]
  · rw [if_neg h]; simp [h]
@[simp] theorem optQ_map {α : Type} {o : Option α} {f : α → D} : OptQ (o.map f) k = (match o with
    | some z => k (f z)
    | none => False) := by cases o <;> rfl
@[simp] theorem gI_int {f : Int → Int → D} : gI f S (.int i) (.int j) = some (f i j) := rfl
@[simp] theorem gIC_int {C : Int → Int → Prop} [∀ i j, Decidable (C i j)] {f : Int → Int → D} : gIC C f S (.int i) (.int j) = if C i j then some (f i j) else none := rfl
@[simp] theorem gAdd_int : gAdd S (.int i) (.int j) = some (.int (i + j)) := rfl
@[simp] theorem gAdd_tup : gAdd S (.tup ds) (.tup es) = if ds.length + es.length ≤ 16777216 then some (.tup (ds ++ es)) else none := rfl
@[simp] theorem gNeg_int : gNeg S (.int i) = some (.int (-i)) := rfl
@[simp] theorem gLen_tup : gLen S [.tup ds] = some (.int ds.length) := rfl
@[simp] theorem gLen_lst : gLen S [.lst ds] = some (.int ds.length) := rfl
theorem lstOf_cell (h : S[n]? = some (.lst ds)) : lstOf S (.cell n) = some ds := by simp only [lstOf, h]
theorem gLen_cell (h : S[n]? = some (.lst ds)) : gLen S [.cell n] = some (.int ds.length) := by
  show (lstOf S (.cell n)).map _ = _
  rw [lstOf_cell h] <;> rfl
@[simp] theorem gInt1_int : gInt1 S [.int i] = some (.int i) := rfl
@[simp] theorem gInt1_bl : gInt1 S [.bl b] = some (.int (if b then 1 else 0)) := rfl
@[simp] theorem gII_int {f : Int → Int → Int} : gII f S [.int i, .int j] = some (.int (f i j)) := rfl
@[simp] theorem gTuple_tup : gTuple S [.tup ds] = some (.tup ds) := rfl
@[simp] theorem gTuple_lst : gTuple S [.lst ds] = some (.tup ds) := rfl
theorem gTuple_cell (h : S[n]? = some (.lst ds)) : gTuple S [.cell n] = some (.tup ds) := by
  show (lstOf S (.cell n)).map _ = _
  rw [lstOf_cell h] <;> rfl
@[simp] theorem gIx_tup : gIx S (.tup ds) (.int i) = atI ds i := rfl
@[simp] theorem gIx_lst : gIx S (.lst ds) (.int i) = atI ds i := rfl
theorem gIx_cell (h : S[n]? = some (.lst ds)) : gIx S (.cell n) (.int i) = atI ds i := by
  show (lstOf S (.cell n)).bind _ = _
  rw [lstOf_cell h] <;> rfl
@[simp] theorem gEq_int : gEq S (.int i) (.int j) = some (.bl (i == j)) := rfl
@[simp] theorem gNe_int : gNe S (.int i) (.int j) = some (.bl (!(i == j))) := rfl
@[simp] theorem gEq_str : gEq S (.str x) (.str y) = some (.bl (x == y)) := rfl
@[simp] theorem gNe_str : gNe S (.str x) (.str y) = some (.bl (!(x == y))) := rfl
theorem shaped_bool (b : Bool) : SeqAt.shaped (.bool b) = true := by cases b <;> decide
@[simp] theorem gEq_bl : gEq S (.bl a) (.bl b) = some (.bl (a == b)) := by
  show (if SeqAt.shaped (.bool a) = true ∧ SeqAt.shaped (.bool b) = true then some (PyData.eqv (.bool a) (.bool b)) else none).map D.bl = _
  rw [if_pos ⟨shaped_bool a, shaped_bool b⟩]
  simp [PyData.eqv]
@[simp] theorem gNe_bl : gNe S (.bl a) (.bl b) = some (.bl (!(a == b))) := by
  show (if SeqAt.shaped (.bool a) = true ∧ SeqAt.shaped (.bool b) = true then some (PyData.eqv (.bool a) (.bool b)) else none).map (fun b => D.bl (!b)) = _
  rw [if_pos ⟨shaped_bool a, shaped_bool b⟩]
  simp [PyData.eqv]
@[simp] theorem gIsN_non {neg : Bool} {d : D} : gIsN neg S d .non = some (.bl (if neg then !isNon d else isNon d)) := rfl
@[simp] theorem isNon_non : isNon .non = true := rfl
@[simp] theorem isNon_bl : isNon (.bl b) = false := rfl
@[simp] theorem isNon_int : isNon (.int i) = false := rfl
@[simp] theorem isNon_str : isNon (.str x) = false := rfl
@[simp] theorem isNon_tup : isNon (.tup ds) = false := rfl
@[simp] theorem isNon_lst : isNon (.lst ds) = false := rfl
@[simp] theorem isNon_cell : isNon (.cell n) = false := rfl
@[simp] theorem tyOf_non : tyOf S .non = some .non := rfl
@[simp] theorem tyOf_bl : tyOf S (.bl b) = some .bl := rfl
@[simp] theorem tyOf_int : tyOf S (.int i) = some .int := rfl
@[simp] theorem tyOf_str : tyOf S (.str x) = some .str := rfl
@[simp] theorem tyOf_tup : tyOf S (.tup ds) = some .tup := rfl
@[simp] theorem tyOf_exv {c : Str} {fs : List (Str × Int)} : tyOf S (.exn c fs) = some .exn := rfl
@[simp] theorem tyOf_lst : tyOf S (.lst ds) = some .lst := rfl
@[simp] theorem seqOf_tup : seqOf S (.tup ds) = some ds := rfl
@[simp] theorem seqOf_lst : seqOf S (.lst ds) = some ds := rfl
@[simp] theorem lstOf_lst : lstOf S (.lst ds) = some ds := rfl
@[simp] theorem flatD_int : flatD (.int i) = true := rfl
@[simp] theorem eqF_int : eqF (.int i) (.int j) = (i == j) := rfl
@[simp] theorem tgN_eq {ρ : Rho} {d : D} {i : Nat} : tgN i d ρ = some (ρ.set i (some d)) := rfl
@[simp] theorem tgT_eq {ρ : Rho} {m : Nat} {f : List D → Rho → Option Rho} : tgT m f (.tup ds) ρ = if ds.length = m then f ds ρ else none := rfl
@[simp] theorem tgCons_eq {ρ : Rho} {d : D} {f : D → Rho → Option Rho} {g : List D → Rho → Option Rho} : tgCons f g (d :: ds) ρ = (f d ρ).bind fun ρ1 => g ds ρ1 := rfl
@[simp] theorem tgNil_eq {ρ : Rho} : tgNil [] ρ = some ρ := rfl
@[simp] theorem atI_zero {α : Type} {x : α} {xs : List α} : atI (x :: xs) 0 = some x := by simp [atI, ixN]
@[simp] theorem atI_one {α : Type} {x y : α} {xs : List α} : atI (x :: y :: xs) 1 = some y := by
  have h : (1 : Int) < ((xs.length + 1 + 1 : Nat) : Int) := by omega
  simp only [atI, ixN, List.length_cons, if_pos (show (0 : Int) ≤ 1 by decide), if_pos h] <;> rfl
@[simp] theorem atI_two {α : Type} {x y z : α} {xs : List α} : atI (x :: y :: z :: xs) 2 = some z := by
  have h : (2 : Int) < ((xs.length + 1 + 1 + 1 : Nat) : Int) := by omega
  simp only [atI, ixN, List.length_cons, if_pos (show (0 : Int) ≤ 2 by decide), if_pos h] <;> rfl
theorem atI_of {α : Type} {xs : List α} {i : Int} (h0 : 0 ≤ i) (h : i < xs.length) : atI xs i = xs[i.toNat]? := by
  simp [atI, ixN, h0, h]
theorem cdivw {i j : Int} (h0 : 0 < j) (h : j < 18446744073709551616) : CDivW i j := by
  refine ⟨h0, ?_⟩
  have h1 : j.natAbs < 2 ^ 64 := by omega
  have h2 : j.natAbs.log2 < 64 := (Nat.log2_lt (by omega)).mpr h1
  omega
theorem log2_le {a : Nat} {n : Nat} (h : a < 2 ^ n) : a.log2 ≤ n := by
  by_cases h0 : a = 0
  · subst h0
    rw [Nat.log2_zero]; exact Nat.zero_le _
  · exact Nat.le_of_lt ((Nat.log2_lt h0).mpr h)
theorem cmulw {i j : Int} (n m : Nat) (h : i.natAbs < 2 ^ n) (h' : j.natAbs < 2 ^ m) (hs : n + m < 1000000) : CMulW i j := by
  have h1 := log2_le h
  have h2 := log2_le h'
  show i.natAbs.log2 + j.natAbs.log2 < 1000000
  omega
theorem cmulw64 {i j : Int} (h : -18446744073709551616 < i ∧ i < 18446744073709551616) (h' : -18446744073709551616 < j ∧ j < 18446744073709551616) : CMulW i j := cmulw 64 64 (by omega) (by omega) (by decide)
end
end Dm
-- text DmDict
namespace Dm
open PySem L2 PySem.Spec PyProof.Rows
open PySem.W (Frag)
/-! ### dicts whose keys are ints and texts -/
def keyD : D → Option Key
  | .int i => some (.inl i)
  | .str x => some (.inr x)
  | _ => none
def valD (kvs : List (Key × D)) (k : Key) : Option D := (kvs.find? fun kv => decide (kv.1 = k)).map (·.2)
def putD (kvs : List (Key × D)) (k : Key) (v : D) : List (Key × D) :=
  if (kvs.any fun kv => decide (kv.1 = k)) = true then kvs.map (fun kv => if kv.1 = k then (kv.1, v) else kv) else kvs ++ [(k, v)]
def mergeD (kvs more : List (Key × D)) : List (Key × D) := more.foldl (fun acc kv => putD acc kv.1 kv.2) kvs
def dicOf (S : Sto) : D → Option (List (Key × D))
  | .cell n => match S[n]? with
    | some (.dic kvs) => some kvs
    | _ => none
  | _ => none
section
variable {F : Fx} {μ : List Addr} {H : Hp} {S : Sto}
theorem keyD_of {v : V} {d : D} {k : Key} (r : RD F μ H v d) (e : keyD d = some k) : v = kV k := by
  cases r with
  | int i => cases e; rfl
  | str x => cases e; rfl
  | _ => exact nomatch e
theorem valV_of {k : Key} : ∀ {vk : List (Key × V)} {kvs : List (Key × D)} {d : D}, KvR F μ H vk kvs → valD kvs k = some d → ∃ v, valV vk k = some v ∧ RD F μ H v d
  | _, _, d, .nil, e => by cases e
  | p :: vk, q :: kvs, d, .cons h r, e => by
    obtain ⟨h1, h2⟩ := h
    by_cases c : q.1 = k
    · have e1 : valD (q :: kvs) k = some q.2 := by simp [valD, List.find?_cons, c]
      have e2 : valV (p :: vk) k = some p.2 := valV_pos (by rw [h1]; exact c)
      rw [e1] at e; cases e
      exact ⟨_, e2, h2⟩
    · have e1 : valD (q :: kvs) k = valD kvs k := by simp [valD, List.find?_cons, c]
      have e2 : valV (p :: vk) k = valV vk k := by
        have : ¬ p.1 = k := by rw [h1]; exact c
        simp [valV, List.find?_cons, this]
      rw [e1] at e
      rw [e2]
      exact valV_of r e
theorem valV_none {k : Key} : ∀ {vk : List (Key × V)} {kvs : List (Key × D)}, KvR F μ H vk kvs → (valV vk k).isSome = (valD kvs k).isSome
  | _, _, .nil => rfl
  | p :: vk, q :: kvs, .cons h r => by
    obtain ⟨h1, h2⟩ := h
    by_cases c : q.1 = k
    · have e1 : valD (q :: kvs) k = some q.2 := by simp [valD, List.find?_cons, c]
      have e2 : valV (p :: vk) k = some p.2 := valV_pos (by rw [h1]; exact c)
      rw [e1, e2] <;> rfl
    · have e1 : valD (q :: kvs) k = valD kvs k := by simp [valD, List.find?_cons, c]
      have e2 : valV (p :: vk) k = valV vk k := by
        have : ¬ p.1 = k := by rw [h1]; exact c
        simp [valV, List.find?_cons, this]
      rw [e1, e2]
      exact valV_none r
theorem any_of {k : Key} : ∀ {vk : List (Key × V)} {kvs : List (Key × D)}, KvR F μ H vk kvs → (vk.any fun kv => decide (kv.1 = k)) = (kvs.any fun kv => decide (kv.1 = k))
  | _, _, .nil => rfl
  | p :: vk, q :: kvs, .cons h r => by rw [List.any_cons, List.any_cons, h.1, any_of r]
theorem kvr_map {k : Key} {v : V} {d : D} (hd : RD F μ H v d) : ∀ {vk : List (Key × V)} {kvs : List (Key × D)}, KvR F μ H vk kvs → KvR F μ H (vk.map fun kv => if kv.1 = k then (kv.1, v) else kv) (kvs.map fun kv => if kv.1 = k then (kv.1, d) else kv)
  | _, _, .nil => .nil
  | p :: vk, q :: kvs, .cons h r => by
    refine .cons ?_ (kvr_map hd r)
    obtain ⟨h1, h2⟩ := h
    by_cases c : q.1 = k
    · have c' : p.1 = k := by rw [h1]; exact c
      simp only [if_pos c, if_pos c']
      exact ⟨h1, hd⟩
    · have c' : ¬ p.1 = k := by rw [h1]; exact c
      simp only [if_neg c, if_neg c']
      exact ⟨h1, h2⟩
theorem kvr_snoc {p : Key × V} {q : Key × D} (h : p.1 = q.1 ∧ RD F μ H p.2 q.2) : ∀ {vk : List (Key × V)} {kvs : List (Key × D)}, KvR F μ H vk kvs → KvR F μ H (vk ++ [p]) (kvs ++ [q])
  | _, _, .nil => .cons h .nil
  | _, _, .cons a r => .cons a (kvr_snoc h r)
theorem kvr_put {k : Key} {v : V} {d : D} (hd : RD F μ H v d) {vk : List (Key × V)} {kvs : List (Key × D)} (r : KvR F μ H vk kvs) : KvR F μ H (putK vk k v) (putD kvs k d) := by
  unfold putK putD
  rw [any_of r]
  split
  · exact kvr_map hd r
  · exact kvr_snoc ⟨rfl, hd⟩ r
theorem kvr_len : ∀ {vk : List (Key × V)} {kvs : List (Key × D)}, KvR F μ H vk kvs → vk.length = kvs.length
  | _, _, .nil => rfl
  | _, _, .cons _ r => by rw [List.length_cons, List.length_cons, kvr_len r]
theorem kvr_merge : ∀ {vm : List (Key × V)} {more : List (Key × D)} {vk : List (Key × V)} {kvs : List (Key × D)}, KvR F μ H vm more → KvR F μ H vk kvs → KvR F μ H (mergeK vk vm) (mergeD kvs more)
  | _, _, _, _, .nil, r => r
  | p :: vm, q :: more, vk, kvs, .cons h t, r => by
    obtain ⟨h1, h2⟩ := h
    unfold mergeK mergeD
    rw [List.foldl_cons, List.foldl_cons, h1]
    exact kvr_merge t (kvr_put h2 r)
theorem kvr_mv {F' : Fx} {μ' : List Addr} {H' : Hp} (m : Mv F μ H F' μ' H') {vk : List (Key × V)} {kvs : List (Key × D)} (r : KvR F μ H vk kvs) : KvR F' μ' H' vk kvs := Paired.mapP r fun _ _ z => ⟨z.1, z.2.mv m⟩
theorem dic_at {v : V} {d : D} {kvs : List (Key × D)} (s : RS F μ H S) (r : RD F μ H v d) (e : dicOf S d = some kvs) : ∃ n a vk, d = .cell n ∧ v = .ref a ∧ μ[n]? = some a ∧ S[n]? = some (.dic kvs) ∧ H a = some (.dK vk) ∧ KvR F μ H vk kvs := by
  cases r with
  | @cell a n ea =>
    have e : (match S[n]? with | some (Cell.dic kvs) => some kvs | _ => none) = some kvs := e
    cases q : S[n]? with
    | none => rw [q] at e; exact nomatch e
    | some c =>
      rw [q] at e
      cases c with
      | dic kvs' =>
        cases e
        obtain ⟨vk, h1, h2⟩ := s.at_ n a _ ea q
        exact ⟨n, a, vk, rfl, rfl, ea, q, h1, h2⟩
      | _ => exact nomatch e
  | _ => exact nomatch e
/-- a reserved thing as a cell -/
theorem RS.asCellG {p : Addr} {c : Cell} (r : RS (F.hold p) μ H S) (hx : p ∉ F.ξ) (hc : CellOk F (μ ++ [p]) H p c) : RS F (μ ++ [p]) H (S ++ [c]) := by
  have np := (r.xi p List.mem_cons_self).1
  refine ⟨by rw [List.length_append, List.length_append, r.len] <;> rfl, ?_, fun n a c' e1 e2 => ?_, fun a ha => ⟨fun z => ?_, (r.xi a (List.mem_cons_of_mem _ ha)).2⟩⟩
  · refine List.nodup_append.mpr ⟨r.nd, by simp, fun a ha b hb => ?_⟩
    rw [List.mem_singleton.mp hb]
    rintro rfl
    exact np ha
  · by_cases hn : n < μ.length
    · rw [List.getElem?_append_left hn] at e1
      rw [List.getElem?_append_left (by rw [← r.len]; exact hn)] at e2
      exact (r.at_ n a c' e1 e2).mv .asCell rfl
    · have hn' : n = μ.length := by
        have q := (List.getElem?_eq_some_iff.mp e1).1
        rw [List.length_append, List.length_singleton] at q
        omega
      subst hn'
      rw [List.getElem?_append_right (Nat.le_refl _), Nat.sub_self] at e1
      rw [List.getElem?_append_right (by rw [r.len]; exact Nat.le_refl _), r.len, Nat.sub_self] at e2
      cases e1; cases e2
      exact hc
  · rcases List.mem_append.mp z with z | z
    · exact (r.xi a (List.mem_cons_of_mem _ ha)).1 z
    · rw [List.mem_singleton.mp z] at ha
      exact hx ha
end
section
variable {X : Cx} {W : WX} {tg e a b c o i : Expr} {es : List Expr} {mo mi ma mb mc m : ME} {mr : MA} {pos p p1 p2 p3 : Pos}
/-- d[k] -/
def gDIx : Sto → D → D → Option D := fun S x y => (dicOf S x).bind fun kvs => (keyD y).bind fun k => valD kvs k
theorem d_dix (hu : X.A.units + 64 < cLine) (ho : DE X W o mo) (hi : DE X W i mi) (hs : NoSl i := by exact fun _ _ => rfl) : DE X W (.Subscript o i pos) (mOp gDIx mo mi) := by
  obtain ⟨to, po, ko⟩ := ho
  obtain ⟨ti, pi, ki⟩ := hi
  refine ⟨_, pe_dget (by omega) po pi hs, fun ξ μ σ H ρ S Q g s h => ko ξ μ σ H ρ S _ g s (WR.bind h fun x S1 v μ1 H1 u1 s1 r1 h1 => ?_)⟩
  refine ki ξ μ1 σ H1 ρ S1 _ (g.up u1) s1 (WR.bind h1 fun y S2 w μ2 H2 u2 s2 r2 h2 => ?_)
  unfold gDIx at h2
  cases q1 : dicOf S2 x with
  | none => rw [q1] at h2; exact h2.elim
  | some kvs =>
    rw [q1] at h2
    cases q2 : keyD y with
    | none => rw [q2] at h2; exact h2.elim
    | some k =>
      rw [q2] at h2
      simp only [Option.bind_some] at h2
      cases q3 : valD kvs k with
      | none => rw [q3] at h2; exact h2.elim
      | some d =>
        rw [q3] at h2
        obtain ⟨n, a, vk, rfl, rfl, ea, es, e3, e4⟩ := dic_at s2 (r1.up u2) q1
        obtain ⟨z, e5, e6⟩ := valV_of e4 q3
        have ek := keyD_of r2 q2
        subst ek
        exact ⟨a, z, rfl, by rw [← e5]; exact DGet.k e3, h2 z μ2 H2 .refl s2 e6⟩
/-- {} -/
def mDNew : ME := fun _ S => .ok (.cell S.length) (S ++ [.dic []])
theorem d_dnew : DE X W (.Dict [] [] pos) mDNew := by
  refine ⟨_, pe_dnewK, fun ξ μ σ H ρ S Q g s h => fun p hp => ?_⟩
  have s1 := s.holds (p := p) (o := .dK []) hp
  have s2 := RS.asCellG (c := .dic []) s1 (s.outX hp) ⟨[], upd_same, .nil⟩
  exact h (.ref p) (μ ++ [p]) _ (.alloc hp) s2 (.cell (by rw [List.getElem?_append_right (by rw [s.len]; exact Nat.le_refl _), s.len, Nat.sub_self] <;> rfl))
/-- {k: v, ..} -/
abbrev MPs := Rho → Sto → Res (List (D × D))
def mPNil : MPs := fun _ S => .ok [] S
def mPCons (k v : ME) (r : MPs) : MPs := fun ρ S => (k ρ S).bind fun x S1 => (v ρ S1).bind fun y S2 => (r ρ S2).bind fun xs S3 => .ok ((x, y) :: xs) S3
def PrR (F : Fx) (μ : List Addr) (H : Hp) : List (V × V) → List (D × D) → Prop := Paired fun p q => RD F μ H p.1 q.1 ∧ RD F μ H p.2 q.2
structure DPs (X : Cx) (W : WX) (pos : Pos) (keys : List (Option Expr)) (values : List Expr) (m : MPs) : Prop where
  ex : ∃ trs, PPs X pos keys values trs ∧ ∀ ξ μ σ H ρ S Q, RG (fx X ξ) μ H σ ρ → RS (fx X ξ) μ H S → WR (fx X ξ) (PrR (fx X ξ)) (m ρ S) Q (fun cls dd H' => W cls dd σ H') μ H → tPairs trs σ H Q
theorem dps_nil : DPs X W pos [] [] mPNil := ⟨_, pps_nil, fun ξ μ σ H ρ S Q g s h => h [] μ H .refl s .nil⟩
theorem dps_cons {ks : List (Option Expr)} {vs : List Expr} {mr : MPs} (hk : DE X W a ma) (hv : DE X W b mb) (hr : DPs X W pos ks vs mr) : DPs X W pos (some a :: ks) (b :: vs) (mPCons ma mb mr) := by
  obtain ⟨ta, pa, ka⟩ := hk
  obtain ⟨tb, pb, kb⟩ := hv
  obtain ⟨tr, pr, kr⟩ := hr
  refine ⟨_, pps_cons pa pb pr, fun ξ μ σ H ρ S Q g s h => ka ξ μ σ H ρ S _ g s (WR.bind h fun x S1 v μ1 H1 u1 s1 r1 h1 => ?_)⟩
  refine kb ξ μ1 σ H1 ρ S1 _ (g.up u1) s1 (WR.bind h1 fun y S2 w μ2 H2 u2 s2 r2 h2 => ?_)
  refine kr ξ μ2 σ H2 ρ S2 _ (g.up (u1.trans u2)) s2 (WR.bind h2 fun ds S3 vs μ3 H3 u3 s3 r3 h3 => ?_)
  exact h3 _ μ3 H3 .refl s3 (.cons ⟨r1.up (u2.trans u3), r2.up u3⟩ r3)
def keysD : List (D × D) → Option (List (Key × D))
  | [] => some []
  | (k, v) :: r => (keyD k).bind fun k => (keysD r).map ((k, v) :: ·)
theorem keysD_of {F : Fx} {μ : List Addr} {H : Hp} : ∀ {ps : List (V × V)} {ds : List (D × D)} {kvs : List (Key × D)}, PrR F μ H ps ds → keysD ds = some kvs → ∃ vk : List (Key × V), ps = vk.map (fun kv => (kV kv.1, kv.2)) ∧ KvR F μ H vk kvs ∧ vk.length = kvs.length
  | _, _, kvs, .nil, e => by cases e; exact ⟨[], rfl, .nil, rfl⟩
  | p :: ps, (k, d) :: ds, kvs, .cons h r, e => by
    obtain ⟨h1, h2⟩ := h
    have e : (keyD k).bind (fun k => (keysD ds).map ((k, d) :: ·)) = some kvs := e
    cases q1 : keyD k with
    | none => rw [q1] at e; exact nomatch e
    | some k' =>
      cases q2 : keysD ds with
      | none => rw [q1, q2] at e; exact nomatch e
      | some more =>
        rw [q1, q2] at e; cases e
        obtain ⟨vk, e1, e2, e3⟩ := keysD_of r q2
        refine ⟨(k', p.2) :: vk, ?_, .cons ⟨rfl, h2⟩ e2, by rw [List.length_cons, List.length_cons, e3]⟩
        rw [List.map_cons, e1, ← keyD_of h1 q1]
def mDisp (m : MPs) : ME := fun ρ S => (m ρ S).bind fun ds S1 => match keysD ds with
  | some kvs => if kvs.length ≤ 15 then .ok (.cell S1.length) (S1 ++ [.dic (mergeD [] kvs)]) else .bad
  | none => .bad
theorem d_disp {keys : List (Option Expr)} {values : List Expr} {m : MPs} (h : DPs X W pos keys values m) (hall : keys.all (·.isSome) = true := by rfl) (hl : keys.length = values.length := by rfl) (h0 : keys ≠ [] := by exact List.cons_ne_nil _ _) (h15 : keys.length ≤ 15 := by decide) : DE X W (.Dict keys values pos) (mDisp m) := by
  obtain ⟨trs, ps, kp⟩ := h
  refine ⟨_, pe_disp ps hall hl h0 h15, fun ξ μ σ H ρ S Q g s h => fun p hp => ?_⟩
  have m0 : Mv (fx X ξ) μ H ((fx X ξ).hold p) μ (upd H p (.dK [])) := .holds hp
  have s1 : RS ((fx X ξ).hold p) μ (upd H p (.dK [])) S := s.holds hp
  have n0 : p ∉ μ := s.out hp
  refine kp (p :: ξ) μ σ (upd H p (.dK [])) ρ S _ (g.mv m0) s1 ?_
  unfold mDisp at h
  cases e : m ρ S with
  | bad => rw [e] at h; exact h.elim
  | exc cc fs S1 =>
    rw [e] at h
    have h : ∀ cls dd μ' H', Up μ H μ' H' → RS (fx X ξ) μ' H' S1 → XR (fx X ξ) μ' H' cls dd cc fs → W cls dd σ H' := h
    intro cls dd μ' H' u s' x
    have u' : Up μ H μ' H' := ⟨u.pre, fun a h1 h2 => by
      have := u.new a h1 h2
      by_cases c : a = p
      · rw [c]; exact hp
      · rw [upd_ne c] at this; exact this, fun a o' h1 h2 => u.keep a o' (by rw [upd_ne (ne_of_none h1 hp)]; exact h1) h2⟩
    exact h cls dd μ' H' u' (RS.free (F := fx X ξ) (p := p) s') ⟨x.1, x.2.imp id fun ⟨d, vfs, z1, z2, z3, z5, z4⟩ => ⟨d, vfs, z1, z2, z3, fun q => z5 (List.mem_cons_of_mem _ q), Paired.mapP z4 fun _ _ z => ⟨z.1, RD.free (F := fx X ξ) (p := p) _ z.2⟩⟩⟩
  | ok ds S1 =>
    rw [e] at h
    intro vps μ2 H2 u2 s2 r2
    have e2 : H2 p = some (.dK []) := u2.keep _ _ upd_same n0
    have np2 : p ∉ μ2 := (s2.xi p List.mem_cons_self).1
    have h : WE' (fx X ξ) (match keysD ds with | some kvs => if kvs.length ≤ 15 then .ok (.cell S1.length) (S1 ++ [.dic (mergeD [] kvs)]) else .bad | none => .bad) Q (fun cls dd H' => W cls dd σ H') μ H := h
    cases q : keysD ds with
    | none => rw [q] at h; exact h.elim
    | some kvs =>
      rw [q] at h
      simp only at h
      by_cases c : kvs.length ≤ 15
      · rw [if_pos c] at h
        obtain ⟨vk, e3, e4, e5⟩ := keysD_of r2 q
        refine ⟨e2, vk, e3, by omega, ?_⟩
        have s3 : RS ((fx X ξ).hold p) μ2 (upd H2 p (.dK (mergeK [] vk))) S1 := RS.wr (F := fx X ξ) (p := p) s2
        have e6 : KvR ((fx X ξ).hold p) μ2 (upd H2 p (.dK (mergeK [] vk))) (mergeK [] vk) (mergeD [] kvs) := kvr_mv (Mv.wr (F := fx X ξ) (p := p)) (kvr_merge e4 .nil)
        have s4 := RS.asCellG (F := fx X ξ) (c := .dic (mergeD [] kvs)) s3 (s.outX hp) ⟨_, upd_same, kvr_mv (Mv.asCell (F := fx X ξ) (p := p)) e6⟩
        refine h (.ref p) (μ2 ++ [p]) _ ?_ s4 (.cell (by rw [List.getElem?_append_right (by rw [s2.len]; exact Nat.le_refl _), s2.len, Nat.sub_self] <;> rfl))
        obtain ⟨ν, en⟩ := u2.pre
        refine ⟨⟨ν ++ [p], by rw [en, List.append_assoc]⟩, fun a ha hn => ?_, fun a o ha hn => ?_⟩
        · rcases List.mem_append.mp ha with z | z
          · have := u2.new a z hn
            by_cases c : a = p
            · rw [c]; exact hp
            · rw [upd_ne c] at this; exact this
          · rw [List.mem_singleton.mp z]; exact hp
        · rw [upd_ne (ne_of_none ha hp)]
          exact u2.keep a o (by rw [upd_ne (ne_of_none ha hp)]; exact ha) hn
      · rw [if_neg c] at h; exact h.elim
/-- d[k] = v -/
def mSetDx (m o i : ME) : MS := fun ρ S => ofRes (m ρ S) ρ fun d S1 => ofRes (o ρ S1) ρ fun x S2 => ofRes (i ρ S2) ρ fun y S3 => match x with
  | .cell n => match S3[n]?, keyD y with
    | some (.dic kvs), some k => if kvs.length < 16777216 then .nx ρ (S3.set n (.dic (putD kvs k d))) else .bad
    | _, _ => .bad
  | _ => .bad
theorem Up.cellW {μ : List Addr} {H : Hp} {a : Addr} {o : HO} (h : a ∈ μ) : Up μ H μ (upd H a o) := ⟨⟨[], (List.append_nil _).symm⟩, fun _ h n => absurd h n, fun b u e n => by
  have hb : b ≠ a := fun z => n (by rw [z]; exact h)
  rw [upd_ne hb]; exact e⟩
theorem ds_setDx (hu : X.A.units + 64 < cLine) (he : DE X W e m) (ho : DE X W o mo) (hi : DE X W i mi) (hs : swapsWith e (some (.Subscript o i p)) pos.line X.env = pure false := by rfl) : DS X W (.Assign [.Subscript o i p] e pos) (mSetDx m mo mi) := by
  obtain ⟨te, pe, ke⟩ := he
  obtain ⟨to, po, ko⟩ := ho
  obtain ⟨ti, pi, ki⟩ := hi
  refine ⟨_, ps_dput (by omega) po pi pe hs, fun ξ μ σ H ρ S D g s h => ke ξ μ σ H ρ S _ g s (WS'.bind g h fun d S1 v μ1 H1 u1 s1 r1 h1 => ?_)⟩
  refine ko ξ μ1 σ H1 ρ S1 _ (g.up u1) s1 (WS'.bind (g.up u1) h1 fun x S2 v2 μ2 H2 u2 s2 r2 h2 => ?_)
  refine ki ξ μ2 σ H2 ρ S2 _ (g.up (u1.trans u2)) s2 (WS'.bind (g.up (u1.trans u2)) h2 fun y S3 v3 μ3 H3 u3 s3 r3 h3 => ?_)
  have rd := r1.up (u2.trans u3)
  have rx := r2.up u3
  cases rx with
  | @cell a n ea =>
    simp only at h3
    cases q : S3[n]? with
    | none => rw [q] at h3; exact h3.elim
    | some c =>
      rw [q] at h3
      cases c with
      | dic kvs =>
        cases q2 : keyD y with
        | none => rw [q2] at h3; exact h3.elim
        | some k =>
          rw [q2] at h3
          simp only at h3
          by_cases c : kvs.length < 16777216
          · rw [if_pos c] at h3
            obtain ⟨vk, e1, e2⟩ := s3.at_ n a _ ea q
            have ek := keyD_of r3 q2
            subst ek
            have ha : a ∈ μ3 := List.mem_of_getElem? ea
            refine ⟨a, _, rfl, DPut.k e1 (by rw [kvr_len e2, sizeLine_eq]; exact c), ?_⟩
            have u4 : Up μ3 H3 μ3 (upd H3 a (.dK (putK vk k v))) := .cellW ha
            refine h3 σ μ3 _ u4 (s3.write ea ⟨_, upd_same, (kvr_put rd e2).up u4⟩) (g.up (u1.trans (u2.trans (u3.trans u4))))
          · rw [if_neg c] at h3; exact h3.elim
      | _ => exact h3.elim
  | _ => exact h3.elim
/-- k in d, k not in d -/
def gDIn (neg : Bool) : Sto → D → D → Option D := fun S y x => (dicOf S x).bind fun kvs => (keyD y).map fun k => .bl (if neg then !(valD kvs k).isSome else (valD kvs k).isSome)
end
/-! ### dict comprehensions -/
theorem putD_len {kvs : List (Key × D)} {k : Key} {v : D} : (putD kvs k v).length ≤ kvs.length + 1 := by
  unfold putD
  split
  · rw [List.length_map]; omega
  · rw [List.length_append]; exact Nat.le_refl _
/-! ### what they do -/
section
variable {S : Sto} {ρ : Rho} {Q : D → Sto → Prop} {N B C : Rho → Sto → Prop} {R : D → Sto → Prop} {E : EX} {EO : EXO}
@[simp] theorem keyD_int {i : Int} : keyD (.int i) = some (.inl i) := rfl
@[simp] theorem keyD_str {x : Str} : keyD (.str x) = some (.inr x) := rfl
@[simp] theorem does_dnew : (mDNew ρ S).DoesE E Q = Q (.cell S.length) (S ++ [.dic []]) := rfl
@[simp] theorem does_pnil {Q : List (D × D) → Sto → Prop} : (mPNil ρ S).DoesE E Q = Q [] S := rfl
@[simp] theorem does_pcons {k v : ME} {r : MPs} {Q : List (D × D) → Sto → Prop} : (mPCons k v r ρ S).DoesE E Q = (k ρ S).DoesE E fun x S1 => (v ρ S1).DoesE E fun y S2 => (r ρ S2).DoesE E fun xs S3 => Q ((x, y) :: xs) S3 := by
  unfold mPCons
  rw [does_bind]; congr 1; funext x S1
  rw [does_bind]; congr 1; funext y S2
  rw [does_bind] <;> rfl
@[simp] theorem does_disp {m : MPs} : (mDisp m ρ S).DoesE E Q = (m ρ S).DoesE E fun ds S1 => match keysD ds with
    | some kvs => kvs.length ≤ 15 ∧ Q (.cell S1.length) (S1 ++ [.dic (mergeD [] kvs)])
    | none => False := by
  unfold mDisp
  rw [does_bind]; congr 1; funext ds S1
  cases keysD ds with
  | none => rfl
  | some kvs =>
    simp only
    by_cases h : kvs.length ≤ 15
    · rw [if_pos h]; simp [h]
    · rw [if_neg h]; simp [h, Res.DoesE]
@[simp] theorem does_setDx {m o i : ME} : (mSetDx m o i ρ S).DoesE EO N R B C = (m ρ S).DoesE (eAt EO ρ) fun d S1 => (o ρ S1).DoesE (eAt EO ρ) fun x S2 => (i ρ S2).DoesE (eAt EO ρ) fun y S3 => match x with
    | .cell n => match S3[n]?, keyD y with
      | some (.dic kvs), some k => kvs.length < 16777216 ∧ N ρ (S3.set n (.dic (putD kvs k d)))
      | _, _ => False
    | _ => False := by
  unfold mSetDx
  rw [does_ofRes]; congr 1; funext d S1
  rw [does_ofRes]; congr 1; funext x S2
  rw [does_ofRes]; congr 1; funext y S3
  cases x with
  | cell n =>
    simp only
    cases S3[n]? with
    | none => rfl
    | some c =>
      cases c with
      | dic kvs =>
        cases keyD y with
        | none => rfl
        | some k =>
          simp only
          by_cases h : kvs.length < 16777216
          · rw [if_pos h]; simp [h]
          · rw [if_neg h]; simp [h, Out.DoesE]
      | _ => rfl
  | _ => rfl
theorem dicOf_cell {n : Nat} {kvs : List (Key × D)} (h : S[n]? = some (.dic kvs)) : dicOf S (.cell n) = some kvs := by
  show (match S[n]? with | some (Cell.dic kvs) => some kvs | _ => none) = _
  rw [h]
theorem gDIx_cell {n : Nat} {kvs : List (Key × D)} {y : D} (h : S[n]? = some (.dic kvs)) : gDIx S (.cell n) y = (keyD y).bind fun k => valD kvs k := by
  unfold gDIx
  rw [dicOf_cell h] <;> rfl
end
end Dm
-- text DmKw
namespace Dm
open PySem L2 PySem.Spec PyProof.Rows
open PySem.W (Frag)
/-! ### constant data -/
mutual
inductive KD (K : Frag) : V → D → Prop
  | non : KD K .non .non
  | bl (b : Bool) : KD K (.bl b) (.bl b)
  | int (i : Int) : KD K (.int i) (.int i)
  | str (x : Str) : KD K (.str x) (.str x)
  | tup {a : Addr} {xs : List V} {ds : List D} : KT K a xs → KDs K xs ds → KD K (.ref a) (.tup ds)
inductive KDs (K : Frag) : List V → List D → Prop
  | nil : KDs K [] []
  | cons {v : V} {vs : List V} {d : D} {ds : List D} : KD K v d → KDs K vs ds → KDs K (v :: vs) (d :: ds)
end
mutual
theorem KD.rd {F : Fx} {μ : List Addr} {H : Hp} : ∀ {v : V} (d : D), KD F.K v d → RD F μ H v d
  | _, .non, h => by cases h; exact .non
  | _, .bl b, h => by cases h; exact .bl b
  | _, .int i, h => by cases h; exact .int i
  | _, .str x, h => by cases h; exact .str x
  | _, .tup ds, h => by
    cases h with
    | tup t r => exact .tup (.inr t) (KDs.rd ds r)
  | _, .lst _, h => by cases h
  | _, .cell _, h => by cases h
  | _, .glo _, h => by cases h
  | _, .exn _ _, h => by cases h
theorem KDs.rd {F : Fx} {μ : List Addr} {H : Hp} : ∀ {vs : List V} (ds : List D), KDs F.K vs ds → RDs F μ H vs ds
  | _, [], h => by cases h; exact .nil
  | _, d :: ds, h => by
    cases h with
    | cons a b => exact .cons (KD.rd d a) (KDs.rd ds b)
end
/-- the name stands for this -/
def GlK (K : Frag) (mg : Str → Option Value) (x : Str) (d : D) : Prop := ∃ u v, mg x = some u ∧ RelV v u ∧ KD K v d
theorem GlK.glD {X : Cx} {K : Frag} {mg : Str → Option Value} {x : Str} {d : D} (h : GlK K mg x d) (hK : X.K = K := by rfl) (hg : X.mg = mg := by rfl) : GlD X x d := by
  obtain ⟨u, v, h1, h2, h3⟩ := h
  exact ⟨u, v, by rw [hg]; exact h1, h2, fun ξ μ H => KD.rd (F := fx X ξ) d (by show KD X.K v d; rw [hK]; exact h3)⟩
theorem kt_mk {K : Frag} {a : Addr} {its : Array Value} {n : Nat} {sl : Array (Option Value)} {xs : List V} (h : K.lookup a = some ⟨.type "tuple", none, .seq its n, sl⟩) (hz : its.size ≤ 1000) (r : Vals xs its.toList) : KT K a xs :=
  ⟨_, its, n, h, rfl, rfl, rfl, by rw [sizeLine_eq]; omega, r⟩
/-! ### defs with defaults -/
structure FnDD (P : Program) (w : World) (K : Frag) (mg : Str → Option Value) (base : Heap) (k : Nat) (x : Str) (st : Stmt) (dvs : List V) (kws : List (Str × V)) (ps : List Str) (m : List D → Sto → Res D) : Prop where
  ex : ∃ f fd, mg x = some (.ref f) ∧ FunD K x x (defArgs st) (defBody st) (defScope st) dvs kws f fd ∧ FnOk P w K mg base (L2.CX P w) k f fd ps (spD w K mg m)
section
variable {P : Program} {w : World} {K : Frag} {mg : Str → Option Value} {base : Heap}
theorem fndd_mk {x : Str} {st : Stmt} {f : Addr} {fd : FuncData} {N ps : List Str} {dvs : List V} {kws : List (Str × V)} {k np nN : Nat} {mb : MS} (hm : mg x = some (.ref f)) (F : FunD K x x (defArgs st) (defBody st) (defScope st) dvs kws f fd) (S : FnScope N ps (defScope st)) (hnp : ps.length = np) (hnN : N.length = nN)
    (hb : ∀ (cdv : Value) (A : Around) (outer : List Env) (s : Shared) (H : Hp) (E : XK), Room k (A.deeper (envOfC x (defScope st) s.heap.objs.size f cdv)) →
      DSs (cxOf (L2.CX P w) P w K mg base N x (defScope st) f cdv A outer s H E) (fun cls d _ H => E cls d H) (defBody st) mb) : FnDD P w K mg base (k + 1) x st dvs kws ps (mDef np nN mb) := by
  subst hnp hnN
  refine ⟨f, fd, hm, F, F.ok S (fun vs H Q E h => ?_) (fun cdv A outer s H vs Q E hr h => ?_)⟩
  · obtain ⟨ξ, μ, ds, S0, s0, r0, w0⟩ := h
    unfold mDef at w0
    by_cases c : ds.length = ps.length
    · rw [r0.length]; exact c
    · rw [if_neg c] at w0; exact w0.elim
  · obtain ⟨ξ, μ, ds, S0, s0, r0, w0⟩ := h
    obtain ⟨ts, pt, kt⟩ := hb cdv A outer s H E hr
    refine ⟨ts, pt, ?_⟩
    unfold mDef at w0
    by_cases c : ds.length = ps.length
    · rw [if_pos c] at w0
      refine kt ξ μ _ H _ S0 _ (rg_start r0) s0 ?_
      show WS' ⟨K, mg, ξ, w⟩ _ _ _ μ H
      rw [c]
      cases e : mb (ds.map some ++ List.replicate (N.length - ps.length) none) S0 with
      | nx ρ S' => rw [e] at w0; exact fun σ μ' H' u s g => w0 _ μ' H' u s .non
      | rt d S' => rw [e] at w0; exact w0
      | exc c fs ρ S' => rw [e] at w0; exact fun cls dd σ μ' H' u s g x => w0 cls dd μ' H' u s x
      | bk ρ S' => rw [e] at w0; exact w0.elim
      | ct ρ S' => rw [e] at w0; exact w0.elim
      | bad => rw [e] at w0; exact w0.elim
    · rw [if_neg c] at w0; exact w0.elim
end
/-- how the arguments come to the parameters: the written ones, the keywords', the defaults dd -/
def KwBD (K : Frag) (x : Str) (st : Stmt) (dvs : List V) (kws : List (Str × V)) (ps : List Str) (n : Nat) (ks : List Str) (perm : List Nat) (dd : List V) : Prop :=
  ∀ f fd, FunD K x x (defArgs st) (defBody st) (defScope st) dvs kws f fd → ∃ dv : List Value, Vals dd dv ∧ ∀ (s : Shared) (us ws : List Value), K.In s.heap → us.length = n → ws.length = ks.length → BindsTo s fd ⟨us, ks.zip ws⟩ (ps.zip (perm.filterMap ((us ++ ws ++ dv)[·]?)))
/-- positional defaults alone -/
theorem kwb_pos {K : Frag} {x : Str} {st : Stmt} {dvs : List V} {ps : List Str} {n : Nat} {ks : List Str} {perm : List Nat} (hd : dvs ≠ [])
    (h : ∀ (T : Addr) (kV doc pm : Value) (an : Option Addr) (cdv ct : Value) (us ws its : List Value), us.length = n → ws.length = ks.length → its.length = dvs.length →
      ∃ k, bindArgs (PySem.W.fnOf x x (defArgs st) (defBody st) (defScope st) (.ref T) kV doc pm an cdv ct) ⟨us, ks.zip ws⟩ = seqItems? (.ref T) >>= k ∧ k (some its.toArray) = pure (ps.zip (perm.filterMap ((us ++ ws ++ its)[·]?)))) :
    KwBD K x st dvs [] ps n ks perm dvs := by
  intro f fd F
  obtain ⟨oc, od, dV, kV, doc, pm, an, cdv, ct, osl, rfl, lk, hcd, hD, hK⟩ := F.ex
  rcases hD with ⟨e, _⟩ | ⟨_, T, o, its, m, rfl, lT, oT, rT⟩
  · exact absurd e hd
  · refine ⟨its, rT, fun s us ws X l1 l2 => ?_⟩
    obtain ⟨k, e1, e2⟩ := h T kV doc pm an cdv ct us ws its l1 l2 rT.length.symm
    refine BindsTo.of_looks fun M => ?_
    rw [e1]
    exact looks_items X lT oT (.of_pure e2)
def mCallD (f : List D → Sto → Res D) (n q : Nat) (perm : List Nat) (dd : List D) (a k : MA) : ME := fun ρ S => (a ρ S).bind fun xs S1 => (k ρ S1).bind fun zs S2 => if xs.length = n ∧ zs.length = q then f (perm.filterMap ((xs ++ zs ++ dd)[·]?)) S2 else .bad
def tCallPD (n q : Nat) (sp : Sp) (perm : List Nat) (dd : List V) (E : L2.St → XK) (t tk : TA) : TE := fun σ H Q => t σ H fun vs H1 => tk σ H1 fun zs H2 => vs.length = n ∧ zs.length = q ∧ sp (perm.filterMap ((vs ++ zs ++ dd)[·]?)) H2 Q (E σ)
section
variable {X : Cx} {W : WX} {tg e a b c : Expr} {es : List Expr} {kw : Keyword} {kws : List Keyword} {st : Stmt} {ma mb mc m : ME} {mr mk : MA} {pos p p1 p2 p3 kpos : Pos} {nm : Option Str}
theorem run_fnPD {CX : CXT} {k n : Nat} {f : Addr} {fd : FuncData} {ps ks : List Str} {sp : Sp} {E : L2.St → XK} {perm : List Nat} {pins : List (Addr × Obj)} {σ : L2.St} {H : Hp} {s : Shared} {Q : VK} {us ws dv : List Value} {vs zs dd : List V} (F : FnOk X.prog X.w X.K X.mg X.base CX k f fd ps sp) (hr : Room k X.A)
    (hdv : Vals dd dv) (hb : ∀ (s : Shared) (us ws : List Value), X.K.In s.heap → us.length = n → ws.length = ks.length → BindsTo s fd ⟨us, ks.zip ws⟩ (ps.zip (perm.filterMap ((us ++ ws ++ dv)[·]?)))) (hx : ∀ σ, PassesAt CX X σ (E σ)) (I : Inv X pins σ H s) (r : Vals vs us) (rz : Vals zs ws) (l1 : vs.length = n) (l2 : zs.length = ks.length) (h : sp (perm.filterMap ((vs ++ zs ++ dd)[·]?)) H Q (E σ)) :
    wpAny (model X.prog X.w) X.A (call (.ref f) us (ks.zip ws)) (EP X pins σ Q) X.xe s := by
  have r2 := vals_perm perm ((r.append rz).append hdv)
  refine wpAny_call (codeAny_mono (F.run X.A X.stack s H ⟨us, ks.zip ws⟩ _ _ Q (E σ) hr I.env0 (hb s us ws I.kIn (r.length.symm.trans l1) (rz.length.symm.trans l2)) r2 h) fun r s' hq => ?_)
  cases r with
  | error e => exact hx σ pins H s e s' I hq
  | ok fl =>
    cases fl with
    | ret u => exact I.after hq
    | next => exact False.elim hq
    | brk => exact False.elim hq
    | cont => exact False.elim hq
theorem rds_rd {K : Frag} {F : Fx} {μ : List Addr} {H : Hp} {vs : List V} {ds : List D} (hK : F.K = K) (h : KDs K vs ds) : RDs F μ H vs ds := KDs.rd ds (by rw [hK]; exact h)
/-- f(e, ..), the defaults behind -/
theorem d_callD1 {j k n : Nat} {x : Str} {ps : List Str} {dvs : List V} {kwd : List (Str × V)} {f : List D → Sto → Res D} (F : FnDD X.prog X.w X.K X.mg X.base j x st dvs kwd ps f) (perm : List Nat) {dd : List V} {de : List D} (hb : KwBD X.K x st dvs kwd ps n [] perm dd) (hde : KDs X.K dd de)
    (hr : Room k X.A) (tk : Takes X W) (ha : DA X W (e :: es) mr) (hj : j ≤ k := by decide) (hg : Gl X x := by rfl)
    (hdb : (x == ("__debug__" : Str)) = false := by decide) (he : starEach (e :: es) X.env = (false, eval e X.env) :: starEach es X.env := by rfl) (hpl : (backTo pos (starEach es X.env)).any (·.1) = false := by rfl) : DE X W (.Call (.Name x p) (e :: es) [] pos) (mCallD f n 0 perm de mr mNil) := by
  obtain ⟨fa, fd, hm, Fu, G⟩ := F
  obtain ⟨ta, pa, ka⟩ := ha
  obtain ⟨dv, hdv, hB⟩ := hb fa fd Fu
  refine ⟨tCallPD n 0 (spD X.w X.K X.mg f) perm dd (WE W) ta tNil, ⟨fun pins s σ H Q I h => ?_⟩, fun ξ μ σ H ρ S Q g s h => ka ξ μ σ H ρ S _ g s (WR.bind h fun xs S1 vs μ1 H1 u1 s1 r1 h1 => ?_)⟩
  · refine wpAny_Call_Name_kw (ld_glob I hg hm ?_ hdb)
    refine PySem.W.callWith_K (h₀ := X.base) I.ok.mod.kin Fu.kp (thn (pa.run pos pins s σ H _ I h) fun us s1 ⟨vs, H1, I1, r, l1, l2, q⟩ => ⟨I1.kIn, ?_⟩) he hpl
    exact run_fnPD (ks := []) (ws := []) (zs := []) G (hr.mono hj) hdv hB (fun σ => passAt tk σ) I1 r .nil l1 rfl q
  · have h1 : WE' (fx X ξ) (if xs.length = n ∧ ([] : List D).length = 0 then f (perm.filterMap ((xs ++ [] ++ de)[·]?)) S1 else .bad) Q (fun cls dd H' => W cls dd σ H') μ1 H1 := h1
    by_cases c : xs.length = n ∧ ([] : List D).length = 0
    · rw [if_pos c] at h1
      exact ⟨by rw [r1.length]; exact c.1, rfl, ξ, μ1, _, S1, s1, rds_perm perm ((r1.append .nil).append (rds_rd (F := fx X ξ) rfl hde)), h1⟩
    · rw [if_neg c] at h1; exact h1.elim
end
section
variable {S : Sto} {ρ : Rho} {Q : D → Sto → Prop} {E : EX} {EO : EXO}
@[simp] theorem does_callD {f : List D → Sto → Res D} {n q : Nat} {p : List Nat} {dd : List D} {a k : MA} : (mCallD f n q p dd a k ρ S).DoesE E Q = (a ρ S).DoesE E fun xs S1 => (k ρ S1).DoesE E fun zs S2 => (xs.length = n ∧ zs.length = q) ∧ (f (p.filterMap ((xs ++ zs ++ dd)[·]?)) S2).DoesE E Q := by
  unfold mCallD
  rw [does_bind]
  congr 1
  funext xs S1
  rw [does_bind]
  congr 1
  funext zs S2
  by_cases h : xs.length = n ∧ zs.length = q
  · rw [if_pos h]; simp [h]
  · rw [if_neg h]; simp [h, Res.DoesE]
end
end Dm
-- text DmSetD
namespace L2
open PySem PySem.Spec PyProof.Rows
end L2
namespace Dm
open PySem L2 PySem.Spec PyProof.Rows
end Dm
-- text Hw3
namespace Dm
open PySem L2
noncomputable section
def m_found_by : List D → Sto → Res D := mDef 5 7 (mSeq (mAsg 5 (mFz (mLcA (mBack (mVar 0)) (tgN 6) (mOp gEq (mOp gDIx (mVar 1) (mOp gSub (mVar 2) (mVar 6))) (mVar 6)) (mOp gSub (mVar 2) (mVar 6)) [6]))) (mSeq (mIfS (mOp gEq (mCallB gLen (mCons (mVar 5) mNil)) (mK (.int 1))) (mRet (mOp gIx (mVar 5) (mK (.int 0)))) mNop) (mSeq (mIfS (mOp gEq (mCallB gLen (mCons (mVar 5) mNil)) (mK (.int 2))) (mSeq (mIfS (mOp gEq (mVar 3) (mK (.str "refuse"))) (mRet (mK .non)) mNop) (mRet (mIf (mOp gEq (mVar 3) (mK (.str "early"))) (mOp gIx (mVar 5) (mK (.int 0))) (mOp gIx (mVar 5) (mK (.int 1)))))) mNop) (mSeq (mIfS (mOp gEq (mVar 4) (mK (.str "refuse"))) (mRet (mK .non)) mNop) (mSeq (mIfS (mOp gEq (mVar 4) (mK (.str "ahead"))) (mRet (mOp gSub (mVar 2) (mOp gDIx (mVar 1) (mOp gSub (mVar 2) (mOp gIx (mVar 0) (mK (.int (-1)))))))) mNop) (mRet (mOp gSub (mVar 2) (mOp gDIx (mVar 1) (mOp gSub (mVar 2) (mOp gIx (mVar 0) (mK (.int 0))))))))))))
end
end Dm
-- text DmMisc
namespace Dm
open PySem L2
open PySem.W (Frag)
section
variable {X : Cx} {W : WX} {tg e a b c : Expr} {es : List Expr} {ma mb mc m : ME} {mr : MA} {pos p p1 p2 p3 : Pos}
/-! ### x, y = a, b -/
def mPar (i j : Nat) (a : MA) : MS := fun ρ S => ofRes (a ρ S) ρ fun ds S1 => match ds with
  | [d, d'] => .nx ((ρ.set i (some d)).set j (some d')) S1
  | _ => .bad
theorem ds_par (i j : Nat) {x y : Str} {px py pt pt2 : Pos} {kt k2 : Nat} (hc : X.calm = true) (hN : X.N.Nodup) (ha : DA X W [a, b] mr) (hij : i ≠ j := by decide) (hi : X.N[i]? = some x := by rfl) (hj : X.N[j]? = some y := by rfl)
    (hx : X.env.scope.names.lookup x = some .local := by rfl) (hy : X.env.scope.names.lookup y = some .local := by rfl)
    (hw : swappedStores [.Tuple [.Name x px, .Name y py] kt pt] (.Tuple [a, b] k2 pt2) X.env = pure (some [x, y]) := by rfl)
    (hs : swapsWithSole [.Tuple [.Name x px, .Name y py] kt pt] (.Tuple [a, b] k2 pt2) pos.line X.env = pure false := by rfl) :
    DS X W (.Assign [.Tuple [.Name x px, .Name y py] kt pt] (.Tuple [a, b] k2 pt2) pos) (mPar i j mr) := by
  obtain ⟨ta, pa, ka⟩ := ha
  refine ⟨_, ps_par hc hN hi hj hij hx hy pa hw hs, fun ξ μ σ H ρ S D g s h => ka ξ μ σ H ρ S _ g s (WS'.bind g h fun ds S1 vs μ1 H1 u1 s1 r1 h1 => ?_)⟩
  cases r1 with
  | nil => exact h1.elim
  | @cons v vs d ds r rr =>
    cases rr with
    | nil => exact h1.elim
    | @cons v2 vs2 d2 ds2 r2 rr2 =>
      cases rr2 with
      | cons _ _ => exact h1.elim
      | nil => exact ⟨v, v2, rfl, h1 _ μ1 H1 .refl s1 (((g.up u1).set i r).set j r2)⟩
/-! ### x, y = a tuple, a list that stands still -/
def tgU (n : Nat) (f : List D → Rho → Option Rho) : D → Rho → Option Rho := fun d ρ => match d with
  | .tup ds => if ds.length = n then f ds ρ else none
  | .lst ds => if ds.length = n then f ds ρ else none
  | _ => none
theorem pgOr {X : Cx} {tg : Expr} {g g' : TG} (h : PG X tg g) (h' : PG X tg g') : PG X tg (fun v σ H Q => g v σ H Q ∨ g' v σ H Q) := ⟨fun pins s σ H v u Q I r hw => hw.elim (h.run pins s σ H v u Q I r) (h'.run pins s σ H v u Q I r)⟩
theorem dg_any {k n : Nat} {f : List D → Rho → Option Rho} {is : List Nat} {tp : Pos} (hc : X.calm = true) (h : DGs X es f is) (hn : (assignEach es X.env).length = n := by rfl) (hst : (assignEach es X.env).findIdx? (·.1) = none := by rfl) : DG X (.Tuple es k tp) (tgU n f) is := by
  obtain ⟨t, p, k⟩ := h
  refine ⟨_, pgOr (pg_tup hc p hn hst) (pg_lst hc p hn hst), fun ξ μ σ H ρ v d ρ' Q g r e kk => ?_⟩
  cases r with
  | @tup a xs ds fz r =>
    unfold tgU at e
    by_cases c : ds.length = n
    · simp only [if_pos c] at e
      exact .inl ⟨a, xs, rfl, fz.sq, by rw [r.length]; exact c, k ξ μ σ H ρ xs ds ρ' Q g r e kk⟩
    · simp only [if_neg c] at e
      exact nomatch e
  | @lst a xs ds fz r =>
    unfold tgU at e
    by_cases c : ds.length = n
    · simp only [if_pos c] at e
      exact .inr ⟨a, xs, rfl, fz.sq, by rw [r.length]; exact c, k ξ μ σ H ρ xs ds ρ' Q g r e kk⟩
    · simp only [if_neg c] at e
      exact nomatch e
  | _ => exact nomatch e
/-! ### sum, max, min of a list of ints -/
def gSum : Sto → List D → Option D := fun S ds => match ds with
  | [d] => (lstOf S d).bind fun es => (intsOf es).map fun ns => .int ns.sum
  | _ => none
theorem c_sum : CallD X (rSum X.K) gSum := by
  intro ξ μ H S ds vs z Q s r e k
  unfold gSum at e
  cases r with
  | nil => exact nomatch e
  | @cons v vs d ds r rr =>
    cases rr with
    | cons _ _ => exact nomatch e
    | nil =>
      simp only at e
      cases q : lstOf S d with
      | none => rw [q] at e; exact nomatch e
      | some es =>
        rw [q] at e
        have e : (intsOf es).map (fun ns => D.int ns.sum) = some z := e
        obtain ⟨a, xs, rfl, h1, h2⟩ := RD.lstS s r q
        cases c : intsOf es with
        | none => rw [c] at e; exact nomatch e
        | some ns =>
          rw [c] at e; cases e
          have ee := intsOf_eq c
          subst ee
          have ev := rdsInts h2
          subst ev
          exact ⟨a, ns, rfl, h1, k _ μ H .refl s (.int _)⟩
def mxI : List Int → Int
  | [] => 0
  | [x] => x
  | x :: r => if mxI r > x then mxI r else x
theorem mxI_mem : ∀ {l : List Int}, 0 < l.length → mxI l ∈ l ∧ ∀ y, y ∈ l → y ≤ mxI l
  | [], h => absurd h (by simp)
  | [x], _ => ⟨by simp [mxI], fun y hy => by simp at hy; simp [mxI, hy]⟩
  | x :: y :: r, _ => by
    obtain ⟨h1, h2⟩ := mxI_mem (l := y :: r) (by simp)
    rw [mxI]
    · by_cases c : mxI (y :: r) > x
      · rw [if_pos c]
        refine ⟨List.mem_cons_of_mem _ h1, fun z hz => ?_⟩
        rcases List.mem_cons.mp hz with rfl | hz
        · omega
        · exact h2 z hz
      · rw [if_neg c]
        refine ⟨List.mem_cons_self, fun z hz => ?_⟩
        rcases List.mem_cons.mp hz with rfl | hz
        · omega
        · have := h2 z hz; omega
    · simp
def gMax1 : Sto → List D → Option D := fun S ds => match ds with
  | [d] => (lstOf S d).bind fun es => (intsOf es).bind fun ns => if 0 < ns.length then some (.int (mxI ns)) else none
  | _ => none
theorem c_max1 : CallD X (rMax X.K) gMax1 := by
  intro ξ μ H S ds vs z Q s r e k
  unfold gMax1 at e
  cases r with
  | nil => exact nomatch e
  | @cons v vs d ds r rr =>
    cases rr with
    | cons _ _ => exact nomatch e
    | nil =>
      simp only at e
      cases q : lstOf S d with
      | none => rw [q] at e; exact nomatch e
      | some es =>
        rw [q] at e
        have e : (intsOf es).bind (fun ns => if 0 < ns.length then some (D.int (mxI ns)) else none) = some z := e
        obtain ⟨a, xs, rfl, h1, h2⟩ := RD.lstS s r q
        cases c : intsOf es with
        | none => rw [c] at e; exact nomatch e
        | some ns =>
          rw [c] at e
          simp only [Option.bind_some] at e
          by_cases hl : 0 < ns.length
          · rw [if_pos hl] at e; cases e
            have ee := intsOf_eq c
            subst ee
            have ev := rdsInts h2
            subst ev
            refine ⟨a, ns, rfl, h1, hl, fun m hm hy => ?_⟩
            obtain ⟨m1, m2⟩ := mxI_mem hl
            have : m = mxI ns := Int.le_antisymm (m2 m hm) (hy _ m1)
            rw [this]
            exact k _ μ H .refl s (.int _)
          · rw [if_neg hl] at e; exact nomatch e
/-! ### a kept list some times -/
def mRepC (a b : ME) : MA := fun ρ S => (a ρ S).bind fun x S1 => (b ρ S1).bind fun y S2 => match x, y with
  | .cell n, .int k => match S2[n]? with
    | some (.lst xs) => if k < 1000000 ∧ xs.length * k.toNat ≤ 16777216 ∧ -1000000 < k then .ok (List.replicate k.toNat xs).flatten S2 else .bad
    | _ => .bad
  | _, _ => .bad
/-! ### list(range(a, b)) -/
noncomputable def mLstRg (a : MA) : MA := fun ρ S => (a ρ S).bind fun ds S1 => match ds with
  | [.int i, .int j] => @ite _ (-1000000000000000000 ≤ i ∧ i ≤ 1000000000000000000 ∧ -1000000000000000000 ≤ j ∧ j ≤ 1000000000000000000 ∧ j - i ≤ 16777216) (Classical.propDecidable _) (.ok (rngD i (j - i).toNat) S1) .bad
  | _ => .bad
end
/-! ### what they do -/
section
variable {S : Sto} {ρ : Rho} {N B C : Rho → Sto → Prop} {R : D → Sto → Prop} {E : EX} {EO : EXO}
@[simp] theorem does_par {i j : Nat} {a : MA} : (mPar i j a ρ S).DoesE EO N R B C = (a ρ S).DoesE (eAt EO ρ) fun ds S1 => match ds with
    | [d, d'] => N ((ρ.set i (some d)).set j (some d')) S1
    | _ => False := by
  unfold mPar
  rw [does_ofRes]; congr 1; funext ds S1
  match ds with
  | [] => rfl
  | [_] => rfl
  | [_, _] => rfl
  | _ :: _ :: _ :: _ => rfl
@[simp] theorem tgU_tup {m : Nat} {f : List D → Rho → Option Rho} {ds : List D} : tgU m f (.tup ds) ρ = if ds.length = m then f ds ρ else none := rfl
@[simp] theorem tgU_lst {m : Nat} {f : List D → Rho → Option Rho} {ds : List D} : tgU m f (.lst ds) ρ = if ds.length = m then f ds ρ else none := rfl
@[simp] theorem does_repC {a b : ME} {Q : List D → Sto → Prop} : (mRepC a b ρ S).DoesE E Q = (a ρ S).DoesE E fun x S1 => (b ρ S1).DoesE E fun y S2 => match x, y with
    | .cell n, .int k => ∃ xs, S2[n]? = some (.lst xs) ∧ (k < 1000000 ∧ xs.length * k.toNat ≤ 16777216 ∧ -1000000 < k) ∧ Q (List.replicate k.toNat xs).flatten S2
    | _, _ => False := by
  unfold mRepC
  rw [does_bind]; congr 1; funext x S1
  rw [does_bind]; congr 1; funext y S2
  cases x with
  | cell n =>
    cases y with
    | int k =>
      simp only
      cases e : S2[n]? with
      | none => simp [Res.DoesE]
      | some c =>
        cases c with
        | lst xs =>
          simp only
          by_cases h : k < 1000000 ∧ xs.length * k.toNat ≤ 16777216 ∧ -1000000 < k
          · rw [if_pos h]; simp [h]
          · rw [if_neg h]; simp [h, Res.DoesE]
        | _ => simp [Res.DoesE]
    | _ => rfl
  | _ => cases y <;> rfl
@[simp] theorem does_lstRg {a : MA} {Q : List D → Sto → Prop} : (mLstRg a ρ S).DoesE E Q = (a ρ S).DoesE E fun ds S1 => match ds with
    | [.int i, .int j] => (-1000000000000000000 ≤ i ∧ i ≤ 1000000000000000000 ∧ -1000000000000000000 ≤ j ∧ j ≤ 1000000000000000000 ∧ j - i ≤ 16777216) ∧ Q (rngD i (j - i).toNat) S1
    | _ => False := by
  unfold mLstRg
  rw [does_bind]; congr 1; funext ds S1
  match ds with
  | [] => rfl
  | [d] => cases d <;> rfl
  | [d, d'] =>
    cases d with
    | int i =>
      cases d' with
      | int j =>
        simp only
        by_cases h : -1000000000000000000 ≤ i ∧ i ≤ 1000000000000000000 ∧ -1000000000000000000 ≤ j ∧ j ≤ 1000000000000000000 ∧ j - i ≤ 16777216
        · rw [if_pos h]; simp [h]
        · rw [if_neg h]; simp [h, Res.DoesE]
      | _ => rfl
    | _ => cases d' <;> rfl
  | d :: d' :: _ :: _ => cases d <;> (try rfl) <;> cases d' <;> rfl
theorem gSum_ints {d : D} {ns : List Int} (h : lstOf S d = some (ns.map .int)) : gSum S [d] = some (.int ns.sum) := by
  show (lstOf S d).bind _ = _
  rw [h]
  show (intsOf (ns.map D.int)).map _ = _
  rw [intsOf_map] <;> rfl
theorem gMax1_ints {d : D} {ns : List Int} (h : lstOf S d = some (ns.map .int)) (hl : 0 < ns.length) : gMax1 S [d] = some (.int (mxI ns)) := by
  show (lstOf S d).bind _ = _
  rw [h]
  show (intsOf (ns.map D.int)).bind _ = _
  rw [intsOf_map]
  show (if 0 < ns.length then _ else _) = _
  rw [if_pos hl]
end
end Dm
-- text Hw4
namespace Dm
open PySem L2
end Dm
-- text DmBack
namespace Dm
open PySem L2
section
variable {X : Cx} {W : WX} {e : Expr} {m : ME} {te te' : TE} {k : Nat} {p1 p2 p3 pos : Pos}
theorem peOr (h : PE X e te) (h' : PE X e te') : PE X e (fun σ H Q => te σ H Q ∨ te' σ H Q) := ⟨fun pins s σ H Q I hw => hw.elim (h.run pins s σ H Q I) (h'.run pins s σ H Q I)⟩
/-- x[::-1], a tuple or a list -/
def mBackA (m : ME) : ME := fun ρ S => (m ρ S).bind fun x S1 => match x with
  | .tup ds => .ok (.tup ds.reverse) S1
  | x => match lstOf S1 x with
    | some ds => .ok (.lst ds.reverse) S1
    | none => .bad
theorem d_backA (h : DE X W e m) : DE X W (.Subscript e (.Slice none none (some (.UnaryOp .USub (.Constant (.int 1) k p1) p2)) p3) pos) (mBackA m) := by
  obtain ⟨te, pe, ke⟩ := h
  refine ⟨_, peOr (pe_backT pe) (pe_revL pe), fun ξ μ σ H ρ S Q g s h => ?_⟩
  unfold mBackA at h
  cases e1 : m ρ S with
  | bad => rw [e1] at h; exact h.elim
  | exc c fs S1 =>
    rw [e1] at h
    refine .inl (ke ξ μ σ H ρ S _ g s ?_)
    rw [e1]; exact h
  | ok d S1 =>
    rw [e1] at h
    by_cases c : ∃ ds, d = .tup ds
    · obtain ⟨ds, rfl⟩ := c
      refine .inl (ke ξ μ σ H ρ S _ g s ?_)
      rw [e1]
      intro v μ1 H1 u1 s1 r1
      cases r1 with
      | @tup a xs _ f r =>
        exact ⟨a, xs, rfl, f.sq, fun p o hp ho => h _ μ1 _ (u1.trans (.fresh hp)) (s1.fresh hp) (.tup (.inl ⟨.new ho, s1.out hp, s1.outX hp⟩) (r.reverse.up (.fresh hp)))⟩
    · have h : WE' (fx X ξ) (match lstOf S1 d with | some ds => .ok (.lst ds.reverse) S1 | none => .bad) Q (fun cls dd H' => W cls dd σ H') μ H := by
        cases d with
        | tup ds => exact absurd ⟨ds, rfl⟩ c
        | _ => exact h
      refine .inr (ke ξ μ σ H ρ S _ g s ?_)
      rw [e1]
      intro v μ1 H1 u1 s1 r1
      cases q : lstOf S1 d with
      | none => rw [q] at h; exact h.elim
      | some ds =>
        rw [q] at h
        obtain ⟨a, xs, rfl, h3, r3⟩ := RD.lstS s1 r1 q
        exact ⟨a, xs, rfl, h3, fun p hp => h _ μ1 _ (u1.trans (.fresh hp)) (s1.fresh hp) (.lst (.inl ⟨.inl upd_same, s1.out hp, s1.outX hp⟩) (r3.reverse.up (.fresh hp)))⟩
end
section
variable {S : Sto} {ρ : Rho} {Q : D → Sto → Prop} {E : EX} {EO : EXO}
@[simp] theorem does_backA {m : ME} : (mBackA m ρ S).DoesE E Q = (m ρ S).DoesE E fun x S1 => match x with
    | .tup ds => Q (.tup ds.reverse) S1
    | x => match lstOf S1 x with
      | some ds => Q (.lst ds.reverse) S1
      | none => False := by
  unfold mBackA
  rw [does_bind]; congr 1; funext x S1
  cases x with
  | lst ds => rfl
  | cell n => 
    simp only
    cases lstOf S1 (.cell n) <;> rfl
  | _ => rfl
end
end Dm
-- text Hw5
namespace Dm
open PySem L2
end Dm
-- text DmSet
namespace Dm
open PySem L2 PySem.Spec PyProof.Rows
/-! ### set(xs), xs a list of ints, so that it can be sorted -/
section
variable {P : Program} {w : World} {A : Around} {E : Value → Shared → Prop} {s : Shared}
/-- an empty set as it is made -/
def bare (w : World) : Obj := { cls := .type "set", dict := none, data := .set #[] 0 (.fresh 0 0 (!w.params.followText "set-order")) }
end
end Dm
-- text DmSet2
namespace Dm
open PySem L2 PySem.Spec PyProof.Rows
open PySem.W (Frag)
/-! ### the members of a list, ascending, each once -/
def insU (x : Int) : List Int → List Int
  | [] => [x]
  | y :: r => if x < y then x :: y :: r else if x = y then y :: r else y :: insU x r
def uniq : List Int → List Int
  | [] => []
  | x :: r => insU x (uniq r)
/-! ### sorted(set(xs)) for any number of members -/
section
variable {X : Cx} {W : WX} {e : Expr} {m : ME} {p p1 p2 pos : Pos}
def gSortSet : Sto → D → Option (List D) := fun S d => (lstOf S d).bind fun es => (intsOf es).bind fun ns => if (uniq ns).length ≤ 4000 then some ((uniq ns).map .int) else none
def mSortSet (m : ME) : MA := fun ρ S => (m ρ S).bind fun d S1 => match gSortSet S1 d with
  | some ds => .ok ds S1
  | none => .bad
end
section
variable {S : Sto} {ρ : Rho} {E : EX}
@[simp] theorem does_sortSet {m : ME} {Q : List D → Sto → Prop} : (mSortSet m ρ S).DoesE E Q = (m ρ S).DoesE E fun d S1 => match gSortSet S1 d with
    | some ds => Q ds S1
    | none => False := by
  unfold mSortSet
  rw [does_bind]; congr 1; funext d S1
  cases gSortSet S1 d <;> rfl
end
end Dm
-- text Hw6
namespace Dm
open PySem L2
end Dm
-- text DmIn2
namespace Dm
open PySem L2 PySem.Spec PyProof.Rows
open PySem.W (Frag)
/-! ### x in xs, both nested plain data -/
def rIn2 (K : Frag) (neg : Bool) : R2 := fun x y H Q => ∃ d es, Dp K H x d ∧ Dp K H y (.list es) ∧ SeqAt.shaped d = true ∧ SeqAt.shaped (.list es) = true ∧ Q (.bl (if neg then !es.any (fun e => PyData.eqv e d) else es.any (fun e => PyData.eqv e d))) H
def gIn2 (neg : Bool) : Sto → D → D → Option D := fun S x y => match toPyS S x, toPyS S y with
  | some d, some (.list es) => if SeqAt.shaped d = true ∧ SeqAt.shaped (.list es) = true then some (.bl (if neg then !es.any (fun e => PyData.eqv e d) else es.any (fun e => PyData.eqv e d))) else none
  | _, _ => none
section
variable {X : Cx}
theorem in2_room {A : Around} {d : PyData} {es : List PyData} (hs : SeqAt.shaped d = true) (hu : A.units + 66 < cLine) : A.units + 1 + min (PyData.depthAll es) d.depth < cLine := by
  have h1 := SeqAt.depth_of_shaped hs
  have h2 : min (PyData.depthAll es) d.depth ≤ d.depth := Nat.min_le_right _ _
  omega
theorem in2_lay {es : List PyData} (hs : SeqAt.shaped (.list es) = true) : PyData.canLayAll0 es = true := by
  have h := SeqAt.canLay_of_shaped hs
  simpa [PyData.canLay0] using h
theorem op_in2 (hu : X.A.units + 66 < cLine) : OpR X (compareOp .In) (rIn2 X.K false) := by
  intro pins s σ H x y v u Q I rx ry h
  obtain ⟨d, es, hd, he, sd, se, q⟩ := h
  obtain ⟨as, r1⟩ := Dp.reads I d x v hd rx
  obtain ⟨bs, r2⟩ := Dp.reads I (.list es) y u he ry
  exact SeqAt.in_list_reads r2 r1 (in2_lay se) (SeqAt.canLay_of_shaped sd) (in2_room sd hu) ⟨.bl _, H, I, rfl, q⟩
theorem op_notIn2 (hu : X.A.units + 66 < cLine) : OpR X (compareOp .NotIn) (rIn2 X.K true) := by
  intro pins s σ H x y v u Q I rx ry h
  obtain ⟨d, es, hd, he, sd, se, q⟩ := h
  obtain ⟨as, r1⟩ := Dp.reads I d x v hd rx
  obtain ⟨bs, r2⟩ := Dp.reads I (.list es) y u he ry
  exact SeqAt.notIn_list_reads r2 r1 (in2_lay se) (SeqAt.canLay_of_shaped sd) (in2_room sd hu) ⟨.bl _, H, I, rfl, q⟩
theorem o_in2 {neg : Bool} : OpD X (rIn2 X.K neg) (gIn2 neg) := by
  intro ξ μ H S x y v u z Q s rx ry e k
  unfold gIn2 at e
  split at e
  · rename_i d es hd he
    split at e
    · rename_i hs
      cases e
      exact ⟨d, es, dpS_of s rx hd, dpS_of s ry he, hs.1, hs.2, k _ μ H .refl s (.bl _)⟩
    · exact nomatch e
  · exact nomatch e
/-! ### any -/
end
end Dm
-- text DmTab
namespace Dm
open PySem L2 PySem.Spec PyProof.Rows
open PySem.W (Frag)
/-! ### a dict of the module with text keys, its values plain -/
inductive KEs (K : Frag) (P : Params) : List DictEntry → List (Str × D) → Prop
  | nil : KEs K P [] []
  | cons {e : DictEntry} {r : List DictEntry} {x : Str} {t : Tok} {v : V} {d : D} {kvs : List (Str × D)} : e.key = .str x t → e.hash = PyData.keyHash P x → RelV v e.val → KD K v d → KEs K P r kvs → KEs K P (e :: r) ((x, d) :: kvs)
def tbLook : List (Str × D) → Str → Option D
  | [], _ => none
  | (x, d) :: r, z => if x = z then some d else tbLook r z
theorem KEs.lit {K : Frag} {P : Params} : ∀ {es : List DictEntry} {kvs : List (Str × D)}, KEs K P es kvs → PySem.W.KeysLit P es
  | _, _, .nil => trivial
  | _, _, .cons h1 h2 _ _ r => ⟨⟨_, _, h1, h2⟩, r.lit⟩
theorem KEs.noRef {K : Frag} {P : Params} : ∀ {es : List DictEntry} {kvs : List (Str × D)}, KEs K P es kvs → es.any (·.refKey) = false
  | _, _, .nil => rfl
  | _, _, .cons h1 _ _ _ r => by
    rw [List.any_cons, r.noRef, Bool.or_false]
    unfold DictEntry.refKey
    rw [h1]
theorem KEs.find {K : Frag} {P : Params} (z : Str) : ∀ {es : List DictEntry} {kvs : List (Str × D)}, KEs K P es kvs →
    match tbLook kvs z with
    | some d => ∃ e v, es.find? (·.key.isStr z) = some e ∧ RelV v e.val ∧ KD K v d
    | none => es.find? (·.key.isStr z) = none
  | _, _, .nil => rfl
  | _, _, .cons (e := e) (x := x) (t := t) (v := v) (d := d) (kvs := kvs) h1 h2 h3 h4 r => by
    have ih := KEs.find z r
    unfold tbLook
    by_cases c : x = z
    · rw [if_pos c]
      refine ⟨e, v, ?_, h3, h4⟩
      rw [List.find?_cons_of_pos]
      rw [h1, PySem.W.isStr_of]
      show (x == z) = true
      rw [c]; exact beq_self_eq_true _
    · rw [if_neg c]
      have n : ¬ (e.key.isStr z) = true := by
        rw [h1, PySem.W.isStr_of]
        intro q
        exact c (of_decide_eq_true (by simpa [Value.isStrOf] using q))
      rw [List.find?_cons_of_neg (p := fun q : DictEntry => q.key.isStr z) n]
      exact ih
/-- the name stands for this dict -/
def GlT (K : Frag) (w : World) (mg : Str → Option Value) (x : Str) (kvs : List (Str × D)) : Prop :=
  ∃ d es n, mg x = some (.ref d) ∧ K.lookup d = some ⟨.type "dict", none, .dict es n, #[]⟩ ∧ (d == sysModules) = false ∧ KEs K w.params es.toList kvs
def mTbIn (neg : Bool) (kvs : List (Str × D)) (a : ME) : ME := fun ρ S => (a ρ S).bind fun x S1 => match x with
  | .str z => .ok (.bl (if neg then !(tbLook kvs z).isSome else (tbLook kvs z).isSome)) S1
  | _ => .bad
def mTbIx (kvs : List (Str × D)) (a : ME) : ME := fun ρ S => (a ρ S).bind fun x S1 => match x with
  | .str z => match tbLook kvs z with
    | some d => .ok d S1
    | none => .bad
  | _ => .bad
theorem nsIn_tab {K : Frag} {P : Params} {d : Addr} {es : Array DictEntry} {n : Nat} {kvs : List (Str × D)} (l : K.lookup d = some ⟨.type "dict", none, .dict es n, #[]⟩) (k : KEs K P es.toList kvs) (z : Str) :
    match tbLook kvs z with
    | some dd => ∃ u v, PySem.W.nsIn K d z = some (some u) ∧ RelV v u ∧ KD K v dd
    | none => PySem.W.nsIn K d z = some none := by
  have h := KEs.find z k
  unfold PySem.W.nsIn
  rw [l]
  cases q : tbLook kvs z with
  | some dd =>
    rw [q] at h
    obtain ⟨e, v, h1, h2, h3⟩ := h
    refine ⟨e.val, v, ?_, h2, h3⟩
    simp only [h1]
  | none =>
    rw [q] at h
    have h' : es.toList.find? (·.key.isStr z) = none := h
    simp only [h', k.noRef, Bool.false_eq_true, if_false]
section
variable {X : Cx} {W : WX} {a : Expr} {ma : ME} {pos p : Pos}
theorem tb_name {x : Str} {kvs : List (Str × D)} (hg : Gl X x) (h : GlT X.K X.w X.mg x kvs) (hd : (x == ("__debug__" : Str)) = false := by decide) :
    ∃ (d : Addr) (es : Array DictEntry) (n : Nat), KDict X.K X.w d es n ∧ KEs X.K X.w.params es.toList kvs ∧ PE X (.Name x p) (fun _ H Q => Q (.ref d) H) := by
  obtain ⟨d, es, n, h1, h2, h3, h4⟩ := h
  exact ⟨d, es, n, ⟨h2, h4.lit, h3⟩, h4, pe_glob hg h1 rfl hd⟩
theorem dt_tbnot {x : Str} {kvs : List (Str × D)} (hg : Gl X x) (h : GlT X.K X.w X.mg x kvs) (ha : DE X W a ma) (hd : (x == ("__debug__" : Str)) = false := by decide) (hm : behindInMarks .NotIn (.Name x p) = false := by first | exact nomark _ | rfl) : DT X W (.Compare a [.NotIn] [.Name x p] pos) (mTbIn true kvs ma) := by
  obtain ⟨ta, pa, ka⟩ := ha
  obtain ⟨d, es, n, hD, hK, pn⟩ := tb_name (p := p) hg h hd
  refine ⟨_, pt_cmpR (op_notIn_kd hD) pa pn hm, fun ξ μ σ H ρ S Q g s h => ka ξ μ σ H ρ S _ g s (WR.bind (WT'.val h) fun y S1 v μ1 H1 u1 s1 r1 h1 => ?_)⟩
  cases r1 with
  | str z =>
    have q := nsIn_tab hD.at_ hK z
    cases e : tbLook kvs z with
    | some dd =>
      simp only [e] at q h1
      obtain ⟨u, v', q1, q2, q3⟩ := q
      exact ⟨z, some u, rfl, rfl, q1, h1 _ μ1 H1 .refl s1 (.bl _)⟩
    | none =>
      simp only [e] at q h1
      exact ⟨z, none, rfl, rfl, q, h1 _ μ1 H1 .refl s1 (.bl _)⟩
  | _ => exact h1.elim
theorem d_tbix {x : Str} {kvs : List (Str × D)} (hg : Gl X x) (h : GlT X.K X.w X.mg x kvs) (ha : DE X W a ma) (hd : (x == ("__debug__" : Str)) = false := by decide) (hs : PlainIx a := by exact fun _ _ => rfl) : DE X W (.Subscript (.Name x p) a pos) (mTbIx kvs ma) := by
  obtain ⟨ta, pa, ka⟩ := ha
  obtain ⟨d, es, n, hD, hK, pn⟩ := tb_name (p := p) hg h hd
  refine ⟨_, pe_ix ix_kdict pn pa hs, fun ξ μ σ H ρ S Q g s h => ka ξ μ σ H ρ S _ g s (WR.bind h fun y S1 v μ1 H1 u1 s1 r1 h1 => ?_)⟩
  cases r1 with
  | str z =>
    have q := nsIn_tab hD.at_ hK z
    cases e : tbLook kvs z with
    | some dd =>
      simp only [e] at q h1
      obtain ⟨u, v', q1, q2, q3⟩ := q
      exact ⟨d, z, v', rfl, rfl, ⟨es, n, u, hD.at_, hD.lit, q1, q2⟩, h1 _ μ1 H1 .refl s1 (KD.rd (F := fx X ξ) dd q3)⟩
    | none =>
      simp only [e] at h1
      exact h1.elim
  | _ => exact h1.elim
end
end Dm
-- text DmG
namespace Dm
open PySem L2 PySem.Spec PyProof.Rows
open PySem.W (Frag)
/-! ### room under which no repr is under way -/
structure RoomG (k : Nat) (A : Around) : Prop extends Room k A where
  gd : A.guards = some []
theorem RoomG.mono {j k : Nat} {A : Around} (r : RoomG k A) (h : j ≤ k) : RoomG j A := ⟨r.toRoom.mono h, r.gd⟩
theorem RoomG.deeper {k : Nat} {A : Around} (r : RoomG (k + 1) A) (env : Env) : RoomG k (A.deeper env) := ⟨r.toRoom.deeper env, r.gd⟩
structure FnG (P : Program) (w : World) (K : Frag) (mg : Str → Option Value) (base : Heap) (CX : CXT) (k : Nat) (f : Addr) (fd : FuncData) (ps : List Str) (sp : Sp) : Prop where
  len : ∀ vs H Q E, sp vs H Q E → vs.length = ps.length
  run : ∀ (A : Around) (outer : List Env) (s : Shared) (H : Hp) (args : Args) (us : List Value) (vs : List V) (Q : VK) (E : XK), RoomG k A → Env0 P w K mg base A outer s H → BindsTo s fd args (ps.zip us) → Vals vs us → sp vs H Q E →
    codeAny (model P w) A (.call (.ref f) args) (CR CX outer P w H s Q E) s
section
variable {P : Program} {w : World} {K : Frag} {mg : Str → Option Value} {base : Heap} {CX : CXT} {k : Nat} {f : Addr} {fd : FuncData} {ps N : List Str} {sp : Sp}
theorem FnG.mono {j : Nat} (F : FnG P w K mg base CX j f fd ps sp) (h : j ≤ k) : FnG P w K mg base CX k f fd ps sp := ⟨F.len, fun A outer s H args us vs Q E hr => F.run A outer s H args us vs Q E (hr.mono h)⟩
theorem FnG.imp {sp' : Sp} (F : FnG P w K mg base CX k f fd ps sp) (h : ∀ vs H Q E, sp' vs H Q E → sp vs H Q E) : FnG P w K mg base CX k f fd ps sp' :=
  ⟨fun vs H Q E q => F.len vs H Q E (h _ _ _ _ q), fun A outer s H args us vs Q E hr he hb hv hs => F.run A outer s H args us vs Q E hr he hb hv (h _ _ _ _ hs)⟩
end
structure FnDG (P : Program) (w : World) (K : Frag) (mg : Str → Option Value) (base : Heap) (k : Nat) (x : Str) (st : Stmt) (ps : List Str) (m : List D → Sto → Res D) : Prop where
  ex : ∃ f fd, mg x = some (.ref f) ∧ Fun K x x st f fd ∧ Binds K fd ps [] ∧ FnG P w K mg base (L2.CX P w) k f fd ps (spD w K mg m)
section
variable {P : Program} {w : World} {K : Frag} {mg : Str → Option Value} {base : Heap}
theorem FnDG.mono {j k : Nat} {x : Str} {st : Stmt} {ps : List Str} {m : List D → Sto → Res D} (F : FnDG P w K mg base j x st ps m) (h : j ≤ k) : FnDG P w K mg base k x st ps m :=
  let ⟨f, fd, a, b, c, d⟩ := F; ⟨f, fd, a, b, c, d.mono h⟩
end
end Dm
-- text DmGEnd
namespace Dm
open PySem L2 PySem.Spec PyProof.Rows
open PySem.W (Frag)
/-- of all addresses the script's alone may be tracked, frozen, and then the written part does not know it -/
def Lone (K : Frag) (a : Addr) (H : Hp) : Prop := ∀ b, H b = none ∨ (b = a ∧ K.lookup a = none ∧ ∃ o xs, H b = some (.frz o (.lst xs)))
section
variable {P : Program} {w : World} {K : Frag} {mg mb : Str → Option Value} {k : Nat} {fa a : Addr} {fd : FuncData} {x : Str} {s : Shared} {vs : List Value} {ns : List Int} {H : Hp}
theorem Lone.free (L : Lone K a H) (KX : K.In s.heap) {b : Addr} {o : Obj} (h : K.lookup b = some o) : H b = none := by
  rcases L b with q | ⟨rfl, q, _⟩
  · exact q
  · rw [q] at h; cases h
theorem Lone.dic (L : Lone K a H) (ha : s.heap.get? a = some { cls := .type "list", data := .seq vs.toArray }) {b : Addr} {o : Obj} {es : Array DictEntry} {n : Nat} (h : s.heap.get? b = some o) (hd : o.data = .dict es n) : H b = none := by
  rcases L b with q | ⟨rfl, _, _⟩
  · exact q
  · rw [ha] at h
    cases h
    cases (show Data.seq vs.toArray _ = Data.dict es n from hd)
end
end Dm
-- text DmRepr
namespace Dm
open PySem L2 PySem.Spec PyProof.Rows
open PySem.W (Frag)
/-! ### repr of plain data -/
/-! cells within, their items plain -/
end Dm
-- text DmPar3
namespace Dm
open PySem L2 PySem.Spec PyProof.Rows
open PySem.W (Frag)
/-! ### x, y, z = a, b, c -/
def mPar3 (i j l : Nat) (a : MA) : MS := fun ρ S => ofRes (a ρ S) ρ fun ds S1 => match ds with
  | [d, d', d''] => .nx (((ρ.set i (some d)).set j (some d')).set l (some d'')) S1
  | _ => .bad
section
variable {S : Sto} {ρ : Rho} {N B C : Rho → Sto → Prop} {R : D → Sto → Prop} {E : EX} {EO : EXO}
@[simp] theorem does_par3 {i j l : Nat} {a : MA} : (mPar3 i j l a ρ S).DoesE EO N R B C = (a ρ S).DoesE (eAt EO ρ) fun ds S1 => match ds with
    | [d, d', d''] => N (((ρ.set i (some d)).set j (some d')).set l (some d'')) S1
    | _ => False := by
  unfold mPar3
  rw [does_ofRes]; congr 1; funext ds S1
  match ds with
  | [] => rfl
  | [_] => rfl
  | [_, _] => rfl
  | [_, _, _] => rfl
  | _ :: _ :: _ :: _ :: _ => rfl
@[simp] theorem does_tbin {neg : Bool} {kvs : List (Str × D)} {a : ME} {Q : D → Sto → Prop} : (mTbIn neg kvs a ρ S).DoesE E Q = (a ρ S).DoesE E fun x S1 => match x with
    | .str z => Q (.bl (if neg then !(tbLook kvs z).isSome else (tbLook kvs z).isSome)) S1
    | _ => False := by
  unfold mTbIn
  rw [does_bind]; congr 1; funext x S1
  cases x <;> rfl
@[simp] theorem does_tbix {kvs : List (Str × D)} {a : ME} {Q : D → Sto → Prop} : (mTbIx kvs a ρ S).DoesE E Q = (a ρ S).DoesE E fun x S1 => match x with
    | .str z => ∃ d, tbLook kvs z = some d ∧ Q d S1
    | _ => False := by
  unfold mTbIx
  rw [does_bind]; congr 1; funext x S1
  cases x with
  | str z =>
    simp only
    cases e : tbLook kvs z with
    | some d => simp
    | none => exact propext ⟨fun h => h.elim, fun ⟨_, h, _⟩ => nomatch h⟩
  | _ => rfl
end
end Dm
-- text Hw7
namespace Dm
open PySem L2
noncomputable section
def m_is_zones : List D → Sto → Res D := mDef 1 2 (mSeq (mIfS (mOr (mNot (mIsi .tup (mVar 0))) (mNot (mChain gLe gLe (mK (.int 1)) (mCallB gLen (mCons (mVar 0) mNil)) (mK (.int 2))))) (mRet (mK (.bl false))) mNop) (mRet (mCallB gAll (mCons (mFz (mLcA (mVar 0) (tgN 1) mYes (mCall m_is_zone (mCons (mVar 1) mNil)) [1])) mNil))))
def m_need_zones : List D → Sto → Res D := mDef 1 1 (mIfS (mNot (mCall m_is_zones (mCons (mVar 0) mNil))) (mRaise "InvalidZones") mNop)
def m_is_part : List D → Sto → Res D := mDef 4 4 (mSeq (mIfS (mOp gEq (mVar 2) (mK (.str "fold"))) (mRet (mAnd (mIsi .str (mVar 3)) (mOp (gIn false) (mVar 3) (mK (.tup [(.str "early"), (.str "late"), (.str "refuse")]))))) mNop) (mSeq (mIfS (mOp gEq (mVar 2) (mK (.str "gap"))) (mRet (mAnd (mIsi .str (mVar 3)) (mOp (gIn false) (mVar 3) (mK (.tup [(.str "ahead"), (.str "behind"), (.str "refuse")]))))) mNop) (mSeq (mIfS (mNot (mCall m_is_integer (mCons (mVar 3) mNil))) (mRet (mK (.bl false))) mNop) (mSeq (mIfS (mOp gEq (mVar 2) (mK (.str "place"))) (mRet (mChain gLe gLt (mK (.int 0)) (mVar 3) (mCallB gLen (mCons (mVar 0) mNil)))) mNop) (mSeq (mIfS (mOp gEq (mVar 2) (mK (.str "minutes"))) (mRet (mChain gLe gLe (mUn gNeg (mK (.int 100000))) (mVar 3) (mK (.int 100000)))) mNop) (mSeq (mIfS (mNot (mChain gLe gLt (mK (.int 0)) (mVar 3) (mCallB gLen (mCons (mVar 1) mNil)))) (mRet (mK (.bl false))) mNop) (mSeq (mIfS (mOp gEq (mVar 2) (mK (.str "point"))) (mRet (mOp gNe (mOp gIx (mVar 1) (mVar 3)) (mK (.str "span")))) mNop) (mRet (mOp gEq (mOp gIx (mVar 1) (mVar 3)) (mVar 2))))))))))
def m_is_step : List D → Sto → Res D := mDef 3 6 (mSeq (mIfS (mOr (mNot (mIsi .tup (mVar 2))) (mOp gEq (mCallB gLen (mCons (mVar 2) mNil)) (mK (.int 0)))) (mRet (mK (.bl false))) mNop) (mSeq (mIfS (mOr (mNot (mIsi .str (mOp gIx (mVar 2) (mK (.int 0))))) (mTbIn true [("read", (.tup [(.str "moment"), (.str "place")])), ("find", (.tup [(.str "reading"), (.str "place"), (.str "fold"), (.str "gap")])), ("offset", (.tup [(.str "moment"), (.str "place")])), ("edition", (.tup [(.str "moment"), (.str "place")])), ("plus", (.tup [(.str "moment"), (.str "span")])), ("less", (.tup [(.str "reading"), (.str "span")])), ("add", (.tup [(.str "point"), (.str "minutes")]))] (mOp gIx (mVar 2) (mK (.int 0))))) (mRet (mK (.bl false))) mNop) (mSeq (mAsg 3 (mTbIx [("read", (.tup [(.str "moment"), (.str "place")])), ("find", (.tup [(.str "reading"), (.str "place"), (.str "fold"), (.str "gap")])), ("offset", (.tup [(.str "moment"), (.str "place")])), ("edition", (.tup [(.str "moment"), (.str "place")])), ("plus", (.tup [(.str "moment"), (.str "span")])), ("less", (.tup [(.str "reading"), (.str "span")])), ("add", (.tup [(.str "point"), (.str "minutes")]))] (mOp gIx (mVar 2) (mK (.int 0))))) (mSeq (mIfS (mOp gNe (mCallB gLen (mCons (mVar 2) mNil)) (mOp gAdd (mCallB gLen (mCons (mVar 3) mNil)) (mK (.int 1)))) (mRet (mK (.bl false))) mNop) (mRet (mCallB gAll (mCons (mFz (mLc (iEnumS (mVar 3)) (tgU 2 (tgCons (tgN 4) (tgCons (tgN 5) tgNil))) mYes (mCall m_is_part (mCons (mVar 0) (mCons (mVar 1) (mCons (mVar 5) (mCons (mOp gIx (mVar 2) (mOp gAdd (mVar 4) (mK (.int 1)))) mNil))))) [4, 5])) mNil)))))))
def m_kind_made : List D → Sto → Res D := mDef 2 2 (mSeq (mIfS (mOp gEq (mOp gIx (mVar 1) (mK (.int 0))) (mK (.str "add"))) (mRet (mOp gIx (mVar 0) (mOp gIx (mVar 1) (mK (.int 1))))) mNop) (mRet (mTbIx [("read", (.str "reading")), ("find", (.str "moment")), ("offset", (.str "span")), ("edition", (.str "moment")), ("plus", (.str "reading")), ("less", (.str "moment"))] (mOp gIx (mVar 1) (mK (.int 0))))))
def m_is_program : List D → Sto → Res D := mDef 2 4 (mSeq (mDrop (mCall m_need_zones (mCons (mVar 0) mNil))) (mSeq (mIfS (mOr (mNot (mIsi .tup (mVar 1))) (mOp gGt (mCallB gLen (mCons (mVar 1) mNil)) (mK (.int 8)))) (mRet (mK (.bl false))) mNop) (mSeq (mAsg 2 (mNew (mLst (mCons (mK (.str "moment")) mNil)))) (mSeq (mForA (mVar 1) (tgN 3) (mSeq (mIfS (mNot (mCall m_is_step (mCons (mVar 0) (mCons (mVar 2) (mCons (mVar 3) mNil))))) (mRet (mK (.bl false))) mNop) (mApp (mVar 2) (mCall m_kind_made (mCons (mVar 2) (mCons (mVar 3) mNil)))))) (mRet (mOp gLt (mCallB gLen (mCons (mFz (mLcA (mVar 1) (tgN 3) (mOp gEq (mOp gIx (mVar 3) (mK (.int 0))) (mK (.str "edition"))) (mVar 3) [3])) mNil)) (mK (.int 2))))))))
def m_need_program : List D → Sto → Res D := mDef 2 2 (mIfS (mNot (mCall m_is_program (mCons (mVar 0) (mCons (mVar 1) mNil)))) (mRaise "InvalidProgram") mNop)
def m_law_bag_of : List D → Sto → Res D := mDef 1 1 (mRet (mNew (mLst (mCons (mCallB gMax2 (mCons (mK (.int 0)) (mCons (mOp gSub (mVar 0) (mK (.int 1000000000000000000))) mNil))) (mCons (mOp gMod (mCallB gInt1 (mCons (mVar 0) mNil)) (mK (.int 2305843009213693951))) (mCons (mK (.int 0)) mNil))))))
def m_law_pick : List D → Sto → Res D := mDef 2 3 (mSeq (mIfS (mOp gGt (mOp gIx (mVar 0) (mK (.int 0))) (mK (.int 0))) (mSeq (mAsg 2 (mOp gMod (mCallB gInt1 (mCons (mOp gIx (mVar 0) (mK (.int 0))) mNil)) (mVar 1))) (mSeq (mSetIx (mOp gFdiv (mOp gIx (mVar 0) (mK (.int 0))) (mVar 1)) (mVar 0) (mK (.int 0))) (mRet (mVar 2)))) mNop) (mSeq (mSetIx (mOp gAdd (mOp gIx (mVar 0) (mK (.int 2))) (mK (.int 1))) (mVar 0) (mK (.int 2))) (mSeq (mAsg 2 (mOp gMul (mOp gAdd (mOp gIx (mVar 0) (mK (.int 1))) (mOp gMul (mK (.int 104729)) (mOp gIx (mVar 0) (mK (.int 2))))) (mOp gAdd (mOp gAdd (mOp gIx (mVar 0) (mK (.int 1))) (mOp gMul (mK (.int 15485863)) (mOp gIx (mVar 0) (mK (.int 2))))) (mK (.int 11))))) (mSeq (mAsg 2 (mOp gMod (mCallB gInt1 (mCons (mVar 2) mNil)) (mK (.int 2305843009213693951)))) (mSeq (mAsg 2 (mOp gAdd (mOp gMul (mVar 2) (mVar 2)) (mOp gMul (mK (.int 7)) (mOp gIx (mVar 0) (mK (.int 2)))))) (mRet (mOp gMod (mCallB gInt1 (mCons (mOp gFdiv (mOp gMod (mCallB gInt1 (mCons (mVar 2) mNil)) (mK (.int 2305843009213693951))) (mK (.int 4099))) mNil)) (mVar 1))))))))
def m_law_any_belt : List D → Sto → Res D := mDef 2 10 (mSeq (mAsg 2 (mCallB gMin2 (mCons (mVar 1) (mCons (mOp gIx (mFz (mLst (mCons (mK (.int 2)) (mCons (mK (.int 3)) (mCons (mK (.int 2)) (mCons (mK (.int 1)) (mCons (mK (.int 3)) (mCons (mK (.int 2)) mNil)))))))) (mCall m_law_pick (mCons (mVar 0) (mCons (mK (.int 6)) mNil)))) mNil)))) (mSeq (mAsg 3 (mOp gIx (mFz (mLst (mCons (mK (.int 1)) (mCons (mK (.int 60)) (mCons (mK (.int 3)) (mCons (mK (.int 600)) (mCons (mK (.int 20)) (mCons (mK (.int 1800)) mNil)))))))) (mCall m_law_pick (mCons (mVar 0) (mCons (mK (.int 6)) mNil))))) (mSeq (mAsg 3 (mCallB gMax2 (mCons (mK (.int 1)) (mCons (mOp gFdiv (mVar 3) (mCallB gMax2 (mCons (mK (.int 1)) (mCons (mOp gSub (mVar 2) (mK (.int 1))) mNil)))) mNil)))) (mSeq (mAsg 4 (mFz (mLc (iRange1 (mCons (mOp gSub (mVar 2) (mK (.int 1))) mNil)) (tgN 9) mYes (mOp gSub (mVar 3) (mOp gMul (mCall m_law_pick (mCons (mVar 0) (mCons (mVar 3) mNil))) (mCall m_law_pick (mCons (mVar 0) (mCons (mK (.int 2)) mNil))))) [9]))) (mSeq (mAsg 5 (mNew (mLst (mCons (mOp gSub (mCall m_law_pick (mCons (mVar 0) (mCons (mOp gSub (mK (.int 1801)) (mCallB gSum (mCons (mVar 4) mNil))) mNil))) (mK (.int 900))) mNil)))) (mSeq (mForA (mVar 4) (tgN 6) (mApp (mVar 5) (mOp gAdd (mOp gIx (mVar 5) (mK (.int (-1)))) (mVar 6)))) (mSeq (mAsg 7 (mOp gAdd (mCallB gSum (mCons (mVar 4) mNil)) (mK (.int 1)))) (mSeq (mAsg 8 (mFz (mLst (mCons (mK (.int 0)) (mCons (mK (.int 1)) (mCons (mK (.int 40)) (mCons (mOp gSub (mK (.int 1000000)) (mVar 7)) (mCons (mCall m_law_pick (mCons (mVar 0) (mCons (mK (.int 2000)) mNil))) (mCons (mK (.int 100)) (mCons (mCall m_law_pick (mCons (mVar 0) (mCons (mOp gSub (mK (.int 1000001)) (mVar 7)) mNil))) mNil)))))))))) (mRet (mTup (mCons (mCallB gTuple (mCons (mVar 5) mNil)) (mCons (mOp gAdd (mVar 7) (mOp gIx (mVar 8) (mCall m_law_pick (mCons (mVar 0) (mCons (mK (.int 7)) mNil))))) mNil))))))))))))
def m_law_any_belts : List D → Sto → Res D := mDef 2 3 (mRet (mCallB gTuple (mCons (mFz (mLc (iRange1 (mCons (mOp gAdd (mK (.int 1)) (mCall m_law_pick (mCons (mVar 0) (mCons (mK (.int 2)) mNil)))) mNil)) (tgN 2) mYes (mCall m_law_any_belt (mCons (mVar 0) (mCons (mVar 1) mNil))) [2])) mNil)))
def m_law_spot : List D → Sto → Res D := mDef 3 5 (mSeq (mAsg 3 (mFz (mLc (iRange1 (mCons (mCallB gLen (mCons (mVar 1) mNil)) mNil)) (tgN 4) (mOr (mOp gEq (mOp gIx (mVar 1) (mVar 4)) (mVar 2)) (mAnd (mOp gEq (mVar 2) (mK (.str "point"))) (mOp gNe (mOp gIx (mVar 1) (mVar 4)) (mK (.str "span"))))) (mVar 4) [4]))) (mSeq (mIfS (mOp gEq (mCall m_law_pick (mCons (mVar 0) (mCons (mK (.int 2)) mNil))) (mK (.int 0))) (mRet (mOp gIx (mVar 3) (mK (.int (-1))))) mNop) (mRet (mOp gIx (mVar 3) (mCall m_law_pick (mCons (mVar 0) (mCons (mCallB gLen (mCons (mVar 3) mNil)) mNil)))))))
def m_law_minutes : List D → Sto → Res D := mDef 3 8 (mSeq (mIfS (mOp gEq (mVar 2) (mK (.int 1))) (mRet (mOp gSub (mCall m_law_pick (mCons (mVar 0) (mCons (mK (.int 5)) mNil))) (mK (.int 2)))) mNop) (mSeq (mAsgG (tgU 2 (tgCons (tgN 3) (tgCons (tgN 4) tgNil))) (mOp gIx (mVar 1) (mCall m_law_pick (mCons (mVar 0) (mCons (mCallB gLen (mCons (mVar 1) mNil)) mNil))))) (mSeq (mAsg 5 (mOp gSub (mOp gIx (mVar 3) (mK (.int (-1)))) (mOp gIx (mVar 3) (mK (.int 0))))) (mSeq (mAsg 6 (mFz (mLst (mCons (mK (.int 1)) (mCons (mVar 4) (mCons (mVar 5) (mCons (mK (.int 60)) (mCons (mK (.int 100000)) (mCons (mCall m_law_pick (mCons (mVar 0) (mCons (mK (.int 100000)) mNil))) (mCons (mK (.int 300)) (mCons (mOp gSub (mVar 4) (mVar 5)) (mCons (mOp gAdd (mVar 4) (mVar 5)) mNil)))))))))))) (mSeq (mAsg 7 (mCallB gMin2 (mCons (mK (.int 100000)) (mCons (mOp gSub (mOp gAdd (mOp gIx (mVar 6) (mCall m_law_pick (mCons (mVar 0) (mCons (mK (.int 9)) mNil)))) (mCall m_law_pick (mCons (mVar 0) (mCons (mK (.int 3)) mNil)))) (mK (.int 1))) mNil)))) (mRet (mOp gMul (mVar 7) (mOp gSub (mK (.int 1)) (mOp gMul (mK (.int 2)) (mCall m_law_pick (mCons (mVar 0) (mCons (mK (.int 2)) mNil))))))))))))
def m_law_any_rules : List D → Sto → Res D := mDef 1 1 (mRet (mTup (mCons (mOp gIx (mFz (mLst (mCons (mK (.str "early")) (mCons (mK (.str "late")) (mCons (mK (.str "refuse")) mNil))))) (mCall m_law_pick (mCons (mVar 0) (mCons (mK (.int 3)) mNil)))) (mCons (mOp gIx (mFz (mLst (mCons (mK (.str "ahead")) (mCons (mK (.str "behind")) (mCons (mK (.str "refuse")) mNil))))) (mCall m_law_pick (mCons (mVar 0) (mCons (mK (.int 3)) mNil)))) mNil))))
def m_law_less_room : List D → Sto → Res D := mDef 2 3 (mSeq (mAsg 2 (mCallB gInt1 (mCons (mOp (gIn false) (mOp gIx (mVar 1) (mK (.int 0))) (mFz (mLst (mCons (mK (.str "read")) (mCons (mK (.str "find")) (mCons (mK (.str "offset")) (mCons (mK (.str "edition")) mNil))))))) mNil))) (mRet (mFz (mLst (mCons (mOp gSub (mOp gIx (mVar 0) (mK (.int 0))) (mVar 2)) (mCons (mOp gSub (mOp gIx (mVar 0) (mK (.int 1))) (mCallB gInt1 (mCons (mOp gEq (mOp gIx (mVar 1) (mK (.int 0))) (mK (.str "find"))) mNil))) (mCons (mOp gSub (mOp gIx (mVar 0) (mK (.int 2))) (mCallB gInt1 (mCons (mOp gEq (mOp gIx (mVar 1) (mK (.int 0))) (mK (.str "edition"))) mNil))) (mCons (mOp gIx (mVar 0) (mK (.int 3))) mNil))))))))
end
end Dm
-- text DmMin
namespace Dm
open PySem L2 PySem.Spec PyProof.Rows
open PySem.W (Frag)
/-! ### min of a list of ints -/
def mnI : List Int → Int
  | [] => 0
  | [x] => x
  | x :: r => if mnI r < x then mnI r else x
theorem mnI_mem : ∀ {l : List Int}, 0 < l.length → mnI l ∈ l ∧ ∀ y, y ∈ l → mnI l ≤ y
  | [], h => absurd h (by simp)
  | [x], _ => ⟨by simp [mnI], fun y hy => by simp at hy; simp [mnI, hy]⟩
  | x :: y :: r, _ => by
    obtain ⟨h1, h2⟩ := mnI_mem (l := y :: r) (by simp)
    rw [mnI]
    · by_cases c : mnI (y :: r) < x
      · rw [if_pos c]
        refine ⟨List.mem_cons_of_mem _ h1, fun z hz => ?_⟩
        rcases List.mem_cons.mp hz with rfl | hz
        · omega
        · exact h2 z hz
      · rw [if_neg c]
        refine ⟨List.mem_cons_self, fun z hz => ?_⟩
        rcases List.mem_cons.mp hz with rfl | hz
        · omega
        · have := h2 z hz; omega
    · simp
def gMin1 : Sto → List D → Option D := fun S ds => match ds with
  | [d] => (lstOf S d).bind fun es => (intsOf es).bind fun ns => if 0 < ns.length then some (.int (mnI ns)) else none
  | _ => none
section
variable {X : Cx} {W : WX}
theorem c_min1 : CallD X (rMin X.K) gMin1 := by
  intro ξ μ H S ds vs z Q s r e k
  unfold gMin1 at e
  cases r with
  | nil => exact nomatch e
  | @cons v vs d ds r rr =>
    cases rr with
    | cons _ _ => exact nomatch e
    | nil =>
      simp only at e
      cases q : lstOf S d with
      | none => rw [q] at e; exact nomatch e
      | some es =>
        rw [q] at e
        have e : (intsOf es).bind (fun ns => if 0 < ns.length then some (D.int (mnI ns)) else none) = some z := e
        obtain ⟨a, xs, rfl, h1, h2⟩ := RD.lstS s r q
        cases c : intsOf es with
        | none => rw [c] at e; exact nomatch e
        | some ns =>
          rw [c] at e
          simp only [Option.bind_some] at e
          by_cases hl : 0 < ns.length
          · rw [if_pos hl] at e; cases e
            have ee := intsOf_eq c
            subst ee
            have ev := rdsInts h2
            subst ev
            refine ⟨a, ns, rfl, h1, hl, fun m hm hy => ?_⟩
            obtain ⟨m1, m2⟩ := mnI_mem hl
            have : m = mnI ns := Int.le_antisymm (hy _ m1) (m2 m hm)
            rw [this]
            exact k _ μ H .refl s (.int _)
          · rw [if_neg hl] at e; exact nomatch e
/-! ### key in a dict -/
def rDIn (neg : Bool) : R2 := fun y x H Q => ∃ a o, x = .ref a ∧ DGet H a y o ∧ Q (.bl (if neg then !o.isSome else o.isSome)) H
theorem op_din (hu : X.A.units + 64 < cLine) : OpR X (compareOp .In) (rDIn false) := by
  intro pins s σ H y x u v Q I ry rx h
  obtain ⟨a, o, rfl, g, q⟩ := h
  obtain rfl : v = Value.ref a := rx
  exact d_in (by omega) I g ry fun s' I' => ⟨.bl o.isSome, H, I', rfl, q⟩
theorem o_din {neg : Bool} : OpD X (rDIn neg) (gDIn neg) := by
  intro ξ μ H S y x u v z Q s ry rx e k
  unfold gDIn at e
  cases q1 : dicOf S x with
  | none => rw [q1] at e; exact nomatch e
  | some kvs =>
    rw [q1] at e
    cases q2 : keyD y with
    | none => rw [q2] at e; exact nomatch e
    | some ky =>
      rw [q2] at e
      cases e
      obtain ⟨n, a, vk, rfl, rfl, ea, es, e3, e4⟩ := dic_at s rx q1
      have ek := keyD_of ry q2
      subst ek
      refine ⟨a, _, rfl, DGet.k e3, ?_⟩
      rw [valV_none e4]
      exact k _ μ H .refl s (.bl _)
/-! ### xs.clear() -/
def mClear (o : ME) : MS := fun ρ S => ofRes (o ρ S) ρ fun x S1 => match x with
  | .cell n => match S1[n]? with
    | some (.lst _) => .nx ρ (S1.set n (.lst []))
    | _ => .bad
  | _ => .bad
end
section
variable {S : Sto} {ρ : Rho} {N B C : Rho → Sto → Prop} {R : D → Sto → Prop} {E : EX} {EO : EXO}
theorem gMin1_ints {d : D} {ns : List Int} (h : lstOf S d = some (ns.map .int)) (hl : 0 < ns.length) : gMin1 S [d] = some (.int (mnI ns)) := by
  show (lstOf S d).bind _ = _
  rw [h]
  show (intsOf (ns.map D.int)).bind _ = _
  rw [intsOf_map]
  show (if 0 < ns.length then _ else _) = _
  rw [if_pos hl]
theorem gDIn_cell {neg : Bool} {n : Nat} {kvs : List (Key × D)} {y : D} (h : S[n]? = some (.dic kvs)) : gDIn neg S y (.cell n) = (keyD y).map fun k => .bl (if neg then !(valD kvs k).isSome else (valD kvs k).isSome) := by
  unfold gDIn
  rw [dicOf_cell h] <;> rfl
@[simp] theorem does_clear {o : ME} : (mClear o ρ S).DoesE EO N R B C = (o ρ S).DoesE (eAt EO ρ) fun x S1 => match x with
    | .cell n => (∃ xs, S1[n]? = some (.lst xs)) ∧ N ρ (S1.set n (.lst []))
    | _ => False := by
  unfold mClear
  rw [does_ofRes]; congr 1; funext x S1
  cases x with
  | cell n =>
    simp only
    cases q : S1[n]? with
    | none => exact propext ⟨fun h => h.elim, fun ⟨⟨_, h⟩, _⟩ => nomatch h⟩
    | some c =>
      cases c with
      | lst ds => exact propext ⟨fun h => ⟨⟨_, rfl⟩, h⟩, fun h => h.2⟩
      | _ => exact propext ⟨fun h => h.elim, fun ⟨⟨_, h⟩, _⟩ => nomatch h⟩
  | _ => rfl
end
end Dm
-- text DmTry
/-! try .. except X (as n): the caught exception stands in the heap as a value -/
namespace Dm
open PySem L2 PySem.Spec PyProof.Rows
open PySem.W (Frag)
section
variable {X : Cx} {pins : List (Addr × Obj)} {σ : L2.St} {H : Hp} {s : Shared}
theorem _root_.L2.Inv.track {a : Addr} {o : HO} (I : Inv X pins σ H s) (h0 : X.s_0.heap.get? a = none) (hn : H a = none) (hL : a ≠ X.env.locals) (hC : ∀ x c, X.env.cells.lookup x = some c → c ≠ a) (hp : ∀ p ∈ X.pn ++ pins, p.1 ≠ a)
    (new : ObjOk X.prog X.w (upd H a o) s.heap a o) : Inv X pins σ (upd H a o) s := by
  have n0 : ∀ {b : Addr} {u : Obj}, X.s_0.heap.get? b = some u → b ≠ a := fun {b u} e z => by
    rw [z, h0] at e; cases e
  have nH : ∀ {b : Addr} {u : HO}, H b = some u → b ≠ a := fun {b u} e z => by
    rw [z, hn] at e; cases e
  refine ⟨I.ok, I.os, I.bare, ⟨I.base.keep, I.base.slot, fun b u e n hx => ?_, I.base.there, fun b xs e => ?_, fun b u xs e => ?_, fun b ps e => ?_⟩, I.loc, I.cell, ?_, fun x c e => ?_, fun p hq => ?_, fun b u e => ?_, I.len⟩
  · rw [upd_ne (n0 e)]
    exact I.base.free b u e n hx
  · have q := I.base.tups b xs e
    rw [upd_ne (nH q)]
    exact q
  · have q := I.base.frzs b u xs e
    rw [upd_ne (nH q)]
    exact q
  · obtain ⟨m, q⟩ := I.base.tbls b ps e
    exact ⟨m, by rw [upd_ne (nH q)]; exact q⟩
  · rw [upd_ne (Ne.symm hL)]
    exact I.free
  · rw [upd_ne (hC x c e)]
    exact I.freeC x c e
  · obtain ⟨e, n, ne, nf, d⟩ := I.pin p hq
    exact ⟨e, by rw [upd_ne (hp p hq)]; exact n, ne, nf, d⟩
  · by_cases hb : b = a
    · subst hb
      rw [upd_same] at e
      cases e
      exact new
    · rw [upd_ne hb] at e
      exact (I.hok b u e).stay (fun c v _ q => q) (fun c q => by rw [upd_ne (nH q)]; exact q) fun c xs q => by rw [upd_ne (nH q)]; exact q
theorem _root_.L2.Inv.suiteV (I : Inv X pins σ H s) (a : Addr) : Inv (X.suite a (X.pn ++ pins)) [] σ H s :=
  ⟨I.ok.suite _ _, I.os, I.bare, I.base, I.loc, I.cell, I.free, I.freeC, fun p hp => by rw [List.append_nil] at hp; exact I.pin p hp, I.hok, I.len⟩
theorem _root_.L2.Inv.unsuiteV {a : Addr} {pn' : List (Addr × Obj)} (I : Inv (X.suite a (X.pn ++ pins)) pn' σ H s) (ok : X.Ok) : Inv X pins σ H s :=
  ⟨ok, I.os, I.bare, I.base, I.loc, I.cell, I.free, I.freeC, fun p hp => I.pin p (List.mem_append_left _ hp), I.hok, I.len⟩
end
theorem exV_ok {P : Program} {w : World} {H : Hp} {h : Heap} {a : Addr} {cls : Value} {d : Option Addr} {oe : Obj} {vs : Array Value} (e : h.get? a = some oe) (z : Zc cls d oe) (hd : oe.data = .fields vs) : ObjOk P w H h a (ExV cls d a) :=
  ⟨⟨oe, vs, e, z, hd⟩, ⟨oe, e⟩, fun _ _ ⟨o, v, q, r⟩ k => ⟨o, v, k o q, r⟩⟩
/-- the slot of a clause's name: what is wished for behind the suite, the slots at its start -/
def endsI (oi : Option Nat) (D : Ends) : Ends := match oi with
  | none => D
  | some i => { nx := fun σ' H' => D.nx (σ'.set i none) H', rt := D.rt, bk := fun σ' H' => D.bk (σ'.set i none) H', ct := fun σ' H' => D.ct (σ'.set i none) H' }
def slotI (oi : Option Nat) (σ : L2.St) (a : Addr) : L2.St := match oi with
  | none => σ
  | some i => σ.set i (some (.ref a))
def wTry (K : Frag) (Wout : WX) (D : Ends) : List (Value × Option Nat × TS) → WX
  | [] => Wout
  | (c, oi, ts) :: r => fun cls d σ H => ∃ b, PySem.W.exmOne K cls c = some b ∧ (b = true → ∀ a, H a = none → ts (endsI oi D) (slotI oi σ a) (upd H a (ExV cls d a))) ∧ (b = false → wTry K Wout D r cls d σ H)
inductive HdsV (X : Cx) : List ExceptHandler → List (Value × Option Nat × TS) → Prop
  | nil : HdsV X [] []
  | one {x : Str} {c : Value} {ts : TS} {b₀ : Stmt} {suite : List Stmt} {np pos' : Pos} {hds : List ExceptHandler} {l : List (Value × Option Nat × TS)} (hc : Names X x c)
      (hsu : ∀ (a : Addr) (pn : List (Addr × Obj)), PSs (X.suite a pn) (b₀ :: suite) ts) (r : HdsV X hds l) : HdsV X (.ExceptHandler (some (.Name x np)) none (b₀ :: suite) pos' :: hds) ((c, none, ts) :: l)
  | as {x n : Str} {c : Value} {i : Nat} {ts : TS} {b₀ : Stmt} {suite : List Stmt} {np pos' : Pos} {hds : List ExceptHandler} {l : List (Value × Option Nat × TS)} (hc : Names X x c) (hi : X.N[i]? = some n) (hln : X.env.kindOf n = some .local)
      (hsu : ∀ (a : Addr) (pn : List (Addr × Obj)), PSs (X.suite a pn) (b₀ :: suite) ts) (r : HdsV X hds l) : HdsV X (.ExceptHandler (some (.Name x np)) (some n) (b₀ :: suite) pos' :: hds) ((c, some i, ts) :: l)
section
variable {X : Cx} {body : List Stmt} {h₀ : ExceptHandler} {hds : List ExceptHandler} {l : List (Value × Option Nat × TS)} {pos : Pos} {tb : WX → TS} {Wout : WX}
theorem ps_tryV (hx : X.ex = []) (hs : X.stack = X.env :: X.outer) (hf : X.env.frame = some X.env.locals) (hN : X.N.Nodup) (tk : Takes X Wout)
    (hb : ∀ (W : WX) (pn : List (Addr × Obj)) (xe : Value → Shared → Prop), Takes (X.tr pn xe) W → PassesOwn (model X.prog X.w) X.A X.env xe → PSs (X.tr pn xe) body (tb W))
    (hh : HdsV X (h₀ :: hds) l) : PS X (.Try body (h₀ :: hds) [] [] pos) (fun D σ H => tb (wTry X.K Wout D l) D σ H) := by
  refine ⟨fun pins s σ H D I h => ?_⟩
  have ok := I.ok
  have hfr : X.A.frames = some (X.env :: X.outer) := by rw [ok.frames, hs]
  refine wpAny_Try_except ?_
  refine wpAny_mono ((hb (wTry X.K Wout D l) (X.pn ++ pins) (fun e s₁ => wpAny (model X.prog X.w) X.A (noteFrame e X.env) (fun _ s₂ => wpAny (model X.prog X.w) X.A (setFlight e none) (fun _ s₃ =>
    wpAny (model X.prog X.w) X.A (handleBy e X.env (h₀ :: hds)) (SP X pins D) X.xe s₃) X.xe s₂) X.xe s₁) (fun u s' xx => ?_) PassesOwn.looking).run [] s σ H D (I.toTry _) h) (fun f s1 hsp => ?_) (fun e s1 he => he)
  · -- the catch
    obtain ⟨a, B, sI, pins', σ', H', cls, d, rfl, J', nb, up, sky, na, os, ag, w⟩ := xx
    have J : Inv X pins σ' H' sI := J'.ofTry ok
    have sky' : Sky B (X.env :: X.outer) a (Zc cls d) X.env.locals s'.heap := by rw [← hs]; exact sky
    show wpAny (model X.prog X.w) X.A (noteFrame (.ref a) X.env) _ _ _
    refine Sky.land Zc.steady hfr hf sky' fun h3 fl3 up3 => ?_
    have J3 : Inv X pins σ' H' { s' with heap := h3 } := J.landed nb fl3.1 (up.trans up3) os ag
    obtain ⟨oe3, vs3, he3, hz3, hd3⟩ := fl3.there
    have notFr : ∀ {h : Heap} {o : Obj} {vs : Array Value}, h.FunFrames B (X.env :: X.outer) → h.get? a = some o → o.data = .fields vs → a ∉ frs (X.env :: X.outer) := fun {h o vs} ff e dd hm => by
      obtain ⟨_, o', e', hnf⟩ := ff.mem hm
      rw [e] at e'; cases e'
      exact hnf _ dd
    have nfr := notFr fl3.2.2.1 he3 hd3
    have nL : a ≠ X.env.locals := fun z => nfr (List.mem_filterMap.mpr ⟨X.env, List.mem_cons_self, by rw [hf, z]⟩)
    have nF : a ∉ X.fs := fun hm => by
      obtain ⟨e, he, q⟩ := List.mem_filterMap.mp hm
      exact nfr (List.mem_filterMap.mpr ⟨e, List.mem_cons_of_mem _ he, q⟩)
    have nI : sI.heap.get? a = none := by
      cases e : sI.heap.get? a with
      | none => rfl
      | some o =>
        have z := nb a o e (by rw [hs]; exact nfr)
        rw [fl3.2.1] at z
        cases z
    have n0 : X.s_0.heap.get? a = none := by
      cases e : X.s_0.heap.get? a with
      | none => rfl
      | some o =>
        obtain ⟨o', z⟩ := J.base.there a o e (by rw [hx]; exact fun z => nomatch z)
        rw [nI] at z; cases z
    have nC : ∀ x c, X.env.cells.lookup x = some c → c ≠ a := fun x c e z => by
      obtain ⟨v, o, ho, hd⟩ := J.cell x c e
      rw [z, nI] at ho; cases ho
    have nP : ∀ p ∈ X.pn ++ pins, p.1 ≠ a := fun p hp z => by
      obtain ⟨e, _⟩ := J.pin p hp
      rw [z, nI] at e; cases e
    have S3 := J3.suiteV a
    have go : ∀ {hds' : List ExceptHandler} {l' : List (Value × Option Nat × TS)}, HdsV X hds' l' → wTry X.K Wout D l' cls d σ' H' →
        wpAny (model X.prog X.w) X.A (handleBy (.ref a) X.env hds') (SP X pins D) X.xe { s' with heap := h3 } := by
      intro hds' l' hk
      induction hk with
      | nil =>
        intro w
        refine wpAny_handleBy_nil ?_
        obtain ⟨k1, k2, k3, oe, vs, T, oT, ts', he, hz, hd, h1, hr⟩ := id fl3
        unfold PySem.passOn
        refine wpAny_bind (wpAny_field he hd h1 ?_)
        rw [if_neg (show ¬ ((Value.ref T == Value.none) = true) from by simp)]
        have fin : wpAny (model X.prog X.w) X.A (setFlight (.ref a) X.env.frame) (fun _ s4 => wpAny (model X.prog X.w) X.A (throw (.ref a) : Sem Flow) (SP X pins D) X.xe s4) X.xe { s' with heap := h3 } := by
          rw [hf]
          refine HandSPX.setFlight_upZ fl3 fun h4 hh4 up4 => wpAny_throw (tk _ _ ?_)
          exact ⟨a, B, sI, pins, σ', H', cls, d, rfl, J, nb, (up.trans up3).trans up4, .inr (.inr (by rw [hs]; exact hh4)), na, os, ag, w⟩
        first
          | exact wpAny_bind (wpAny_pure (wpAny_bind fin))
          | exact wpAny_bind fin
      | @one x c ts b₀ suite np pos' hds2 l2 hc hsu r ih =>
        intro w
        obtain ⟨b, hb1, hyes, hno⟩ := w
        refine wpAny_handleBy_cons (codeAny_handlers_test ?_) (by intro q; cases q)
        have LT : PySem.W.Looks (model X.prog X.w) h3 (typeOf (.ref a)) cls := fun A Q E s k q => wpAny_typeOf_ref (k _ _ he3) (by rw [hz3.1]; exact q)
        have LM := PySem.W.exm_one (M := model X.prog X.w) (J3.kIn) LT hb1
        have test : ∀ {Q : Value → Shared → Prop} {E : Value → Shared → Prop}, Q c { s' with heap := h3 } → wpAny (model X.prog X.w) (X.A.mark (some (.ref a))) (eval (.Name x np) X.env) Q E { s' with heap := h3 } := fun {Q E} q => by
          obtain ⟨hg, hdbg, hm | ⟨hm, hv, hnn⟩⟩ := hc
          · exact ld_glob (X := X.suite a (X.pn ++ pins)) S3 hg hm q hdbg
          · exact ld_blt (X := X.suite a (X.pn ++ pins)) S3 hg hm hv q hnn hdbg
        refine test (LM.here ?_)
        cases b with
        | true =>
          refine codeAny_handlers_suite ?_
          refine HandSPX.lands_againZ fl3 fun h4 fl4 up4 => ?_
          have J4 : Inv X pins σ' H' { s' with heap := h4 } := J.landed nb fl4.1 ((up.trans up3).trans up4) os ag
          obtain ⟨oe4, vs4, he4, hz4, hd4⟩ := fl4.there
          have J5 := Inv.track J4 n0 na nL nC nP (o := ExV cls d a) (exV_ok he4 hz4 hd4)
          have S4 := J5.suiteV a
          refine wpAny_mono ((hsu a (X.pn ++ pins)).run [] _ _ _ _ S4 (hyes rfl a na)) (fun f s6 hsp => ?_) (fun _ _ z => False.elim z)
          cases f with
          | next =>
            obtain ⟨σ6, H6, S6, q6⟩ := hsp
            exact ⟨_, _, S6.unsuiteV ok, q6⟩
          | brk =>
            obtain ⟨σ6, H6, S6, q6⟩ := hsp
            exact ⟨_, _, S6.unsuiteV ok, q6⟩
          | cont =>
            obtain ⟨σ6, H6, S6, q6⟩ := hsp
            exact ⟨_, _, S6.unsuiteV ok, q6⟩
          | ret u =>
            obtain ⟨v6, σ6, H6, S6, r6, q6⟩ := hsp
            exact ⟨_, _, _, S6.unsuiteV ok, r6, q6⟩
        | false =>
          show wpAny _ X.A (handleBy (.ref a) X.env hds2) _ _ _
          exact ih (hno rfl)
      | @as x n c i ts b₀ suite np pos' hds2 l2 hc hi hln hsu r ih =>
        intro w
        obtain ⟨b, hb1, hyes, hno⟩ := w
        have hloc : Loc X.env.scope n := .inl hln
        refine wpAny_handleBy_cons (codeAny_handlers_test ?_) (by intro q; cases q)
        have LT : PySem.W.Looks (model X.prog X.w) h3 (typeOf (.ref a)) cls := fun A Q E s k q => wpAny_typeOf_ref (k _ _ he3) (by rw [hz3.1]; exact q)
        have LM := PySem.W.exm_one (M := model X.prog X.w) (J3.kIn) LT hb1
        have test : ∀ {Q : Value → Shared → Prop} {E : Value → Shared → Prop}, Q c { s' with heap := h3 } → wpAny (model X.prog X.w) (X.A.mark (some (.ref a))) (eval (.Name x np) X.env) Q E { s' with heap := h3 } := fun {Q E} q => by
          obtain ⟨hg, hdbg, hm | ⟨hm, hv, hnn⟩⟩ := hc
          · exact ld_glob (X := X.suite a (X.pn ++ pins)) S3 hg hm q hdbg
          · exact ld_blt (X := X.suite a (X.pn ++ pins)) S3 hg hm hv q hnn hdbg
        refine test (LM.here ?_)
        cases b with
        | true =>
          refine codeAny_handlers_suite_as ?_
          refine HandSPX.lands_againZ fl3 fun h4 fl4 up4 => ?_
          have J4 : Inv X pins σ' H' { s' with heap := h4 } := J.landed nb fl4.1 ((up.trans up3).trans up4) os ag
          obtain ⟨oe4, vs4, he4, hz4, hd4⟩ := fl4.there
          have J5 := Inv.track J4 n0 na nL nC nP (o := ExV cls d a) (exV_ok he4 hz4 hd4)
          have S4 := J5.suiteV a
          refine store_ok (X := X.suite a (X.pn ++ pins)) (v := .ref a) S4 hN hi hloc rfl (fun s5 S5 => ?_) (.inr hln)
          refine wpAny_mono ((hsu a (X.pn ++ pins)).run [] s5 _ _ _ S5 (hyes rfl a na)) (fun f s6 hsp => ?_) (fun _ _ z => False.elim z)
          have end_ : ∀ {σ6 : L2.St} {H6 : Hp} {Q : Shared → Prop}, Inv (X.suite a (X.pn ++ pins)) [] σ6 H6 s6 → (∀ s7, Inv X pins (σ6.set i none) H6 s7 → Q s7) →
              wpAny (model X.prog X.w) X.A (do bindName X.env n .none; unbindBehindTheSuite X.env n pos') (fun _ s7 => Q s7) X.xe s6 := fun {σ6 H6 Q} S6 hq => gone_ok (S6.unsuiteV ok) hN hi hln hq
          cases f with
          | next =>
            obtain ⟨σ6, H6, S6, q6⟩ := hsp
            exact end_ S6 fun s7 J7 => ⟨_, _, J7, q6⟩
          | brk =>
            obtain ⟨σ6, H6, S6, q6⟩ := hsp
            exact end_ S6 fun s7 J7 => ⟨_, _, J7, q6⟩
          | cont =>
            obtain ⟨σ6, H6, S6, q6⟩ := hsp
            exact end_ S6 fun s7 J7 => ⟨_, _, J7, q6⟩
          | ret u =>
            obtain ⟨v6, σ6, H6, S6, r6, q6⟩ := hsp
            exact end_ S6 fun s7 J7 => ⟨_, _, _, J7, r6, q6⟩
        | false =>
          show wpAny _ X.A (handleBy (.ref a) X.env hds2) _ _ _
          exact ih (hno rfl)
    exact go hh w
  · cases f with
    | next =>
      obtain ⟨σ', H', J', q⟩ := hsp
      exact wpAny_execs_nil ⟨σ', H', J'.ofTry ok, q⟩
    | brk =>
      obtain ⟨σ', H', J', q⟩ := hsp
      exact ⟨σ', H', J'.ofTry ok, q⟩
    | cont =>
      obtain ⟨σ', H', J', q⟩ := hsp
      exact ⟨σ', H', J'.ofTry ok, q⟩
    | ret u =>
      obtain ⟨v, σ', H', J', r, q⟩ := hsp
      exact ⟨v, σ', H', J'.ofTry ok, r, q⟩
end
/-! ### the words -/
/-- of the program's error classes all stand directly under HourError -/
def xSub (c h : Str) : Bool := c == h || h == "HourError" || h == "ValueError" || h == "Exception"
def intFsOf : List (Str × D) → Option (List (Str × Int))
  | [] => some []
  | (f, .int i) :: r => (intFsOf r).map fun l => (f, i) :: l
  | _ :: _ => none
def setI (oi : Option Nat) (ρ : Rho) (d : D) : Rho := match oi with
  | none => ρ
  | some i => ρ.set i (some d)
def clearI (oi : Option Nat) (ρ : Rho) : Rho := match oi with
  | none => ρ
  | some i => ρ.set i none
def dropI (oi : Option Nat) : Out → Out
  | .nx ρ S => .nx (clearI oi ρ) S
  | .rt d S => .rt d S
  | .bk ρ S => .bk (clearI oi ρ) S
  | .ct ρ S => .ct (clearI oi ρ) S
  | .exc _ _ _ _ => .bad
  | .bad => .bad
def catchD (c : Str) (fs : List (Str × D)) (ns : List (Str × Int)) : List (Str × Option Nat × MS) → Rho → Sto → Out
  | [], ρ, S => .exc c fs ρ S
  | (h, oi, ms) :: r, ρ, S => if xSub c h = true then dropI oi (ms (setI oi ρ (.exn c ns)) S) else catchD c fs ns r ρ S
def mTry (cs : List Str) (hs : List (Str × Option Nat × MS)) (mb : MS) : MS := fun ρ S => match mb ρ S with
  | .exc c fs ρ1 S1 => match intFsOf fs with
    | some ns => if c ∈ cs then catchD c fs ns hs ρ1 S1 else .bad
    | none => .bad
  | o => o
/-- what the written part says of the classes that may be raised here -/
def SubOk (K : Frag) (mg : Str → Option Value) (cs : List Str) (x : Str) (v : Value) : Prop := ∀ c, c ∈ cs → ∃ Cc, mg c = some Cc ∧ PySem.W.exmOne K Cc v = some (xSub c x)
/-- the class x of a clause -/
structure TrOk (K : Frag) (mg : Str → Option Value) (cs : List Str) (x : Str) : Prop where
  ex : ∃ v : Value, mg x = some v ∧ SubOk K mg cs x v
/-- the classes are own error classes, of no plain type -/
structure PlOk (K : Frag) (mg : Str → Option Value) (cs : List Str) : Prop where
  ex : ∀ c, c ∈ cs → ∃ cls, mg c = some cls ∧ PlX K cls
inductive HdsD (X : Cx) (cs : List Str) : List ExceptHandler → List (Str × Option Nat × MS) → Prop
  | nil : HdsD X cs [] []
  | one {x : Str} {v : Value} {ms : MS} {b₀ : Stmt} {suite : List Stmt} {np pos' : Pos} {hds : List ExceptHandler} {l : List (Str × Option Nat × MS)} (hc : Names X x v) (sub : SubOk X.K X.mg cs x v)
      (hsu : ∀ (a : Addr) (pn : List (Addr × Obj)), Takes (X.suite a pn) W0 → DSs (X.suite a pn) W0 (b₀ :: suite) ms) (r : HdsD X cs hds l) : HdsD X cs (.ExceptHandler (some (.Name x np)) none (b₀ :: suite) pos' :: hds) ((x, none, ms) :: l)
  | as {x n : Str} {v : Value} (i : Nat) {ms : MS} {b₀ : Stmt} {suite : List Stmt} {np pos' : Pos} {hds : List ExceptHandler} {l : List (Str × Option Nat × MS)} (hc : Names X x v) (sub : SubOk X.K X.mg cs x v) (pl : PlOk X.K X.mg cs) (hi : X.N[i]? = some n) (hln : X.env.kindOf n = some .local)
      (hsu : ∀ (a : Addr) (pn : List (Addr × Obj)), Takes (X.suite a pn) W0 → DSs (X.suite a pn) W0 (b₀ :: suite) ms) (r : HdsD X cs hds l) : HdsD X cs (.ExceptHandler (some (.Name x np)) (some n) (b₀ :: suite) pos' :: hds) ((x, some i, ms) :: l)
theorem hds_one {X : Cx} {cs : List Str} {x : Str} {ms : MS} {b₀ : Stmt} {suite : List Stmt} {np pos' : Pos} {hds : List ExceptHandler} {l : List (Str × Option Nat × MS)} (T : TrOk X.K X.mg cs x)
    (hsu : ∀ (a : Addr) (pn : List (Addr × Obj)), Takes (X.suite a pn) W0 → DSs (X.suite a pn) W0 (b₀ :: suite) ms) (r : HdsD X cs hds l) (hg : Gl X x := by rfl) (hd : (x == ("__debug__" : Str)) = false := by decide) :
    HdsD X cs (.ExceptHandler (some (.Name x np)) none (b₀ :: suite) pos' :: hds) ((x, none, ms) :: l) :=
  let ⟨_, h1, h2⟩ := T; .one ⟨hg, hd, .inl h1⟩ h2 hsu r
theorem hds_as {X : Cx} {cs : List Str} (i : Nat) {x n : Str} {ms : MS} {b₀ : Stmt} {suite : List Stmt} {np pos' : Pos} {hds : List ExceptHandler} {l : List (Str × Option Nat × MS)} (T : TrOk X.K X.mg cs x) (P : PlOk X.K X.mg cs)
    (hsu : ∀ (a : Addr) (pn : List (Addr × Obj)), Takes (X.suite a pn) W0 → DSs (X.suite a pn) W0 (b₀ :: suite) ms) (r : HdsD X cs hds l) (hi : X.N[i]? = some n := by rfl) (hln : X.env.kindOf n = some .local := by rfl) (hg : Gl X x := by rfl) (hd : (x == ("__debug__" : Str)) = false := by decide) :
    HdsD X cs (.ExceptHandler (some (.Name x np)) (some n) (b₀ :: suite) pos' :: hds) ((x, some i, ms) :: l) :=
  let ⟨_, h1, h2⟩ := T; .as i ⟨hg, hd, .inl h1⟩ h2 P hi hln hsu r
section
variable {F : Fx} {μ : List Addr} {H : Hp}
theorem intFsOf_some : ∀ {fs : List (Str × D)} {ns : List (Str × Int)}, intFsOf fs = some ns → fs = ns.map fun p => (p.1, D.int p.2)
  | [], ns, e => by cases e; rfl
  | (f, d) :: r, ns, e => by
    cases d with
    | int i =>
      unfold intFsOf at e
      cases q : intFsOf r with
      | none => rw [q] at e; cases e
      | some l =>
        rw [q] at e
        cases e
        rw [List.map_cons, ← intFsOf_some q]
    | _ => cases e
theorem fsr_ints : ∀ {ns : List (Str × Int)} {vfs : List (Str × V)}, FsR F μ H vfs (ns.map fun p => (p.1, D.int p.2)) → vfs = intFs ns
  | [], _, h => by cases h; rfl
  | (f, i) :: r, [], h => by cases h
  | (f, i) :: r, (g, v) :: vfs, h => by
    cases h with
    | cons a b =>
      obtain ⟨h1, h2⟩ := a
      have h3 : g = f := h1
      have h4 : RD F μ H v (.int i) := h2
      clear h1 h2
      subst h3
      cases h4
      rw [fsr_ints b]
      rfl
theorem ws_drop {oi : Option Nat} {r : Out} {D : Ends} {W : WX} (h : WS' F (dropI oi r) D W μ H) : WS' F r (endsI oi D) W0 μ H := by
  cases r with
  | nx ρ S =>
    intro σ μ' H' u s g
    cases oi with
    | none => exact h σ μ' H' u s g
    | some i => exact h (σ.set i none) μ' H' u s (g.forget (σ' := σ) i)
  | rt d S =>
    intro v μ' H' u s g
    cases oi with
    | none => exact h v μ' H' u s g
    | some i => exact h v μ' H' u s g
  | bk ρ S =>
    intro σ μ' H' u s g
    cases oi with
    | none => exact h σ μ' H' u s g
    | some i => exact h (σ.set i none) μ' H' u s (g.forget (σ' := σ) i)
  | ct ρ S =>
    intro σ μ' H' u s g
    cases oi with
    | none => exact h σ μ' H' u s g
    | some i => exact h (σ.set i none) μ' H' u s (g.forget (σ' := σ) i)
  | exc c fs ρ S => exact h.elim
  | bad => exact h
theorem takes_w0 {X : Cx} : Takes X W0 := fun _ _ ⟨_, _, _, _, _, _, _, _, _, _, _, _, _, _, _, _, w⟩ => w.elim
/-- one reading for all contexts of a family -/
theorem dss_all {ι : Type} {Xf : ι → Cx} {body : List Stmt} {m : MS} {K : Frag} {mg : Str → Option Value} {w : World} {W : WX} (hK : ∀ i, (Xf i).K = K) (hg : ∀ i, ((Xf i).mg, (Xf i).w) = (mg, w)) (h : ∀ i, DSs (Xf i) W body m) :
    ∃ ts : TS, (∀ i, PSs (Xf i) body ts) ∧ ∀ ξ μ σ H ρ S D, RG ⟨K, mg, ξ, w⟩ μ H σ ρ → RS ⟨K, mg, ξ, w⟩ μ H S → WS' ⟨K, mg, ξ, w⟩ (m ρ S) D W μ H → ts D σ H := by
  refine ⟨fun D σ H => ∀ i, ∃ ts, PSs (Xf i) body ts ∧ ts D σ H, fun i => ⟨fun pins s σ H D I hw => ?_⟩, fun ξ μ σ H ρ S D g s hw i => ?_⟩
  · obtain ⟨ts, p, q⟩ := hw i
    exact p.run pins s σ H D I q
  · obtain ⟨ts, p, k⟩ := h i
    refine ⟨ts, p, k ξ μ σ H ρ S D ?_ ?_ ?_⟩
    all_goals (rw [fx_fam hK hg]; assumption)
theorem catch_read {X : Cx} {cs : List Str} {hds : List ExceptHandler} {l : List (Str × Option Nat × MS)} {W : WX} (hh : HdsD X cs hds l) :
    ∃ L : List (Value × Option Nat × TS), HdsV X hds L ∧ ∀ ξ μ σ H ρ S c ns cls dd En, c ∈ cs → RS (fx X ξ) μ H S → RG (fx X ξ) μ H σ ρ → XR (fx X ξ) μ H cls dd c (ns.map fun p => (p.1, D.int p.2)) →
      WS' (fx X ξ) (catchD c (ns.map fun p => (p.1, D.int p.2)) ns l ρ S) En W μ H → wTry X.K W En L cls dd σ H := by
  induction hh with
  | nil =>
    refine ⟨[], .nil, fun ξ μ σ H ρ S c ns cls dd D hc s g x h => ?_⟩
    exact h cls dd σ μ H .refl s g x
  | @one x v ms b₀ suite np pos' hds l hc sub hsu r ih =>
    obtain ⟨L, hL, kL⟩ := ih
    obtain ⟨ts, pts, kts⟩ := dss_all (Xf := fun i : Addr × List (Addr × Obj) => X.suite i.1 i.2) (K := X.K) (mg := X.mg) (W := W0) (fun _ => rfl) (fun _ => rfl) fun i => hsu i.1 i.2 takes_w0
    refine ⟨(v, none, ts) :: L, .one hc (fun a pn => pts (a, pn)) hL, fun ξ μ σ H ρ S c ns cls dd D hm s g x h => ?_⟩
    obtain ⟨Cc, e1, e2⟩ := sub c hm
    obtain rfl : Cc = cls := Option.some.inj (e1.symm.trans x.1)
    refine ⟨_, e2, fun e a na => ?_, fun e => ?_⟩
    · unfold catchD at h
      rw [if_pos e] at h
      have u : Up μ H μ (upd H a (ExV Cc dd a)) := .fresh na
      refine kts ξ μ _ _ _ S _ (g.up u) (s.fresh na) (ws_drop (WS'.shift u h))
    · unfold catchD at h
      rw [if_neg (by rw [e]; exact Bool.false_ne_true)] at h
      exact kL ξ μ σ H ρ S c ns Cc dd D hm s g x h
  | @as x n v i ms b₀ suite np pos' hds l hc sub pl hi hln hsu r ih =>
    obtain ⟨L, hL, kL⟩ := ih
    obtain ⟨ts, pts, kts⟩ := dss_all (Xf := fun i : Addr × List (Addr × Obj) => X.suite i.1 i.2) (K := X.K) (mg := X.mg) (W := W0) (fun _ => rfl) (fun _ => rfl) fun i => hsu i.1 i.2 takes_w0
    refine ⟨(v, some i, ts) :: L, .as hc hi hln (fun a pn => pts (a, pn)) hL, fun ξ μ σ H ρ S c ns cls dd D hm s g x h => ?_⟩
    obtain ⟨Cc, e1, e2⟩ := sub c hm
    obtain rfl : Cc = cls := Option.some.inj (e1.symm.trans x.1)
    refine ⟨_, e2, fun e a na => ?_, fun e => ?_⟩
    · unfold catchD at h
      rw [if_pos e] at h
      have u : Up μ H μ (upd H a (ExV Cc dd a)) := .fresh na
      have rv : RD (fx X ξ) μ (upd H a (ExV Cc dd a)) (.ref a) (.exn c ns) := by
        obtain ⟨cl2, e3, e4⟩ := pl.ex c hm
        obtain rfl : cl2 = Cc := Option.some.inj (e3.symm.trans e1)
        refine .exn ⟨cl2, dd, ⟨e1, e4⟩, ⟨upd_same, s.out na, s.outX na⟩, ?_⟩
        rcases x.2 with ⟨z1, z2⟩ | ⟨d, vfs, z1, z2, z3, z4, z5⟩
        · refine .inl ⟨?_, z2⟩
          cases ns with
          | nil => rfl
          | cons p ns => cases z1
        · refine .inr ⟨d, _, z1, ?_, .inr rfl, z3, z4⟩
          rw [upd_ne (ne_of_none z2 na), z2, fsr_ints z5]
      refine kts ξ μ _ _ _ S _ ((g.up u).set i rv) (s.fresh na) (ws_drop (WS'.shift u h))
    · unfold catchD at h
      rw [if_neg (by rw [e]; exact Bool.false_ne_true)] at h
      exact kL ξ μ σ H ρ S c ns Cc dd D hm s g x h
end
section
variable {X : Cx} {W : WX} {e : Expr} {body : List Stmt} {h₀ : ExceptHandler} {hds : List ExceptHandler} {l : List (Str × Option Nat × MS)} {pos : Pos} {mb : MS} {m : ME}
theorem ds_try {cs : List Str} (hN : X.N.Nodup) (tk : Takes X W) (hb : ∀ (W : WX) (pn : List (Addr × Obj)) (xe : Value → Shared → Prop), Takes (X.tr pn xe) W → DSs (X.tr pn xe) W body mb)
    (hh : HdsD X cs (h₀ :: hds) l) (hs : X.stack = X.env :: X.outer := by rfl) (hf : X.env.frame = some X.env.locals := by rfl) (hx : X.ex = [] := by rfl) : DS X W (.Try body (h₀ :: hds) [] [] pos) (mTry cs l mb) := by
  obtain ⟨L, hL, kL⟩ := catch_read (W := W) hh
  have hbody : ∀ W' : WX, ∃ ts : TS, (∀ i : { p : List (Addr × Obj) × (Value → Shared → Prop) // Takes (X.tr p.1 p.2) W' }, PSs (X.tr i.1.1 i.1.2) body ts) ∧ ∀ ξ μ σ H ρ S D, RG (fx X ξ) μ H σ ρ → RS (fx X ξ) μ H S → WS' (fx X ξ) (mb ρ S) D W' μ H → ts D σ H :=
    fun W' => dss_all (Xf := fun i : { p : List (Addr × Obj) × (Value → Shared → Prop) // Takes (X.tr p.1 p.2) W' } => X.tr i.1.1 i.1.2) (K := X.K) (mg := X.mg) (W := W') (fun _ => rfl) (fun _ => rfl) fun i => hb W' i.1.1 i.1.2 i.2
  refine ⟨_, ps_tryV (tb := fun W' => Classical.choose (hbody W')) (Wout := W) hx hs hf hN tk (fun W' pn xe tk' _ => (Classical.choose_spec (hbody W')).1 ⟨(pn, xe), tk'⟩) hL, fun ξ μ σ H ρ S D g s h => ?_⟩
  refine (Classical.choose_spec (hbody _)).2 ξ μ σ H ρ S D g s ?_
  unfold mTry at h
  cases q : mb ρ S with
  | nx ρ1 S1 => rw [q] at h; exact h
  | rt d S1 => rw [q] at h; exact h
  | bk ρ1 S1 => rw [q] at h; exact h
  | ct ρ1 S1 => rw [q] at h; exact h
  | bad => rw [q] at h; exact h.elim
  | exc c fs ρ1 S1 =>
    rw [q] at h
    simp only at h
    cases e : intFsOf fs with
    | none => rw [e] at h; exact h.elim
    | some ns =>
      rw [e] at h
      simp only at h
      by_cases hc : c ∈ cs
      · rw [if_pos hc] at h
        rw [intFsOf_some e] at h ⊢
        intro cls dd σ1 μ1 H1 u1 s1 g1 x1
        exact kL ξ μ1 σ1 H1 ρ1 S1 c ns cls dd D hc s1 g1 x1 (WS'.shift u1 h)
      · rw [if_neg hc] at h
        exact h.elim
end
end Dm
-- text DmRaise
/-! raise X(e, ..) of a class with its own __init__; e.f; isinstance(e, X) -/
namespace Dm
open PySem L2 PySem.Spec PyProof.Rows
open PySem.W (Frag)
theorem _root_.L2.Room.u66 {k : Nat} {A : Around} (r : L2.Room k A) : A.units + 66 < cLine := by
  have := r.un
  omega
/-! ### H.__init__(self, ..), H a class of the program over ValueError -/
structure HiOk (K : Frag) (mg : Str → Option Value) (h : Str) : Prop where
  ex : ∃ (D : Addr) (mc : Value), mg h = some (.ref D) ∧ PySem.W.readsIn K D mc = true ∧ PySem.W.specialIn K (.ref D) "__getattribute__" = some (some (.builtin "type.__getattribute__")) ∧ PySem.W.findCls K (.ref D) mc "__init__" = some (.val (.builtin "ValueError.__init__"))
section
variable {X : Cx} {e : Expr} {es : List Expr} {ta : TA} {f h : Str} {p p' p1 p2 pos : Pos}
theorem pe_hinit {pl : Sem Bool} (hg : Gl X h) (T : HiOk X.K X.mg h) (ha : PA X (e :: es) ta) (hdb : (h == ("__debug__" : Str)) = false := by decide)
    (hc : eval (.Call (.Attribute (.Name h p1) "__init__" p2) (e :: es) [] pos) X.env = (do
      let ov ← eval (.Name h p1) X.env
      standAt p2.atName
      let (f, first) ← holding [ov] (getMethod ov "__init__" pl)
      callWith pos f first (backTo pos (starEach (e :: es) X.env)) (backToKw pos (keywordEach [] X.env))) := by rfl)
    (he : starEach (e :: es) X.env = (false, eval e X.env) :: starEach es X.env := by rfl) (hpl : (backTo pos (starEach es X.env)).any (·.1) = false := by rfl) :
    PE X (.Call (.Attribute (.Name h p1) "__init__" p2) (e :: es) [] pos) (tVeI X.K ta) := by
  obtain ⟨D, mc, hm, hr, hga, hv⟩ := T
  refine ⟨fun pins s σ H Q I h => ?_⟩
  refine PySem.W.methodCall_KW (ld_glob I hg hm ?_ hdb) hc
  refine PySem.W.method_cls I.kIn hga (PySem.W.cls_value I.kIn hr hv (by decide +kernel) ?_)
  show wpAny _ _ (callWith pos (Value.builtin "ValueError.__init__") [] (backTo pos (starEach (e :: es) X.env)) []) _ _ _
  refine PyProof.Rows.callWith_method1 (thn (ha.run pos pins _ σ H _ (I.tok _) h) fun us s1 ⟨vs, H1, I1, r1, a, C, ws, ev, hl, T, ea, q⟩ => ?_) he hpl
  subst ev
  cases r1 with
  | @cons _ u0 _ ur ra rw' =>
    obtain rfl : u0 = Value.ref a := ra
    have hlen : ur.length ≤ sizeLine := by
      rw [← Paired.length rw', sizeLine_eq]
      omega
    exact oinit_ok T I1 ea hlen fun s' J => ⟨.non, H1, J, rfl, q⟩
end
/-! ### the class's own __init__ -/
def spInit (K : Frag) (C : Addr) (ns : List Str) : Sp := fun vs H Q E => ∃ a ys, vs = .ref a :: ys ∧ ys.length = ns.length ∧ H a = some (exo a C none) ∧
  ∀ H' d, H d = none → d ≠ a → H' a = some (exo a C (some d)) → H' d = some (exd d (ns.zip ys).reverse) → (∀ b, b ≠ a → b ≠ d → H' b = H b) → Q .non H'
def tInit1 (K : Frag) (f msg : Str) : TS := tSeq (tDrop (tVeI K (tCons (tVar 0) (tCons (tC (.str msg)) tNil)))) (tOst K f (tVar 0) (tVar 1))
structure XiOk (P : Program) (w : World) (K : Frag) (mg : Str → Option Value) (base : Heap) (k : Nat) (x : Str) (ns : List Str) : Prop where
  ex : ∃ (C fI : Addr) (fd : FuncData) (ps : List Str), mg x = some (.ref C) ∧ OexC K C ∧ PySem.W.findIn K (.ref C) "__init__" = some (some (.ref fI)) ∧ PySem.W.typeIn K (.ref fI) = some (.type "function") ∧ Binds K fd ps [] ∧
    FnOk P w K mg base (L2.CX P w) k fI fd ps (spInit K C ns)
section
variable {P : Program} {w : World} {K : Frag} {mg : Str → Option Value} {base : Heap} {C fI : Addr} {fd : FuncData} {x f g msg qual : Str} {st : Stmt}
theorem xi_mk1 (hm : mg x = some (.ref C)) (T : OexC K C) (iC : PySem.W.findIn K (.ref C) "__init__" = some (some (.ref fI))) (tI : PySem.W.typeIn K (.ref fI) = some (.type "function")) (F : Fun K "__init__" qual st fI fd) (B : Binds K fd ["self", f] [])
    (S : FnScope ["self", f] ["self", f] (defScope st)) (hno : PySem.W.findIn K (.ref C) f = some none)
    (hb : ∀ (cdv : Value) (A : Around) (outer : List Env) (s : Shared) (H : Hp) (E : XK), PSs (cxOf (L2.CX P w) P w K mg base ["self", f] qual (defScope st) fI cdv A outer s H E) (defBody st) (tInit1 K f msg)) : XiOk P w K mg base 1 x [f] := by
  refine ⟨C, fI, fd, _, hm, T, iC, tI, B, F.okX S (fun vs H Q E h => ?_) (fun cdv A outer s H vs Q E hr h => ?_)⟩
  · obtain ⟨a, ys, rfl, hl, _⟩ := h
    simp at hl
    simp [hl]
  · obtain ⟨a, ys, rfl, hl, ha, hq⟩ := h
    match ys, hl with
    | [y], _ =>
      refine ⟨_, hb cdv A outer s H E, ?_⟩
      refine ⟨.ref a, rfl, ?_⟩
      refine ⟨a, C, [.str msg], rfl, (by simp), T, ha, ?_⟩
      refine ⟨y, rfl, .ref a, rfl, a, C, rfl, T, hno, .inl ⟨ha, fun dx n ne => ?_⟩⟩
      refine hq _ dx n ne upd_same ?_ fun b h1 h2 => ?_
      · rw [upd_ne ne, upd_same]; rfl
      · rw [upd_ne h1, upd_ne h2]
end
def mRaiseX (c : Str) (ns : List Str) (ma : MA) : MS := fun ρ S => ofRes (ma ρ S) ρ fun ds S1 => if ds.length = ns.length then .exc c (ns.zip ds).reverse ρ S1 else .bad
theorem paired_zip {α β γ : Type} {R : α → β → Prop} : ∀ {ns : List γ} {xs : List α} {ys : List β}, Paired R xs ys → Paired (fun p q => p.1 = q.1 ∧ R p.2 q.2) (ns.zip xs) (ns.zip ys)
  | [], _, _, _ => by simp; exact .nil
  | _ :: _, [], _, h => by cases h; simp; exact .nil
  | n :: ns, x :: xs, _, h => by
    cases h with
    | cons a b =>
      simp only [List.zip_cons_cons]
      exact .cons ⟨rfl, a⟩ (paired_zip b)
theorem paired_append {α β : Type} {R : α → β → Prop} : ∀ {xs xs' : List α} {ys ys' : List β}, Paired R xs ys → Paired R xs' ys' → Paired R (xs ++ xs') (ys ++ ys')
  | [], _, _, _, h, k => by cases h; exact k
  | _ :: _, _, _, _, h, k => by
    cases h with
    | cons a b => exact .cons a (paired_append b k)
theorem paired_reverse {α β : Type} {R : α → β → Prop} : ∀ {xs : List α} {ys : List β}, Paired R xs ys → Paired R xs.reverse ys.reverse
  | [], _, h => by cases h; exact .nil
  | _ :: _, _, h => by
    cases h with
    | cons a b =>
      rw [List.reverse_cons, List.reverse_cons]
      exact paired_append (paired_reverse b) (.cons a .nil)
theorem rds_pairX {F : Fx} {μ : List Addr} {H : Hp} : ∀ {vs : List V} {ds : List D}, RDs F μ H vs ds → Paired (fun v d => RD F μ H v d) vs ds
  | _, [], h => by cases h; exact .nil
  | _, d :: ds, h => by
    cases h with
    | cons a b => exact .cons a (rds_pairX b)
section
variable {X : Cx} {W : WX} {e : Expr} {es : List Expr} {mr : MA} {m : ME} {p p1 p2 pos pos2 : Pos}
theorem ds_raiseX {j k : Nat} {x : Str} {ns : List Str} (C : XiOk X.prog X.w X.K X.mg X.base j x ns) (hc : X.calm = true) (hr : Room k X.A) (tk : Takes X W) (ha : DA X W (e :: es) mr) (hj : j + 1 ≤ k := by decide) (hn : ns.length ≤ 1000 := by decide) (hg : Gl X x := by rfl) (hdb : (x == ("__debug__" : Str)) = false := by decide)
    (he : starEach (e :: es) X.env = (false, eval e X.env) :: starEach es X.env := by rfl) (hpl : (backTo pos (starEach es X.env)).any (·.1) = false := by rfl) :
    DS X W (.Raise (some (.Call (.Name x p) (e :: es) [] pos)) none pos2) (mRaiseX x ns mr) := by
  obtain ⟨C, fI, fd, ps, hm, T, iC, tI, B, F⟩ := C
  obtain ⟨ta, pa, ka⟩ := ha
  refine ⟨_, ps_raise hc tk (pmk_oex (dvs := []) T iC tI F (hr.mono hj) B .nil (fun _ _ _ _ _ _ _ h => (let ⟨_, _, _, _, _, _, _, _, _, _, _, _, z⟩ := h; z.elim)) hg hm pa hdb he hpl), fun ξ μ σ H ρ S D g s h => ka ξ μ σ H ρ S _ g s (WS'.bind g h fun ds S1 vs μ1 H1 u1 s1 r1 h1 => ?_)⟩
  by_cases c : ds.length = ns.length
  · rw [if_pos c] at h1
    have hl := r1.length
    rw [List.append_nil]
    refine ⟨by rw [hl, c]; exact hn, fun a na => ⟨a, vs, rfl, by rw [hl, c], upd_same, fun H' d hd da e1 e2 e3 => ⟨rfl, d, _, e1, e2, ?_, ?_⟩⟩⟩
    · rw [upd_ne da] at hd; exact hd
    · rw [upd_ne da] at hd
      have eq : upd (L2.del H' a) d (.xd (ns.zip vs).reverse) = upd H1 d (.xd (ns.zip vs).reverse) := by
        funext b
        by_cases hb : b = d
        · rw [hb, upd_same, upd_same]
        · rw [upd_ne hb, upd_ne hb]
          by_cases ha : b = a
          · rw [ha, del_same, na]
          · rw [del_ne ha, e3 b ha hb, upd_ne ha]
      rw [eq]
      exact h1 _ _ σ μ1 _ (.fresh hd) (s1.fresh hd) ((g.up u1).up (.fresh hd)) ⟨hm, .inr ⟨d, _, rfl, upd_same, s1.out hd, s1.outX hd, paired_reverse (paired_zip (rds_pairX (r1.up (Up.fresh hd))))⟩⟩
  · rw [if_neg c] at h1; exact h1.elim
/-! ### e.f -/
def gXf (c f : Str) (_ : Sto) : D → Option D
  | .exn c' fs => if c' = c then (fs.lookup f).map D.int else none
  | _ => none
def tXfV (C : Addr) (f : Str) (te : TE) : TE := fun σ H Q => te σ H fun x H1 => ∃ (a dd : Addr) (fs : List (Str × V)) (v : V), x = .ref a ∧ H1 a = some (ExV (.ref C) (some dd) a) ∧ H1 dd = some (.xd fs) ∧ fs.lookup f = some v ∧ Q v H1
theorem pe_xfV {C : Addr} {te : TE} {n : Str} (T : XfC X.K C) (hno : PySem.W.findIn X.K (.ref C) n = some none) (he : PE X e te) (hb : attributeBase e n X.env (eval e X.env) = eval e X.env := by rfl) :
    PE X (.Attribute e n pos) (tXfV C n te) := by
  refine ⟨fun pins s σ H Q I h => ?_⟩
  refine attr_of hb (thn (he.run pins s σ H _ I h) fun u s1 hh => ?_)
  obtain ⟨x, H1, I1, rx, a, dd, fs, v, ex, ea, ed, l, q⟩ := hh
  subst ex
  obtain rfl : u = Value.ref a := rx
  have xa : ObjOk X.prog X.w H1 s1.heap a (.ext fun h => ∃ (oe : Obj) (vs : Array Value), h.get? a = some oe ∧ Zc (.ref C) (some dd) oe ∧ oe.data = .fields vs) := I1.hok a _ ea
  obtain ⟨oe, vs, ha, hz, hd⟩ := xa.1
  have hx : ObjOk X.prog X.w H1 s1.heap dd (.xd fs) := I1.hok dd _ ed
  obtain ⟨mA, hns, hr⟩ := hx
  obtain ⟨od, ho, hl⟩ := lookIn_ns hns
  obtain ⟨u, hu, ru⟩ := RelO.some_of (v := v) (o := mA n) (by rw [← l]; exact hr n)
  have J : PySem.W.InstAt s1.heap a oe C (some od) := ⟨ha, hz.1, by unfold PySem.W.notCls; rw [hd] <;> rfl, by rw [hz.2]; exact ho⟩
  exact HandSPX.exc_get I1.kIn J T.ga T.gg T.exC (PySem.W.findObj_own T.hdC hno rfl (by rw [hl, hu])) (handed_of ru) ⟨v, H1, I1.tok _, ru, q⟩
structure XfOk (K : Frag) (mg : Str → Option Value) (c f : Str) : Prop where
  ex : ∃ C : Addr, mg c = some (.ref C) ∧ XfC K C ∧ PySem.W.findIn K (.ref C) f = some none
theorem lookup_ints {f : Str} {i : Int} : ∀ {fs : List (Str × Int)}, fs.lookup f = some i → (intFs fs).lookup f = some (.int i)
  | [], h => by simp at h
  | (g, j) :: fs, h => by
    show List.lookup f ((g, V.int j) :: intFs fs) = _
    rw [List.lookup_cons] at h ⊢
    by_cases e : (f == g) = true
    · rw [e] at h ⊢
      simp at h ⊢
      exact h
    · have e' : (f == g) = false := by simpa using e
      rw [e'] at h ⊢
      exact lookup_ints h
theorem d_xf {c n : Str} (T : XfOk X.K X.mg c n) (ha : DE X W e m) (hb : attributeBase e n X.env (eval e X.env) = eval e X.env := by rfl) : DE X W (.Attribute e n pos) (mUn (gXf c n) m) := by
  obtain ⟨C, h1, h2, h3⟩ := T
  obtain ⟨ta, pa, ka⟩ := ha
  refine ⟨_, pe_xfV h2 h3 pa hb, fun ξ μ σ H ρ S Q g s h => ka ξ μ σ H ρ S _ g s (WR.bind h fun x S1 v μ1 H1 u1 s1 r1 w1 => ?_)⟩
  cases r1 with
  | @exn a c' ns z =>
    simp only [gXf] at w1
    by_cases e : c' = c
    · subst e
      rw [if_pos rfl] at w1
      cases q : ns.lookup n with
      | none => rw [q] at w1; exact w1.elim
      | some i =>
        rw [q] at w1
        obtain ⟨cls, dd, ⟨e1, _⟩, ⟨e2, e3, e4⟩, e5⟩ := z
        have ec : cls = .ref C := Option.some.inj (e1.symm.trans h1)
        subst ec
        rcases e5 with ⟨z1, _⟩ | ⟨d, fs, z1, z2, hf, z3, z4⟩
        · subst z1
          simp at q
        · subst z1
          obtain rfl : fs = intFs ns := hf.resolve_left fun e => by subst e; simp at q
          exact ⟨a, d, _, _, rfl, e2, z2, lookup_ints q, w1 _ μ1 H1 .refl s1 (.int i)⟩
    · rw [if_neg e] at w1; exact w1.elim
  | _ => exact w1.elim
end
/-! ### isinstance(e, X) -/
/-! ### X(e, ..) as a value -/
def newFs (ns : List Str) (ds : List D) : List (Str × Int) := (intFsOf (ns.zip ds).reverse).getD []
def mNewX (c : Str) (ns : List Str) (ma : MA) : ME := fun ρ S => (ma ρ S).bind fun ds S1 => if ds.length = ns.length then .ok (.exn c (newFs ns ds)) S1 else .bad
def mNew0 (c : Str) : ME := fun _ S => .ok (.exn c []) S
section
variable {S : Sto} {ρ : Rho} {E : EX} {Q : D → Sto → Prop}
@[simp] theorem does_new0 {c : Str} : (mNew0 c ρ S).DoesE E Q = Q (.exn c []) S := rfl
@[simp] theorem does_newX {c : Str} {ns : List Str} {ma : MA} : (mNewX c ns ma ρ S).DoesE E Q = (ma ρ S).DoesE E fun ds S1 => ds.length = ns.length ∧ Q (.exn c (newFs ns ds)) S1 := by
  unfold mNewX
  rw [does_bind]; congr 1; funext ds S1
  by_cases h : ds.length = ns.length
  · rw [if_pos h]; simp [h]
  · rw [if_neg h]; simp [h, Res.DoesE]
end
end Dm
-- text Hw8
namespace Dm
open PySem L2
noncomputable section
def m_is_world : List D → Sto → Res D := mDef 2 5 (mSeq (mDrop (mCall m_need_zones (mCons (mVar 0) mNil))) (mSeq (mIfS (mOr (mNot (mIsi .tup (mVar 1))) (mOp gNe (mCallB gLen (mCons (mVar 1) mNil)) (mK (.int 2)))) (mRet (mK (.bl false))) mNop) (mSeq (mForA (mVar 1) (tgN 2) (mSeq (mIfS (mOr (mNot (mIsi .tup (mVar 2))) (mOp gNe (mCallB gLen (mCons (mVar 2) mNil)) (mCallB gLen (mCons (mVar 0) mNil)))) (mRet (mK (.bl false))) mNop) (mIfS (mNot (mCallB gAll (mCons (mFz (mLc (iEnumS (mVar 0)) (tgU 2 (tgCons (tgN 3) (tgCons (tgN 4) tgNil))) mYes (mCall m_is_table (mCons (mVar 4) (mCons (mOp gIx (mVar 2) (mVar 3)) mNil))) [3, 4])) mNil))) (mRet (mK (.bl false))) mNop))) (mRet (mK (.bl true))))))
def m_need_world : List D → Sto → Res D := mDef 2 2 (mIfS (mNot (mCall m_is_world (mCons (mVar 0) (mCons (mVar 1) mNil)))) (mRaise "InvalidWorld") mNop)
def m_asked_moments : List D → Sto → Res D := mDef 3 5 (mSeq (mAsg 3 (mOp gIx (mVar 2) (mOp gIx (mVar 1) (mK (.int 1))))) (mSeq (mIfS (mOr (mOp gEq (mOp gIx (mVar 1) (mK (.int 0))) (mK (.str "read"))) (mOp gEq (mOp gIx (mVar 1) (mK (.int 0))) (mK (.str "offset")))) (mRet (mFz (mLst (mCons (mVar 3) mNil)))) mNop) (mSeq (mIfS (mOp gEq (mOp gIx (mVar 1) (mK (.int 0))) (mK (.str "find"))) (mRet (mFz (mLcA (mBackA (mOp gIx (mOp gIx (mVar 0) (mOp gIx (mVar 1) (mK (.int 2)))) (mK (.int 0)))) (tgN 4) mYes (mOp gSub (mVar 3) (mVar 4)) [4]))) mNop) (mSeq (mIfS (mOp gEq (mOp gIx (mVar 1) (mK (.int 0))) (mK (.str "edition"))) (mRet (mFz (mLst (mCons (mOp gSub (mVar 3) (mK (.int 1))) mNil)))) mNop) (mRet (mFz (mLst mNil)))))))
def m_value_made : List D → Sto → Res D := mDef 4 5 (mSeq (mAsg 4 (mOp gIx (mVar 2) (mOp gIx (mVar 1) (mK (.int 1))))) (mSeq (mIfS (mOp gEq (mOp gIx (mVar 1) (mK (.int 0))) (mK (.str "read"))) (mRet (mOp gAdd (mVar 4) (mOp gDIx (mVar 3) (mVar 4)))) mNop) (mSeq (mIfS (mOp gEq (mOp gIx (mVar 1) (mK (.int 0))) (mK (.str "offset"))) (mRet (mOp gDIx (mVar 3) (mVar 4))) mNop) (mSeq (mIfS (mOp gEq (mOp gIx (mVar 1) (mK (.int 0))) (mK (.str "find"))) (mRet (mCall m_found_by (mCons (mOp gIx (mOp gIx (mVar 0) (mOp gIx (mVar 1) (mK (.int 2)))) (mK (.int 0))) (mCons (mVar 3) (mCons (mVar 4) (mCons (mOp gIx (mVar 1) (mK (.int 3))) (mCons (mOp gIx (mVar 1) (mK (.int 4))) mNil))))))) mNop) (mSeq (mIfS (mOp gEq (mOp gIx (mVar 1) (mK (.int 0))) (mK (.str "edition"))) (mRet (mVar 4)) mNop) (mSeq (mIfS (mOp gEq (mOp gIx (mVar 1) (mK (.int 0))) (mK (.str "plus"))) (mRet (mOp gAdd (mVar 4) (mOp gIx (mVar 2) (mOp gIx (mVar 1) (mK (.int 2)))))) mNop) (mSeq (mIfS (mOp gEq (mOp gIx (mVar 1) (mK (.int 0))) (mK (.str "less"))) (mRet (mOp gSub (mVar 4) (mOp gIx (mVar 2) (mOp gIx (mVar 1) (mK (.int 2)))))) mNop) (mRet (mOp gAdd (mVar 4) (mOp gIx (mVar 1) (mK (.int 2))))))))))))
def m_table_ahead : List D → Sto → Res D := mDef 2 3 (mRet (mTup (mCons (mOp gIx (mVar 0) (mK (.int 0))) (mCons (mFz (mLcA (mOp gIx (mVar 0) (mK (.int 1))) (tgN 2) (mOp gLt (mOp gIx (mVar 2) (mK (.int 0))) (mVar 1)) (mVar 2) [2])) mNil))))
def m_run : List D → Sto → Res D := mDef 4 13 (mSeq (mDrop (mCall m_need_zones (mCons (mVar 0) mNil))) (mSeq (mDrop (mCall m_need_program (mCons (mVar 0) (mCons (mVar 1) mNil)))) (mSeq (mDrop (mCall m_need_world (mCons (mVar 0) (mCons (mVar 2) mNil)))) (mSeq (mDrop (mCall m_need_number (mCons (mVar 3) mNil))) (mSeq (mAsg 4 (mNew (mCallBL gList (mCons (mOp gIx (mVar 2) (mK (.int 0))) mNil)))) (mSeq (mAsg 5 (mNew (mLst (mCons (mVar 3) mNil)))) (mSeq (mFor (iEnumS (mVar 1)) (tgU 2 (tgCons (tgN 6) (tgCons (tgN 7) tgNil))) (mSeq (mIfS (mOp gEq (mOp gIx (mVar 7) (mK (.int 0))) (mK (.str "edition"))) (mSeq (mPar 8 9 (mCons (mOp gIx (mVar 5) (mOp gIx (mVar 7) (mK (.int 1)))) (mCons (mOp gIx (mVar 7) (mK (.int 2))) mNil))) (mSeq (mIfS (mOp gNe (mCall m_table_ahead (mCons (mOp gIx (mVar 4) (mVar 9)) (mCons (mVar 8) mNil))) (mCall m_table_ahead (mCons (mOp gIx (mOp gIx (mVar 2) (mK (.int 1))) (mVar 9)) (mCons (mVar 8) mNil)))) (mRaise "Unsuited") mNop) (mSetIx (mOp gIx (mOp gIx (mVar 2) (mK (.int 1))) (mVar 9)) (mVar 4) (mVar 9)))) mNop) (mSeq (mAsg 10 mDNew) (mSeq (mForA (mCall m_asked_moments (mCons (mVar 0) (mCons (mVar 7) (mCons (mVar 5) mNil)))) (tgN 11) (mSetDx (mCall m_offset_in (mCons (mOp gIx (mVar 4) (mOp gIx (mVar 7) (mK (.int 2)))) (mCons (mVar 11) mNil))) (mVar 10) (mVar 11))) (mSeq (mAsg 12 (mCall m_value_made (mCons (mVar 0) (mCons (mVar 7) (mCons (mVar 5) (mCons (mVar 10) mNil)))))) (mSeq (mIfS (mOp (gIsN false) (mVar 12) (mK .non)) (mRaiseX "Refused" ["step"] (mCons (mVar 6) mNil)) mNop) (mApp (mVar 5) (mVar 12)))))))) (mRet (mVar 5)))))))))
def m_law_next_words : List D → Sto → Res D := mDef 2 3 (mSeq (mAsg 2 (mFz (mCatL (mCatL (mLst (mCons (mK (.str "add")) mNil)) (mRepL (mLst (mCons (mK (.str "plus")) mNil)) (mCallB gInt1 (mCons (mOp (gIn false) (mK (.str "span")) (mVar 0)) mNil)))) (mRepL (mLst (mCons (mK (.str "less")) mNil)) (mCallB gInt1 (mCons (mAnd (mOp (gIn false) (mK (.str "span")) (mVar 0)) (mOp (gIn false) (mK (.str "reading")) (mVar 0))) mNil)))))) (mSeq (mIfS (mOp gGt (mOp gIx (mVar 1) (mK (.int 0))) (mK (.int 0))) (mSeq (mAsg 2 (mFz (mCatL (mCatV (mVar 2) (mLst (mCons (mK (.str "add")) (mCons (mK (.str "add")) (mCons (mK (.str "read")) (mCons (mK (.str "read")) (mCons (mK (.str "read")) (mCons (mK (.str "offset")) mNil)))))))) (mRepL (mLst (mCons (mK (.str "edition")) mNil)) (mCallB gMin2 (mCons (mK (.int 2)) (mCons (mOp gIx (mVar 1) (mK (.int 2))) mNil))))))) (mAsg 2 (mFz (mCatV (mVar 2) (mRepL (mLst (mCons (mK (.str "find")) mNil)) (mCallB gInt1 (mCons (mOp gMul (mK (.int 9)) (mCallB gInt1 (mCons (mAnd (mOp gGt (mOp gIx (mVar 1) (mK (.int 1))) (mK (.int 0))) (mOp (gIn false) (mK (.str "reading")) (mVar 0))) mNil))) mNil))))))) mNop) (mRet (mVar 2))))
def m_law_any_deed : List D → Sto → Res D := mDef 4 7 (mSeq (mAsg 4 (mCall m_law_next_words (mCons (mVar 2) (mCons (mVar 3) mNil)))) (mSeq (mAsg 5 (mOp gIx (mVar 4) (mCall m_law_pick (mCons (mVar 0) (mCons (mCallB gLen (mCons (mVar 4) mNil)) mNil))))) (mSeq (mIfS (mOp gEq (mVar 5) (mK (.str "add"))) (mRet (mTup (mCons (mK (.str "add")) (mCons (mCall m_law_spot (mCons (mVar 0) (mCons (mVar 2) (mCons (mK (.str "point")) mNil)))) (mCons (mCall m_law_minutes (mCons (mVar 0) (mCons (mVar 1) (mCons (mOp gIx (mVar 3) (mK (.int 3))) mNil)))) mNil))))) mNop) (mSeq (mIfS (mOp gEq (mVar 5) (mK (.str "plus"))) (mRet (mTup (mCons (mK (.str "plus")) (mCons (mCall m_law_spot (mCons (mVar 0) (mCons (mVar 2) (mCons (mK (.str "moment")) mNil)))) (mCons (mCall m_law_spot (mCons (mVar 0) (mCons (mVar 2) (mCons (mK (.str "span")) mNil)))) mNil))))) mNop) (mSeq (mIfS (mOp gEq (mVar 5) (mK (.str "less"))) (mRet (mTup (mCons (mK (.str "less")) (mCons (mCall m_law_spot (mCons (mVar 0) (mCons (mVar 2) (mCons (mK (.str "reading")) mNil)))) (mCons (mCall m_law_spot (mCons (mVar 0) (mCons (mVar 2) (mCons (mK (.str "span")) mNil)))) mNil))))) mNop) (mSeq (mAsg 6 (mCall m_law_pick (mCons (mVar 0) (mCons (mCallB gLen (mCons (mVar 1) mNil)) mNil)))) (mSeq (mIfS (mOp gEq (mVar 5) (mK (.str "find"))) (mRet (mOp gAdd (mTup (mCons (mK (.str "find")) (mCons (mCall m_law_spot (mCons (mVar 0) (mCons (mVar 2) (mCons (mK (.str "reading")) mNil)))) (mCons (mVar 6) mNil)))) (mCall m_law_any_rules (mCons (mVar 0) mNil)))) mNop) (mRet (mTup (mCons (mVar 5) (mCons (mCall m_law_spot (mCons (mVar 0) (mCons (mVar 2) (mCons (mK (.str "moment")) mNil)))) (mCons (mVar 6) mNil))))))))))))
def m_law_kind_made : List D → Sto → Res D := mDef 2 2 (mSeq (mIfS (mOp gEq (mOp gIx (mVar 1) (mK (.int 0))) (mK (.str "add"))) (mRet (mOp gIx (mVar 0) (mOp gIx (mVar 1) (mK (.int 1))))) mNop) (mSeq (mIfS (mOp gEq (mOp gIx (mVar 1) (mK (.int 0))) (mK (.str "offset"))) (mRet (mK (.str "span"))) mNop) (mSeq (mIfS (mOr (mOp gEq (mOp gIx (mVar 1) (mK (.int 0))) (mK (.str "read"))) (mOp gEq (mOp gIx (mVar 1) (mK (.int 0))) (mK (.str "plus")))) (mRet (mK (.str "reading"))) mNop) (mRet (mK (.str "moment"))))))
def m_law_kind_row : List D → Sto → Res D := mDef 1 3 (mSeq (mAsg 1 (mNew (mLst (mCons (mK (.str "moment")) mNil)))) (mSeq (mForA (mVar 0) (tgN 2) (mApp (mVar 1) (mCall m_law_kind_made (mCons (mVar 1) (mCons (mVar 2) mNil))))) (mRet (mVar 1))))
def m_law_longer_plan : List D → Sto → Res D := mDef 5 7 (mSeq (mFor (iRange1 (mCons (mVar 3) mNil)) (tgN 5) (mSeq (mAsg 6 (mCall m_law_any_deed (mCons (mVar 0) (mCons (mVar 1) (mCons (mCall m_law_kind_row (mCons (mVar 2) mNil)) (mCons (mVar 4) mNil)))))) (mSeq (mAsg 4 (mCall m_law_less_room (mCons (mVar 4) (mCons (mVar 6) mNil)))) (mAsg 2 (mOp gAdd (mVar 2) (mTup (mCons (mVar 6) mNil))))))) (mRet (mVar 2)))
def m_law_holds : List D → Sto → Res D := mDef 2 5 (mSeq (mAsg 2 (mOp gIx (mVar 0) (mK (.int 0)))) (mSeq (mForA (mOp gIx (mVar 0) (mK (.int 1))) (tgU 2 (tgCons (tgN 3) (tgCons (tgN 4) tgNil))) (mIfS (mOp gLe (mVar 3) (mVar 1)) (mAsg 2 (mVar 4)) mNop)) (mRet (mVar 2))))
def m_law_searched : List D → Sto → Res D := mDef 5 9 (mSeq (mAsg 5 (mFz (mLcA (mBackA (mOp gIx (mVar 0) (mK (.int 0)))) (tgN 8) (mOp gEq (mCall m_law_holds (mCons (mVar 1) (mCons (mOp gSub (mVar 2) (mVar 8)) mNil))) (mVar 8)) (mOp gSub (mVar 2) (mVar 8)) [8]))) (mSeq (mIfS (mOp gEq (mCallB gLen (mCons (mVar 5) mNil)) (mK (.int 1))) (mRet (mOp gIx (mVar 5) (mK (.int 0)))) mNop) (mSeq (mIfS (mOp gEq (mCallB gLen (mCons (mVar 5) mNil)) (mK (.int 2))) (mRet (mOp gDIx (mDisp (mPCons (mK (.str "early")) (mOp gIx (mVar 5) (mK (.int 0))) (mPCons (mK (.str "late")) (mOp gIx (mVar 5) (mK (.int 1))) (mPCons (mK (.str "refuse")) (mK .non) mPNil)))) (mVar 3))) mNop) (mSeq (mAsg 6 (mOp gIx (mVar 1) (mK (.int 0)))) (mSeq (mForA (mOp gIx (mVar 1) (mK (.int 1))) (tgU 2 (tgCons (tgN 7) (tgCons (tgN 8) tgNil))) (mSeq (mIfS (mAnd (mOp gGe (mOp gSub (mVar 2) (mVar 6)) (mVar 7)) (mOp gLt (mOp gSub (mVar 2) (mVar 8)) (mVar 7))) (mRet (mOp gDIx (mDisp (mPCons (mK (.str "ahead")) (mOp gSub (mVar 2) (mVar 6)) (mPCons (mK (.str "behind")) (mOp gSub (mVar 2) (mVar 8)) (mPCons (mK (.str "refuse")) (mK .non) mPNil)))) (mVar 4))) mNop) (mAsg 6 (mVar 8)))) (mRet (mK .non)))))))
def m_law_asked_at : List D → Sto → Res D := mDef 3 5 (mSeq (mAsg 3 (mOp gIx (mVar 2) (mOp gIx (mVar 1) (mK (.int 1))))) (mSeq (mIfS (mOp gEq (mOp gIx (mVar 1) (mK (.int 0))) (mK (.str "find"))) (mRet (mFz (mLcA (mBackA (mOp gIx (mOp gIx (mVar 0) (mOp gIx (mVar 1) (mK (.int 2)))) (mK (.int 0)))) (tgN 4) mYes (mOp gSub (mVar 3) (mVar 4)) [4]))) mNop) (mSeq (mIfS (mOr (mOp gEq (mOp gIx (mVar 1) (mK (.int 0))) (mK (.str "read"))) (mOp gEq (mOp gIx (mVar 1) (mK (.int 0))) (mK (.str "offset")))) (mRet (mFz (mLst (mCons (mVar 3) mNil)))) mNop) (mSeq (mIfS (mOp gEq (mOp gIx (mVar 1) (mK (.int 0))) (mK (.str "edition"))) (mRet (mFz (mLst (mCons (mOp gSub (mVar 3) (mK (.int 1))) mNil)))) mNop) (mRet (mFz (mLst mNil)))))))
def m_law_worth_made : List D → Sto → Res D := mDef 4 5 (mSeq (mAsg 4 (mOp gIx (mVar 3) (mOp gIx (mVar 2) (mK (.int 1))))) (mSeq (mIfS (mOp gEq (mOp gIx (mVar 2) (mK (.int 0))) (mK (.str "find"))) (mRet (mCall m_law_searched (mCons (mOp gIx (mVar 0) (mOp gIx (mVar 2) (mK (.int 2)))) (mCons (mOp gIx (mVar 1) (mOp gIx (mVar 2) (mK (.int 2)))) (mCons (mVar 4) (mCons (mOp gIx (mVar 2) (mK (.int 3))) (mCons (mOp gIx (mVar 2) (mK (.int 4))) mNil))))))) mNop) (mSeq (mIfS (mOp gEq (mOp gIx (mVar 2) (mK (.int 0))) (mK (.str "read"))) (mRet (mOp gAdd (mVar 4) (mCall m_law_holds (mCons (mOp gIx (mVar 1) (mOp gIx (mVar 2) (mK (.int 2)))) (mCons (mVar 4) mNil))))) mNop) (mSeq (mIfS (mOp gEq (mOp gIx (mVar 2) (mK (.int 0))) (mK (.str "offset"))) (mRet (mCall m_law_holds (mCons (mOp gIx (mVar 1) (mOp gIx (mVar 2) (mK (.int 2)))) (mCons (mVar 4) mNil)))) mNop) (mSeq (mIfS (mOp gEq (mOp gIx (mVar 2) (mK (.int 0))) (mK (.str "plus"))) (mRet (mOp gAdd (mVar 4) (mOp gIx (mVar 3) (mOp gIx (mVar 2) (mK (.int 2)))))) mNop) (mSeq (mIfS (mOp gEq (mOp gIx (mVar 2) (mK (.int 0))) (mK (.str "less"))) (mRet (mOp gSub (mVar 4) (mOp gIx (mVar 3) (mOp gIx (mVar 2) (mK (.int 2)))))) mNop) (mSeq (mIfS (mOp gEq (mOp gIx (mVar 2) (mK (.int 0))) (mK (.str "add"))) (mRet (mOp gAdd (mVar 4) (mOp gIx (mVar 2) (mK (.int 2))))) mNop) (mRet (mVar 4)))))))))
def m_law_agree : List D → Sto → Res D := mDef 3 6 (mSeq (mAsg 3 (mNew (mLc (iSeq (mOp gAdd (mOp gIx (mVar 0) (mK (.int 1))) (mOp gIx (mVar 1) (mK (.int 1))))) (tgU 2 (tgCons (tgN 4) (tgCons (tgN 5) tgNil))) (mOp gLt (mVar 4) (mVar 2)) (mVar 4) [4, 5]))) (mSeq (mApp (mVar 3) (mOp gSub (mCallB gMin1 (mCons (mFz (mCatC (mVar 3) (mLst (mCons (mVar 2) mNil)))) mNil)) (mK (.int 1)))) (mRet (mOp gEq (mFz (mLcA (mVar 3) (tgN 4) (mOp gNe (mCall m_law_holds (mCons (mVar 0) (mCons (mVar 4) mNil))) (mCall m_law_holds (mCons (mVar 1) (mCons (mVar 4) mNil)))) (mVar 4) [4])) (mFz (mLst mNil))))))
def m_law_follow : List D → Sto → Res D := mDef 4 14 (mSeq (mAsgG (tgU 4 (tgCons (tgN 4) (tgCons (tgN 5) (tgCons (tgN 6) (tgCons (tgN 7) tgNil))))) (mTup (mCons (mNew (mCallBL gList (mCons (mOp gIx (mVar 2) (mK (.int 0))) mNil))) (mCons mDNew (mCons (mNew (mLst (mCons (mVar 3) mNil))) (mCons (mNew (mLst mNil)) mNil)))))) (mSeq (mFor (iRange1 (mCons (mCallB gLen (mCons (mVar 1) mNil)) mNil)) (tgN 8) (mSeq (mAsg 9 (mOp gIx (mVar 1) (mVar 8))) (mSeq (mForA (mCall m_law_asked_at (mCons (mVar 0) (mCons (mVar 9) (mCons (mVar 6) mNil)))) (tgN 10) (mSeq (mAsg 11 (mCallB gInt1 (mCons (mAnd (mOp (gDIn false) (mOp gIx (mVar 9) (mK (.int 2))) (mVar 5)) (mOp gGe (mVar 10) (mOp gDIx (mVar 5) (mOp gIx (mVar 9) (mK (.int 2)))))) mNil))) (mSeq (mAsg 12 (mTup (mCons (mOp gIx (mVar 9) (mK (.int 2))) (mCons (mVar 11) (mCons (mOp gSub (mVar 10) (mVar 3)) (mCons (mCall m_law_holds (mCons (mOp gIx (mVar 4) (mOp gIx (mVar 9) (mK (.int 2)))) (mCons (mVar 10) mNil))) mNil)))))) (mIfS (mOp (gIn2 true) (mVar 12) (mVar 7)) (mApp (mVar 7) (mVar 12)) mNop)))) (mSeq (mIfS (mOp gEq (mOp gIx (mVar 9) (mK (.int 0))) (mK (.str "edition"))) (mSeq (mIfS (mNot (mCall m_law_agree (mCons (mOp gIx (mVar 4) (mOp gIx (mVar 9) (mK (.int 2)))) (mCons (mOp gIx (mOp gIx (mVar 2) (mK (.int 1))) (mOp gIx (mVar 9) (mK (.int 2)))) (mCons (mOp gIx (mVar 6) (mOp gIx (mVar 9) (mK (.int 1)))) mNil))))) (mRet (mK .non)) mNop) (mSeq (mSetDx (mOp gIx (mVar 6) (mOp gIx (mVar 9) (mK (.int 1)))) (mVar 5) (mOp gIx (mVar 9) (mK (.int 2)))) (mSetIx (mOp gIx (mOp gIx (mVar 2) (mK (.int 1))) (mOp gIx (mVar 9) (mK (.int 2)))) (mVar 4) (mOp gIx (mVar 9) (mK (.int 2)))))) mNop) (mSeq (mAsg 13 (mCall m_law_worth_made (mCons (mVar 0) (mCons (mVar 4) (mCons (mVar 9) (mCons (mVar 6) mNil)))))) (mSeq (mIfS (mOp (gIsN false) (mVar 13) (mK .non)) (mRet (mTup (mCons (mVar 7) (mCons (mVar 6) (mCons (mVar 8) mNil))))) mNop) (mApp (mVar 6) (mVar 13)))))))) (mRet (mTup (mCons (mVar 7) (mCons (mVar 6) (mCons (mK .non) mNil)))))))
def m_law_any_chart : List D → Sto → Res D := mDef 3 13 (mSeq (mAsgG (tgU 2 (tgCons (tgN 3) (tgCons (tgN 4) tgNil))) (mVar 1)) (mSeq (mAsg 5 (mOp gIx (mVar 3) (mCall m_law_pick (mCons (mVar 0) (mCons (mCallB gLen (mCons (mVar 3) mNil)) mNil))))) (mSeq (mAsg 6 (mVar 5)) (mSeq (mAsg 7 (mOp gIx (mFz (mLst (mCons (mK (.int 2)) (mCons (mK (.int 60)) (mCons (mOp gSub (mOp gAdd (mK (.int 1)) (mOp gIx (mVar 3) (mK (.int (-1))))) (mOp gIx (mVar 3) (mK (.int 0)))) (mCons (mK (.int 700)) (mCons (mOp gMul (mK (.int 2)) (mVar 4)) (mCons (mK (.int 3)) mNil)))))))) (mCall m_law_pick (mCons (mVar 0) (mCons (mK (.int 6)) mNil))))) (mSeq (mAsg 8 (mOp gSub (mOp gSub (mOp gAdd (mVar 2) (mCall m_law_pick (mCons (mVar 0) (mCons (mOp gAdd (mOp gMul (mK (.int 2)) (mVar 7)) (mK (.int 1))) mNil)))) (mVar 7)) (mOp gMul (mVar 4) (mCall m_law_pick (mCons (mVar 0) (mCons (mK (.int 4)) mNil)))))) (mSeq (mAsg 9 (mNew (mLst mNil))) (mSeq (mFor (iRange1 (mCons (mOp gMul (mOp gIx (mFz (mLst (mCons (mK (.int 1)) (mCons (mK (.int 0)) (mCons (mK (.int 2)) (mCons (mK (.int 3)) (mCons (mK (.int 4)) (mCons (mK (.int 5)) (mCons (mK (.int 7)) (mCons (mK (.int 50)) mNil)))))))))) (mCall m_law_pick (mCons (mVar 0) (mCons (mK (.int 8)) mNil)))) (mCallB gInt1 (mCons (mOp gGt (mCallB gLen (mCons (mVar 3) mNil)) (mK (.int 1))) mNil))) mNil)) (tgN 10) (mSeq (mAsg 11 (mFz (mLcA (mVar 3) (tgN 12) (mOp gNe (mVar 12) (mVar 5)) (mVar 12) [12]))) (mSeq (mAsg 5 (mOp gIx (mVar 11) (mCall m_law_pick (mCons (mVar 0) (mCons (mCallB gLen (mCons (mVar 11) mNil)) mNil))))) (mSeq (mApp (mVar 9) (mTup (mCons (mVar 8) (mCons (mVar 5) mNil)))) (mAsg 8 (mOp gAdd (mOp gAdd (mVar 8) (mVar 4)) (mOp gIx (mFz (mLst (mCons (mK (.int 0)) (mCons (mK (.int 0)) (mCons (mK (.int 1)) (mCons (mCall m_law_pick (mCons (mVar 0) (mCons (mK (.int 200)) mNil))) mNil)))))) (mCall m_law_pick (mCons (mVar 0) (mCons (mK (.int 4)) mNil)))))))))) (mRet (mTup (mCons (mVar 6) (mCons (mCallB gTuple (mCons (mVar 9) mNil)) mNil)))))))))))
def m_law_any_later : List D → Sto → Res D := mDef 4 11 (mSeq (mAsg 4 (mNew (mLcA (mOp gIx (mVar 2) (mK (.int 1))) (tgN 9) (mOp gLt (mOp gIx (mVar 9) (mK (.int 0))) (mVar 3)) (mVar 9) [9]))) (mSeq (mAsgG (tgU 2 (tgCons (tgN 5) (tgCons (tgN 6) tgNil))) (mTup (mCons (mOp gIx (mVar 2) (mK (.int 0))) (mCons (mVar 3) mNil)))) (mSeq (mIfS (mOp gNe (mVar 4) (mFz (mLst mNil))) (mAsgG (tgU 2 (tgCons (tgN 5) (tgCons (tgN 6) tgNil))) (mTup (mCons (mOp gIx (mOp gIx (mVar 4) (mK (.int (-1)))) (mK (.int 1))) (mCons (mCallB gMax2 (mCons (mVar 3) (mCons (mOp gAdd (mOp gIx (mOp gIx (mVar 4) (mK (.int (-1)))) (mK (.int 0))) (mOp gIx (mVar 1) (mK (.int 1)))) mNil))) mNil)))) mNop) (mSeq (mAsg 6 (mOp gAdd (mVar 6) (mOp gIx (mFz (mLst (mCons (mK (.int 0)) (mCons (mK (.int 0)) (mCons (mK (.int 1)) (mCons (mK (.int 60)) (mCons (mCall m_law_pick (mCons (mVar 0) (mCons (mK (.int 900)) mNil))) mNil))))))) (mCall m_law_pick (mCons (mVar 0) (mCons (mK (.int 5)) mNil)))))) (mSeq (mFor (iRange1 (mCons (mOp gMul (mCall m_law_pick (mCons (mVar 0) (mCons (mK (.int 5)) mNil))) (mCallB gInt1 (mCons (mOp gGt (mCallB gLen (mCons (mOp gIx (mVar 1) (mK (.int 0))) mNil)) (mK (.int 1))) mNil))) mNil)) (tgN 7) (mSeq (mAsg 8 (mFz (mLcA (mOp gIx (mVar 1) (mK (.int 0))) (tgN 10) (mOp gNe (mVar 10) (mVar 5)) (mVar 10) [10]))) (mSeq (mAsg 5 (mOp gIx (mVar 8) (mCall m_law_pick (mCons (mVar 0) (mCons (mCallB gLen (mCons (mVar 8) mNil)) mNil))))) (mSeq (mApp (mVar 4) (mTup (mCons (mVar 6) (mCons (mVar 5) mNil)))) (mAsg 6 (mOp gAdd (mOp gAdd (mVar 6) (mOp gIx (mVar 1) (mK (.int 1)))) (mOp gIx (mFz (mLst (mCons (mK (.int 0)) (mCons (mK (.int 0)) (mCons (mK (.int 1)) (mCons (mCall m_law_pick (mCons (mVar 0) (mCons (mK (.int 200)) mNil))) mNil)))))) (mCall m_law_pick (mCons (mVar 0) (mCons (mK (.int 4)) mNil)))))))))) (mRet (mTup (mCons (mOp gIx (mVar 2) (mK (.int 0))) (mCons (mCallB gTuple (mCons (mVar 4) mNil)) mNil)))))))))
def m_law_any_origin : List D → Sto → Res D := mDef 1 2 (mSeq (mAsg 1 (mOp gSub (mCall m_law_pick (mCons (mVar 0) (mCons (mK (.int 1999800000001)) mNil))) (mK (.int 999900000000)))) (mRet (mOp gIx (mFz (mLst (mCons (mK (.int 0)) (mCons (mVar 1) (mCons (mOp gSub (mCall m_law_pick (mCons (mVar 0) (mCons (mK (.int 2001)) mNil))) (mK (.int 1000))) (mCons (mVar 1) mNil)))))) (mCall m_law_pick (mCons (mVar 0) (mCons (mK (.int 4)) mNil))))))
def m_law_any_earth : List D → Sto → Res D := mDef 5 12 (mSeq (mAsg 5 (mFz (mLcA (mVar 1) (tgN 10) mYes (mCall m_law_any_chart (mCons (mVar 0) (mCons (mVar 10) (mCons (mVar 3) mNil)))) [10]))) (mSeq (mAsg 6 (mNew (mLcA (mVar 1) (tgN 10) mYes (mCall m_law_any_chart (mCons (mVar 0) (mCons (mVar 10) (mCons (mVar 3) mNil)))) [10]))) (mSeq (mAsg 7 (mFz (mLc (iRange1 (mCons (mCallB gLen (mCons (mVar 2) mNil)) mNil)) (tgN 11) (mOp gEq (mOp gIx (mOp gIx (mVar 2) (mVar 11)) (mK (.int 0))) (mK (.str "edition"))) (mVar 11) [11]))) (mSeq (mIfS (mOp gNe (mVar 7) (mFz (mLst mNil))) (mSeq (mAsg 8 (mOp gIx (mVar 2) (mOp gIx (mVar 7) (mK (.int 0))))) (mSeq (mAsg 9 (mOp gIx (mCall m_law_follow (mCons (mVar 1) (mCons (mSlT (mVar 2) mNoPart (mPart (mOp gIx (mVar 7) (mK (.int 0))))) (mCons (mTup (mCons (mVar 5) (mCons (mVar 5) mNil))) (mCons (mVar 3) mNil))))) (mK (.int 1)))) (mIfS (mOp gLt (mOp gIx (mVar 8) (mK (.int 1))) (mCallB gLen (mCons (mVar 9) mNil))) (mSetIx (mCall m_law_any_later (mCons (mVar 0) (mCons (mOp gIx (mVar 1) (mOp gIx (mVar 8) (mK (.int 2)))) (mCons (mOp gIx (mVar 5) (mOp gIx (mVar 8) (mK (.int 2)))) (mCons (mOp gAdd (mOp gIx (mVar 9) (mOp gIx (mVar 8) (mK (.int 1)))) (mVar 4)) mNil))))) (mVar 6) (mOp gIx (mVar 8) (mK (.int 2)))) mNop))) mNop) (mRet (mTup (mCons (mCallB gTuple (mCons (mVar 5) mNil)) (mCons (mCallB gTuple (mCons (mVar 6) mNil)) mNil))))))))
def m_law_ran : List D → Sto → Res D := mDef 4 7 (mSeq (mAsgG (tgU 2 (tgCons (tgN 4) (tgCons (tgN 5) tgNil))) (mTup (mCons (mK (.str "")) (mCons (mK .non) mNil)))) (mSeq (mTry ["InvalidNumber", "InvalidProgram", "InvalidWorld", "InvalidZone", "InvalidZones", "Refused", "Unsuited"] [("Refused", some 6, (mSeq (mAsg 4 (mK (.str "refused"))) (mAsg 5 (mUn (gXf "Refused" "step") (mVar 6))))), ("Unsuited", none, (mAsg 4 (mK (.str "unsuited"))))] (mAsg 5 (mCallD m_run 4 0 [0, 1, 2, 3] [(.int 0)] (mCons (mVar 0) (mCons (mVar 1) (mCons (mVar 2) (mCons (mVar 3) mNil)))) mNil))) (mRet (mTup (mCons (mVar 4) (mCons (mVar 5) mNil))))))
end
end Dm
-- text Hw9
namespace Dm
open PySem L2
end Dm
-- text DmLc2
namespace Dm
open PySem L2
open PySem.W (Frag)
/-! ### comprehensions of two generators -/
def lcL2 (f : D → Rho → Option Rho) (mt : ME) (mi1 : ME) (f1 : D → Rho → Option Rho) (mt1 me : ME) (vs1 : List Nat) (ρ : Rho) : List D → Sto → Option (List D × Sto)
  | [], S => some ([], S)
  | d :: r, S => match f d ρ with
    | none => none
    | some ρ1 => match mt ρ1 S with
      | .ok (.bl true) S1 => match iAny mi1 ρ1 S1 with
        | .ok p1 S2 => match lcA p1.1 f1 mt1 me (wipeD ρ1 vs1) (p1.2 + 1) 0 S2 with
          | some (ys, S3) => match lcL2 f mt mi1 f1 mt1 me vs1 ρ r S3 with
            | some (zs, S4) => some (ys ++ zs, S4)
            | none => none
          | none => none
        | _ => none
      | .ok (.bl false) S1 => lcL2 f mt mi1 f1 mt1 me vs1 ρ r S1
      | _ => none
def mLc2 (mi : MA) (f : D → Rho → Option Rho) (mt : ME) (mi1 : ME) (f1 : D → Rho → Option Rho) (mt1 me : ME) (vs vs1 : List Nat) : MA := fun ρ S => (mi ρ S).bind fun ds S1 => match lcL2 f mt mi1 f1 mt1 me vs1 (wipeD ρ vs) ds S1 with
  | some (ys, S2) => if ys.length ≤ 16777216 then .ok ys S2 else .bad
  | none => .bad
def lcA2 (d : D) (f : D → Rho → Option Rho) (mt : ME) (mi1 : ME) (f1 : D → Rho → Option Rho) (mt1 me : ME) (vs1 : List Nat) (ρ : Rho) : Nat → Nat → Sto → Option (List D × Sto)
  | 0, _, _ => none
  | k + 1, i, S => match seqOf S d with
    | none => none
    | some ds => match ds[i]? with
      | none => if i = ds.length then some ([], S) else none
      | some x => match f x ρ with
        | none => none
        | some ρ1 => match mt ρ1 S with
          | .ok (.bl true) S1 => match iAny mi1 ρ1 S1 with
            | .ok p1 S2 => match lcA p1.1 f1 mt1 me (wipeD ρ1 vs1) (p1.2 + 1) 0 S2 with
              | some (ys, S3) => match lcA2 d f mt mi1 f1 mt1 me vs1 ρ k (i + 1) S3 with
                | some (zs, S4) => some (ys ++ zs, S4)
                | none => none
              | none => none
            | _ => none
          | .ok (.bl false) S1 => lcA2 d f mt mi1 f1 mt1 me vs1 ρ k (i + 1) S1
          | _ => none
def mLcA2 (m : ME) (f : D → Rho → Option Rho) (mt : ME) (mi1 : ME) (f1 : D → Rho → Option Rho) (mt1 me : ME) (vs vs1 : List Nat) : MA := fun ρ S => (iAny m ρ S).bind fun p S1 => match lcA2 p.1 f mt mi1 f1 mt1 me vs1 (wipeD ρ vs) (p.2 + 1) 0 S1 with
  | some (ys, S2) => if ys.length ≤ 16777216 then .ok ys S2 else .bad
  | none => .bad
theorem Mv.comp {F : Fx} {μ μ1 μ2 : List Addr} {H H1 H2 : Hp} (a : Mv F μ H F μ1 H1) (b : Mv F μ1 H1 F μ2 H2) : Mv F μ H F μ2 H2 := ⟨fun h => b.t (a.t h), fun h => b.l (a.l h), fun h => b.c (a.c h), rfl, fun h => b.x (a.x h)⟩
/-! ### what they do -/
section
variable {S : Sto} {ρ : Rho} {f f1 : D → Rho → Option Rho} {mt mt1 me : ME} {mi : MA} {mi1 : ME} {E : EX}
def LcQ2 (f : D → Rho → Option Rho) (mt : ME) (mi1 : ME) (f1 : D → Rho → Option Rho) (mt1 me : ME) (vs1 : List Nat) (ρ : Rho) (ds : List D) (S : Sto) (Q : List D → Sto → Prop) : Prop := ∃ ys S2, lcL2 f mt mi1 f1 mt1 me vs1 ρ ds S = some (ys, S2) ∧ Q ys S2
@[simp] theorem does_lc2 {vs vs1 : List Nat} {Q : List D → Sto → Prop} : (mLc2 mi f mt mi1 f1 mt1 me vs vs1 ρ S).DoesE E Q = (mi ρ S).DoesE E fun ds S1 => LcQ2 f mt mi1 f1 mt1 me vs1 (wipeD ρ vs) ds S1 fun ys S2 => ys.length ≤ 16777216 ∧ Q ys S2 := by
  unfold mLc2
  rw [does_bind]
  congr 1
  funext ds S1
  unfold LcQ2
  cases e : lcL2 f mt mi1 f1 mt1 me vs1 (wipeD ρ vs) ds S1 with
  | none => refine propext ⟨fun h => h.elim, fun ⟨_, _, h, _⟩ => nomatch h⟩
  | some r =>
    obtain ⟨ys, S2⟩ := r
    refine propext ⟨fun q => ?_, ?_⟩
    · simp only at q
      by_cases c : ys.length ≤ 16777216
      · rw [if_pos c] at q
        exact ⟨ys, S2, rfl, c, q⟩
      · rw [if_neg c] at q
        exact q.elim
    · rintro ⟨ys', S2', e', c, q⟩
      cases e'
      simp only
      rw [if_pos c]
      exact q
def LcAQ2 (d : D) (f : D → Rho → Option Rho) (mt : ME) (mi1 : ME) (f1 : D → Rho → Option Rho) (mt1 me : ME) (vs1 : List Nat) (ρ : Rho) (n : Nat) (S : Sto) (Q : List D → Sto → Prop) : Prop := ∃ ys S2, lcA2 d f mt mi1 f1 mt1 me vs1 ρ (n + 1) 0 S = some (ys, S2) ∧ Q ys S2
@[simp] theorem does_lcA2 {m : ME} {vs vs1 : List Nat} {Q : List D → Sto → Prop} : (mLcA2 m f mt mi1 f1 mt1 me vs vs1 ρ S).DoesE E Q = (m ρ S).DoesE E fun d S1 => match seqOf S1 d with
    | some ds => LcAQ2 d f mt mi1 f1 mt1 me vs1 (wipeD ρ vs) ds.length S1 fun ys S2 => ys.length ≤ 16777216 ∧ Q ys S2
    | none => False := by
  unfold mLcA2 iAny
  rw [does_bind, does_bind]
  congr 1
  funext d S1
  cases seqOf S1 d with
  | none => rfl
  | some ds =>
    simp only [does_ok]
    unfold LcAQ2
    cases e : lcA2 d f mt mi1 f1 mt1 me vs1 (wipeD ρ vs) (ds.length + 1) 0 S1 with
    | none => refine propext ⟨fun h => h.elim, fun ⟨_, _, h, _⟩ => nomatch h⟩
    | some r =>
      obtain ⟨ys, S2⟩ := r
      refine propext ⟨fun q => ?_, ?_⟩
      · simp only at q
        by_cases c : ys.length ≤ 16777216
        · rw [if_pos c] at q
          exact ⟨ys, S2, rfl, c, q⟩
        · rw [if_neg c] at q
          exact q.elim
      · rintro ⟨ys', S2', e', c, q⟩
        cases e'
        simp only
        rw [if_pos c]
        exact q
end
end Dm
-- text Hw10
namespace Dm
open PySem L2
end Dm
-- text DmPop
namespace Dm
open PySem L2
open PySem.W (Frag)
/-! ### xs.pop(), xs.reverse() as statements -/
section
variable {X : Cx} {W : WX}
def mPopS (o : ME) : MS := fun ρ S => ofRes (o ρ S) ρ fun x S1 => match x with
  | .cell n => match S1[n]? with
    | some (.lst ds) => if ds = [] then .bad else .nx ρ (S1.set n (.lst ds.dropLast))
    | _ => .bad
  | _ => .bad
def mRevS (o : ME) : MS := fun ρ S => ofRes (o ρ S) ρ fun x S1 => match x with
  | .cell n => match S1[n]? with
    | some (.lst ds) => .nx ρ (S1.set n (.lst ds.reverse))
    | _ => .bad
  | _ => .bad
end
section
variable {S : Sto} {ρ : Rho} {N B C : Rho → Sto → Prop} {R : D → Sto → Prop} {EO : EXO}
@[simp] theorem does_popS {o : ME} : (mPopS o ρ S).DoesE EO N R B C = (o ρ S).DoesE (eAt EO ρ) fun x S1 => match x with
    | .cell n => ∃ xs, S1[n]? = some (.lst xs) ∧ xs ≠ [] ∧ N ρ (S1.set n (.lst xs.dropLast))
    | _ => False := by
  unfold mPopS
  rw [does_ofRes]; congr 1; funext x S1
  cases x with
  | cell n =>
    simp only
    cases q : S1[n]? with
    | none => exact propext ⟨fun h => h.elim, fun ⟨_, h, _⟩ => nomatch h⟩
    | some c =>
      cases c with
      | lst ds =>
        by_cases hd : ds = []
        · simp only [if_pos hd]
          refine propext ⟨fun h => h.elim, fun ⟨xs, h, h2, _⟩ => ?_⟩
          cases h
          exact absurd hd h2
        · simp only [if_neg hd]
          refine propext ⟨fun h => ⟨ds, rfl, hd, h⟩, fun ⟨xs, h, _, h3⟩ => ?_⟩
          cases h
          exact h3
      | _ => exact propext ⟨fun h => h.elim, fun ⟨_, h, _⟩ => nomatch h⟩
  | _ => rfl
@[simp] theorem does_revS {o : ME} : (mRevS o ρ S).DoesE EO N R B C = (o ρ S).DoesE (eAt EO ρ) fun x S1 => match x with
    | .cell n => ∃ xs, S1[n]? = some (.lst xs) ∧ N ρ (S1.set n (.lst xs.reverse))
    | _ => False := by
  unfold mRevS
  rw [does_ofRes]; congr 1; funext x S1
  cases x with
  | cell n =>
    simp only
    cases q : S1[n]? with
    | none => exact propext ⟨fun h => h.elim, fun ⟨_, h, _⟩ => nomatch h⟩
    | some c =>
      cases c with
      | lst ds =>
        refine propext ⟨fun h => ⟨ds, rfl, h⟩, fun ⟨xs, h, h3⟩ => ?_⟩
        cases h
        exact h3
      | _ => exact propext ⟨fun h => h.elim, fun ⟨_, h, _⟩ => nomatch h⟩
  | _ => rfl
end
end Dm
-- text Hw11
namespace Dm
open PySem L2
end Dm
-- text DmCatW
namespace Dm
open PySem L2 PySem.Spec PyProof.Rows
open PySem.W (Frag)
section
variable {X : Cx} {W : WX} {tg a b : Expr} {ma mb : ME} {pos : Pos} {E : EX}
/-- two lists that stand, one behind the other -/
def mCatW (a b : ME) : MA := fun ρ S => (a ρ S).bind fun x S1 => (b ρ S1).bind fun y S2 => match lstOf S2 x, lstOf S2 y with
  | some xs, some ys => if xs.length + ys.length ≤ 16777216 then .ok (xs ++ ys) S2 else .bad
  | _, _ => .bad
variable {ρ : Rho} {S : Sto}
@[simp] theorem does_catW {a b : ME} {Q : List D → Sto → Prop} : (mCatW a b ρ S).DoesE E Q = (a ρ S).DoesE E fun x S1 => (b ρ S1).DoesE E fun y S2 => match lstOf S2 x, lstOf S2 y with
    | some xs, some ys => xs.length + ys.length ≤ 16777216 ∧ Q (xs ++ ys) S2
    | _, _ => False := by
  unfold mCatW
  rw [does_bind]; congr 1; funext x S1
  rw [does_bind]; congr 1; funext y S2
  cases e : lstOf S2 x with
  | none => simp [Res.DoesE]
  | some xs =>
    cases e' : lstOf S2 y with
    | none => simp [Res.DoesE]
    | some ys =>
      simp only
      by_cases h : xs.length + ys.length ≤ 16777216
      · rw [if_pos h]; simp [h]
      · rw [if_neg h]; simp [h, Res.DoesE]
end
end Dm
-- text Hw12
namespace Dm
open PySem L2
end Dm
-- text DmTupMul
namespace Dm
open PySem L2 PySem.Spec PyProof.Rows
open PySem.W (Frag)
/-! ### a tuple some times -/
def gMulT : Sto → D → D → Option D := fun _ x y => match x, y with
  | .tup ds, .int k => if ds.length ≠ 0 ∧ 2 ≤ k ∧ k ≤ 1000 ∧ ds.length ≤ 1000 then some (.tup (List.replicate k.toNat ds).flatten) else none
  | _, _ => none
@[simp] theorem gMulT_tup {S : Sto} {ds : List D} {k : Int} : gMulT S (.tup ds) (.int k) = if ds.length ≠ 0 ∧ 2 ≤ k ∧ k ≤ 1000 ∧ ds.length ≤ 1000 then some (.tup (List.replicate k.toNat ds).flatten) else none := rfl
end Dm
-- text Hw13
namespace Dm
open PySem L2
end Dm
-- text DmGet
namespace Dm
open PySem L2 PySem.Spec PyProof.Rows
open PySem.W (Frag)
section
variable {X : Cx} {W : WX} {a o e f : Expr} {mo me mf ma : ME} {apos cpos pos p2 : Pos}
/-! ### d.get(k, x) -/
def mGet2 (mo mk mx : ME) : ME := fun ρ S => (mo ρ S).bind fun d S1 => match dicOf S1 d with
  | none => .bad
  | some _ => (mk ρ S1).bind fun y S2 => (mx ρ S2).bind fun z S3 => match dicOf S3 d, keyD y with
    | some kvs, some k => .ok ((valD kvs k).getD z) S3
    | _, _ => .bad
theorem d_get (hu : X.A.units + 64 < cLine) (ho : DE X W o mo) (he : DE X W e me) (hf : DE X W f mf) (h1 : attributeBase o "get" X.env (eval o X.env) = eval o X.env := by rfl)
    (h2 : ((backTo cpos (starEach [e, f] X.env)).all (fun x => !x.1) && (backToKw cpos (keywordEach [] X.env)).all (fun x => x.1.isSome) && decide (([e, f] : List Expr).length + ([] : List Keyword).length + (if ([] : List Keyword).isEmpty then 0 else 1) < 30)) = true := by rfl)
    (h3 : (apos.endLine == cpos.line) = true := by rfl) (h4 : backTo cpos (starEach [e, f] X.env) = [(false, eval e X.env), (false, eval f X.env)] := by rfl) :
    DE X W (.Call (.Attribute o "get" apos) [e, f] [] cpos) (mGet2 mo me mf) := by
  obtain ⟨to, po, ko⟩ := ho
  obtain ⟨te, pe, ke⟩ := he
  obtain ⟨tf, pf, kf⟩ := hf
  refine ⟨_, pe_dget2 (by omega) po pe pf ⟨h1, h2, h3, h4⟩, fun ξ μ σ H ρ S Q g s h => ko ξ μ σ H ρ S _ g s (WR.bind h fun x S1 v μ1 H1 u1 s1 r1 w1 => ?_)⟩
  cases q0 : dicOf S1 x with
  | none => rw [q0] at w1; exact w1.elim
  | some kvs0 =>
    rw [q0] at w1
    obtain ⟨n0, a0, vk0, rfl, rfl, ea0, es0, e30, e40⟩ := dic_at s1 r1 q0
    refine ⟨a0, rfl, .inl ⟨_, .inl e30⟩, ?_⟩
    refine ke ξ μ1 σ H1 ρ S1 _ (g.up u1) s1 (WR.bind w1 fun y S2 w μ2 H2 u2 s2 r2 w2 => ?_)
    refine kf ξ μ2 σ H2 ρ S2 _ (g.up (u1.trans u2)) s2 (WR.bind w2 fun z S3 w' μ3 H3 u3 s3 r3 w3 => ?_)
    cases q1 : dicOf S3 (.cell n0) with
    | none => rw [q1] at w3; exact w3.elim
    | some kvs =>
      cases q2 : keyD y with
      | none => rw [q1, q2] at w3; exact w3.elim
      | some k =>
        rw [q1, q2] at w3
        simp only at w3
        obtain ⟨n, a, vk, en, ev, ea, es, e3, e4⟩ := dic_at s3 (r1.up (u2.trans u3)) q1
        have ev : a0 = a := by injection ev
        subst ev
        have ek := keyD_of (r2.up u3) q2
        subst ek
        refine ⟨_, DGet.k e3, ?_⟩
        cases q3 : valD kvs k with
        | none =>
          rw [q3] at w3
          have hn := valV_none (k := k) e4
          rw [q3] at hn
          have hn' : valV vk k = none := by
            cases c : valV vk k with
            | none => rfl
            | some _ => rw [c] at hn; cases hn
          rw [hn']
          exact w3 _ μ3 H3 .refl s3 r3
        | some d =>
          rw [q3] at w3
          obtain ⟨zz, e5, e6⟩ := valV_of e4 q3
          rw [e5]
          exact w3 _ μ3 H3 .refl s3 e6
/-! ### texts: s + t, s[i:j] -/
def gCatS : Sto → D → D → Option D := fun _ x y => match x, y with
  | .str a, .str b => if a.length + b.length ≤ 16777216 then some (.str (a ++ b)) else none
  | _, _ => none
variable {lo hi : Option Expr} {ml mh : MO}
def mSlS (a : ME) (lo hi : MO) : ME := fun ρ S => (a ρ S).bind fun x S1 => (lo ρ S1).bind fun l S2 => (hi ρ S2).bind fun h S3 => match x with
  | .str z => if z.length ≤ 16777216 then .ok (.str (cutS z l h)) S3 else .bad
  | _ => .bad
end
section
variable {S : Sto} {ρ : Rho} {E : EX} {Q : D → Sto → Prop}
@[simp] theorem does_get2 {mo mk mx : ME} : (mGet2 mo mk mx ρ S).DoesE E Q = (mo ρ S).DoesE E fun d S1 => match dicOf S1 d with
    | none => False
    | some _ => (mk ρ S1).DoesE E fun y S2 => (mx ρ S2).DoesE E fun z S3 => match dicOf S3 d, keyD y with
      | some kvs, some k => Q ((valD kvs k).getD z) S3
      | _, _ => False := by
  unfold mGet2
  rw [does_bind]; congr 1; funext d S1
  cases dicOf S1 d with
  | none => rfl
  | some kvs0 =>
    simp only
    rw [does_bind]; congr 1; funext y S2
    rw [does_bind]; congr 1; funext z S3
    cases dicOf S3 d with
    | none => rfl
    | some kvs =>
      cases keyD y with
      | none => rfl
      | some k => rfl
@[simp] theorem gCatS_str {a b : Str} : gCatS S (.str a) (.str b) = if a.length + b.length ≤ 16777216 then some (.str (a ++ b)) else none := rfl
@[simp] theorem does_slS {a : ME} {lo hi : MO} : (mSlS a lo hi ρ S).DoesE E Q = (a ρ S).DoesE E fun x S1 => (lo ρ S1).DoesE E fun l S2 => (hi ρ S2).DoesE E fun h S3 => match x with
    | .str z => z.length ≤ 16777216 ∧ Q (.str (cutS z l h)) S3
    | _ => False := by
  unfold mSlS
  rw [does_bind]; congr 1; funext x S1
  rw [does_bind]; congr 1; funext l S2
  rw [does_bind]; congr 1; funext h S3
  cases x with
  | str z =>
    simp only
    by_cases c : z.length ≤ 16777216
    · rw [if_pos c]; simp [c]
    · rw [if_neg c]; simp [c, Res.DoesE]
  | _ => rfl
end
end Dm
-- text Hw14
namespace Dm
open PySem L2
end Dm
-- text DmTupMul1
namespace Dm
open PySem L2 PySem.Spec PyProof.Rows
open PySem.W (Frag)
/-! ### a tuple some times, once too -/
def gMulU : Sto → D → D → Option D := fun S x y => match x, y with
  | .tup ds, .int k => if k = 1 then some (.tup ds) else gMulT S (.tup ds) (.int k)
  | _, _ => none
@[simp] theorem gMulU_tup {S : Sto} {ds : List D} {k : Int} : gMulU S (.tup ds) (.int k) = if k = 1 then some (.tup ds) else if ds.length ≠ 0 ∧ 2 ≤ k ∧ k ≤ 1000 ∧ ds.length ≤ 1000 then some (.tup (List.replicate k.toNat ds).flatten) else none := rfl
end Dm
-- text Hw15
namespace Dm
open PySem L2
end Dm
-- text Hw16
namespace Dm
open PySem L2
end Dm
-- text DmStr
namespace Dm
open PySem L2 PySem.Spec PyProof.Rows
/-! ### str of a number -/
end Dm
-- text Hw17
namespace Dm
open PySem L2
end Dm
-- text Hw18
namespace Dm
open PySem L2
end Dm
-- text DmUpper
namespace Dm
open PySem L2 PySem.Spec PyProof.Rows
/-! ### text.upper() -/
end Dm
-- text Hw19
namespace Dm
open PySem L2
end Dm
-- text DmPopE
namespace Dm
open PySem L2 PySem.Spec PyProof.Rows
open PySem.W (Frag)
/-! ### xs.pop() as a value -/
section
variable {X : Cx} {W : WX}
def mPopE (o : ME) : ME := fun ρ S => (o ρ S).bind fun x S1 => match x with
  | .cell n => match S1[n]? with
    | some (.lst ds) => match ds[ds.length - 1]? with
      | some d => .ok d (S1.set n (.lst ds.dropLast))
      | none => .bad
    | _ => .bad
  | _ => .bad
end
section
variable {S : Sto} {ρ : Rho} {Q : D → Sto → Prop} {E : EX}
@[simp] theorem does_popE {o : ME} : (mPopE o ρ S).DoesE E Q = (o ρ S).DoesE E fun x S1 => match x with
    | .cell n => ∃ xs, S1[n]? = some (.lst xs) ∧ ∃ d, xs[xs.length - 1]? = some d ∧ Q d (S1.set n (.lst xs.dropLast))
    | _ => False := by
  unfold mPopE
  rw [does_bind]; congr 1; funext x S1
  cases x with
  | cell n =>
    simp only
    cases q : S1[n]? with
    | none => exact propext ⟨fun h => h.elim, fun ⟨_, h, _⟩ => nomatch h⟩
    | some c =>
      cases c with
      | lst ds =>
        cases hd : ds[ds.length - 1]? with
        | none =>
          simp only
          refine propext ⟨fun h => ?_, fun ⟨xs, h, d, h2, _⟩ => ?_⟩
          · rw [hd] at h; exact h.elim
          · cases h
            rw [hd] at h2
            cases h2
        | some d =>
          simp only
          refine propext ⟨fun h => ?_, fun ⟨xs, h, d', h2, h3⟩ => ?_⟩
          · rw [hd] at h
            exact ⟨ds, rfl, d, hd, h⟩
          · cases h
            rw [hd] at h2
            cases h2
            rw [hd]
            exact h3
      | _ => exact propext ⟨fun h => h.elim, fun ⟨_, h, _⟩ => nomatch h⟩
  | _ => rfl
end
/-! ### d.get(k) -/
end Dm
-- text DmIdx
namespace Dm
open PySem L2 PySem.Spec PyProof.Rows
open PySem.W (Frag)
theorem resMonoI {α : Type} {r : Res α} {E : EX} {Q Q' : α → Sto → Prop} (h : r.DoesE E Q) (hQ : ∀ a S, Q a S → Q' a S) : r.DoesE E Q' := by
  cases r with
  | ok a S => exact hQ _ _ h
  | exc c fs S => exact h
  | bad => exact h
/-! ### xs.index(y), flat items -/
section
variable {X : Cx} {W : WX} {o e : Expr} {mo me : ME} {apos cpos : Pos}
def mIdx (mo me : ME) : ME := fun ρ S => (mo ρ S).bind fun x S1 => match lstOf S1 x with
  | none => .bad
  | some _ => (me ρ S1).bind fun y S2 => match lstOf S2 x with
    | some ds => if flatD y = true ∧ ds.all flatD = true then match ds.findIdx? (eqF · y) with
      | some j => .ok (.int (j : Nat)) S2
      | none => .bad
      else .bad
    | none => .bad
end
section
variable {S : Sto} {ρ : Rho} {Q : D → Sto → Prop} {E : EX}
@[simp] theorem does_idx {o m : ME} : (mIdx o m ρ S).DoesE E Q = (o ρ S).DoesE E fun x S1 => (∃ l, lstOf S1 x = some l) ∧ (m ρ S1).DoesE E fun y S2 => ∃ ds, lstOf S2 x = some ds ∧ (flatD y = true ∧ ds.all flatD = true) ∧ ∃ j, ds.findIdx? (eqF · y) = some j ∧ Q (.int (j : Nat)) S2 := by
  unfold mIdx
  rw [does_bind]; congr 1; funext x S1
  cases q : lstOf S1 x with
  | none => exact propext ⟨fun h => h.elim, fun ⟨⟨_, h⟩, _⟩ => nomatch h⟩
  | some l =>
    simp only
    rw [does_bind]
    refine propext ⟨fun h => ⟨⟨l, rfl⟩, ?_⟩, fun ⟨_, h⟩ => ?_⟩
    · refine resMonoI h fun y S2 h2 => ?_
      cases q1 : lstOf S2 x with
      | none => rw [q1] at h2; exact h2.elim
      | some ds =>
        rw [q1] at h2
        simp only at h2
        by_cases c : flatD y = true ∧ ds.all flatD = true
        · rw [if_pos c] at h2
          cases q2 : ds.findIdx? (eqF · y) with
          | none => rw [q2] at h2; exact h2.elim
          | some j => rw [q2] at h2; exact ⟨ds, rfl, c, j, q2, h2⟩
        · rw [if_neg c] at h2; exact h2.elim
    · refine resMonoI h fun y S2 h2 => ?_
      obtain ⟨ds, q1, c, j, q2, h3⟩ := h2
      rw [q1]
      simp only
      rw [if_pos c, q2]
      exact h3
end
end Dm
-- text DmExt
namespace Dm
open PySem L2
open PySem.W (Frag)
/-! ### xs.extend(a new list) -/
section
variable {X : Cx} {W : WX}
def mExt (o : ME) (nb : MA) : MS := fun ρ S => ofRes (o ρ S) ρ fun x S1 => match x with
  | .cell n => match S1[n]? with
    | some (.lst _) => ofRes (nb ρ S1) ρ fun es S2 => match S2[n]? with
      | some (.lst ds) => if ds.length + es.length ≤ 16777216 then .nx ρ (S2.set n (.lst (ds ++ es))) else .bad
      | _ => .bad
    | _ => .bad
  | _ => .bad
theorem WSL.bind {F : Fx} {E : Ends} {W : WX} {Q1 : VK} {μ : List Addr} {H : Hp} {σ : L2.St} {ρ : Rho} {r : Res (List D)} {f : List D → Sto → Out} (g : RG F μ H σ ρ) (h : WS' F (ofRes r ρ f) E W μ H)
    (k : ∀ ds S1 p xs μ1 H1, Up μ H μ1 H1 → H p = none → RS (F.hold p) μ1 H1 S1 → RDs (F.hold p) μ1 H1 xs ds → H1 p = some (.lst xs) → WS' F (f ds S1) E W μ1 H1 → Q1 (.ref p) H1) : WL' F r Q1 (fun cls dd H' => W cls dd σ H') μ H := by
  cases r with
  | ok x S1 => exact fun p xs μ1 H1 u1 hp s1 r1 e1 => k x S1 p xs μ1 H1 u1 hp s1 r1 e1 (WS'.shift u1 h)
  | exc c fs S => exact fun cls dd μ' H' u' s' x' => h cls dd σ μ' H' u' s' (g.up u') x'
  | bad => exact h
end
section
variable {S : Sto} {ρ : Rho} {N B C : Rho → Sto → Prop} {R : D → Sto → Prop} {EO : EXO}
@[simp] theorem does_ext {o : ME} {nb : MA} : (mExt o nb ρ S).DoesE EO N R B C = (o ρ S).DoesE (eAt EO ρ) fun x S1 => match x with
    | .cell n => (∃ ds0, S1[n]? = some (.lst ds0)) ∧ (nb ρ S1).DoesE (eAt EO ρ) fun es S2 => ∃ ds, S2[n]? = some (.lst ds) ∧ ds.length + es.length ≤ 16777216 ∧ N ρ (S2.set n (.lst (ds ++ es)))
    | _ => False := by
  unfold mExt
  rw [does_ofRes]; congr 1; funext x S1
  cases x with
  | cell n =>
    simp only
    cases e : S1[n]? with
    | none => exact propext ⟨fun h => h.elim, fun ⟨⟨_, h⟩, _⟩ => nomatch h⟩
    | some c =>
      cases c with
      | lst ds0 =>
        simp only
        rw [does_ofRes]
        refine propext ⟨fun h => ⟨⟨ds0, rfl⟩, resMonoI h fun es S2 h2 => ?_⟩, fun ⟨_, h⟩ => resMonoI h fun es S2 h2 => ?_⟩
        · cases q : S2[n]? with
          | none => rw [q] at h2; exact h2.elim
          | some c2 =>
            rw [q] at h2
            cases c2 with
            | lst ds =>
              simp only at h2
              by_cases l : ds.length + es.length ≤ 16777216
              · rw [if_pos l] at h2; exact ⟨ds, rfl, l, h2⟩
              · rw [if_neg l] at h2; exact h2.elim
            | _ => exact h2.elim
        · obtain ⟨ds, q, l, h3⟩ := h2
          rw [q]
          simp only
          rw [if_pos l]
          exact h3
      | _ => exact propext ⟨fun h => h.elim, fun ⟨⟨_, h⟩, _⟩ => nomatch h⟩
  | _ => rfl
end
end Dm
-- text Hw20
namespace Dm
open PySem L2
end Dm
-- text Hw21
namespace Dm
open PySem L2
end Dm
-- text Hw22
namespace Dm
open PySem L2
end Dm
-- text Hw23
namespace Dm
open PySem L2
end Dm
-- text DmEqC
namespace Dm
open PySem L2 PySem.Spec PyProof.Rows
open PySem.W (Frag)
/-! ### == of data that holds cells -/
end Dm
-- text Hw24
namespace Dm
open PySem L2
end Dm
-- text Hw25
namespace Dm
open PySem L2
end Dm
-- text Hw26
namespace Dm
open PySem L2
end Dm
-- text DmSetG
namespace Dm
open PySem L2
open PySem.W (Frag)
/-! ### sets of ints that grow: set(), xs.add(x), sorted(xs) -/
section
variable {X : Cx} {W : WX} {pos p p1 : Pos}
/-- set() -/
def mSNew : ME := fun _ S => .ok (.cell S.length) (S ++ [.set []])
def insS (k : Int) (ns : List Int) : List Int := if k ∈ ns then ns else ns ++ [k]
/-- xs.add(x) -/
def mSAdd (o m : ME) : MS := fun ρ S => ofRes (o ρ S) ρ fun x S1 => match x with
  | .cell n => match S1[n]? with
    | some (.set _) => ofRes (m ρ S1) ρ fun d S2 => match d, S2[n]? with
      | .int k, some (.set ns) => if ns.length ≤ 4000 then .nx ρ (S2.set n (.set (insS k ns))) else .bad
      | _, _ => .bad
    | _ => .bad
  | _ => .bad
/-- sorted(xs), a set -/
def mSortG (m : ME) : MA := fun ρ S => (m ρ S).bind fun d S1 => match d with
  | .cell n => match S1[n]? with
    | some (.set ns) => if ns.length ≤ 4000 then .ok ((uniq ns).map .int) S1 else .bad
    | _ => .bad
  | _ => .bad
end
section
variable {S : Sto} {ρ : Rho} {Q : D → Sto → Prop} {N B C : Rho → Sto → Prop} {R : D → Sto → Prop} {E : EX} {EO : EXO}
@[simp] theorem does_snew : (mSNew ρ S).DoesE E Q = Q (.cell S.length) (S ++ [.set []]) := rfl
@[simp] theorem does_sadd {o m : ME} : (mSAdd o m ρ S).DoesE EO N R B C = (o ρ S).DoesE (eAt EO ρ) fun x S1 => match x with
    | .cell n => (∃ ns0, S1[n]? = some (.set ns0)) ∧ (m ρ S1).DoesE (eAt EO ρ) fun d S2 => ∃ k ns, d = .int k ∧ S2[n]? = some (.set ns) ∧ ns.length ≤ 4000 ∧ N ρ (S2.set n (.set (insS k ns)))
    | _ => False := by
  unfold mSAdd
  rw [does_ofRes]; congr 1; funext x S1
  cases x with
  | cell n =>
    simp only
    cases h : S1[n]? with
    | none => simp [Out.DoesE]
    | some c =>
      cases c with
      | set ns0 =>
        simp only
        rw [does_ofRes]
        simp only [Option.some.injEq, Cell.set.injEq, exists_eq', true_and]
        congr 1; funext d S2
        cases d with
        | int k =>
          cases h2 : S2[n]? with
          | none => simp [Out.DoesE]
          | some c2 =>
            cases c2 with
            | set ns =>
              simp only
              by_cases l : ns.length ≤ 4000
              · rw [if_pos l]; simp [Out.DoesE, l]
              · rw [if_neg l]; simp [Out.DoesE, l]
            | _ => simp [Out.DoesE]
        | _ => simp [Out.DoesE]
      | _ => simp [Out.DoesE]
  | _ => simp [Out.DoesE]
@[simp] theorem does_sortG {m : ME} {Q : List D → Sto → Prop} : (mSortG m ρ S).DoesE E Q = (m ρ S).DoesE E fun d S1 => match d with
    | .cell n => ∃ ns, S1[n]? = some (.set ns) ∧ ns.length ≤ 4000 ∧ Q ((uniq ns).map .int) S1
    | _ => False := by
  unfold mSortG
  rw [does_bind]; congr 1; funext d S1
  cases d with
  | cell n =>
    simp only
    cases h : S1[n]? with
    | none => simp [Res.DoesE]
    | some c =>
      cases c with
      | set ns =>
        simp only
        by_cases l : ns.length ≤ 4000
        · rw [if_pos l]; simp [Res.DoesE, l]
        · rw [if_neg l]; simp [Res.DoesE, l]
      | _ => simp [Res.DoesE]
  | _ => simp [Res.DoesE]
end
end Dm
-- text Hw27
namespace Dm
open PySem L2
end Dm
-- text DmGen1
set_option maxHeartbeats 1000000
/-! ### a for loop in the body of a generator def -/
namespace Dm
open PySem PySem.Spec PyProof.Rows GenW L2
end Dm
-- text DmGen2
set_option maxHeartbeats 1000000
/-! ### generator defs over plain data; list(g(..)) -/
namespace Dm
open PySem L2 PySem.Spec PyProof.Rows GenW
open PySem.W (Frag)
inductive GOut where
  | nx (ys : List D) (ρ : Rho) (S : Sto) | rt (ys : List D) (d : D) (S : Sto) | bk (ys : List D) (ρ : Rho) (S : Sto) | ct (ys : List D) (ρ : Rho) (S : Sto)
  | exc (c : Str) (fs : List (Str × D)) (ρ : Rho) (S : Sto) | bad
def gOf (ys : List D) : Out → GOut
  | .nx ρ S => .nx ys ρ S
  | .rt d S => .rt ys d S
  | .bk ρ S => .bk ys ρ S
  | .ct ρ S => .ct ys ρ S
  | .exc c fs ρ S => .exc c fs ρ S
  | .bad => .bad
def WG' (F : Fx) (r : GOut) (E : GEnds) (W : WX) (μ : List Addr) (H : Hp) : Prop := match r with
  | .nx ys ρ S => ∀ vs σ μ' H', Up μ H μ' H' → RS F μ' H' S → RG F μ' H' σ ρ → RDs F μ' H' vs ys → E.nx vs σ H'
  | .rt ys d S => ∀ vs v μ' H', Up μ H μ' H' → RS F μ' H' S → RD F μ' H' v d → RDs F μ' H' vs ys → E.rt vs v H'
  | .bk ys ρ S => ∀ vs σ μ' H', Up μ H μ' H' → RS F μ' H' S → RG F μ' H' σ ρ → RDs F μ' H' vs ys → E.bk vs σ H'
  | .ct ys ρ S => ∀ vs σ μ' H', Up μ H μ' H' → RS F μ' H' S → RG F μ' H' σ ρ → RDs F μ' H' vs ys → E.ct vs σ H'
  | .exc c fs ρ S => ∀ cls dd σ μ' H', Up μ H μ' H' → RS F μ' H' S → RG F μ' H' σ ρ → XR F μ' H' cls dd c fs → W cls dd σ H'
  | .bad => False
section
variable {F : Fx} {μ μ1 : List Addr} {H H1 : Hp} {E : GEnds} {W : WX}
theorem WG'.shift {r : GOut} (u : Up μ H μ1 H1) (h : WG' F r E W μ H) : WG' F r E W μ1 H1 := by
  cases r with
  | nx ys ρ S => exact fun vs σ μ' H' u' => h vs σ μ' H' (u.trans u')
  | rt ys d S => exact fun vs v μ' H' u' => h vs v μ' H' (u.trans u')
  | bk ys ρ S => exact fun vs σ μ' H' u' => h vs σ μ' H' (u.trans u')
  | ct ys ρ S => exact fun vs σ μ' H' u' => h vs σ μ' H' (u.trans u')
  | exc c fs ρ S => exact fun cls dd σ μ' H' u' => h cls dd σ μ' H' (u.trans u')
  | bad => exact h
theorem WG'.plain {o : Out} {vs : List V} {ys : List D} (r : RDs F μ H vs ys) (h : WG' F (gOf ys o) E W μ H) : WS' F o (E.at vs) W μ H := by
  cases o with
  | nx ρ S => exact fun σ μ' H' u s g => h vs σ μ' H' u s g (r.up u)
  | rt d S => exact fun v μ' H' u s g => h vs v μ' H' u s g (r.up u)
  | bk ρ S => exact fun σ μ' H' u s g => h vs σ μ' H' u s g (r.up u)
  | ct ρ S => exact fun σ μ' H' u s g => h vs σ μ' H' u s g (r.up u)
  | exc c fs ρ S => exact h
  | bad => exact h
end
/-! ### the promise -/
section
variable {P : Program} {w : World} {K : Frag} {mg : Str → Option Value} {base : Heap}
theorem GFn.mono {j k : Nat} {f : Addr} {fd : FuncData} {ps : List Str} {sp : SpG} (F : GFn P w K mg base j f fd ps sp) (h : j ≤ k) : GFn P w K mg base k f fd ps sp := by
  refine ⟨F.len, fun A outer s H args us vs Q E hr he hb hv hs => codeAny_mono (F.run A outer s H args us vs Q E (hr.mono h) he hb hv hs) fun r s' q => ?_⟩
  cases r with
  | error e => exact q
  | ok fl =>
    cases fl with
    | ret u =>
      obtain ⟨a, g, c, h1, h2, h3, h4, h5, h6, h7, h8, h9, wake⟩ := q
      exact ⟨a, g, c, h1, h2, h3, h4, h5, h6, h7, h8, h9, fun A S s2 hr => wake A S s2 (hr.mono h)⟩
    | _ => exact q
end
/-! ### list(g(..)) -/
section
variable {X : Cx} {W : WX} {e : Expr} {es : List Expr} {st : Stmt} {k : Nat} {tg : TGen} {E : L2.St → XK} {mr : MA} {pos p p1 pos' : Pos}
def oneOf {α : Type} (cs : List Str) (r : Res α) : Res α := match r with
  | .exc c fs S => if c ∈ cs then .exc c fs S else .bad
  | r => r
/-- the words: the arguments, then all that is handed out -/
def mListG (cs : List Str) (f : List D → Sto → Res (List D)) (a : MA) : MA := fun ρ S => (a ρ S).bind fun ds S1 => oneOf cs (f ds S1)
end
end Dm
-- text DmGen3
set_option maxHeartbeats 1000000
namespace Dm
open PySem L2 PySem.Spec PyProof.Rows GenW
open PySem.W (Frag)
/-! ### the words -/
section
variable {S : Sto} {ρ : Rho} {E : EX} {EO : EXO}
/-- what is wanted of a generator's statement -/
def GOut.DoesE (o : GOut) (EO : EXO) (N : List D → Rho → Sto → Prop) : Prop := match o with
  | .nx ys ρ S => N ys ρ S
  | .exc c fs ρ S => EO c fs ρ S
  | _ => False
@[simp] theorem listG_does {cs : List Str} {f : List D → Sto → Res (List D)} {a : MA} {Q : List D → Sto → Prop} : (mListG cs f a ρ S).DoesE E Q = (a ρ S).DoesE E fun ds S1 => (oneOf cs (f ds S1)).DoesE E Q := by
  unfold mListG
  rw [does_bind]
end
end Dm
-- text DmGen4
set_option maxHeartbeats 1000000
/-! ### list(g(k = v, ..)) -/
namespace Dm
open PySem L2 PySem.Spec PyProof.Rows GenW
open PySem.W (Frag)
section
variable {X : Cx} {W : WX} {e : Expr} {es : List Expr} {kws : List Keyword} {st : Stmt} {k : Nat} {mr mk : MA} {pos p p1 pos' : Pos}
def mListGK (cs : List Str) (f : List D → Sto → Res (List D)) (q : Nat) (perm : List Nat) (a : MA) : MA := fun ρ S => (a ρ S).bind fun zs S1 => if zs.length = q then oneOf cs (f (perm.filterMap (zs[·]?)) S1) else .bad
@[simp] theorem listGK_does {S : Sto} {ρ : Rho} {E : EX} {cs : List Str} {f : List D → Sto → Res (List D)} {a : MA} {q : Nat} {perm : List Nat} {Q : List D → Sto → Prop} : (mListGK cs f q perm a ρ S).DoesE E Q = (a ρ S).DoesE E fun zs S1 => zs.length = q ∧ (oneOf cs (f (perm.filterMap (zs[·]?)) S1)).DoesE E Q := by
  unfold mListGK
  rw [does_bind]
  congr 1
  funext zs S1
  by_cases c : zs.length = q
  · rw [if_pos c]; simp [c]
  · rw [if_neg c]; simp [c, Res.DoesE]
end
end Dm
-- text Hw28
namespace Dm
open PySem L2
end Dm
-- text DmCnt
namespace Dm
open PySem L2 PySem.Spec PyProof.Rows
open PySem.W (Frag)
/-! ### xs.count(y), flat items -/
section
variable {X : Cx} {W : WX} {o e : Expr} {mo me : ME} {apos cpos : Pos}
def mCnt (mo me : ME) : ME := fun ρ S => (mo ρ S).bind fun x S1 => match lstOf S1 x with
  | none => .bad
  | some _ => (me ρ S1).bind fun y S2 => match lstOf S2 x with
    | some ds => if flatD y = true ∧ ds.all flatD = true then .ok (.int ((ds.countP (eqF · y) : Nat) : Int)) S2 else .bad
    | none => .bad
end
section
variable {S : Sto} {ρ : Rho} {Q : D → Sto → Prop} {E : EX}
@[simp] theorem does_cnt {o m : ME} : (mCnt o m ρ S).DoesE E Q = (o ρ S).DoesE E fun x S1 => (∃ l, lstOf S1 x = some l) ∧ (m ρ S1).DoesE E fun y S2 => ∃ ds, lstOf S2 x = some ds ∧ (flatD y = true ∧ ds.all flatD = true) ∧ Q (.int ((ds.countP (eqF · y) : Nat) : Int)) S2 := by
  unfold mCnt
  rw [does_bind]; congr 1; funext x S1
  cases q : lstOf S1 x with
  | none => exact propext ⟨fun h => h.elim, fun ⟨⟨_, h⟩, _⟩ => nomatch h⟩
  | some l =>
    simp only
    rw [does_bind]
    refine propext ⟨fun h => ⟨⟨l, rfl⟩, ?_⟩, fun ⟨_, h⟩ => ?_⟩
    · refine resMonoI h fun y S2 h2 => ?_
      cases q1 : lstOf S2 x with
      | none => rw [q1] at h2; exact h2.elim
      | some ds =>
        rw [q1] at h2
        simp only at h2
        by_cases c : flatD y = true ∧ ds.all flatD = true
        · rw [if_pos c] at h2
          exact ⟨ds, rfl, c, h2⟩
        · rw [if_neg c] at h2; exact h2.elim
    · refine resMonoI h fun y S2 h2 => ?_
      obtain ⟨ds, q1, c, h3⟩ := h2
      rw [q1]
      simp only
      rw [if_pos c]
      exact h3
end
end Dm
-- text Hw29
namespace Dm
open PySem L2
end Dm
-- text Hw30
namespace Dm
open PySem L2
end Dm
-- text DmSortD
namespace Dm
open PySem L2 PySem.Spec PyProof.Rows
open PySem.W (Frag AllAlike Sortable dataLe dataLt alike alikeAll keyToks keyToksAll EachIs)
/-! ### sorted of nested data (alike, tuples or lists) -/
/-! ### the sorted list, plain -/
end Dm
-- text Hw31
namespace Dm
open PySem L2
end Dm
-- text DmNewK
/-! ### type.__call__ on an own error class, keywords too -/
namespace PySem
end PySem
namespace Dm
open PySem L2 PySem.Spec PyProof.Rows
open PySem.W (Frag)
/-! ### X(k = v, ..) of an own class with its own __init__ -/
def mNewXK (c : Str) (ns : List Str) (q : Nat) (perm : List Nat) (ma : MA) : ME := fun ρ S => (ma ρ S).bind fun zs S1 => if zs.length = q then (if (perm.filterMap (zs[·]?)).length = ns.length then .ok (.exn c (newFs ns (perm.filterMap (zs[·]?)))) S1 else .bad) else .bad
section
variable {S : Sto} {ρ : Rho} {E : EX} {Q : D → Sto → Prop}
@[simp] theorem does_newXK {c : Str} {ns : List Str} {q : Nat} {perm : List Nat} {ma : MA} : (mNewXK c ns q perm ma ρ S).DoesE E Q = (ma ρ S).DoesE E fun zs S1 => zs.length = q ∧ (perm.filterMap (zs[·]?)).length = ns.length ∧ Q (.exn c (newFs ns (perm.filterMap (zs[·]?)))) S1 := by
  unfold mNewXK
  rw [does_bind]; congr 1; funext zs S1
  by_cases h : zs.length = q
  · rw [if_pos h]
    by_cases h2 : (perm.filterMap (zs[·]?)).length = ns.length
    · rw [if_pos h2]; simp [h, h2]
    · rw [if_neg h2]; simp [h, h2, Res.DoesE]
  · rw [if_neg h]; simp [h, Res.DoesE]
end
/-! ### X(m), m any value -/
def mNewV (c : Str) (me : ME) : ME := fun ρ S => (me ρ S).bind fun _ S1 => .ok (.exn c []) S1
section
variable {S : Sto} {ρ : Rho} {E : EX} {Q : D → Sto → Prop}
@[simp] theorem does_newV {c : Str} {m : ME} : (mNewV c m ρ S).DoesE E Q = (m ρ S).DoesE E fun _ S1 => Q (.exn c []) S1 := by
  unfold mNewV
  rw [does_bind]; rfl
end
/-! ### isinstance(e, T), T a built-in error class -/
end Dm
-- text Hw32
namespace Dm
open PySem L2
end Dm
-- text DmTxt
namespace Dm
open PySem L2 PySem.Spec PyProof.Rows
open PySem.W (Frag)
/-! ### texts: join, split, isdigit, removeprefix, str, int -/
def strsOf : List D → Option (List Str)
  | [] => some []
  | .str x :: ds => (strsOf ds).map (x :: ·)
  | _ :: _ => none
@[simp] theorem strsOf_map {ns : List Str} : strsOf (ns.map .str) = some ns := by
  induction ns with
  | nil => rfl
  | cons n ns ih => rw [List.map_cons]; show (strsOf _).map _ = _; rw [ih] <;> rfl
def joinFit (a : Str) (ys : List Str) : Prop := (ys.map (·.length)).sum + ys.length * a.length ≤ 16777216
instance {a : Str} {ys : List Str} : Decidable (joinFit a ys) := inferInstanceAs (Decidable (_ ≤ _))
/-- o.join(e), o a text, e texts -/
def mJoin (mo me : ME) : ME := fun ρ S => (mo ρ S).bind fun x S1 => match x with
  | .str a => (me ρ S1).bind fun y S2 => match (seqOf S2 y).bind strsOf with
    | some ys => if joinFit a ys then .ok (.str (Txt.join a ys)) S2 else .bad
    | none => .bad
  | _ => .bad
/-- o.split(e) -/
def mSplit (mo me : ME) : MA := fun ρ S => (mo ρ S).bind fun x S1 => match x with
  | .str a => (me ρ S1).bind fun y S2 => match y with
    | .str b => if (b.length == 0) = false ∧ a.length + 2 ≤ sizeLine then .ok ((Txt.split a b).map .str) S2 else .bad
    | _ => .bad
  | _ => .bad
/-- o.removeprefix(e) -/
def mRmPre (mo me : ME) : ME := fun ρ S => (mo ρ S).bind fun x S1 => match x with
  | .str a => (me ρ S1).bind fun y S2 => match y with
    | .str b => if a.length ≤ sizeLine then .ok (.str (Txt.removeprefix a b)) S2 else .bad
    | _ => .bad
  | _ => .bad
section
variable {S : Sto} {ρ : Rho} {E : EX} {mo me : ME}
@[simp] theorem does_join {Q : D → Sto → Prop} : (mJoin mo me ρ S).DoesE E Q = (mo ρ S).DoesE E fun x S1 => match x with
  | .str a => (me ρ S1).DoesE E fun y S2 => match (seqOf S2 y).bind strsOf with
    | some ys => joinFit a ys ∧ Q (.str (Txt.join a ys)) S2
    | none => False
  | _ => False := by
  unfold mJoin
  rw [does_bind]; congr 1; funext x S1
  cases x with
  | str a =>
    simp only
    rw [does_bind]; congr 1; funext y S2
    cases (seqOf S2 y).bind strsOf with
    | none => rfl
    | some ys =>
      simp only
      by_cases c : joinFit a ys
      · rw [if_pos c]; simp [c]
      · rw [if_neg c]; simp [c, Res.DoesE]
  | _ => rfl
@[simp] theorem does_split {Q : List D → Sto → Prop} : (mSplit mo me ρ S).DoesE E Q = (mo ρ S).DoesE E fun x S1 => match x with
  | .str a => (me ρ S1).DoesE E fun y S2 => match y with
    | .str b => ((b.length == 0) = false ∧ a.length + 2 ≤ sizeLine) ∧ Q ((Txt.split a b).map .str) S2
    | _ => False
  | _ => False := by
  unfold mSplit
  rw [does_bind]; congr 1; funext x S1
  cases x with
  | str a =>
    simp only
    rw [does_bind]; congr 1; funext y S2
    cases y with
    | str b =>
      simp only
      by_cases c : (b.length == 0) = false ∧ a.length + 2 ≤ sizeLine
      · rw [if_pos c]; simp [c]
      · rw [if_neg c]
        have : ((b.length == 0) = false ∧ a.length + 2 ≤ sizeLine) = False := eq_false c
        simp only [this, false_and]; rfl
    | _ => rfl
  | _ => rfl
@[simp] theorem does_rmpre {Q : D → Sto → Prop} : (mRmPre mo me ρ S).DoesE E Q = (mo ρ S).DoesE E fun x S1 => match x with
  | .str a => (me ρ S1).DoesE E fun y S2 => match y with
    | .str b => a.length ≤ sizeLine ∧ Q (.str (Txt.removeprefix a b)) S2
    | _ => False
  | _ => False := by
  unfold mRmPre
  rw [does_bind]; congr 1; funext x S1
  cases x with
  | str a =>
    simp only
    rw [does_bind]; congr 1; funext y S2
    cases y with
    | str b =>
      simp only
      by_cases c : a.length ≤ sizeLine
      · rw [if_pos c]; simp [c]
      · rw [if_neg c]
        have : (a.length ≤ sizeLine) = False := eq_false c
        simp only [this, false_and]; rfl
    | _ => rfl
  | _ => rfl
end
end Dm
-- text Hw33
namespace Dm
open PySem L2
end Dm
-- text Hw34
namespace Dm
open PySem L2
end Dm
-- text DmTxt2
namespace Dm
open PySem L2 PySem.Spec PyProof.Rows
open PySem.W (Frag)
/-! ### texts: each sign of one, a sign in one, one times a number -/
def chr1 (c : Nat) : Str := ⟨#[c]⟩
def chrsD (x : Str) : List D := x.cps.toList.map fun c => D.str (chr1 c)
/-- over the signs of a text -/
def iChr (m : ME) : MA := fun ρ S => (m ρ S).bind fun d S1 => match d with
  | .str x => if x.length ≤ 16777216 then .ok (chrsD x) S1 else .bad
  | _ => .bad
section
variable {S : Sto} {ρ : Rho} {E : EX} {Q : List D → Sto → Prop}
@[simp] theorem does_chr {m : ME} : (iChr m ρ S).DoesE E Q = (m ρ S).DoesE E fun d S1 => match d with
    | .str x => x.length ≤ 16777216 ∧ Q (chrsD x) S1
    | _ => False := by
  unfold iChr
  rw [does_bind]; congr 1; funext d S1
  cases d with
  | str x =>
    simp only
    by_cases c : x.length ≤ 16777216
    · rw [if_pos c]; simp [c]
    · rw [if_neg c]; simp [c, Res.DoesE]
  | _ => rfl
end
end Dm
-- text Hw35
namespace Dm
open PySem L2
end Dm
-- text Hw36
namespace Dm
open PySem L2
end Dm
-- text Hw37
namespace Dm
open PySem L2
end Dm
-- text Hw38
namespace Dm
open PySem L2
end Dm
-- text DmObj
/-! Instances of own classes: a cell with fields. -/
namespace Dm
open PySem L2 PySem.Spec PyProof.Rows
open PySem.W (Frag)
/-! ### fields -/
def putFD (f : Str) (y : D) : List (Str × D) → List (Str × D)
  | [] => [(f, y)]
  | (g, x) :: r => if g = f then (g, y) :: r else (g, x) :: putFD f y r
/-- in each of these classes the name is no attribute of the class -/
structure FldOk (K : Frag) (mg : Str → Option Value) (cs : List Str) (f : Str) : Prop where
  ex : ∀ c, c ∈ cs → mg c = none ∨ ∃ C : Addr, mg c = some (.ref C) ∧ Cls K C ∧ NoAttr K C f
theorem FldOk.at {K : Frag} {mg : Str → Option Value} {cs : List Str} {f c : Str} {C : Addr} (T : FldOk K mg cs f) (hc : c ∈ cs) (e : mg c = some (.ref C)) : Cls K C ∧ NoAttr K C f := by
  rcases T.ex c hc with z | ⟨C', k1, k2, k3⟩
  · rw [e] at z; cases z
  · have z := k1.symm.trans e
    cases z
    exact ⟨k2, k3⟩
def mSetF (cs : List Str) (f : Str) (m o : ME) : MS := fun ρ S => ofRes (m ρ S) ρ fun y S1 => ofRes (o ρ S1) ρ fun x S2 => match x with
  | .cell n => match S2[n]? with
    | some (.obj c fs) => if c ∈ cs ∧ fs.length < 1000 then .nx ρ (S2.set n (.obj c (putFD f y fs))) else .bad
    | _ => .bad
  | _ => .bad
/-! ### defs within a class -/
structure FnQ (P : Program) (w : World) (K : Frag) (mg : Str → Option Value) (base : Heap) (k : Nat) (nm qual : Str) (st : Stmt) (f : Addr) (ps : List Str) (m : List D → Sto → Res D) : Prop where
  ex : ∃ fd, Fun K nm qual st f fd ∧ Binds K fd ps [] ∧ FnOk P w K mg base (L2.CX P w) k f fd ps (spD w K mg m)
section
variable {P : Program} {w : World} {K : Frag} {mg : Str → Option Value} {base : Heap}
theorem FnQ.mono {j k : Nat} {nm qual : Str} {st : Stmt} {f : Addr} {ps : List Str} {m : List D → Sto → Res D} (F : FnQ P w K mg base j nm qual st f ps m) (h : j ≤ k) : FnQ P w K mg base k nm qual st f ps m :=
  let ⟨fd, a, b, c⟩ := F; ⟨fd, a, b, c.mono h⟩
end
/-! ### methods: by the instance's class -/
abbrev MTb := List (Str × (List D → Sto → Res D))
/-- of the instance at x: the def of its class -/
def defOf (tb : MTb) (m : Str) (S : Sto) (x : D) : Option (List D → Sto → Res D) := match x with
  | .cell n => match S[n]? with
    | some (.obj c fs) => if fs.lookup m = none then tb.lookup c else none
    | _ => none
  | _ => none
instance {fs : List (Str × D)} {m : Str} : Decidable (fs.lookup m = none) := match h : fs.lookup m with
  | none => isTrue rfl
  | some _ => isFalse (fun e => nomatch e)
def mMeth (tb : MTb) (m : Str) (o : ME) (a : MA) : ME := fun ρ S => (o ρ S).bind fun x S1 => match defOf tb m S1 x with
  | some f => (a ρ S1).bind fun ds S2 => f (x :: ds) S2
  | none => .bad
def mMethK (tb : MTb) (m : Str) (q : Nat) (perm : List Nat) (o : ME) (a : MA) : ME := fun ρ S => (o ρ S).bind fun x S1 => match defOf tb m S1 x with
  | some f => (a ρ S1).bind fun ds S2 => if ds.length = q then f (perm.filterMap ((x :: ds)[·]?)) S2 else .bad
  | none => .bad
/-! with keywords -/
end Dm
-- text DmObj2
/-! Instances of own classes: making one, properties, len, [], in; a def reached by the class's name. -/
namespace Dm
open PySem L2 PySem.Spec PyProof.Rows
open PySem.W (Frag)
/-! ### C(..) -/
def mMake (c : Str) (f : List D → Sto → Res D) (n q : Nat) (perm : List Nat) (dd : List D) (a k : MA) : ME := fun ρ S => (a ρ S).bind fun xs S1 => (k ρ S1).bind fun zs S2 => if xs.length = n ∧ zs.length = q then
    (f (perm.filterMap ((.cell S2.length :: (xs ++ zs ++ dd))[·]?)) (S2 ++ [.obj c []])).bind fun d S3 => match d with
      | .non => .ok (.cell S2.length) S3
      | _ => .bad
  else .bad
/-! ### where nothing may be raised -/
def noX {α : Type} (r : Res α) : Res α := match r with
  | .ok d S => .ok d S
  | _ => .bad
/-! ### e.p, a property -/
def clsOf (tb : MTb) (S : Sto) (x : D) : Option (List D → Sto → Res D) := match x with
  | .cell n => match S[n]? with
    | some (.obj c _) => tb.lookup c
    | _ => none
  | _ => none
def mProp (tb : MTb) (o : ME) : ME := fun ρ S => (o ρ S).bind fun x S1 => match clsOf tb S1 x with
  | some f => noX (f [x] S1)
  | none => .bad
section
variable {X : Cx} {W : WX} {e o : Expr} {mo ma mb : ME} {pos p : Pos} {tb : MTb} {j k : Nat}
/-! ### len, in, [] -/
def mLenO (tb : MTb) (o : ME) : ME := fun ρ S => (o ρ S).bind fun x S1 => match defOf tb "__len__" S1 x with
  | some f => (noX (f [x] S1)).bind fun d S2 => match d with
    | .int i => if 0 ≤ i ∧ i < 9223372036854775808 then .ok (.int i) S2 else .bad
    | _ => .bad
  | none => .bad
/-- y in x, x an instance -/
def mInO (neg : Bool) (tb : MTb) (a b : ME) : ME := fun ρ S => (a ρ S).bind fun y S1 => (b ρ S1).bind fun x S2 => match defOf tb "__contains__" S2 x with
  | some f => (noX (f [x, y] S2)).bind fun d S3 => match d with
    | .bl k => .ok (.bl (neg ^^ k)) S3
    | _ => .bad
  | none => .bad
variable {a b : Expr}
/-- x[y] -/
def mIxO (tb : MTb) (a b : ME) : ME := fun ρ S => (a ρ S).bind fun x S1 => (b ρ S1).bind fun y S2 => match defOf tb "__getitem__" S2 x with
  | some f => f [x, y] S2
  | none => .bad
end
/-! ### C.m(x, ..): a def by its class -/
end Dm
-- text DmSet2D
/-! d[k], e[l] = a pair -/
namespace Dm
open PySem L2 PySem.Spec PyProof.Rows
open PySem.W (Frag)
end Dm
-- text DmIn3
namespace Dm
open PySem L2 PySem.Spec PyProof.Rows
open PySem.W (Frag)
/-! ### x in a tuple of nested plain data -/
end Dm
-- text Hw39
namespace Dm
open PySem L2
end Dm
-- text Hw40
namespace Dm
open PySem L2
end Dm
-- text Hw41
namespace Dm
open PySem L2
end Dm
-- text DmBackV
/-! x[::e], a list, e = 1 or -1. -/
namespace Dm
open PySem L2 PySem.Spec PyProof.Rows
section
variable {X : Cx} {W : WX} {e b : Expr} {m k : ME} {te tk : TE} {p3 pos : Pos}
def mBackV (m k : ME) : ME := fun ρ S => (m ρ S).bind fun x S1 => (k ρ S1).bind fun y S2 => match lstOf S2 x, y with
  | some ds, .int j => if j = 1 then .ok (.lst ds) S2 else if j = -1 then .ok (.lst ds.reverse) S2 else .bad
  | _, _ => .bad
end
section
variable {S : Sto} {ρ : Rho} {Q : D → Sto → Prop} {E : EX} {EO : EXO}
@[simp] theorem does_backV {m k : ME} : (mBackV m k ρ S).DoesE E Q = (m ρ S).DoesE E fun x S1 => (k ρ S1).DoesE E fun y S2 => match lstOf S2 x, y with
    | some ds, .int j => j = 1 ∧ Q (.lst ds) S2 ∨ j = -1 ∧ Q (.lst ds.reverse) S2
    | _, _ => False := by
  unfold mBackV
  rw [does_bind]; congr 1; funext x S1
  rw [does_bind]; congr 1; funext y S2
  cases lstOf S2 x with
  | none => simp [Res.DoesE]
  | some ds =>
    cases y with
    | int j =>
      simp only
      by_cases j1 : j = 1
      · subst j1; simp
      · by_cases j2 : j = -1
        · subst j2; simp
        · simp [j1, j2, Res.DoesE]
    | _ => simp [Res.DoesE]
end
end Dm
-- text DmObjW
namespace Dm
open PySem L2
section
variable {S : Sto} {ρ : Rho} {Q : D → Sto → Prop} {E : EX} {EO : EXO} {N B C : Rho → Sto → Prop} {R : D → Sto → Prop} {cs : List Str} {f m : Str} {tb : MTb}
@[simp] theorem does_setF {v o : ME} : (mSetF cs f v o ρ S).DoesE EO N R B C = (v ρ S).DoesE (eAt EO ρ) fun y S1 => (o ρ S1).DoesE (eAt EO ρ) fun x S2 => match x with
    | .cell n => ∃ c fs, S2[n]? = some (.obj c fs) ∧ (c ∈ cs ∧ fs.length < 1000) ∧ N ρ (S2.set n (.obj c (putFD f y fs)))
    | _ => False := by
  unfold mSetF
  rw [does_ofRes]; congr 1; funext y S1
  rw [does_ofRes]; congr 1; funext x S2
  cases x with
  | cell n =>
    simp only
    cases e : S2[n]? with
    | none => simp [Out.DoesE]
    | some cc =>
      cases cc with
      | obj c fs =>
        simp only
        by_cases h : c ∈ cs ∧ fs.length < 1000
        · rw [if_pos h]
          refine propext ⟨fun z => ⟨c, fs, rfl, h, z⟩, fun ⟨c', fs', e', _, z⟩ => ?_⟩
          cases e'
          exact z
        · rw [if_neg h]
          refine propext ⟨fun z => z.elim, fun ⟨c', fs', e', h', z⟩ => ?_⟩
          cases e'
          exact (h h').elim
      | _ => simp [Out.DoesE]
  | _ => rfl
@[simp] theorem does_meth {o : ME} {a : MA} : (mMeth tb m o a ρ S).DoesE E Q = (o ρ S).DoesE E fun x S1 => ∃ g, defOf tb m S1 x = some g ∧ (a ρ S1).DoesE E fun ds S2 => (g (x :: ds) S2).DoesE E Q := by
  unfold mMeth
  rw [does_bind]; congr 1; funext x S1
  cases e : defOf tb m S1 x with
  | none => exact propext ⟨fun z => z.elim, fun ⟨_, z, _⟩ => nomatch z⟩
  | some g =>
    simp only
    rw [does_bind]
    refine propext ⟨fun z => ⟨g, rfl, z⟩, fun ⟨g', e', z⟩ => ?_⟩
    cases e'
    exact z
@[simp] theorem does_methK {q : Nat} {perm : List Nat} {o : ME} {a : MA} : (mMethK tb m q perm o a ρ S).DoesE E Q = (o ρ S).DoesE E fun x S1 => ∃ g, defOf tb m S1 x = some g ∧ (a ρ S1).DoesE E fun ds S2 => ds.length = q ∧ (g (perm.filterMap ((x :: ds)[·]?)) S2).DoesE E Q := by
  unfold mMethK
  rw [does_bind]; congr 1; funext x S1
  cases e : defOf tb m S1 x with
  | none => exact propext ⟨fun z => z.elim, fun ⟨_, z, _⟩ => nomatch z⟩
  | some g =>
    simp only
    rw [does_bind]
    have ee : ∀ ds S2, (if ds.length = q then g (perm.filterMap ((x :: ds)[·]?)) S2 else Res.bad).DoesE E Q = (ds.length = q ∧ (g (perm.filterMap ((x :: ds)[·]?)) S2).DoesE E Q) := fun ds S2 => by
      by_cases h : ds.length = q
      · rw [if_pos h]; simp [h]
      · rw [if_neg h]; simp [h, Res.DoesE]
    refine propext ⟨fun z => ⟨g, rfl, ?_⟩, fun ⟨g', e', z⟩ => ?_⟩
    · exact Res.DoesE.mono z fun ds S2 h => Eq.mp (ee ds S2) h
    · cases e'
      exact Res.DoesE.mono z fun ds S2 h => Eq.mpr (ee ds S2) h
@[simp] theorem does_make {c : Str} {g : List D → Sto → Res D} {n q : Nat} {perm : List Nat} {dd : List D} {a k : MA} : (mMake c g n q perm dd a k ρ S).DoesE E Q = (a ρ S).DoesE E fun xs S1 => (k ρ S1).DoesE E fun zs S2 => (xs.length = n ∧ zs.length = q) ∧
    (g (perm.filterMap ((.cell S2.length :: (xs ++ zs ++ dd))[·]?)) (S2 ++ [.obj c []])).DoesE E fun d S3 => d = .non ∧ Q (.cell S2.length) S3 := by
  unfold mMake
  rw [does_bind]; congr 1; funext xs S1
  rw [does_bind]; congr 1; funext zs S2
  by_cases h : xs.length = n ∧ zs.length = q
  · rw [if_pos h, does_bind]
    simp only [h, and_self, true_and]
    congr 1; funext d S3
    cases d <;> simp [Res.DoesE]
  · rw [if_neg h]; simp [h, Res.DoesE]
theorem noX_does {r : Res D} : (noX r).DoesE E Q = r.Does Q := by
  cases r <;> rfl
@[simp] theorem does_prop {o : ME} : (mProp tb o ρ S).DoesE E Q = (o ρ S).DoesE E fun x S1 => ∃ g, clsOf tb S1 x = some g ∧ (g [x] S1).Does Q := by
  unfold mProp
  rw [does_bind]; congr 1; funext x S1
  cases e : clsOf tb S1 x with
  | none => exact propext ⟨fun z => z.elim, fun ⟨_, z, _⟩ => nomatch z⟩
  | some g =>
    simp only
    rw [noX_does]
    refine propext ⟨fun z => ⟨g, rfl, z⟩, fun ⟨g', e', z⟩ => ?_⟩
    cases e'
    exact z
@[simp] theorem does_lenO {o : ME} : (mLenO tb o ρ S).DoesE E Q = (o ρ S).DoesE E fun x S1 => ∃ g, defOf tb "__len__" S1 x = some g ∧ (g [x] S1).Does fun d S2 => ∃ i : Int, d = .int i ∧ (0 ≤ i ∧ i < 9223372036854775808) ∧ Q (.int i) S2 := by
  unfold mLenO
  rw [does_bind]; congr 1; funext x S1
  cases e : defOf tb "__len__" S1 x with
  | none => exact propext ⟨fun z => z.elim, fun ⟨_, z, _⟩ => nomatch z⟩
  | some g =>
    simp only
    rw [does_bind, noX_does]
    have ee : ∀ (d : D) (S2 : Sto), (match d with | .int i => if 0 ≤ i ∧ i < 9223372036854775808 then Res.ok (.int i) S2 else .bad | _ => .bad : Res D).DoesE E Q = (∃ i : Int, d = .int i ∧ (0 ≤ i ∧ i < 9223372036854775808) ∧ Q (.int i) S2) := fun d S2 => by
      cases d with
      | int i =>
        simp only
        by_cases h : 0 ≤ i ∧ i < 9223372036854775808
        · rw [if_pos h]; exact propext ⟨fun z => ⟨i, rfl, h, z⟩, fun ⟨j, ej, _, z⟩ => by cases ej; exact z⟩
        · rw [if_neg h]; exact propext ⟨fun z => z.elim, fun ⟨j, ej, h', z⟩ => by cases ej; exact (h h').elim⟩
      | _ => exact propext ⟨fun z => z.elim, fun ⟨j, ej, _⟩ => nomatch ej⟩
    refine propext ⟨fun z => ⟨g, rfl, ?_⟩, fun ⟨g', e', z⟩ => ?_⟩
    · exact Res.DoesE.mono z fun d S2 h => Eq.mp (ee d S2) h
    · cases e'
      exact Res.DoesE.mono z fun d S2 h => Eq.mpr (ee d S2) h
@[simp] theorem does_inO {neg : Bool} {a b : ME} : (mInO neg tb a b ρ S).DoesE E Q = (a ρ S).DoesE E fun y S1 => (b ρ S1).DoesE E fun x S2 => ∃ g, defOf tb "__contains__" S2 x = some g ∧ (g [x, y] S2).Does fun d S3 => ∃ k : Bool, d = .bl k ∧ Q (.bl (neg ^^ k)) S3 := by
  unfold mInO
  rw [does_bind]; congr 1; funext y S1
  rw [does_bind]; congr 1; funext x S2
  cases e : defOf tb "__contains__" S2 x with
  | none => exact propext ⟨fun z => z.elim, fun ⟨_, z, _⟩ => nomatch z⟩
  | some g =>
    simp only
    rw [does_bind, noX_does]
    have ee : ∀ (d : D) (S3 : Sto), (match d with | .bl k => Res.ok (.bl (neg ^^ k)) S3 | _ => .bad : Res D).DoesE E Q = (∃ k : Bool, d = .bl k ∧ Q (.bl (neg ^^ k)) S3) := fun d S3 => by
      cases d with
      | bl k => exact propext ⟨fun z => ⟨k, rfl, z⟩, fun ⟨j, ej, z⟩ => by cases ej; exact z⟩
      | _ => exact propext ⟨fun z => z.elim, fun ⟨j, ej, _⟩ => nomatch ej⟩
    refine propext ⟨fun z => ⟨g, rfl, ?_⟩, fun ⟨g', e', z⟩ => ?_⟩
    · exact Res.DoesE.mono z fun d S2 h => Eq.mp (ee d S2) h
    · cases e'
      exact Res.DoesE.mono z fun d S2 h => Eq.mpr (ee d S2) h
@[simp] theorem does_ixO {a b : ME} : (mIxO tb a b ρ S).DoesE E Q = (a ρ S).DoesE E fun x S1 => (b ρ S1).DoesE E fun y S2 => ∃ g, defOf tb "__getitem__" S2 x = some g ∧ (g [x, y] S2).DoesE E Q := by
  unfold mIxO
  rw [does_bind]; congr 1; funext x S1
  rw [does_bind]; congr 1; funext y S2
  cases e : defOf tb "__getitem__" S2 x with
  | none => exact propext ⟨fun z => z.elim, fun ⟨_, z, _⟩ => nomatch z⟩
  | some g =>
    simp only
    refine propext ⟨fun z => ⟨g, rfl, z⟩, fun ⟨g', e', z⟩ => ?_⟩
    cases e'
    exact z
end
end Dm
-- text DmObj3
/-! isinstance of instances of own classes; x == y by an own __eq__. -/
namespace Dm
open PySem L2 PySem.Spec PyProof.Rows
open PySem.W (Frag)
/-! ### isinstance(x, C) -/
/-! ### x == y, two instances of one class -/
def sameCls (S : Sto) : D → D → Bool
  | .cell n, .cell k => match S[n]?, S[k]? with
    | some (.obj c _), some (.obj c' _) => c == c'
    | _, _ => false
  | _, _ => false
def mEqO (tb : MTb) (a b : ME) : ME := fun ρ S => (a ρ S).bind fun x S1 => (b ρ S1).bind fun y S2 => match defOf tb "__eq__" S2 x, sameCls S2 x y with
  | some f, true => (noX (f [x, y] S2)).bind fun d S3 => match d with
    | .bl k => .ok (.bl k) S3
    | _ => .bad
  | _, _ => .bad
section
variable {S : Sto} {ρ : Rho} {Q : D → Sto → Prop} {E : EX} {EO : EXO} {tb : MTb}
@[simp] theorem does_eqO {a b : ME} : (mEqO tb a b ρ S).DoesE E Q = (a ρ S).DoesE E fun x S1 => (b ρ S1).DoesE E fun y S2 => ∃ g, (defOf tb "__eq__" S2 x = some g ∧ sameCls S2 x y = true) ∧ (g [x, y] S2).Does fun d S3 => ∃ k : Bool, d = .bl k ∧ Q (.bl k) S3 := by
  unfold mEqO
  rw [does_bind]; congr 1; funext x S1
  rw [does_bind]; congr 1; funext y S2
  cases e : defOf tb "__eq__" S2 x with
  | none => exact propext ⟨fun z => z.elim, fun ⟨_, ⟨z, _⟩, _⟩ => nomatch z⟩
  | some g =>
    cases e2 : sameCls S2 x y with
    | false => exact propext ⟨fun z => z.elim, fun ⟨_, ⟨_, z⟩, _⟩ => nomatch z⟩
    | true =>
      simp only
      rw [does_bind, noX_does]
      have ee : ∀ (d : D) (S3 : Sto), (match d with | .bl k => Res.ok (.bl k) S3 | _ => .bad : Res D).DoesE E Q = (∃ k : Bool, d = .bl k ∧ Q (.bl k) S3) := fun d S3 => by
        cases d with
        | bl k => exact propext ⟨fun z => ⟨k, rfl, z⟩, fun ⟨j, ej, z⟩ => by cases ej; exact z⟩
        | _ => exact propext ⟨fun z => z.elim, fun ⟨j, ej, _⟩ => nomatch ej⟩
      refine propext ⟨fun z => ⟨g, by simp, ?_⟩, fun ⟨g', ⟨e', _⟩, z⟩ => ?_⟩
      · exact Res.DoesE.mono z fun d S3 h => Eq.mp (ee d S3) h
      · cases e'
        exact Res.DoesE.mono z fun d S3 h => Eq.mpr (ee d S3) h
end
end Dm
-- text Hw42
namespace Dm
open PySem L2
end Dm
-- text Hw43
namespace Dm
open PySem L2
end Dm
-- text Hw44
namespace Dm
open PySem L2
end Dm
-- text DmObjOr
/-! x | y by an own __or__, the class of y below that of x. -/
namespace Dm
open PySem L2 PySem.Spec PyProof.Rows
open PySem.W (Frag Looks InstAt findIn findCls readsIn typeIn subIn)
end Dm
namespace Dm
open PySem L2 PySem.Spec PyProof.Rows
open PySem.W (Frag)
def mOrO (tb : MTb) (a b : ME) : ME := fun ρ S => (a ρ S).bind fun x S1 => (b ρ S1).bind fun y S2 => match defOf tb "__or__" S2 x, defOf tb "__or__" S2 y with
  | some f, some _ => f [x, y] S2
  | _, _ => .bad
section
variable {S : Sto} {ρ : Rho} {Q : D → Sto → Prop} {E : EX} {EO : EXO} {tb : MTb}
@[simp] theorem does_orO {a b : ME} : (mOrO tb a b ρ S).DoesE E Q = (a ρ S).DoesE E fun x S1 => (b ρ S1).DoesE E fun y S2 => ∃ g, (defOf tb "__or__" S2 x = some g ∧ (∃ g', defOf tb "__or__" S2 y = some g')) ∧ (g [x, y] S2).DoesE E Q := by
  unfold mOrO
  rw [does_bind]; congr 1; funext x S1
  rw [does_bind]; congr 1; funext y S2
  cases e : defOf tb "__or__" S2 x with
  | none => exact propext ⟨fun z => z.elim, fun ⟨_, ⟨z, _⟩, _⟩ => nomatch z⟩
  | some g =>
    cases e2 : defOf tb "__or__" S2 y with
    | none => exact propext ⟨fun z => z.elim, fun ⟨_, ⟨_, _, z⟩, _⟩ => nomatch z⟩
    | some g' => exact propext ⟨fun z => ⟨g, ⟨rfl, g', rfl⟩, z⟩, fun ⟨g0, ⟨e0, _⟩, z⟩ => by cases e0; exact z⟩
end
end Dm
-- text Hw45
namespace Dm
open PySem L2
end Dm
-- text DmObjAny
/-! x | y by an own __or__, y of any kind; isinstance(y, C), y of any kind. -/
namespace Dm
open PySem L2 PySem.Spec PyProof.Rows
open PySem.W (Frag Looks InstAt findIn subIn clsIn)
def okR (tb : MTb) (ecs : List Str) (S : Sto) (y : D) : Bool := match y with
  | .exn c _ => decide (c ∈ ecs)
  | .glo _ => false
  | .cell n => (defOf tb "__or__" S (.cell n)).isSome
  | _ => true
def mOrA (tb : MTb) (ecs : List Str) (a b : ME) : ME := fun ρ S => (a ρ S).bind fun x S1 => (b ρ S1).bind fun y S2 => match defOf tb "__or__" S2 x with
  | some f => if okR tb ecs S2 y = true then f [x, y] S2 else .bad
  | none => .bad
section
variable {S : Sto} {ρ : Rho} {Q : D → Sto → Prop} {E : EX} {EO : EXO} {tb : MTb} {ecs : List Str}
@[simp] theorem does_orA {a b : ME} : (mOrA tb ecs a b ρ S).DoesE E Q = (a ρ S).DoesE E fun x S1 => (b ρ S1).DoesE E fun y S2 => ∃ g, (defOf tb "__or__" S2 x = some g ∧ okR tb ecs S2 y = true) ∧ (g [x, y] S2).DoesE E Q := by
  unfold mOrA
  rw [does_bind]; congr 1; funext x S1
  rw [does_bind]; congr 1; funext y S2
  cases e : defOf tb "__or__" S2 x with
  | none => exact propext ⟨fun z => z.elim, fun ⟨_, ⟨z, _⟩, _⟩ => nomatch z⟩
  | some g =>
    by_cases e2 : okR tb ecs S2 y = true
    · simp only [if_pos e2]
      exact propext ⟨fun z => ⟨g, ⟨rfl, e2⟩, z⟩, fun ⟨g0, ⟨e0, _⟩, z⟩ => by cases e0; exact z⟩
    · simp only [if_neg e2]
      exact propext ⟨fun z => z.elim, fun ⟨_, ⟨_, z⟩, _⟩ => absurd z e2⟩
end
/-! ### isinstance(y, C), y of any kind -/
end Dm
-- text Hw46
namespace Dm
open PySem L2
end Dm
-- text DmObjEq
/-! x == y by an own __eq__, y of any kind; where y's class is below x's, y is asked first. -/
namespace Dm
open PySem L2 PySem.Spec PyProof.Rows
open PySem.W (Frag Looks InstAt findIn subIn clsIn)
def okQ (tb : MTb) (ecs : List Str) (S : Sto) (y : D) : Bool := match y with
  | .exn c _ => decide (c ∈ ecs)
  | .glo _ => false
  | .cell n => (defOf tb "__eq__" S (.cell n)).isSome
  | _ => true
/-- the class of an object -/
def clsD (S : Sto) (x : D) : Option Str := match x with
  | .cell n => match S[n]? with
    | some (.obj c _) => some c
    | _ => none
  | _ => none
def lowD (lo : List (Str × Str)) (S : Sto) (x y : D) : Bool := match clsD S x, clsD S y with
  | some c, some c' => decide ((c', c) ∈ lo)
  | _, _ => false
def mEqA (tb : MTb) (lo : List (Str × Str)) (ecs : List Str) (a b : ME) : ME := fun ρ S => (a ρ S).bind fun x S1 => (b ρ S1).bind fun y S2 => match defOf tb "__eq__" S2 x with
  | some f => if okQ tb ecs S2 y = true then (if lowD lo S2 x y = true then (match defOf tb "__eq__" S2 y with | some f' => f' [y, x] S2 | none => .bad) else f [x, y] S2) else .bad
  | none => .bad
section
variable {S : Sto} {ρ : Rho} {Q : D → Sto → Prop} {E : EX} {EO : EXO} {tb : MTb} {lo : List (Str × Str)} {ecs : List Str}
@[simp] theorem does_eqA {a b : ME} : (mEqA tb lo ecs a b ρ S).DoesE E Q = (a ρ S).DoesE E fun x S1 => (b ρ S1).DoesE E fun y S2 => ∃ g, (defOf tb "__eq__" S2 x = some g ∧ okQ tb ecs S2 y = true) ∧
    ((lowD lo S2 x y = false ∧ (g [x, y] S2).DoesE E Q) ∨ (lowD lo S2 x y = true ∧ ∃ g', defOf tb "__eq__" S2 y = some g' ∧ (g' [y, x] S2).DoesE E Q)) := by
  unfold mEqA
  rw [does_bind]; congr 1; funext x S1
  rw [does_bind]; congr 1; funext y S2
  cases e : defOf tb "__eq__" S2 x with
  | none => exact propext ⟨fun z => z.elim, fun ⟨_, ⟨z, _⟩, _⟩ => nomatch z⟩
  | some g =>
    by_cases e2 : okQ tb ecs S2 y = true
    · simp only [if_pos e2]
      cases e3 : lowD lo S2 x y with
      | false =>
        simp only [Bool.false_eq_true, if_false]
        exact propext ⟨fun z => ⟨g, ⟨rfl, e2⟩, .inl ⟨True.intro, z⟩⟩, fun ⟨g0, ⟨e0, _⟩, z⟩ => by cases e0; exact z.elim (·.2) fun z => (nomatch z.1)⟩
      | true =>
        simp only [if_true]
        cases e4 : defOf tb "__eq__" S2 y with
        | none => exact propext ⟨fun z => z.elim, fun ⟨g0, _, z⟩ => z.elim (fun z => nomatch z.1) fun ⟨_, _, z, _⟩ => nomatch z⟩
        | some g' => exact propext ⟨fun z => ⟨g, ⟨rfl, e2⟩, .inr ⟨True.intro, g', rfl, z⟩⟩, fun ⟨g0, _, z⟩ => z.elim (fun z => nomatch z.1) fun ⟨_, g1, z, q⟩ => by cases z; exact q⟩
    · simp only [if_neg e2]
      exact propext ⟨fun z => z.elim, fun ⟨_, ⟨_, z⟩, _⟩ => absurd z e2⟩
end
end Dm
-- text Hw47
namespace Dm
open PySem L2
end Dm
-- text DmFStr
/-! f-strings of texts and ints; a star in a tuple or list display. -/
namespace Dm
open PySem L2 PySem.Spec PyProof.Rows
open PySem.W (Frag)
def gFmt : Sto → D → Option D := fun _ d => match d with
  | .str y => if y.length ≤ 16777216 then some (.str y) else none
  | .int i => if i.natAbs.log2 < 1920 then some (.str (toString i)) else none
  | _ => none
def jsD : List ME → Str → ME
  | [], acc => fun _ S => .ok (.str acc) S
  | m :: ms, acc => fun ρ S => (m ρ S).bind fun x S1 => match x with
    | .str y => if (acc ++ y).length ≤ 16777216 then jsD ms (acc ++ y) ρ S1 else .bad
    | _ => .bad
def mStar (m : ME) (r : MA) : MA := fun ρ S => (m ρ S).bind fun x S1 => match seqOf S1 x with
  | some ds => (r ρ S1).bind fun xs S2 => .ok (ds ++ xs) S2
  | none => .bad
section
variable {S : Sto} {ρ : Rho} {E : EX}
@[simp] theorem gFmt_str {y : Str} : gFmt S (.str y) = if y.length ≤ 16777216 then some (.str y) else none := rfl
@[simp] theorem gFmt_int {i : Int} : gFmt S (.int i) = if i.natAbs.log2 < 1920 then some (.str (toString i)) else none := rfl
@[simp] theorem does_js_nil {acc : Str} {Q : D → Sto → Prop} : (jsD [] acc ρ S).DoesE E Q = Q (.str acc) S := rfl
@[simp] theorem does_js_cons {m : ME} {ms : List ME} {acc : Str} {Q : D → Sto → Prop} : (jsD (m :: ms) acc ρ S).DoesE E Q = (m ρ S).DoesE E fun x S1 => match x with
    | .str y => (acc ++ y).length ≤ 16777216 ∧ (jsD ms (acc ++ y) ρ S1).DoesE E Q
    | _ => False := by
  rw [jsD, does_bind]
  congr 1; funext x S1
  cases x with
  | str y =>
    by_cases c : (acc ++ y).length ≤ 16777216
    · show (if _ then _ else _ : Res D).DoesE E Q = (_ ∧ _)
      rw [if_pos c]
      exact propext ⟨fun z => ⟨c, z⟩, fun z => z.2⟩
    · show (if _ then _ else _ : Res D).DoesE E Q = (_ ∧ _)
      rw [if_neg c]
      exact propext ⟨fun z => z.elim, fun z => absurd z.1 c⟩
  | _ => rfl
@[simp] theorem does_star {m : ME} {r : MA} {Q : List D → Sto → Prop} : (mStar m r ρ S).DoesE E Q = (m ρ S).DoesE E fun x S1 => match seqOf S1 x with
    | some ds => (r ρ S1).DoesE E fun xs S2 => Q (ds ++ xs) S2
    | none => False := by
  unfold mStar
  rw [does_bind]
  congr 1; funext x S1
  cases seqOf S1 x with
  | none => rfl
  | some ds =>
    simp only
    rw [does_bind]; rfl
end
end Dm
-- text Hw48
namespace Dm
open PySem L2
end Dm
-- text Hw49
namespace Dm
open PySem L2
end Dm
-- text DmIdxT
namespace Dm
open PySem L2 PySem.Spec PyProof.Rows
open PySem.W (Frag)
/-! ### t.index(y), a tuple's items data of any depth -/
def rIndexT (K : Frag) : V → List V → Hp → VK → Prop := fun x xs H Q => ∃ (a : Addr) (y : V) (d : PyData) (ds : List PyData) (j : Nat) (z : PyData), x = V.ref a ∧ xs = [y] ∧ Dp K H (V.ref a) (.tuple ds) ∧ Dp K H y d ∧
  SeqAt.shaped (.tuple ds) = true ∧ SeqAt.shaped d = true ∧ ds[j]? = some z ∧ PyData.eqv z d = true ∧ (∀ (m : Nat) (z' : PyData), m < j → ds[m]? = some z' → PyData.eqv z' d = false) ∧ Q (.int (j : Nat)) H
section
variable {X : Cx} {W : WX} {o e : Expr} {mo me : ME} {apos cpos : Pos}
theorem mt_indexT (hu : X.A.units + 65 < cLine) : MtR X "tuple.index" (rIndexT X.K) := by
  intro pins s σ H x xs v us Q I rx rxs h
  obtain ⟨a, y, d, ds, j, z, rfl, rfl, hl, hy, sl, sd, hz, hzj, hno, q⟩ := h
  cases rx
  cases rxs with
  | cons ry rt =>
    rename_i uy ut
    cases rt
    obtain ⟨bs, r1⟩ := Dp.reads I d y uy hy ry
    have hxs : PyData.canLayAll0 ds = true := SeqAt.canLay_of_shaped sl
    have hroom : X.A.units + 1 + min (PyData.depthAll ds) d.depth < cLine := room_in_shaped sd hu
    cases hl with
    | tup hs ha =>
      obtain ⟨its, rv, pl, hz2⟩ := I.tuple hs
      obtain ⟨⟨cls, dd, dt, sls⟩, ho, hc, n, hd⟩ := pl
      simp only at hc hd
      subst hc
      subst hd
      obtain ⟨as, h4⟩ := Dp.readsAll I ds _ its ha rv
      have hn : its.length = ds.length := SeqAt.ReadsAll.length ds its as h4
      have hmap : its.map (SeqAt.readOf s.heap) = ds := SeqAt.readsAll_map ds its as hxs h4
      obtain ⟨hjd, _⟩ := List.getElem?_eq_some_iff.mp hz
      have hjl : j < its.length := by omega
      have hj : j < its.toArray.size := by simpa using hjl
      have at_ : ∀ (m : Nat) (hm : m < its.toArray.size) (z' : PyData), ds[m]? = some z' → SeqAt.readOf s.heap its.toArray[m] = z' := by
        intro m hm z' hz'
        have hml : m < its.length := by simpa using hm
        rw [← hmap, List.getElem?_map, List.getElem?_eq_getElem hml] at hz'
        have e1 : SeqAt.readOf s.heap its[m] = z' := Option.some.inj (show some (SeqAt.readOf s.heap its[m]) = some z' from hz')
        simpa using e1
      refine call_meets PySem.F.slot_tuple_index ⟨_, ho, rfl⟩ PySem.F.entry_tuple_index (PySem.F.args_tuple_index_2 _ _)
        (TI.tuple_indexAt a its.toArray n dd sls uy (fun u => PyData.eqv (SeqAt.readOf s.heap u) d) j hj ?_ ?_) ⟨ho, SeqAt.items_eqAt (vs := its.toArray) (show ReadsAll s.heap its.toArray.toList ds as from h4) r1 hxs (SeqAt.canLay_of_shaped sd) hroom, ?_⟩
      · show PyData.eqv (SeqAt.readOf s.heap its.toArray[j]) d = true
        rw [at_ j hj z hz]
        exact hzj
      · intro m hm hmj
        have hmd : m < ds.length := by omega
        have hz' : ds[m]? = some ds[m] := List.getElem?_eq_getElem hmd
        show PyData.eqv (SeqAt.readOf s.heap its.toArray[m]) d = false
        rw [at_ m hm _ hz']
        exact hno m _ hmj hz'
      · exact ⟨.int (j : Nat), H, I.tok _, ⟨_, rfl⟩, q⟩
end
end Dm
-- text DmIdx3
namespace Dm
open PySem L2 PySem.Spec PyProof.Rows
open PySem.W (Frag)
/-! ### t.index(y) of a tuple made at run time (or written) -/
def TupM (K : Frag) (x : V) (H : Hp) : Prop := ∃ p, x = .ref p ∧ ((∃ (ob : Obj) (xs : List V), ob.dict = none ∧ H p = some (.frz ob (.tup xs))) ∨ ∃ o, K.lookup p = some o ∧ o.cls = .type "tuple" ∧ o.dict = none)
theorem FzT.tm {F : Fx} {μ : List Addr} {H : Hp} {p : Addr} {xs : List V} (h : FzT F μ H p xs) : TupM F.K (.ref p) H := ⟨p, rfl, h.imp (fun ⟨⟨o, d, e⟩, _⟩ => ⟨o, xs, d, e⟩) (fun ⟨o, _, _, e1, e2, e3, _⟩ => ⟨o, e1, e2, e3⟩)⟩
section
variable {X : Cx}
theorem tupM_is {pins : List (Addr × Obj)} {σ : L2.St} {H : Hp} {s : Shared} {x : V} {v : Value} (I : Inv X pins σ H s) (r : RelV x v) (ty : TupM X.K x H) :
    s.TypeIs v "tuple" ∧ ∀ a, v = .ref a → ∃ ob, s.heap.get? a = some ob ∧ ob.dict = none := by
  obtain ⟨p, rfl, h⟩ := ty
  cases r
  rcases h with ⟨ob, xs, d, e⟩ | ⟨o, hk, hc, hd⟩
  · obtain ⟨its, _, pl, _⟩ := I.tuple (.inl (.inr ⟨ob, e⟩))
    obtain ⟨o2, e2, c2, n, d2⟩ := pl
    have e3 : s.heap.get? p = some ob := (I.hok p _ e).1
    have : o2 = ob := Option.some.inj (e2.symm.trans e3)
    subst this
    refine ⟨⟨o2, e2, c2⟩, fun a ea => ?_⟩
    cases ea
    exact ⟨o2, e2, d⟩
  · refine ⟨⟨o, I.kIn p o hk, hc⟩, fun a e => ?_⟩
    cases e
    exact ⟨o, I.kIn _ o hk, hd⟩
def tBMT (K : Frag) (r : V → List V → Hp → VK → Prop) (to : TE) (t : TA) : TE := fun σ H Q => to σ H fun x H1 => TupM K x H1 ∧ t σ H1 fun xs H2 => r x xs H2 Q
variable {o e : Expr} {es : List Expr} {to : TE} {t : TA} {name : Str} {apos cpos : Pos} {id : String} {r : V → List V → Hp → VK → Prop}
theorem pe_bmT (pa : PlainAttrs "tuple") (slot : Slot "tuple" name id) (hty : typeOf (.builtin id) = pure (.type "method_descriptor")) (hm : MtR X id r) (ho : PE X o to) (ha : PA X (e :: es) t)
    (hbase : attributeBase o name X.env (eval o X.env) = eval o X.env := by rfl)
    (hfew : ((backTo cpos (starEach (e :: es) X.env)).all (fun x => !x.1) && (backToKw cpos (keywordEach [] X.env)).all (fun x => x.1.isSome)
      && decide ((e :: es).length + ([] : List Keyword).length + (if ([] : List Keyword).isEmpty then 0 else 1) < 30)) = true := by rfl)
    (hline : (apos.endLine == cpos.line) = true := by rfl) (hs : starEach (e :: es) X.env = (false, eval e X.env) :: starEach es X.env := by rfl) (hplain : (backTo cpos (starEach es X.env)).any (·.1) = false := by rfl) :
    PE X (.Call (.Attribute o name apos) (e :: es) [] cpos) (tBMT X.K r to t) := by
  refine ⟨fun pins s σ H Q I h => ?_⟩
  refine wpAny_Call_method_late hbase hfew hline rfl (thn (ho.run pins s σ H _ I h) fun v s1 ⟨x, H1, I1, r1, ty, q1⟩ => ?_)
  obtain ⟨h1, h2⟩ := tupM_is I1 r1 ty
  refine ⟨"tuple", id, pa, slot, hty, h1, h2, ?_⟩
  have hA := ha.run cpos pins s1 σ H1 _ I1 q1
  rw [hs] at hA ⊢
  refine Calls.callWith_builtin (by show (false || (backTo cpos (starEach es X.env)).any (·.1)) = false; rw [hplain] <;> rfl) (Calls.evalArgs_plain ?_)
  exact thn hA fun us s2 ⟨vs, H2, I2, r2, q2⟩ => hm pins s2 σ H2 x vs v us Q I2 r1 r2 q2
end
/-- the first place of an item like y -/
def ixT (S : Sto) (x y : D) : Option Nat := match toPyS S x, toPyS S y with
  | some (.tuple ds), some d => if SeqAt.shaped (.tuple ds) = true ∧ SeqAt.shaped d = true then ds.findIdx? (PyData.eqv · d) else none
  | _, _ => none
def mIdxT (mo me : ME) : ME := fun ρ S => (mo ρ S).bind fun x S1 => match x with
  | .tup _ => (me ρ S1).bind fun y S2 => match ixT S2 x y with
    | some j => .ok (.int (j : Nat)) S2
    | none => .bad
  | _ => .bad
section
variable {X : Cx} {W : WX} {o e : Expr} {mo me : ME} {apos cpos : Pos}
theorem d_idxT (hu : X.A.units + 66 < cLine) (ho : DE X W o mo) (he : DE X W e me) (hbase : attributeBase o "index" X.env (eval o X.env) = eval o X.env := by rfl)
    (hfew : ((backTo cpos (starEach (e :: []) X.env)).all (fun x => !x.1) && (backToKw cpos (keywordEach [] X.env)).all (fun x => x.1.isSome)
      && decide ((e :: ([] : List Expr)).length + ([] : List Keyword).length + (if ([] : List Keyword).isEmpty then 0 else 1) < 30)) = true := by rfl)
    (hline : (apos.endLine == cpos.line) = true := by rfl) (hs : starEach (e :: []) X.env = (false, eval e X.env) :: starEach [] X.env := by rfl) (hplain : (backTo cpos (starEach [] X.env)).any (·.1) = false := by rfl) :
    DE X W (.Call (.Attribute o "index" apos) [e] [] cpos) (mIdxT mo me) := by
  obtain ⟨to, po, ko⟩ := ho
  obtain ⟨te, pe, ke⟩ := he
  refine ⟨_, pe_bmT PySem.F.plainAttrs_tuple PySem.F.slot_tuple_index PySem.F.type_tuple_index (mt_indexT (by omega)) po (pa_cons pe pa_nil hs) hbase hfew hline hs hplain, fun ξ μ σ H ρ S Q g s h => ko ξ μ σ H ρ S _ g s (WR.bind h fun x S1 v μ1 H1 u1 s1 r1 w1 => ?_)⟩
  cases x with
  | tup ds0 =>
    simp only at w1
    cases r1 with
    | @tup a xs _ f rs =>
      refine ⟨f.tm, ke ξ μ1 σ H1 ρ S1 _ (g.up u1) s1 (WR.bind w1 fun y S2 w μ2 H2 u2 s2 r2 w2 => ?_)⟩
      cases q1 : ixT S2 (.tup ds0) y with
      | none => rw [q1] at w2; exact w2.elim
      | some j =>
        rw [q1] at w2
        unfold ixT at q1
        cases t1 : toPyS S2 (.tup ds0) with
        | none => rw [t1] at q1; exact nomatch q1
        | some p1 =>
          cases t2 : toPyS S2 y with
          | none =>
            rw [t1, t2] at q1
            cases p1 <;> exact nomatch q1
          | some d =>
            rw [t1, t2] at q1
            cases p1 with
            | tuple ds =>
              simp only at q1
              by_cases c : SeqAt.shaped (.tuple ds) = true ∧ SeqAt.shaped d = true
              · rw [if_pos c] at q1
                obtain ⟨hj, hp, hno⟩ := List.findIdx?_eq_some_iff_getElem.mp q1
                have rx : RD (fx X ξ) μ2 H2 (.ref a) (.tup ds0) := .tup (f.up u2) (RDs.up u2 _ rs)
                refine ⟨a, w, d, ds, j, ds[j], rfl, rfl, dpS_of s2 rx t1, dpS_of s2 r2 t2, c.1, c.2, List.getElem?_eq_getElem hj, hp, fun m z' hm hz' => ?_, w2 _ μ2 H2 .refl s2 (.int _)⟩
                have := hno m hm
                obtain ⟨hm2, e2⟩ := List.getElem?_eq_some_iff.mp hz'
                rw [e2] at this
                simpa using this
              · rw [if_neg c] at q1; exact nomatch q1
            | _ => exact nomatch q1
  | _ => exact w1.elim
end
section
variable {S : Sto} {ρ : Rho} {Q : D → Sto → Prop} {E : EX}
@[simp] theorem does_idxT {o m : ME} : (mIdxT o m ρ S).DoesE E Q = (o ρ S).DoesE E fun x S1 => (∃ l, x = .tup l) ∧ (m ρ S1).DoesE E fun y S2 => ∃ j, ixT S2 x y = some j ∧ Q (.int (j : Nat)) S2 := by
  unfold mIdxT
  rw [does_bind]; congr 1; funext x S1
  cases x with
  | tup l =>
    simp only
    rw [does_bind]
    refine propext ⟨fun h => ⟨⟨l, rfl⟩, resMonoI h fun y S2 h2 => ?_⟩, fun ⟨_, h⟩ => resMonoI h fun y S2 h2 => ?_⟩
    · cases q1 : ixT S2 (.tup l) y with
      | none => rw [q1] at h2; exact h2.elim
      | some j => rw [q1] at h2; exact ⟨j, rfl, h2⟩
    · obtain ⟨j, q1, h3⟩ := h2
      rw [q1]
      exact h3
  | _ => exact propext ⟨fun h => h.elim, fun ⟨⟨_, h⟩, _⟩ => nomatch h⟩
end
end Dm
-- text Hw50
namespace Dm
open PySem L2
noncomputable section
def m_law_road : List D → Sto → Res D := mDef 3 10 (mSeq (mAsg 3 (mCall m_law_longer_plan (mCons (mVar 0) (mCons (mVar 1) (mCons (mTup mNil) (mCons (mCall m_law_pick (mCons (mVar 0) (mCons (mK (.int 4)) mNil))) (mCons (mFz (mLst (mCons (mK (.int 1)) (mCons (mK (.int 0)) (mCons (mK (.int 1)) (mCons (mK (.int 0)) mNil)))))) mNil))))))) (mSeq (mAsg 4 (mCall m_law_kind_row (mCons (mVar 3) mNil))) (mSeq (mAsg 5 (mCall m_law_pick (mCons (mVar 0) (mCons (mCallB gLen (mCons (mVar 1) mNil)) mNil)))) (mSeq (mAsg 6 (mCall m_law_spot (mCons (mVar 0) (mCons (mVar 4) (mCons (mK (.str "moment")) mNil))))) (mSeq (mIfS (mOp gEq (mVar 2) (mK (.int 0))) (mSeq (mAsg 7 (mTup (mCons (mTup (mCons (mK (.str "read")) (mCons (mVar 6) (mCons (mVar 5) mNil)))) (mCons (mOp gAdd (mTup (mCons (mK (.str "find")) (mCons (mCallB gLen (mCons (mVar 4) mNil)) (mCons (mVar 5) mNil)))) (mCall m_law_any_rules (mCons (mVar 0) mNil))) mNil)))) (mRet (mTup (mCons (mOp gAdd (mVar 3) (mVar 7)) (mCons (mVar 5) (mCons (mVar 6) mNil)))))) mNop) (mSeq (mIfS (mOp gEq (mVar 2) (mK (.int 1))) (mSeq (mIfS (mOp (gIn true) (mK (.str "reading")) (mVar 4)) (mSeq (mAsg 3 (mOp gAdd (mVar 3) (mTup (mCons (mTup (mCons (mK (.str "read")) (mCons (mVar 6) (mCons (mCall m_law_pick (mCons (mVar 0) (mCons (mCallB gLen (mCons (mVar 1) mNil)) mNil))) mNil)))) mNil)))) (mApp (mVar 4) (mK (.str "reading")))) mNop) (mSeq (mAsg 7 (mTup (mCons (mTup (mCons (mK (.str "add")) (mCons (mCall m_law_spot (mCons (mVar 0) (mCons (mVar 4) (mCons (mK (.str "reading")) mNil)))) (mCons (mCall m_law_minutes (mCons (mVar 0) (mCons (mVar 1) (mCons (mK (.int 0)) mNil)))) mNil)))) mNil))) (mSeq (mAsg 7 (mOp gAdd (mVar 7) (mTup (mCons (mOp gAdd (mTup (mCons (mK (.str "find")) (mCons (mCallB gLen (mCons (mVar 4) mNil)) (mCons (mVar 5) mNil)))) (mCall m_law_any_rules (mCons (mVar 0) mNil))) mNil)))) (mRet (mTup (mCons (mOp gAdd (mOp gAdd (mVar 3) (mVar 7)) (mTup (mCons (mTup (mCons (mK (.str "read")) (mCons (mOp gAdd (mCallB gLen (mCons (mVar 4) mNil)) (mK (.int 1))) (mCons (mVar 5) mNil)))) mNil))) (mCons (mVar 5) (mCons (mCallB gLen (mCons (mVar 4) mNil)) mNil)))))))) mNop) (mSeq (mAsg 7 (mTup (mCons (mTup (mCons (mK (.str "read")) (mCons (mVar 6) (mCons (mVar 5) mNil)))) mNil))) (mSeq (mIfS (mAnd (mOp gEq (mFz (mLcA (mVar 3) (tgN 9) (mOp gEq (mOp gIx (mVar 9) (mK (.int 0))) (mK (.str "edition"))) (mVar 9) [9])) (mFz (mLst mNil))) (mOp gGt (mCall m_law_pick (mCons (mVar 0) (mCons (mK (.int 3)) mNil))) (mK (.int 0)))) (mSeq (mAsg 8 (mOp gIx (mFz (mLst (mCons (mK (.int 1)) (mCons (mK (.int 1)) (mCons (mOp gAdd (mK (.int 1)) (mCall m_law_pick (mCons (mVar 0) (mCons (mK (.int 2000)) mNil)))) (mCons (mK (.int 100000)) mNil)))))) (mCall m_law_pick (mCons (mVar 0) (mCons (mK (.int 4)) mNil))))) (mAsg 7 (mOp gAdd (mVar 7) (mTup (mCons (mTup (mCons (mK (.str "add")) (mCons (mVar 6) (mCons (mVar 8) mNil)))) (mCons (mTup (mCons (mK (.str "edition")) (mCons (mOp gAdd (mCallB gLen (mCons (mVar 4) mNil)) (mK (.int 1))) (mCons (mVar 5) mNil)))) mNil)))))) mNop) (mSeq (mAsg 7 (mOp gAdd (mVar 7) (mTup (mCons (mTup (mCons (mK (.str "offset")) (mCons (mVar 6) (mCons (mVar 5) mNil)))) (mCons (mTup (mCons (mK (.str "less")) (mCons (mCallB gLen (mCons (mVar 4) mNil)) (mCons (mOp gAdd (mCallB gLen (mCons (mVar 4) mNil)) (mCallB gLen (mCons (mVar 7) mNil))) mNil)))) mNil))))) (mRet (mTup (mCons (mOp gAdd (mVar 3) (mVar 7)) (mCons (mVar 5) (mCons (mVar 6) mNil))))))))))))))
def m_law_ends : List D → Sto → Res D := mDef 6 12 (mSeq (mAsgG (tgU 2 (tgCons (tgN 6) (tgCons (tgN 7) tgNil))) (mVar 5)) (mSeq (mAsg 8 (mOp gIx (mFz (mLcA (mVar 1) (tgN 10) (mOp gEq (mOp gIx (mVar 10) (mK (.int 0))) (mK (.str "find"))) (mVar 10) [10])) (mK (.int (-1))))) (mSeq (mIfS (mOp gEq (mVar 6) (mK (.str "refused"))) (mRet (mAnd (mOp gEq (mVar 7) (mIdxT (mVar 1) (mVar 8))) (mOp (gIn false) (mK (.str "refuse")) (mVar 8)))) mNop) (mSeq (mIfS (mOp gEq (mOp gIx (mOp gIx (mVar 1) (mK (.int (-1)))) (mK (.int 0))) (mK (.str "read"))) (mSeq (mAsg 9 (mFz (mLcA (mOp gIx (mOp gIx (mVar 0) (mVar 3)) (mK (.int 0))) (tgN 11) (mOp gEq (mCall m_law_holds (mCons (mVar 2) (mCons (mOp gSub (mOp gIx (mVar 7) (mVar 4)) (mVar 11)) mNil))) (mVar 11)) (mOp gSub (mOp gIx (mVar 7) (mVar 4)) (mVar 11)) [11]))) (mRet (mAnd (mOp gEq (mOp gIx (mVar 7) (mK (.int (-1)))) (mOp gAdd (mOp gIx (mVar 7) (mK (.int (-2)))) (mCall m_law_holds (mCons (mVar 2) (mCons (mOp gIx (mVar 7) (mK (.int (-2)))) mNil))))) (mOr (mOp gEq (mVar 9) (mFz (mLst mNil))) (mOp gEq (mOp gIx (mVar 7) (mK (.int (-1)))) (mOp gIx (mVar 7) (mVar 4))))))) mNop) (mSeq (mAsg 9 (mFz (mLcA (mOp gIx (mOp gIx (mVar 0) (mVar 3)) (mK (.int 0))) (tgN 11) (mOp gEq (mCall m_law_holds (mCons (mVar 2) (mCons (mOp gSub (mOp gIx (mVar 7) (mK (.int (-2)))) (mVar 11)) mNil))) (mVar 11)) (mOp gSub (mOp gIx (mVar 7) (mK (.int (-2)))) (mVar 11)) [11]))) (mSeq (mIfS (mOr (mOp (gIn true) (mOp gIx (mVar 7) (mVar 4)) (mVar 9)) (mOp (gIn true) (mOp gIx (mVar 7) (mK (.int (-1)))) (mVar 9))) (mRet (mK (.bl false))) mNop) (mRet (mOp gEq (mOp gIx (mVar 7) (mK (.int (-1)))) (mGet2 (mDisp (mPCons (mK (.str "early")) (mCallB gMin1 (mCons (mVar 9) mNil)) (mPCons (mK (.str "late")) (mCallB gMax1 (mCons (mVar 9) mNil)) mPNil))) (mOp gIx (mVar 8) (mK (.int 3))) (mOp gIx (mVar 7) (mVar 4)))))))))))
end
end Dm
-- text Hw51
namespace Dm
open PySem L2
end Dm
-- text Hw52
namespace Dm
open PySem L2
end Dm
-- text DmPopAt
namespace Dm
open PySem L2 PySem.Spec PyProof.Rows
open PySem.W (Frag)
/-! ### xs.pop(i) as a value, i from 0 on -/
section
variable {X : Cx} {W : WX} {o e : Expr} {mo me : ME} {apos cpos : Pos}
def mPopAt (o m : ME) : ME := fun ρ S => (o ρ S).bind fun x S1 => match x with
  | .cell n => match S1[n]? with
    | some (.lst _) => (m ρ S1).bind fun y S2 => match y with
      | .int i => match S2[n]? with
        | some (.lst ds) => if 0 ≤ i ∧ i < 16777216 then match ds[i.toNat]? with
          | some d => .ok d (S2.set n (.lst (ds.eraseIdx i.toNat)))
          | none => .bad
          else .bad
        | _ => .bad
      | _ => .bad
    | _ => .bad
  | _ => .bad
end
section
variable {S : Sto} {ρ : Rho} {Q : D → Sto → Prop} {E : EX}
@[simp] theorem does_popAt {o m : ME} : (mPopAt o m ρ S).DoesE E Q = (o ρ S).DoesE E fun x S1 => ∃ n, x = .cell n ∧ (∃ l, S1[n]? = some (.lst l)) ∧ (m ρ S1).DoesE E fun y S2 => ∃ i, y = .int i ∧ ∃ ds, S2[n]? = some (.lst ds) ∧ (0 ≤ i ∧ i < 16777216) ∧ ∃ d, ds[i.toNat]? = some d ∧ Q d (S2.set n (.lst (ds.eraseIdx i.toNat))) := by
  unfold mPopAt
  rw [does_bind]; congr 1; funext x S1
  cases x with
  | cell n =>
    simp only
    cases q : S1[n]? with
    | none => exact propext ⟨fun h => h.elim, fun ⟨_, h, ⟨l, h2⟩, _⟩ => by cases h; rw [q] at h2; cases h2⟩
    | some c =>
      cases c with
      | lst l =>
        simp only
        rw [does_bind]
        refine propext ⟨fun h => ⟨n, rfl, ⟨l, q⟩, resMonoI h fun y S2 h2 => ?_⟩, fun ⟨_, h0, _, h⟩ => ?_⟩
        · cases y with
          | int i =>
            simp only at h2
            cases q2 : S2[n]? with
            | none => rw [q2] at h2; exact h2.elim
            | some c2 =>
              rw [q2] at h2
              cases c2 with
              | lst ds =>
                simp only at h2
                by_cases c : 0 ≤ i ∧ i < 16777216
                · rw [if_pos c] at h2
                  cases hd : ds[i.toNat]? with
                  | none => rw [hd] at h2; exact h2.elim
                  | some d => rw [hd] at h2; exact ⟨i, rfl, ds, rfl, c, d, hd, h2⟩
                · rw [if_neg c] at h2; exact h2.elim
              | _ => exact h2.elim
          | _ => exact h2.elim
        · cases h0
          refine resMonoI h fun y S2 h2 => ?_
          obtain ⟨i, rfl, ds, q2, c, d, hd, h3⟩ := h2
          simp only
          rw [q2]
          simp only
          rw [if_pos c, hd]
          exact h3
      | _ => exact propext ⟨fun h => h.elim, fun ⟨_, h, ⟨l, h2⟩, _⟩ => by cases h; rw [q] at h2; cases h2⟩
  | _ => exact propext ⟨fun h => h.elim, fun ⟨_, h, _⟩ => nomatch h⟩
end
end Dm
-- text Hw53
namespace Dm
open PySem L2
end Dm
-- text DmTupMul2
namespace Dm
open PySem L2 PySem.Spec PyProof.Rows
open PySem.W (Frag)
/-! ### a tuple any number of times, also once or never -/
def gMulA : Sto → D → D → Option D := fun _ x y => match x, y with
  | .tup ds, .int k => if ds.length ≠ 0 ∧ -1000 ≤ k ∧ k ≤ 1000 ∧ ds.length ≤ 1000 then some (.tup (List.replicate k.toNat ds).flatten) else none
  | _, _ => none
@[simp] theorem gMulA_tup {S : Sto} {ds : List D} {k : Int} : gMulA S (.tup ds) (.int k) = if ds.length ≠ 0 ∧ -1000 ≤ k ∧ k ≤ 1000 ∧ ds.length ≤ 1000 then some (.tup (List.replicate k.toNat ds).flatten) else none := rfl
end Dm
-- text Hw54
namespace Dm
open PySem L2
end Dm
-- text Hw55
namespace Dm
open PySem L2
noncomputable section
def m_law_back : List D → Sto → Res D := mDef 6 10 (mSeq (mAsgG (tgU 2 (tgCons (tgN 6) (tgCons (tgN 7) tgNil))) (mVar 5)) (mSeq (mIfS (mOp gEq (mOp gIx (mOp gIx (mVar 1) (mK (.int (-1)))) (mK (.int 0))) (mK (.str "less"))) (mRet (mAnd (mOp gEq (mVar 6) (mK (.str ""))) (mOp gEq (mOp gIx (mVar 7) (mK (.int (-1)))) (mOp gIx (mVar 7) (mVar 4))))) mNop) (mSeq (mAsg 8 (mOp gIx (mOp gIx (mVar 2) (mK (.int 0))) (mVar 3))) (mSeq (mIfS (mOp (gIn2 false) (mTup (mCons (mK (.str "edition")) (mCons (mVar 3) mNil))) (mFz (mLcA (mVar 1) (tgN 9) mYes (mTup (mCons (mOp gIx (mVar 9) (mK (.int 0))) (mCons (mOp gIx (mVar 9) (mK (.int 2))) mNil))) [9]))) (mAsg 8 (mOp gIx (mOp gIx (mVar 2) (mK (.int 1))) (mVar 3))) mNop) (mSeq (mIfS (mAnd (mOp gEq (mVar 6) (mK (.str "refused"))) (mOp gLt (mVar 7) (mOp gSub (mCallB gLen (mCons (mVar 1) mNil)) (mK (.int 2))))) (mRet (mK (.bl true))) mNop) (mRet (mCall m_law_ends (mCons (mVar 0) (mCons (mVar 1) (mCons (mVar 8) (mCons (mVar 3) (mCons (mVar 4) (mCons (mVar 5) mNil)))))))))))))
def m_law_k27_whole_there_and_back : List D → Sto → Res D := mDef 1 15 (mSeq (mFor (iSeq (mFz (mCatL (mLst (mCons (mK (.int 413307752986014439528170066283359147720915836624805197)) mNil)) (mSlL (mVar 0) mNoPart (mPart (mK (.int 30))))))) (tgN 1) (mSeq (mAsg 2 (mCall m_law_bag_of (mCons (mVar 1) mNil))) (mSeq (mAsg 3 (mCall m_law_any_belts (mCons (mVar 2) (mCons (mK (.int 3)) mNil)))) (mSeq (mAsgG (tgU 3 (tgCons (tgN 4) (tgCons (tgN 5) (tgCons (tgN 6) tgNil)))) (mCall m_law_road (mCons (mVar 2) (mCons (mVar 3) (mCons (mCall m_law_pick (mCons (mVar 2) (mCons (mK (.int 3)) mNil))) mNil))))) (mSeq (mAsg 7 (mCall m_law_any_origin (mCons (mVar 2) mNil))) (mSeq (mAsg 8 (mCall m_law_any_earth (mCons (mVar 2) (mCons (mVar 3) (mCons (mVar 4) (mCons (mVar 7) (mCons (mK (.int 0)) mNil))))))) (mSeq (mAsg 9 (mCall m_law_ran (mCons (mVar 3) (mCons (mVar 4) (mCons (mVar 8) (mCons (mVar 7) mNil)))))) (mSeq (mIfS (mOr (mOp gEq (mOp gIx (mVar 9) (mK (.int 0))) (mK (.str "unsuited"))) (mAnd (mOp gEq (mOp gIx (mVar 9) (mK (.int 0))) (mK (.str ""))) (mOp gNe (mCallB gLen (mCons (mOp gIx (mVar 9) (mK (.int 1))) mNil)) (mOp gAdd (mCallB gLen (mCons (mVar 4) mNil)) (mK (.int 1)))))) (mRet (mK (.bl false))) mNop) (mSeq (mIfS (mNot (mCall m_law_back (mCons (mVar 3) (mCons (mVar 4) (mCons (mVar 8) (mCons (mVar 5) (mCons (mVar 6) (mCons (mVar 9) mNil)))))))) (mRet (mK (.bl false))) mNop) (mIfS (mAnd (mOp gEq (mOp gIx (mVar 9) (mK (.int 0))) (mK (.str "refused"))) (mOp gEq (mOp gIx (mOp gIx (mVar 4) (mK (.int (-1)))) (mK (.int 0))) (mK (.str "find")))) (mSeq (mAsg 10 (mOp gIx (mOp gIx (mCall m_law_follow (mCons (mVar 3) (mCons (mSlT (mVar 4) mNoPart (mPart (mK (.int (-1))))) (mCons (mVar 8) (mCons (mVar 7) mNil))))) (mK (.int 1))) (mK (.int (-1))))) (mSeq (mAsg 11 (mOp gIx (mOp gIx (mVar 8) (mCallB gInt1 (mCons (mOp (gIn2 false) (mTup (mCons (mK (.str "edition")) (mCons (mVar 5) mNil))) (mFz (mLcA (mVar 4) (tgN 13) mYes (mTup (mCons (mOp gIx (mVar 13) (mK (.int 0))) (mCons (mOp gIx (mVar 13) (mK (.int 2))) mNil))) [13]))) mNil))) (mVar 5))) (mSeq (mAsg 12 (mFz (mLcA (mOp gIx (mOp gIx (mVar 3) (mVar 5)) (mK (.int 0))) (tgN 14) (mOp gEq (mCall m_law_holds (mCons (mVar 11) (mCons (mOp gSub (mVar 10) (mVar 14)) mNil))) (mVar 14)) (mVar 14) [14]))) (mIfS (mOr (mOp gNe (mCallB gLen (mCons (mVar 12) mNil)) (mK (.int 2))) (mOp gNe (mOp gIx (mOp gIx (mVar 4) (mK (.int (-1)))) (mK (.int 3))) (mK (.str "refuse")))) (mRet (mK (.bl false))) mNop)))) mNop)))))))))) (mRet (mK (.bl true))))
end
end Dm
-- text V_k27
namespace V
open PySem L2 PySem.Spec PyProof.Rows Dm
open PySem.W (Frag)
theorem rvR {a : Addr} : L2.RelV (.ref a) (.ref a) := rfl
theorem rvS {x : Str} {t : Tok} : L2.RelV (.str x) (.str x t) := ⟨t, rfl⟩
theorem rvI {x : Int} {t : Tok} : L2.RelV (.int x) (.int x t) := ⟨t, rfl⟩
def top (i : Nat) : Stmt := PySem.Challenge.pw_hoursmeant_k27_whole_there_and_back.main.body.getD i (.Pass ⟨0, 0, 0, 0⟩)
theorem kit_plain {K : PySem.W.Frag} {D : Addr} {x : String} (hx : PySem.W.kitMeta x = true) (h : PySem.W.mroIn K D (.type x) = some false) : PySem.W.kitOne K (.ref D) (.type x) = some false := by
  unfold PySem.W.kitOne PySem.W.kitCls
  have e : ((Value.ref D) == (Value.type x)) = false := rfl
  rw [e, if_neg Bool.false_ne_true]
  simp only
  rw [if_pos hx]
  exact h
structure Txt (K : Frag) (mg : Str → Option Value) (w : World) : Prop where
  n_all : mg "all" = none
  n_bool : mg "bool" = none
  n_enumerate : mg "enumerate" = none
  n_int : mg "int" = none
  n_isinstance : mg "isinstance" = none
  n_len : mg "len" = none
  n_list : mg "list" = none
  n_max : mg "max" = none
  n_min : mg "min" = none
  n_range : mg "range" = none
  n_str : mg "str" = none
  n_sum : mg "sum" = none
  n_tuple : mg "tuple" = none
  v_FOLDS : GlK K mg "FOLDS" (.tup [(.str "early"), (.str "late"), (.str "refuse")])
  v_GAPS : GlK K mg "GAPS" (.tup [(.str "ahead"), (.str "behind"), (.str "refuse")])
  v_MADE : GlT K w mg "MADE" [("read", (.str "reading")), ("find", (.str "moment")), ("offset", (.str "span")), ("edition", (.str "moment")), ("plus", (.str "reading")), ("less", (.str "moment"))]
  v_MOST_MINUTES : ∃ t, mg "MOST_MINUTES" = some (.int (100000) t)
  v_MOST_OFFSET : ∃ t, mg "MOST_OFFSET" = some (.int (900) t)
  v_MOST_SPACING : ∃ t, mg "MOST_SPACING" = some (.int (1000000) t)
  v_MOST_STEPS : ∃ t, mg "MOST_STEPS" = some (.int (8) t)
  v_PARTS : GlT K w mg "PARTS" [("read", (.tup [(.str "moment"), (.str "place")])), ("find", (.tup [(.str "reading"), (.str "place"), (.str "fold"), (.str "gap")])), ("offset", (.tup [(.str "moment"), (.str "place")])), ("edition", (.tup [(.str "moment"), (.str "place")])), ("plus", (.tup [(.str "moment"), (.str "span")])), ("less", (.tup [(.str "reading"), (.str "span")])), ("add", (.tup [(.str "point"), (.str "minutes")]))]
  x_InvalidNumber : XcOk K mg "InvalidNumber"
  x_InvalidProgram : XcOk K mg "InvalidProgram"
  x_InvalidWorld : XcOk K mg "InvalidWorld"
  x_InvalidZone : XcOk K mg "InvalidZone"
  x_InvalidZones : XcOk K mg "InvalidZones"
  x_Unsuited : XcOk K mg "Unsuited"
  f_Refused_step : XfOk K mg "Refused" "step"
  p__IrImIdIeIsRdUd77 : PlOk K mg ["InvalidNumber", "InvalidProgram", "InvalidWorld", "InvalidZone", "InvalidZones", "Refused", "Unsuited"]
  t_Refused_IrImIdIeIsRdUd77 : TrOk K mg ["InvalidNumber", "InvalidProgram", "InvalidWorld", "InvalidZone", "InvalidZones", "Refused", "Unsuited"] "Refused"
  t_Unsuited_IrImIdIeIsRdUd77 : TrOk K mg ["InvalidNumber", "InvalidProgram", "InvalidWorld", "InvalidZone", "InvalidZones", "Refused", "Unsuited"] "Unsuited"
section
variable {P : Program} {w : World} {K : Frag} {mg : Str → Option Value} {base : Heap}
theorem Txt.c_FOLDS (T : Txt K mg w) {X : Cx} (hK : X.K = K := by rfl) (h : X.mg = mg := by rfl) : GlD X "FOLDS" (.tup [(.str "early"), (.str "late"), (.str "refuse")]) := T.v_FOLDS.glD hK h
theorem Txt.c_GAPS (T : Txt K mg w) {X : Cx} (hK : X.K = K := by rfl) (h : X.mg = mg := by rfl) : GlD X "GAPS" (.tup [(.str "ahead"), (.str "behind"), (.str "refuse")]) := T.v_GAPS.glD hK h
theorem Txt.c_MADE (T : Txt K mg w) {X : Cx} (hK : X.K = K := by rfl) (h : X.mg = mg := by rfl) (hw : X.w = w := by rfl) : GlT X.K X.w X.mg "MADE" [("read", (.str "reading")), ("find", (.str "moment")), ("offset", (.str "span")), ("edition", (.str "moment")), ("plus", (.str "reading")), ("less", (.str "moment"))] := by
  rw [hK, h, hw]
  exact T.v_MADE
theorem Txt.c_MOST_MINUTES (T : Txt K mg w) {X : Cx} (h : X.mg = mg := by rfl) : GlD X "MOST_MINUTES" (.int 100000) := by
  obtain ⟨t, e⟩ := T.v_MOST_MINUTES
  exact ⟨_, .int _, by rw [h]; exact e, ⟨t, rfl⟩, fun _ _ _ => .int _⟩
theorem Txt.c_MOST_OFFSET (T : Txt K mg w) {X : Cx} (h : X.mg = mg := by rfl) : GlD X "MOST_OFFSET" (.int 900) := by
  obtain ⟨t, e⟩ := T.v_MOST_OFFSET
  exact ⟨_, .int _, by rw [h]; exact e, ⟨t, rfl⟩, fun _ _ _ => .int _⟩
theorem Txt.c_MOST_SPACING (T : Txt K mg w) {X : Cx} (h : X.mg = mg := by rfl) : GlD X "MOST_SPACING" (.int 1000000) := by
  obtain ⟨t, e⟩ := T.v_MOST_SPACING
  exact ⟨_, .int _, by rw [h]; exact e, ⟨t, rfl⟩, fun _ _ _ => .int _⟩
theorem Txt.c_MOST_STEPS (T : Txt K mg w) {X : Cx} (h : X.mg = mg := by rfl) : GlD X "MOST_STEPS" (.int 8) := by
  obtain ⟨t, e⟩ := T.v_MOST_STEPS
  exact ⟨_, .int _, by rw [h]; exact e, ⟨t, rfl⟩, fun _ _ _ => .int _⟩
theorem Txt.c_PARTS (T : Txt K mg w) {X : Cx} (hK : X.K = K := by rfl) (h : X.mg = mg := by rfl) (hw : X.w = w := by rfl) : GlT X.K X.w X.mg "PARTS" [("read", (.tup [(.str "moment"), (.str "place")])), ("find", (.tup [(.str "reading"), (.str "place"), (.str "fold"), (.str "gap")])), ("offset", (.tup [(.str "moment"), (.str "place")])), ("edition", (.tup [(.str "moment"), (.str "place")])), ("plus", (.tup [(.str "moment"), (.str "span")])), ("less", (.tup [(.str "reading"), (.str "span")])), ("add", (.tup [(.str "point"), (.str "minutes")]))] := by
  rw [hK, h, hw]
  exact T.v_PARTS
abbrev s_is_integer : Stmt := top 14
theorem sc_is_integer : FnScope ["value"] ["value"] (defScope s_is_integer) := ⟨rfl, rfl, rfl, by decide +kernel, rfl, by decide +kernel, by decide +kernel⟩
theorem fn_is_integer (T : Txt K mg w) {f : Addr} {fd : FuncData} (hm : mg "is_integer" = some (.ref f)) (F : Fun K "is_integer" "is_integer" s_is_integer f fd) : FnD P w K mg base 1 "is_integer" s_is_integer ["value"] m_is_integer := by
  refine fnd_mk (np := 1) (nN := 1) (k := 0) hm F (F.binds fun _ _ _ _ _ _ us hl => match us, hl with | [_], _ => rfl) sc_is_integer rfl rfl fun cdv A outer s H E hr => ?_
  have tk : Takes (cxOf (L2.CX P w) P w K mg base ["value"] "is_integer" (defScope s_is_integer) f cdv A outer s H E) (fun cls d _ H => E cls d H) := takes_of rfl rfl rfl rfl
  exact (dss_one (ds_ret (d_and (d_isi .int (d_var 0) T.n_isinstance T.n_int) (d_one (d_not (d_isi .bl (d_var 0) T.n_isinstance T.n_bool))))))
abbrev s_is_zone : Stmt := top 15
theorem sc_is_zone : FnScope ["value", "offsets", "spacing", "offset", "k"] ["value"] (defScope s_is_zone) := ⟨rfl, rfl, rfl, by decide +kernel, rfl, by decide +kernel, by decide +kernel⟩
theorem fn_is_zone (T : Txt K mg w) {f : Addr} {fd : FuncData} (hm : mg "is_zone" = some (.ref f)) (F : Fun K "is_zone" "is_zone" s_is_zone f fd) (G_is_integer : FnD P w K mg base 1 "is_integer" s_is_integer ["value"] m_is_integer) : FnD P w K mg base 2 "is_zone" s_is_zone ["value"] m_is_zone := by
  refine fnd_mk (np := 1) (nN := 5) (k := 1) hm F (F.binds fun _ _ _ _ _ _ us hl => match us, hl with | [_], _ => rfl) sc_is_zone rfl rfl fun cdv A outer s H E hr => ?_
  have tk : Takes (cxOf (L2.CX P w) P w K mg base ["value", "offsets", "spacing", "offset", "k"] "is_zone" (defScope s_is_zone) f cdv A outer s H E) (fun cls d _ H => E cls d H) := takes_of rfl rfl rfl rfl
  exact (dss_cons (ds_if (DT.w (dw_or (dt_not (dt_val (d_isi .tup (d_var 0) T.n_isinstance T.n_tuple))) (dw_or1 (dt_cmp (op_neA hr.units) o_ne (d_callB call_len c_len T.n_len (da_cons (d_var 0) da_nil)) d_int)))) (dss_one (ds_ret d_bl)) dss_nil) (dss_cons (ds_asg (d_var 0) (dg_tup rfl (dgs_cons (dg_name 1 sc_is_zone.nd) (dgs_cons (dg_name 2 sc_is_zone.nd) dgs_nil)))) (dss_cons (ds_if (DT.w (dw_or (dt_not (dt_val (d_isi .tup (d_var 1) T.n_isinstance T.n_tuple))) (dw_or1 (dt_not (dt_chain op_le op_le o_le o_le d_int (d_callB call_len c_len T.n_len (da_cons (d_var 1) da_nil)) d_int))))) (dss_one (ds_ret d_bl)) dss_nil) (dss_cons (ds_for (passes_of rfl) rfl (di_seq (d_var 1)) (dg_name 3 sc_is_zone.nd) (dss_one (ds_if (DT.w (dw_or (dt_not (dt_val (d_call G_is_integer hr tk (da_cons (d_var 3) da_nil)))) (dw_or1 (dt_not (dt_chain op_le op_le o_le o_le (d_un un_neg o_neg (d_glob rfl (T.c_MOST_OFFSET))) (d_var 3) (d_glob rfl (T.c_MOST_OFFSET))))))) (dss_one (ds_ret d_bl)) dss_nil))) (dss_cons (ds_for (passes_of rfl) rfl (di_range2 (da_cons d_int (da_cons (d_callB call_len c_len T.n_len (da_cons (d_var 1) da_nil)) da_nil)) T.n_range) (dg_name 4 sc_is_zone.nd) (dss_one (ds_if (dt_cmp op_le o_le (d_ix ix_seq o_ix (d_var 1) (d_var 4)) (d_ix ix_seq o_ix (d_var 1) (d_op op_sub o_sub (d_var 4) d_int))) (dss_one (ds_ret d_bl)) dss_nil))) (dss_one (ds_ret (d_and (d_call G_is_integer hr tk (da_cons (d_var 2) da_nil)) (d_one (d_chain op_lt op_le o_lt o_le (d_op op_sub o_sub (d_ix ix_seq o_ix (d_var 1) (d_fold (d := .int (-1)) (d_un un_neg o_neg d_int) (fun _ _ => rfl))) (d_ix ix_seq o_ix (d_var 1) d_int)) (d_var 2) (d_glob rfl (T.c_MOST_SPACING))))))))))))
abbrev s_is_zones : Stmt := top 16
theorem sc_is_zones : FnScope ["value", "zone"] ["value"] (defScope s_is_zones) := ⟨rfl, rfl, rfl, by decide +kernel, rfl, by decide +kernel, by decide +kernel⟩
theorem fn_is_zones (T : Txt K mg w) {f : Addr} {fd : FuncData} (hm : mg "is_zones" = some (.ref f)) (F : Fun K "is_zones" "is_zones" s_is_zones f fd) (G_is_zone : FnD P w K mg base 2 "is_zone" s_is_zone ["value"] m_is_zone) : FnD P w K mg base 3 "is_zones" s_is_zones ["value"] m_is_zones := by
  refine fnd_mk (np := 1) (nN := 2) (k := 2) hm F (F.binds fun _ _ _ _ _ _ us hl => match us, hl with | [_], _ => rfl) sc_is_zones rfl rfl fun cdv A outer s H E hr => ?_
  have tk : Takes (cxOf (L2.CX P w) P w K mg base ["value", "zone"] "is_zones" (defScope s_is_zones) f cdv A outer s H E) (fun cls d _ H => E cls d H) := takes_of rfl rfl rfl rfl
  exact (dss_cons (ds_if (DT.w (dw_or (dt_not (dt_val (d_isi .tup (d_var 0) T.n_isinstance T.n_tuple))) (dw_or1 (dt_not (dt_chain op_le op_le o_le o_le d_int (d_callB call_len c_len T.n_len (da_cons (d_var 0) da_nil)) d_int))))) (dss_one (ds_ret d_bl)) dss_nil) (dss_one (ds_ret (d_callB (cr_all rfl) c_all T.n_all (da_cons (d_fz (dl_lcA (own := [("zone", 1)]) rfl sc_is_zones.nd (d_var 0) (blkOk_by (own := [("zone", 1)]) (N := ["value", "zone"]) (sc := defScope s_is_zones) (by decide +kernel)) (fun _ _ _ _ _ => (dg_name 1 sc_is_zones.nd)) (fun _ _ _ _ _ => dts_nil) (fun _ _ _ _ _ => (d_call G_is_zone hr takes0 (da_cons (d_var 1) da_nil))))) da_nil)))))
abbrev s_need_zone : Stmt := top 17
theorem sc_need_zone : FnScope ["zone"] ["zone"] (defScope s_need_zone) := ⟨rfl, rfl, rfl, by decide +kernel, rfl, by decide +kernel, by decide +kernel⟩
theorem fn_need_zone (T : Txt K mg w) {f : Addr} {fd : FuncData} (hm : mg "need_zone" = some (.ref f)) (F : Fun K "need_zone" "need_zone" s_need_zone f fd) (G_is_zone : FnD P w K mg base 2 "is_zone" s_is_zone ["value"] m_is_zone) : FnD P w K mg base 3 "need_zone" s_need_zone ["zone"] m_need_zone := by
  refine fnd_mk (np := 1) (nN := 1) (k := 2) hm F (F.binds fun _ _ _ _ _ _ us hl => match us, hl with | [_], _ => rfl) sc_need_zone rfl rfl fun cdv A outer s H E hr => ?_
  have tk : Takes (cxOf (L2.CX P w) P w K mg base ["zone"] "need_zone" (defScope s_need_zone) f cdv A outer s H E) (fun cls d _ H => E cls d H) := takes_of rfl rfl rfl rfl
  exact (dss_one (ds_if (dt_not (dt_val (d_call G_is_zone hr tk (da_cons (d_var 0) da_nil)))) (dss_one (ds_raise T.x_InvalidZone rfl tk)) dss_nil))
abbrev s_need_zones : Stmt := top 18
theorem sc_need_zones : FnScope ["zones"] ["zones"] (defScope s_need_zones) := ⟨rfl, rfl, rfl, by decide +kernel, rfl, by decide +kernel, by decide +kernel⟩
theorem fn_need_zones (T : Txt K mg w) {f : Addr} {fd : FuncData} (hm : mg "need_zones" = some (.ref f)) (F : Fun K "need_zones" "need_zones" s_need_zones f fd) (G_is_zones : FnD P w K mg base 3 "is_zones" s_is_zones ["value"] m_is_zones) : FnD P w K mg base 4 "need_zones" s_need_zones ["zones"] m_need_zones := by
  refine fnd_mk (np := 1) (nN := 1) (k := 3) hm F (F.binds fun _ _ _ _ _ _ us hl => match us, hl with | [_], _ => rfl) sc_need_zones rfl rfl fun cdv A outer s H E hr => ?_
  have tk : Takes (cxOf (L2.CX P w) P w K mg base ["zones"] "need_zones" (defScope s_need_zones) f cdv A outer s H E) (fun cls d _ H => E cls d H) := takes_of rfl rfl rfl rfl
  exact (dss_one (ds_if (dt_not (dt_val (d_call G_is_zones hr tk (da_cons (d_var 0) da_nil)))) (dss_one (ds_raise T.x_InvalidZones rfl tk)) dss_nil))
abbrev s_need_number : Stmt := top 19
theorem sc_need_number : FnScope ["number"] ["number"] (defScope s_need_number) := ⟨rfl, rfl, rfl, by decide +kernel, rfl, by decide +kernel, by decide +kernel⟩
theorem fn_need_number (T : Txt K mg w) {f : Addr} {fd : FuncData} (hm : mg "need_number" = some (.ref f)) (F : Fun K "need_number" "need_number" s_need_number f fd) (G_is_integer : FnD P w K mg base 1 "is_integer" s_is_integer ["value"] m_is_integer) : FnD P w K mg base 2 "need_number" s_need_number ["number"] m_need_number := by
  refine fnd_mk (np := 1) (nN := 1) (k := 1) hm F (F.binds fun _ _ _ _ _ _ us hl => match us, hl with | [_], _ => rfl) sc_need_number rfl rfl fun cdv A outer s H E hr => ?_
  have tk : Takes (cxOf (L2.CX P w) P w K mg base ["number"] "need_number" (defScope s_need_number) f cdv A outer s H E) (fun cls d _ H => E cls d H) := takes_of rfl rfl rfl rfl
  exact (dss_one (ds_if (dt_not (dt_val (d_call G_is_integer hr tk (da_cons (d_var 0) da_nil)))) (dss_one (ds_raise T.x_InvalidNumber rfl tk)) dss_nil))
abbrev s_is_offset : Stmt := top 20
theorem sc_is_offset : FnScope ["zone", "value"] ["zone", "value"] (defScope s_is_offset) := ⟨rfl, rfl, rfl, by decide +kernel, rfl, by decide +kernel, by decide +kernel⟩
theorem fn_is_offset (T : Txt K mg w) {f : Addr} {fd : FuncData} (hm : mg "is_offset" = some (.ref f)) (F : Fun K "is_offset" "is_offset" s_is_offset f fd) (G_is_integer : FnD P w K mg base 1 "is_integer" s_is_integer ["value"] m_is_integer) : FnD P w K mg base 2 "is_offset" s_is_offset ["zone", "value"] m_is_offset := by
  refine fnd_mk (np := 2) (nN := 2) (k := 1) hm F (F.binds fun _ _ _ _ _ _ us hl => match us, hl with | [_, _], _ => rfl) sc_is_offset rfl rfl fun cdv A outer s H E hr => ?_
  have tk : Takes (cxOf (L2.CX P w) P w K mg base ["zone", "value"] "is_offset" (defScope s_is_offset) f cdv A outer s H E) (fun cls d _ H => E cls d H) := takes_of rfl rfl rfl rfl
  exact (dss_one (ds_ret (d_and (d_call G_is_integer hr tk (da_cons (d_var 1) da_nil)) (d_one (d_cmp op_in_seq o_in (d_var 1) (d_ix ix_seq o_ix (d_var 0) d_int) (by rfl))))))
abbrev s_is_mark : Stmt := top 21
theorem sc_is_mark : FnScope ["zone", "value"] ["zone", "value"] (defScope s_is_mark) := ⟨rfl, rfl, rfl, by decide +kernel, rfl, by decide +kernel, by decide +kernel⟩
theorem fn_is_mark (T : Txt K mg w) {f : Addr} {fd : FuncData} (hm : mg "is_mark" = some (.ref f)) (F : Fun K "is_mark" "is_mark" s_is_mark f fd) (G_is_integer : FnD P w K mg base 1 "is_integer" s_is_integer ["value"] m_is_integer) (G_is_offset : FnD P w K mg base 2 "is_offset" s_is_offset ["zone", "value"] m_is_offset) : FnD P w K mg base 3 "is_mark" s_is_mark ["zone", "value"] m_is_mark := by
  refine fnd_mk (np := 2) (nN := 2) (k := 2) hm F (F.binds fun _ _ _ _ _ _ us hl => match us, hl with | [_, _], _ => rfl) sc_is_mark rfl rfl fun cdv A outer s H E hr => ?_
  have tk : Takes (cxOf (L2.CX P w) P w K mg base ["zone", "value"] "is_mark" (defScope s_is_mark) f cdv A outer s H E) (fun cls d _ H => E cls d H) := takes_of rfl rfl rfl rfl
  exact (dss_one (ds_ret (d_and (d_isi .tup (d_var 1) T.n_isinstance T.n_tuple) (d_and (d_cmp (op_eqA hr.units) o_eq (d_callB call_len c_len T.n_len (da_cons (d_var 1) da_nil)) d_int) (d_and (d_call G_is_integer hr tk (da_cons (d_ix ix_seq o_ix (d_var 1) d_int) da_nil)) (d_one (d_call G_is_offset hr tk (da_cons (d_var 0) (da_cons (d_ix ix_seq o_ix (d_var 1) d_int) da_nil)))))))))
abbrev s_is_table : Stmt := top 22
theorem sc_is_table : FnScope ["zone", "value", "held", "jumps", "k", "jump"] ["zone", "value"] (defScope s_is_table) := ⟨rfl, rfl, rfl, by decide +kernel, rfl, by decide +kernel, by decide +kernel⟩
theorem fn_is_table (T : Txt K mg w) {f : Addr} {fd : FuncData} (hm : mg "is_table" = some (.ref f)) (F : Fun K "is_table" "is_table" s_is_table f fd) (G_is_mark : FnD P w K mg base 3 "is_mark" s_is_mark ["zone", "value"] m_is_mark) (G_is_offset : FnD P w K mg base 2 "is_offset" s_is_offset ["zone", "value"] m_is_offset) (G_need_zone : FnD P w K mg base 3 "need_zone" s_need_zone ["zone"] m_need_zone) : FnD P w K mg base 4 "is_table" s_is_table ["zone", "value"] m_is_table := by
  refine fnd_mk (np := 2) (nN := 6) (k := 3) hm F (F.binds fun _ _ _ _ _ _ us hl => match us, hl with | [_, _], _ => rfl) sc_is_table rfl rfl fun cdv A outer s H E hr => ?_
  have tk : Takes (cxOf (L2.CX P w) P w K mg base ["zone", "value", "held", "jumps", "k", "jump"] "is_table" (defScope s_is_table) f cdv A outer s H E) (fun cls d _ H => E cls d H) := takes_of rfl rfl rfl rfl
  exact (dss_cons (ds_expr (d_call G_need_zone hr tk (da_cons (d_var 0) da_nil))) (dss_cons (ds_if (DT.w (dw_or (dt_not (dt_val (d_isi .tup (d_var 1) T.n_isinstance T.n_tuple))) (dw_or (dt_cmp (op_neA hr.units) o_ne (d_callB call_len c_len T.n_len (da_cons (d_var 1) da_nil)) d_int) (dw_or1 (dt_not (dt_val (d_call G_is_offset hr tk (da_cons (d_var 0) (da_cons (d_ix ix_seq o_ix (d_var 1) d_int) da_nil))))))))) (dss_one (ds_ret d_bl)) dss_nil) (dss_cons (ds_asg (d_var 1) (dg_tup rfl (dgs_cons (dg_name 2 sc_is_table.nd) (dgs_cons (dg_name 3 sc_is_table.nd) dgs_nil)))) (dss_cons (ds_if (dt_not (dt_val (d_isi .tup (d_var 3) T.n_isinstance T.n_tuple))) (dss_one (ds_ret d_bl)) dss_nil) (dss_cons (ds_for (passes_of rfl) rfl (di_enum (d_var 3) T.n_enumerate) (dg_tup rfl (dgs_cons (dg_name 4 sc_is_table.nd) (dgs_cons (dg_name 5 sc_is_table.nd) dgs_nil))) (dss_cons (ds_if (DT.w (dw_or (dt_not (dt_val (d_call G_is_mark hr tk (da_cons (d_var 0) (da_cons (d_var 5) da_nil))))) (dw_or1 (dt_cmp (op_eqA hr.units) o_eq (d_ix ix_seq o_ix (d_var 5) d_int) (d_var 2))))) (dss_one (ds_ret d_bl)) dss_nil) (dss_cons (ds_if (DT.w (dw_and (dt_cmp op_gt o_gt (d_var 4) d_int) (dw_and1 (dt_cmp op_lt o_lt (d_op op_sub o_sub (d_ix ix_seq o_ix (d_var 5) d_int) (d_ix ix_seq o_ix (d_ix ix_seq o_ix (d_var 3) (d_op op_sub o_sub (d_var 4) d_int)) d_int)) (d_ix ix_seq o_ix (d_var 0) d_int))))) (dss_one (ds_ret d_bl)) dss_nil) (dss_one (ds_set 2 sc_is_table.nd (d_ix ix_seq o_ix (d_var 5) d_int)))))) (dss_one (ds_ret d_bl)))))))
abbrev s_offset_in : Stmt := top 23
theorem sc_offset_in : FnScope ["table", "moment", "held", "at", "offset"] ["table", "moment"] (defScope s_offset_in) := ⟨rfl, rfl, rfl, by decide +kernel, rfl, by decide +kernel, by decide +kernel⟩
theorem fn_offset_in (T : Txt K mg w) {f : Addr} {fd : FuncData} (hm : mg "offset_in" = some (.ref f)) (F : Fun K "offset_in" "offset_in" s_offset_in f fd) : FnD P w K mg base 1 "offset_in" s_offset_in ["table", "moment"] m_offset_in := by
  refine fnd_mk (np := 2) (nN := 5) (k := 0) hm F (F.binds fun _ _ _ _ _ _ us hl => match us, hl with | [_, _], _ => rfl) sc_offset_in rfl rfl fun cdv A outer s H E hr => ?_
  have tk : Takes (cxOf (L2.CX P w) P w K mg base ["table", "moment", "held", "at", "offset"] "offset_in" (defScope s_offset_in) f cdv A outer s H E) (fun cls d _ H => E cls d H) := takes_of rfl rfl rfl rfl
  exact (dss_cons (ds_set 2 sc_offset_in.nd (d_ix ix_seq o_ix (d_var 0) d_int)) (dss_cons (ds_for (passes_of rfl) rfl (di_seq (d_ix ix_seq o_ix (d_var 0) d_int)) (dg_tup rfl (dgs_cons (dg_name 3 sc_offset_in.nd) (dgs_cons (dg_name 4 sc_offset_in.nd) dgs_nil))) (dss_cons (ds_if (dt_cmp op_gt o_gt (d_var 3) (d_var 1)) (dss_one ds_break) dss_nil) (dss_one (ds_set 2 sc_offset_in.nd (d_var 4))))) (dss_one (ds_ret (d_var 2)))))
abbrev s_found_by : Stmt := top 24
theorem sc_found_by : FnScope ["offsets", "held", "reading", "fold", "gap", "moments", "offset"] ["offsets", "held", "reading", "fold", "gap"] (defScope s_found_by) := ⟨rfl, rfl, rfl, by decide +kernel, rfl, by decide +kernel, by decide +kernel⟩
theorem fn_found_by (T : Txt K mg w) {f : Addr} {fd : FuncData} (hm : mg "found_by" = some (.ref f)) (F : Fun K "found_by" "found_by" s_found_by f fd) : FnD P w K mg base 1 "found_by" s_found_by ["offsets", "held", "reading", "fold", "gap"] m_found_by := by
  refine fnd_mk (np := 5) (nN := 7) (k := 0) hm F (F.binds fun _ _ _ _ _ _ us hl => match us, hl with | [_, _, _, _, _], _ => rfl) sc_found_by rfl rfl fun cdv A outer s H E hr => ?_
  have tk : Takes (cxOf (L2.CX P w) P w K mg base ["offsets", "held", "reading", "fold", "gap", "moments", "offset"] "found_by" (defScope s_found_by) f cdv A outer s H E) (fun cls d _ H => E cls d H) := takes_of rfl rfl rfl rfl
  exact (dss_cons (ds_setLcA (mw := mFz) 5 (own := [("offset", 6)]) (rd_fz) rfl sc_found_by.nd (d_back (d_var 0)) (blkOk_by (own := [("offset", 6)]) (N := ["offsets", "held", "reading", "fold", "gap", "moments", "offset"]) (sc := defScope s_found_by) (by decide +kernel)) (fun _ _ _ _ _ => (dg_name 6 sc_found_by.nd)) (fun _ _ _ _ _ => (dts_one (dt_cmp (op_eqA hr.units) o_eq (d_dix hr.units (d_var 1) (d_op op_sub o_sub (d_var 2) (d_var 6))) (d_var 6)))) (fun _ _ _ _ _ => (d_op op_sub o_sub (d_var 2) (d_var 6)))) (dss_cons (ds_if (dt_cmp (op_eqA hr.units) o_eq (d_callB call_len c_len T.n_len (da_cons (d_var 5) da_nil)) d_int) (dss_one (ds_ret (d_ix ix_seq o_ix (d_var 5) d_int))) dss_nil) (dss_cons (ds_if (dt_cmp (op_eqA hr.units) o_eq (d_callB call_len c_len T.n_len (da_cons (d_var 5) da_nil)) d_int) (dss_cons (ds_if (dt_cmp (op_eqA hr.units) o_eq (d_var 3) d_str) (dss_one (ds_ret d_non)) dss_nil) (dss_one (ds_ret (d_ifExp (dt_cmp (op_eqA hr.units) o_eq (d_var 3) d_str) (d_ix ix_seq o_ix (d_var 5) d_int) (d_ix ix_seq o_ix (d_var 5) d_int))))) dss_nil) (dss_cons (ds_if (dt_cmp (op_eqA hr.units) o_eq (d_var 4) d_str) (dss_one (ds_ret d_non)) dss_nil) (dss_cons (ds_if (dt_cmp (op_eqA hr.units) o_eq (d_var 4) d_str) (dss_one (ds_ret (d_op op_sub o_sub (d_var 2) (d_dix hr.units (d_var 1) (d_op op_sub o_sub (d_var 2) (d_ix ix_seq o_ix (d_var 0) (d_fold (d := .int (-1)) (d_un un_neg o_neg d_int) (fun _ _ => rfl)))))))) dss_nil) (dss_one (ds_ret (d_op op_sub o_sub (d_var 2) (d_dix hr.units (d_var 1) (d_op op_sub o_sub (d_var 2) (d_ix ix_seq o_ix (d_var 0) d_int)))))))))))
abbrev s_is_part : Stmt := top 30
theorem sc_is_part : FnScope ["zones", "before", "part", "value"] ["zones", "before", "part", "value"] (defScope s_is_part) := ⟨rfl, rfl, rfl, by decide +kernel, rfl, by decide +kernel, by decide +kernel⟩
theorem fn_is_part (T : Txt K mg w) {f : Addr} {fd : FuncData} (hm : mg "is_part" = some (.ref f)) (F : Fun K "is_part" "is_part" s_is_part f fd) (G_is_integer : FnD P w K mg base 1 "is_integer" s_is_integer ["value"] m_is_integer) : FnD P w K mg base 2 "is_part" s_is_part ["zones", "before", "part", "value"] m_is_part := by
  refine fnd_mk (np := 4) (nN := 4) (k := 1) hm F (F.binds fun _ _ _ _ _ _ us hl => match us, hl with | [_, _, _, _], _ => rfl) sc_is_part rfl rfl fun cdv A outer s H E hr => ?_
  have tk : Takes (cxOf (L2.CX P w) P w K mg base ["zones", "before", "part", "value"] "is_part" (defScope s_is_part) f cdv A outer s H E) (fun cls d _ H => E cls d H) := takes_of rfl rfl rfl rfl
  exact (dss_cons (ds_if (dt_cmp (op_eqA hr.units) o_eq (d_var 2) d_str) (dss_one (ds_ret (d_and (d_isi .str (d_var 3) T.n_isinstance T.n_str) (d_one (d_cmp op_in_seq o_in (d_var 3) (d_glob rfl (T.c_FOLDS)) (by rfl)))))) dss_nil) (dss_cons (ds_if (dt_cmp (op_eqA hr.units) o_eq (d_var 2) d_str) (dss_one (ds_ret (d_and (d_isi .str (d_var 3) T.n_isinstance T.n_str) (d_one (d_cmp op_in_seq o_in (d_var 3) (d_glob rfl (T.c_GAPS)) (by rfl)))))) dss_nil) (dss_cons (ds_if (dt_not (dt_val (d_call G_is_integer hr tk (da_cons (d_var 3) da_nil)))) (dss_one (ds_ret d_bl)) dss_nil) (dss_cons (ds_if (dt_cmp (op_eqA hr.units) o_eq (d_var 2) d_str) (dss_one (ds_ret (d_chain op_le op_lt o_le o_lt d_int (d_var 3) (d_callB call_len c_len T.n_len (da_cons (d_var 0) da_nil))))) dss_nil) (dss_cons (ds_if (dt_cmp (op_eqA hr.units) o_eq (d_var 2) d_str) (dss_one (ds_ret (d_chain op_le op_le o_le o_le (d_un un_neg o_neg (d_glob rfl (T.c_MOST_MINUTES))) (d_var 3) (d_glob rfl (T.c_MOST_MINUTES))))) dss_nil) (dss_cons (ds_if (dt_not (dt_chain op_le op_lt o_le o_lt d_int (d_var 3) (d_callB call_len c_len T.n_len (da_cons (d_var 1) da_nil)))) (dss_one (ds_ret d_bl)) dss_nil) (dss_cons (ds_if (dt_cmp (op_eqA hr.units) o_eq (d_var 2) d_str) (dss_one (ds_ret (d_cmp (op_neA hr.units) o_ne (d_ix ix_seq o_ix (d_var 1) (d_var 3)) d_str))) dss_nil) (dss_one (ds_ret (d_cmp (op_eqA hr.units) o_eq (d_ix ix_seq o_ix (d_var 1) (d_var 3)) (d_var 2)))))))))))
abbrev s_is_step : Stmt := top 31
theorem sc_is_step : FnScope ["zones", "before", "value", "parts", "k", "part"] ["zones", "before", "value"] (defScope s_is_step) := ⟨rfl, rfl, rfl, by decide +kernel, rfl, by decide +kernel, by decide +kernel⟩
theorem fn_is_step (T : Txt K mg w) {f : Addr} {fd : FuncData} (hm : mg "is_step" = some (.ref f)) (F : Fun K "is_step" "is_step" s_is_step f fd) (G_is_part : FnD P w K mg base 2 "is_part" s_is_part ["zones", "before", "part", "value"] m_is_part) : FnD P w K mg base 3 "is_step" s_is_step ["zones", "before", "value"] m_is_step := by
  refine fnd_mk (np := 3) (nN := 6) (k := 2) hm F (F.binds fun _ _ _ _ _ _ us hl => match us, hl with | [_, _, _], _ => rfl) sc_is_step rfl rfl fun cdv A outer s H E hr => ?_
  have tk : Takes (cxOf (L2.CX P w) P w K mg base ["zones", "before", "value", "parts", "k", "part"] "is_step" (defScope s_is_step) f cdv A outer s H E) (fun cls d _ H => E cls d H) := takes_of rfl rfl rfl rfl
  exact (dss_cons (ds_if (DT.w (dw_or (dt_not (dt_val (d_isi .tup (d_var 2) T.n_isinstance T.n_tuple))) (dw_or1 (dt_cmp (op_eqA hr.units) o_eq (d_callB call_len c_len T.n_len (da_cons (d_var 2) da_nil)) d_int)))) (dss_one (ds_ret d_bl)) dss_nil) (dss_cons (ds_if (DT.w (dw_or (dt_not (dt_val (d_isi .str (d_ix ix_seq o_ix (d_var 2) d_int) T.n_isinstance T.n_str))) (dw_or1 (dt_tbnot rfl (T.c_PARTS) (d_ix ix_seq o_ix (d_var 2) d_int))))) (dss_one (ds_ret d_bl)) dss_nil) (dss_cons (ds_set 3 sc_is_step.nd (d_tbix (by rfl) (T.c_PARTS) (d_ix ix_seq o_ix (d_var 2) d_int))) (dss_cons (ds_if (dt_cmp (op_neA hr.units) o_ne (d_callB call_len c_len T.n_len (da_cons (d_var 2) da_nil)) (d_op op_addD o_add (d_callB call_len c_len T.n_len (da_cons (d_var 3) da_nil)) d_int)) (dss_one (ds_ret d_bl)) dss_nil) (dss_one (ds_ret (d_callB (cr_all rfl) c_all T.n_all (da_cons (d_fz (dl_lc (own := [("k", 4), ("part", 5)]) rfl sc_is_step.nd (di_enum (d_var 3) T.n_enumerate) (blkOk_by (own := [("k", 4), ("part", 5)]) (N := ["zones", "before", "value", "parts", "k", "part"]) (sc := defScope s_is_step) (by decide +kernel)) (fun _ _ _ _ _ => (dg_any rfl (dgs_cons (dg_name 4 sc_is_step.nd) (dgs_cons (dg_name 5 sc_is_step.nd) dgs_nil)))) (fun _ _ _ _ _ => dts_nil) (fun _ _ _ _ _ => (d_call G_is_part hr takes0 (da_cons (d_var 0) (da_cons (d_var 1) (da_cons (d_var 5) (da_cons (d_ix ix_seq o_ix (d_var 2) (d_op op_addD o_add (d_var 4) d_int)) da_nil)))))))) da_nil))))))))
abbrev s_kind_made : Stmt := top 32
theorem sc_kind_made : FnScope ["before", "step"] ["before", "step"] (defScope s_kind_made) := ⟨rfl, rfl, rfl, by decide +kernel, rfl, by decide +kernel, by decide +kernel⟩
theorem fn_kind_made (T : Txt K mg w) {f : Addr} {fd : FuncData} (hm : mg "kind_made" = some (.ref f)) (F : Fun K "kind_made" "kind_made" s_kind_made f fd) : FnD P w K mg base 1 "kind_made" s_kind_made ["before", "step"] m_kind_made := by
  refine fnd_mk (np := 2) (nN := 2) (k := 0) hm F (F.binds fun _ _ _ _ _ _ us hl => match us, hl with | [_, _], _ => rfl) sc_kind_made rfl rfl fun cdv A outer s H E hr => ?_
  have tk : Takes (cxOf (L2.CX P w) P w K mg base ["before", "step"] "kind_made" (defScope s_kind_made) f cdv A outer s H E) (fun cls d _ H => E cls d H) := takes_of rfl rfl rfl rfl
  exact (dss_cons (ds_if (dt_cmp (op_eqA hr.units) o_eq (d_ix ix_seq o_ix (d_var 1) d_int) d_str) (dss_one (ds_ret (d_ix ix_seq o_ix (d_var 0) (d_ix ix_seq o_ix (d_var 1) d_int)))) dss_nil) (dss_one (ds_ret (d_tbix (by rfl) (T.c_MADE) (d_ix ix_seq o_ix (d_var 1) d_int)))))
abbrev s_is_program : Stmt := top 33
theorem sc_is_program : FnScope ["zones", "value", "before", "step"] ["zones", "value"] (defScope s_is_program) := ⟨rfl, rfl, rfl, by decide +kernel, rfl, by decide +kernel, by decide +kernel⟩
theorem fn_is_program (T : Txt K mg w) {f : Addr} {fd : FuncData} (hm : mg "is_program" = some (.ref f)) (F : Fun K "is_program" "is_program" s_is_program f fd) (G_kind_made : FnD P w K mg base 1 "kind_made" s_kind_made ["before", "step"] m_kind_made) (G_is_step : FnD P w K mg base 3 "is_step" s_is_step ["zones", "before", "value"] m_is_step) (G_need_zones : FnD P w K mg base 4 "need_zones" s_need_zones ["zones"] m_need_zones) : FnD P w K mg base 5 "is_program" s_is_program ["zones", "value"] m_is_program := by
  refine fnd_mk (np := 2) (nN := 4) (k := 4) hm F (F.binds fun _ _ _ _ _ _ us hl => match us, hl with | [_, _], _ => rfl) sc_is_program rfl rfl fun cdv A outer s H E hr => ?_
  have tk : Takes (cxOf (L2.CX P w) P w K mg base ["zones", "value", "before", "step"] "is_program" (defScope s_is_program) f cdv A outer s H E) (fun cls d _ H => E cls d H) := takes_of rfl rfl rfl rfl
  exact (dss_cons (ds_expr (d_call G_need_zones hr tk (da_cons (d_var 0) da_nil))) (dss_cons (ds_if (DT.w (dw_or (dt_not (dt_val (d_isi .tup (d_var 1) T.n_isinstance T.n_tuple))) (dw_or1 (dt_cmp op_gt o_gt (d_callB call_len c_len T.n_len (da_cons (d_var 1) da_nil)) (d_glob rfl (T.c_MOST_STEPS)))))) (dss_one (ds_ret d_bl)) dss_nil) (dss_cons (ds_set 2 sc_is_program.nd (d_new (dl_lst (da_cons d_str da_nil)))) (dss_cons (ds_forA (passes_of rfl) rfl (d_var 1) (dg_name 3 sc_is_program.nd) (dss_cons (ds_if (dt_not (dt_val (d_call G_is_step hr tk (da_cons (d_var 0) (da_cons (d_var 2) (da_cons (d_var 3) da_nil)))))) (dss_one (ds_ret d_bl)) dss_nil) (dss_one (ds_app (d_var 2) (d_call G_kind_made hr tk (da_cons (d_var 2) (da_cons (d_var 3) da_nil))) (fun a b => ps_expr (pe_bm PySem.F.plainAttrs_list PySem.F.slot_list_append PySem.F.type_list_append mt_append a (pa_cons b pa_nil))))))) (dss_one (ds_ret (d_cmp op_lt o_lt (d_callB call_len c_len T.n_len (da_cons (d_fz (dl_lcA (own := [("step", 3)]) rfl sc_is_program.nd (d_var 1) (blkOk_by (own := [("step", 3)]) (N := ["zones", "value", "before", "step"]) (sc := defScope s_is_program) (by decide +kernel)) (fun _ _ _ _ _ => (dg_name 3 sc_is_program.nd)) (fun _ _ _ _ _ => (dts_one (dt_cmp (op_eqA hr.units) o_eq (d_ix ix_seq o_ix (d_var 3) d_int) d_str))) (fun _ _ _ _ _ => (d_var 3)))) da_nil)) d_int)))))))
abbrev s_need_program : Stmt := top 34
theorem sc_need_program : FnScope ["zones", "program"] ["zones", "program"] (defScope s_need_program) := ⟨rfl, rfl, rfl, by decide +kernel, rfl, by decide +kernel, by decide +kernel⟩
theorem fn_need_program (T : Txt K mg w) {f : Addr} {fd : FuncData} (hm : mg "need_program" = some (.ref f)) (F : Fun K "need_program" "need_program" s_need_program f fd) (G_is_program : FnD P w K mg base 5 "is_program" s_is_program ["zones", "value"] m_is_program) : FnD P w K mg base 6 "need_program" s_need_program ["zones", "program"] m_need_program := by
  refine fnd_mk (np := 2) (nN := 2) (k := 5) hm F (F.binds fun _ _ _ _ _ _ us hl => match us, hl with | [_, _], _ => rfl) sc_need_program rfl rfl fun cdv A outer s H E hr => ?_
  have tk : Takes (cxOf (L2.CX P w) P w K mg base ["zones", "program"] "need_program" (defScope s_need_program) f cdv A outer s H E) (fun cls d _ H => E cls d H) := takes_of rfl rfl rfl rfl
  exact (dss_one (ds_if (dt_not (dt_val (d_call G_is_program hr tk (da_cons (d_var 0) (da_cons (d_var 1) da_nil))))) (dss_one (ds_raise T.x_InvalidProgram rfl tk)) dss_nil))
abbrev s_is_world : Stmt := top 35
theorem sc_is_world : FnScope ["zones", "value", "tables", "place", "zone"] ["zones", "value"] (defScope s_is_world) := ⟨rfl, rfl, rfl, by decide +kernel, rfl, by decide +kernel, by decide +kernel⟩
theorem fn_is_world (T : Txt K mg w) {f : Addr} {fd : FuncData} (hm : mg "is_world" = some (.ref f)) (F : Fun K "is_world" "is_world" s_is_world f fd) (G_is_table : FnD P w K mg base 4 "is_table" s_is_table ["zone", "value"] m_is_table) (G_need_zones : FnD P w K mg base 4 "need_zones" s_need_zones ["zones"] m_need_zones) : FnD P w K mg base 5 "is_world" s_is_world ["zones", "value"] m_is_world := by
  refine fnd_mk (np := 2) (nN := 5) (k := 4) hm F (F.binds fun _ _ _ _ _ _ us hl => match us, hl with | [_, _], _ => rfl) sc_is_world rfl rfl fun cdv A outer s H E hr => ?_
  have tk : Takes (cxOf (L2.CX P w) P w K mg base ["zones", "value", "tables", "place", "zone"] "is_world" (defScope s_is_world) f cdv A outer s H E) (fun cls d _ H => E cls d H) := takes_of rfl rfl rfl rfl
  exact (dss_cons (ds_expr (d_call G_need_zones hr tk (da_cons (d_var 0) da_nil))) (dss_cons (ds_if (DT.w (dw_or (dt_not (dt_val (d_isi .tup (d_var 1) T.n_isinstance T.n_tuple))) (dw_or1 (dt_cmp (op_neA hr.units) o_ne (d_callB call_len c_len T.n_len (da_cons (d_var 1) da_nil)) d_int)))) (dss_one (ds_ret d_bl)) dss_nil) (dss_cons (ds_forA (passes_of rfl) rfl (d_var 1) (dg_name 2 sc_is_world.nd) (dss_cons (ds_if (DT.w (dw_or (dt_not (dt_val (d_isi .tup (d_var 2) T.n_isinstance T.n_tuple))) (dw_or1 (dt_cmp (op_neA hr.units) o_ne (d_callB call_len c_len T.n_len (da_cons (d_var 2) da_nil)) (d_callB call_len c_len T.n_len (da_cons (d_var 0) da_nil)))))) (dss_one (ds_ret d_bl)) dss_nil) (dss_one (ds_if (dt_not (dt_val (d_callB (cr_all rfl) c_all T.n_all (da_cons (d_fz (dl_lc (own := [("place", 3), ("zone", 4)]) rfl sc_is_world.nd (di_enum (d_var 0) T.n_enumerate) (blkOk_by (own := [("place", 3), ("zone", 4)]) (N := ["zones", "value", "tables", "place", "zone"]) (sc := defScope s_is_world) (by decide +kernel)) (fun _ _ _ _ _ => (dg_any rfl (dgs_cons (dg_name 3 sc_is_world.nd) (dgs_cons (dg_name 4 sc_is_world.nd) dgs_nil)))) (fun _ _ _ _ _ => dts_nil) (fun _ _ _ _ _ => (d_call G_is_table hr takes0 (da_cons (d_var 4) (da_cons (d_ix ix_seq o_ix (d_var 2) (d_var 3)) da_nil)))))) da_nil)))) (dss_one (ds_ret d_bl)) dss_nil)))) (dss_one (ds_ret d_bl)))))
abbrev s_need_world : Stmt := top 36
theorem sc_need_world : FnScope ["zones", "world"] ["zones", "world"] (defScope s_need_world) := ⟨rfl, rfl, rfl, by decide +kernel, rfl, by decide +kernel, by decide +kernel⟩
theorem fn_need_world (T : Txt K mg w) {f : Addr} {fd : FuncData} (hm : mg "need_world" = some (.ref f)) (F : Fun K "need_world" "need_world" s_need_world f fd) (G_is_world : FnD P w K mg base 5 "is_world" s_is_world ["zones", "value"] m_is_world) : FnD P w K mg base 6 "need_world" s_need_world ["zones", "world"] m_need_world := by
  refine fnd_mk (np := 2) (nN := 2) (k := 5) hm F (F.binds fun _ _ _ _ _ _ us hl => match us, hl with | [_, _], _ => rfl) sc_need_world rfl rfl fun cdv A outer s H E hr => ?_
  have tk : Takes (cxOf (L2.CX P w) P w K mg base ["zones", "world"] "need_world" (defScope s_need_world) f cdv A outer s H E) (fun cls d _ H => E cls d H) := takes_of rfl rfl rfl rfl
  exact (dss_one (ds_if (dt_not (dt_val (d_call G_is_world hr tk (da_cons (d_var 0) (da_cons (d_var 1) da_nil))))) (dss_one (ds_raise T.x_InvalidWorld rfl tk)) dss_nil))
abbrev s_asked_moments : Stmt := top 37
theorem sc_asked_moments : FnScope ["zones", "step", "values", "base", "offset"] ["zones", "step", "values"] (defScope s_asked_moments) := ⟨rfl, rfl, rfl, by decide +kernel, rfl, by decide +kernel, by decide +kernel⟩
theorem fn_asked_moments (T : Txt K mg w) {f : Addr} {fd : FuncData} (hm : mg "asked_moments" = some (.ref f)) (F : Fun K "asked_moments" "asked_moments" s_asked_moments f fd) : FnD P w K mg base 1 "asked_moments" s_asked_moments ["zones", "step", "values"] m_asked_moments := by
  refine fnd_mk (np := 3) (nN := 5) (k := 0) hm F (F.binds fun _ _ _ _ _ _ us hl => match us, hl with | [_, _, _], _ => rfl) sc_asked_moments rfl rfl fun cdv A outer s H E hr => ?_
  have tk : Takes (cxOf (L2.CX P w) P w K mg base ["zones", "step", "values", "base", "offset"] "asked_moments" (defScope s_asked_moments) f cdv A outer s H E) (fun cls d _ H => E cls d H) := takes_of rfl rfl rfl rfl
  exact (dss_cons (ds_set 3 sc_asked_moments.nd (d_ix ix_seq o_ix (d_var 2) (d_ix ix_seq o_ix (d_var 1) d_int))) (dss_cons (ds_if (DT.w (dw_or (dt_cmp (op_eqA hr.units) o_eq (d_ix ix_seq o_ix (d_var 1) d_int) d_str) (dw_or1 (dt_cmp (op_eqA hr.units) o_eq (d_ix ix_seq o_ix (d_var 1) d_int) d_str)))) (dss_one (ds_ret (d_fz (dl_lst (da_cons (d_var 3) da_nil))))) dss_nil) (dss_cons (ds_if (dt_cmp (op_eqA hr.units) o_eq (d_ix ix_seq o_ix (d_var 1) d_int) d_str) (dss_one (ds_ret (d_fz (dl_lcA (own := [("offset", 4)]) rfl sc_asked_moments.nd (d_backA (d_ix ix_seq o_ix (d_ix ix_seq o_ix (d_var 0) (d_ix ix_seq o_ix (d_var 1) d_int)) d_int)) (blkOk_by (own := [("offset", 4)]) (N := ["zones", "step", "values", "base", "offset"]) (sc := defScope s_asked_moments) (by decide +kernel)) (fun _ _ _ _ _ => (dg_name 4 sc_asked_moments.nd)) (fun _ _ _ _ _ => dts_nil) (fun _ _ _ _ _ => (d_op op_sub o_sub (d_var 3) (d_var 4))))))) dss_nil) (dss_cons (ds_if (dt_cmp (op_eqA hr.units) o_eq (d_ix ix_seq o_ix (d_var 1) d_int) d_str) (dss_one (ds_ret (d_fz (dl_lst (da_cons (d_op op_sub o_sub (d_var 3) d_int) da_nil))))) dss_nil) (dss_one (ds_ret (d_fz (dl_lst da_nil))))))))
abbrev s_value_made : Stmt := top 38
theorem sc_value_made : FnScope ["zones", "step", "values", "held", "base"] ["zones", "step", "values", "held"] (defScope s_value_made) := ⟨rfl, rfl, rfl, by decide +kernel, rfl, by decide +kernel, by decide +kernel⟩
theorem fn_value_made (T : Txt K mg w) {f : Addr} {fd : FuncData} (hm : mg "value_made" = some (.ref f)) (F : Fun K "value_made" "value_made" s_value_made f fd) (G_found_by : FnD P w K mg base 1 "found_by" s_found_by ["offsets", "held", "reading", "fold", "gap"] m_found_by) : FnD P w K mg base 2 "value_made" s_value_made ["zones", "step", "values", "held"] m_value_made := by
  refine fnd_mk (np := 4) (nN := 5) (k := 1) hm F (F.binds fun _ _ _ _ _ _ us hl => match us, hl with | [_, _, _, _], _ => rfl) sc_value_made rfl rfl fun cdv A outer s H E hr => ?_
  have tk : Takes (cxOf (L2.CX P w) P w K mg base ["zones", "step", "values", "held", "base"] "value_made" (defScope s_value_made) f cdv A outer s H E) (fun cls d _ H => E cls d H) := takes_of rfl rfl rfl rfl
  exact (dss_cons (ds_set 4 sc_value_made.nd (d_ix ix_seq o_ix (d_var 2) (d_ix ix_seq o_ix (d_var 1) d_int))) (dss_cons (ds_if (dt_cmp (op_eqA hr.units) o_eq (d_ix ix_seq o_ix (d_var 1) d_int) d_str) (dss_one (ds_ret (d_op op_addD o_add (d_var 4) (d_dix hr.units (d_var 3) (d_var 4))))) dss_nil) (dss_cons (ds_if (dt_cmp (op_eqA hr.units) o_eq (d_ix ix_seq o_ix (d_var 1) d_int) d_str) (dss_one (ds_ret (d_dix hr.units (d_var 3) (d_var 4)))) dss_nil) (dss_cons (ds_if (dt_cmp (op_eqA hr.units) o_eq (d_ix ix_seq o_ix (d_var 1) d_int) d_str) (dss_one (ds_ret (d_call G_found_by hr tk (da_cons (d_ix ix_seq o_ix (d_ix ix_seq o_ix (d_var 0) (d_ix ix_seq o_ix (d_var 1) d_int)) d_int) (da_cons (d_var 3) (da_cons (d_var 4) (da_cons (d_ix ix_seq o_ix (d_var 1) d_int) (da_cons (d_ix ix_seq o_ix (d_var 1) d_int) da_nil)))))))) dss_nil) (dss_cons (ds_if (dt_cmp (op_eqA hr.units) o_eq (d_ix ix_seq o_ix (d_var 1) d_int) d_str) (dss_one (ds_ret (d_var 4))) dss_nil) (dss_cons (ds_if (dt_cmp (op_eqA hr.units) o_eq (d_ix ix_seq o_ix (d_var 1) d_int) d_str) (dss_one (ds_ret (d_op op_addD o_add (d_var 4) (d_ix ix_seq o_ix (d_var 2) (d_ix ix_seq o_ix (d_var 1) d_int))))) dss_nil) (dss_cons (ds_if (dt_cmp (op_eqA hr.units) o_eq (d_ix ix_seq o_ix (d_var 1) d_int) d_str) (dss_one (ds_ret (d_op op_sub o_sub (d_var 4) (d_ix ix_seq o_ix (d_var 2) (d_ix ix_seq o_ix (d_var 1) d_int))))) dss_nil) (dss_one (ds_ret (d_op op_addD o_add (d_var 4) (d_ix ix_seq o_ix (d_var 1) d_int)))))))))))
abbrev s_table_ahead : Stmt := top 39
theorem sc_table_ahead : FnScope ["table", "moment", "jump"] ["table", "moment"] (defScope s_table_ahead) := ⟨rfl, rfl, rfl, by decide +kernel, rfl, by decide +kernel, by decide +kernel⟩
theorem fn_table_ahead (T : Txt K mg w) {f : Addr} {fd : FuncData} (hm : mg "table_ahead" = some (.ref f)) (F : Fun K "table_ahead" "table_ahead" s_table_ahead f fd) : FnD P w K mg base 1 "table_ahead" s_table_ahead ["table", "moment"] m_table_ahead := by
  refine fnd_mk (np := 2) (nN := 3) (k := 0) hm F (F.binds fun _ _ _ _ _ _ us hl => match us, hl with | [_, _], _ => rfl) sc_table_ahead rfl rfl fun cdv A outer s H E hr => ?_
  have tk : Takes (cxOf (L2.CX P w) P w K mg base ["table", "moment", "jump"] "table_ahead" (defScope s_table_ahead) f cdv A outer s H E) (fun cls d _ H => E cls d H) := takes_of rfl rfl rfl rfl
  exact (dss_one (ds_ret (d_tup (da_cons (d_ix ix_seq o_ix (d_var 0) d_int) (da_cons (d_fz (dl_lcA (own := [("jump", 2)]) rfl sc_table_ahead.nd (d_ix ix_seq o_ix (d_var 0) d_int) (blkOk_by (own := [("jump", 2)]) (N := ["table", "moment", "jump"]) (sc := defScope s_table_ahead) (by decide +kernel)) (fun _ _ _ _ _ => (dg_name 2 sc_table_ahead.nd)) (fun _ _ _ _ _ => (dts_one (dt_cmp op_lt o_lt (d_ix ix_seq o_ix (d_var 2) d_int) (d_var 1)))) (fun _ _ _ _ _ => (d_var 2)))) da_nil)))))
abbrev s_run : Stmt := top 40
theorem sc_run : FnScope ["zones", "program", "world", "start", "holding", "values", "index", "step", "now", "place", "held", "moment", "made"] ["zones", "program", "world", "start"] (defScope s_run) := ⟨rfl, rfl, rfl, by decide +kernel, rfl, by decide +kernel, by decide +kernel⟩
theorem fn_run (T : Txt K mg w) {f : Addr} {fd : FuncData} (hm : mg "run" = some (.ref f)) (F : FunD K "run" "run" (defArgs s_run) (defBody s_run) (defScope s_run) [(V.int 0)] [] f fd) (G_value_made : FnD P w K mg base 2 "value_made" s_value_made ["zones", "step", "values", "held"] m_value_made) (G_offset_in : FnD P w K mg base 1 "offset_in" s_offset_in ["table", "moment"] m_offset_in) (G_asked_moments : FnD P w K mg base 1 "asked_moments" s_asked_moments ["zones", "step", "values"] m_asked_moments) (G_table_ahead : FnD P w K mg base 1 "table_ahead" s_table_ahead ["table", "moment"] m_table_ahead) (G_need_number : FnD P w K mg base 2 "need_number" s_need_number ["number"] m_need_number) (G_need_world : FnD P w K mg base 6 "need_world" s_need_world ["zones", "world"] m_need_world) (G_need_program : FnD P w K mg base 6 "need_program" s_need_program ["zones", "program"] m_need_program) (G_need_zones : FnD P w K mg base 4 "need_zones" s_need_zones ["zones"] m_need_zones) (GI_Refused : XiOk P w K mg base 1 "Refused" ["step"]) : FnDD P w K mg base 7 "run" s_run [(V.int 0)] [] ["zones", "program", "world", "start"] m_run := by
  refine fndd_mk (np := 4) (nN := 13) (k := 6) hm F sc_run rfl rfl fun cdv A outer s H E hr => ?_
  have tk : Takes (cxOf (L2.CX P w) P w K mg base ["zones", "program", "world", "start", "holding", "values", "index", "step", "now", "place", "held", "moment", "made"] "run" (defScope s_run) f cdv A outer s H E) (fun cls d _ H => E cls d H) := takes_of rfl rfl rfl rfl
  exact (dss_cons (ds_expr (d_call G_need_zones hr tk (da_cons (d_var 0) da_nil))) (dss_cons (ds_expr (d_call G_need_program hr tk (da_cons (d_var 0) (da_cons (d_var 1) da_nil)))) (dss_cons (ds_expr (d_call G_need_world hr tk (da_cons (d_var 0) (da_cons (d_var 2) da_nil)))) (dss_cons (ds_expr (d_call G_need_number hr tk (da_cons (d_var 3) da_nil))) (dss_cons (ds_set 4 sc_run.nd (d_new (dl_callTy call_list_of c_list T.n_list (da_cons (d_ix ix_seq o_ix (d_var 2) d_int) da_nil)))) (dss_cons (ds_set 5 sc_run.nd (d_new (dl_lst (da_cons (d_var 3) da_nil)))) (dss_cons (ds_for (passes_of rfl) rfl (di_enum (d_var 1) T.n_enumerate) (dg_any rfl (dgs_cons (dg_name 6 sc_run.nd) (dgs_cons (dg_name 7 sc_run.nd) dgs_nil))) (dss_cons (ds_if (dt_cmp (op_eqA hr.units) o_eq (d_ix ix_seq o_ix (d_var 7) d_int) d_str) (dss_cons (ds_par 8 9 rfl sc_run.nd (da_cons (d_ix ix_seq o_ix (d_var 5) (d_ix ix_seq o_ix (d_var 7) d_int)) (da_cons (d_ix ix_seq o_ix (d_var 7) d_int) da_nil))) (dss_cons (ds_if (dt_cmp (op_neA hr.units) o_ne (d_call G_table_ahead hr tk (da_cons (d_ix ix_seq o_ix (d_var 4) (d_var 9)) (da_cons (d_var 8) da_nil))) (d_call G_table_ahead hr tk (da_cons (d_ix ix_seq o_ix (d_ix ix_seq o_ix (d_var 2) d_int) (d_var 9)) (da_cons (d_var 8) da_nil)))) (dss_one (ds_raise T.x_Unsuited rfl tk)) dss_nil) (dss_one (ds_setIx (d_ix ix_seq o_ix (d_ix ix_seq o_ix (d_var 2) d_int) (d_var 9)) (d_var 4) (d_var 9))))) dss_nil) (dss_cons (ds_set 10 sc_run.nd d_dnew) (dss_cons (ds_forA (passes_of rfl) rfl (d_call G_asked_moments hr tk (da_cons (d_var 0) (da_cons (d_var 7) (da_cons (d_var 5) da_nil)))) (dg_name 11 sc_run.nd) (dss_one (ds_setDx hr.units (d_call G_offset_in hr tk (da_cons (d_ix ix_seq o_ix (d_var 4) (d_ix ix_seq o_ix (d_var 7) d_int)) (da_cons (d_var 11) da_nil))) (d_var 10) (d_var 11)))) (dss_cons (ds_set 12 sc_run.nd (d_call G_value_made hr tk (da_cons (d_var 0) (da_cons (d_var 7) (da_cons (d_var 5) (da_cons (d_var 10) da_nil)))))) (dss_cons (ds_if (dt_cmp op_isN o_isN (d_var 12) d_non) (dss_one (ds_raiseX GI_Refused rfl hr tk (da_cons (d_var 6) da_nil))) dss_nil) (dss_one (ds_app (d_var 5) (d_var 12) (fun a b => ps_expr (pe_bm PySem.F.plainAttrs_list PySem.F.slot_list_append PySem.F.type_list_append mt_append a (pa_cons b pa_nil))))))))))) (dss_one (ds_ret (d_var 5))))))))))
abbrev s__law_bag_of : Stmt := top 42
theorem sc__law_bag_of : FnScope ["_law_cell"] ["_law_cell"] (defScope s__law_bag_of) := ⟨rfl, rfl, rfl, by decide +kernel, rfl, by decide +kernel, by decide +kernel⟩
theorem fn__law_bag_of (T : Txt K mg w) {f : Addr} {fd : FuncData} (hm : mg "_law_bag_of" = some (.ref f)) (F : Fun K "_law_bag_of" "_law_bag_of" s__law_bag_of f fd) : FnD P w K mg base 1 "_law_bag_of" s__law_bag_of ["_law_cell"] m_law_bag_of := by
  refine fnd_mk (np := 1) (nN := 1) (k := 0) hm F (F.binds fun _ _ _ _ _ _ us hl => match us, hl with | [_], _ => rfl) sc__law_bag_of rfl rfl fun cdv A outer s H E hr => ?_
  have tk : Takes (cxOf (L2.CX P w) P w K mg base ["_law_cell"] "_law_bag_of" (defScope s__law_bag_of) f cdv A outer s H E) (fun cls d _ H => E cls d H) := takes_of rfl rfl rfl rfl
  exact (dss_one (ds_ret (d_new (dl_lst (da_cons (d_callB (call_max2 rfl) c_II T.n_max (da_cons d_int (da_cons (d_op op_sub o_sub (d_var 0) (d_fold (d := .int 1000000000000000000) (d_op op_pow o_pow d_int d_int) (fun _ _ => rfl))) da_nil))) (da_cons (d_op op_mod o_mod (d_callTy call_int1 c_int1 T.n_int (da_cons (d_var 0) da_nil)) d_int) (da_cons d_int da_nil)))))))
abbrev s__law_pick : Stmt := top 43
theorem sc__law_pick : FnScope ["_law_bag", "_law_many", "_law_here"] ["_law_bag", "_law_many"] (defScope s__law_pick) := ⟨rfl, rfl, rfl, by decide +kernel, rfl, by decide +kernel, by decide +kernel⟩
theorem fn__law_pick (T : Txt K mg w) {f : Addr} {fd : FuncData} (hm : mg "_law_pick" = some (.ref f)) (F : Fun K "_law_pick" "_law_pick" s__law_pick f fd) : FnD P w K mg base 1 "_law_pick" s__law_pick ["_law_bag", "_law_many"] m_law_pick := by
  refine fnd_mk (np := 2) (nN := 3) (k := 0) hm F (F.binds fun _ _ _ _ _ _ us hl => match us, hl with | [_, _], _ => rfl) sc__law_pick rfl rfl fun cdv A outer s H E hr => ?_
  have tk : Takes (cxOf (L2.CX P w) P w K mg base ["_law_bag", "_law_many", "_law_here"] "_law_pick" (defScope s__law_pick) f cdv A outer s H E) (fun cls d _ H => E cls d H) := takes_of rfl rfl rfl rfl
  exact (dss_cons (ds_if (dt_cmp op_gt o_gt (d_ix ix_seq o_ix (d_var 0) d_int) d_int) (dss_cons (ds_set 2 sc__law_pick.nd (d_op op_mod o_mod (d_callTy call_int1 c_int1 T.n_int (da_cons (d_ix ix_seq o_ix (d_var 0) d_int) da_nil)) (d_var 1))) (dss_cons (ds_setIx (d_op op_fdivW o_fdiv (d_ix ix_seq o_ix (d_var 0) d_int) (d_var 1)) (d_var 0) d_int) (dss_one (ds_ret (d_var 2))))) dss_nil) (dss_cons (ds_setIx (d_op op_addD o_add (d_ix ix_seq o_ix (d_var 0) d_int) d_int) (d_var 0) d_int) (dss_cons (ds_set 2 sc__law_pick.nd (d_op op_mulW o_mul (d_op op_addD o_add (d_ix ix_seq o_ix (d_var 0) d_int) (d_op op_mulW o_mul d_int (d_ix ix_seq o_ix (d_var 0) d_int))) (d_op op_addD o_add (d_op op_addD o_add (d_ix ix_seq o_ix (d_var 0) d_int) (d_op op_mulW o_mul d_int (d_ix ix_seq o_ix (d_var 0) d_int))) d_int))) (dss_cons (ds_set 2 sc__law_pick.nd (d_op op_mod o_mod (d_callTy call_int1 c_int1 T.n_int (da_cons (d_var 2) da_nil)) d_int)) (dss_cons (ds_set 2 sc__law_pick.nd (d_op op_addD o_add (d_op op_mulW o_mul (d_var 2) (d_var 2)) (d_op op_mulW o_mul d_int (d_ix ix_seq o_ix (d_var 0) d_int)))) (dss_one (ds_ret (d_op op_mod o_mod (d_callTy call_int1 c_int1 T.n_int (da_cons (d_op op_fdivW o_fdiv (d_op op_mod o_mod (d_callTy call_int1 c_int1 T.n_int (da_cons (d_var 2) da_nil)) d_int) d_int) da_nil)) (d_var 1)))))))))
abbrev s__law_any_belt : Stmt := top 44
theorem sc__law_any_belt : FnScope ["_law_bag", "_law_upto", "_law_many", "_law_wide", "_law_gaps", "_law_shifts", "_law_gap_here", "_law_least", "_law_more", "_law_k"] ["_law_bag", "_law_upto"] (defScope s__law_any_belt) := ⟨rfl, rfl, rfl, by decide +kernel, rfl, by decide +kernel, by decide +kernel⟩
theorem fn__law_any_belt (T : Txt K mg w) {f : Addr} {fd : FuncData} (hm : mg "_law_any_belt" = some (.ref f)) (F : Fun K "_law_any_belt" "_law_any_belt" s__law_any_belt f fd) (G__law_pick : FnD P w K mg base 1 "_law_pick" s__law_pick ["_law_bag", "_law_many"] m_law_pick) : FnD P w K mg base 2 "_law_any_belt" s__law_any_belt ["_law_bag", "_law_upto"] m_law_any_belt := by
  refine fnd_mk (np := 2) (nN := 10) (k := 1) hm F (F.binds fun _ _ _ _ _ _ us hl => match us, hl with | [_, _], _ => rfl) sc__law_any_belt rfl rfl fun cdv A outer s H E hr => ?_
  have tk : Takes (cxOf (L2.CX P w) P w K mg base ["_law_bag", "_law_upto", "_law_many", "_law_wide", "_law_gaps", "_law_shifts", "_law_gap_here", "_law_least", "_law_more", "_law_k"] "_law_any_belt" (defScope s__law_any_belt) f cdv A outer s H E) (fun cls d _ H => E cls d H) := takes_of rfl rfl rfl rfl
  exact (dss_cons (ds_set 2 sc__law_any_belt.nd (d_callB (call_min2 rfl) c_II T.n_min (da_cons (d_var 1) (da_cons (d_ix ix_seq o_ix (d_fz (dl_lst (da_cons d_int (da_cons d_int (da_cons d_int (da_cons d_int (da_cons d_int (da_cons d_int da_nil)))))))) (d_call G__law_pick hr tk (da_cons (d_var 0) (da_cons d_int da_nil)))) da_nil)))) (dss_cons (ds_set 3 sc__law_any_belt.nd (d_ix ix_seq o_ix (d_fz (dl_lst (da_cons d_int (da_cons d_int (da_cons d_int (da_cons d_int (da_cons d_int (da_cons d_int da_nil)))))))) (d_call G__law_pick hr tk (da_cons (d_var 0) (da_cons d_int da_nil))))) (dss_cons (ds_set 3 sc__law_any_belt.nd (d_callB (call_max2 rfl) c_II T.n_max (da_cons d_int (da_cons (d_op op_fdivW o_fdiv (d_var 3) (d_callB (call_max2 rfl) c_II T.n_max (da_cons d_int (da_cons (d_op op_sub o_sub (d_var 2) d_int) da_nil)))) da_nil)))) (dss_cons (ds_setLc (mw := mFz) 4 (own := [("_law_k", 9)]) (rd_fz) rfl sc__law_any_belt.nd (di_range1 (da_cons (d_op op_sub o_sub (d_var 2) d_int) da_nil) T.n_range) (blkOk_by (own := [("_law_k", 9)]) (N := ["_law_bag", "_law_upto", "_law_many", "_law_wide", "_law_gaps", "_law_shifts", "_law_gap_here", "_law_least", "_law_more", "_law_k"]) (sc := defScope s__law_any_belt) (by decide +kernel)) (fun _ _ _ _ _ => (dg_name 9 sc__law_any_belt.nd)) (fun _ _ _ _ _ => dts_nil) (fun _ _ _ _ _ => (d_op op_sub o_sub (d_var 3) (d_op op_mulW o_mul (d_call G__law_pick hr takes0 (da_cons (d_var 0) (da_cons (d_var 3) da_nil))) (d_call G__law_pick hr takes0 (da_cons (d_var 0) (da_cons d_int da_nil))))))) (dss_cons (ds_set 5 sc__law_any_belt.nd (d_new (dl_lst (da_cons (d_op op_sub o_sub (d_call G__law_pick hr tk (da_cons (d_var 0) (da_cons (d_op op_sub o_sub d_int (d_callB (cr_sum rfl) c_sum T.n_sum (da_cons (d_var 4) da_nil))) da_nil))) d_int) da_nil)))) (dss_cons (ds_forA (passes_of rfl) rfl (d_var 4) (dg_name 6 sc__law_any_belt.nd) (dss_one (ds_app (d_var 5) (d_op op_addD o_add (d_ix ix_seq o_ix (d_var 5) (d_fold (d := .int (-1)) (d_un un_neg o_neg d_int) (fun _ _ => rfl))) (d_var 6)) (fun a b => ps_expr (pe_bm PySem.F.plainAttrs_list PySem.F.slot_list_append PySem.F.type_list_append mt_append a (pa_cons b pa_nil)))))) (dss_cons (ds_set 7 sc__law_any_belt.nd (d_op op_addD o_add (d_callB (cr_sum rfl) c_sum T.n_sum (da_cons (d_var 4) da_nil)) d_int)) (dss_cons (ds_set 8 sc__law_any_belt.nd (d_fz (dl_lst (da_cons d_int (da_cons d_int (da_cons d_int (da_cons (d_op op_sub o_sub d_int (d_var 7)) (da_cons (d_call G__law_pick hr tk (da_cons (d_var 0) (da_cons d_int da_nil))) (da_cons d_int (da_cons (d_call G__law_pick hr tk (da_cons (d_var 0) (da_cons (d_op op_sub o_sub d_int (d_var 7)) da_nil))) da_nil)))))))))) (dss_one (ds_ret (d_tup (da_cons (d_callTy call_tupF c_tuple T.n_tuple (da_cons (d_var 5) da_nil)) (da_cons (d_op op_addD o_add (d_var 7) (d_ix ix_seq o_ix (d_var 8) (d_call G__law_pick hr tk (da_cons (d_var 0) (da_cons d_int da_nil))))) da_nil)))))))))))))
abbrev s__law_any_belts : Stmt := top 45
theorem sc__law_any_belts : FnScope ["_law_bag", "_law_upto", "_law_k"] ["_law_bag", "_law_upto"] (defScope s__law_any_belts) := ⟨rfl, rfl, rfl, by decide +kernel, rfl, by decide +kernel, by decide +kernel⟩
theorem fn__law_any_belts (T : Txt K mg w) {f : Addr} {fd : FuncData} (hm : mg "_law_any_belts" = some (.ref f)) (F : Fun K "_law_any_belts" "_law_any_belts" s__law_any_belts f fd) (G__law_pick : FnD P w K mg base 1 "_law_pick" s__law_pick ["_law_bag", "_law_many"] m_law_pick) (G__law_any_belt : FnD P w K mg base 2 "_law_any_belt" s__law_any_belt ["_law_bag", "_law_upto"] m_law_any_belt) : FnD P w K mg base 3 "_law_any_belts" s__law_any_belts ["_law_bag", "_law_upto"] m_law_any_belts := by
  refine fnd_mk (np := 2) (nN := 3) (k := 2) hm F (F.binds fun _ _ _ _ _ _ us hl => match us, hl with | [_, _], _ => rfl) sc__law_any_belts rfl rfl fun cdv A outer s H E hr => ?_
  have tk : Takes (cxOf (L2.CX P w) P w K mg base ["_law_bag", "_law_upto", "_law_k"] "_law_any_belts" (defScope s__law_any_belts) f cdv A outer s H E) (fun cls d _ H => E cls d H) := takes_of rfl rfl rfl rfl
  exact (dss_one (ds_ret (d_callTy call_tupF c_tuple T.n_tuple (da_cons (d_fz (dl_lc (own := [("_law_k", 2)]) rfl sc__law_any_belts.nd (di_range1 (da_cons (d_op op_addD o_add d_int (d_call G__law_pick hr tk (da_cons (d_var 0) (da_cons d_int da_nil)))) da_nil) T.n_range) (blkOk_by (own := [("_law_k", 2)]) (N := ["_law_bag", "_law_upto", "_law_k"]) (sc := defScope s__law_any_belts) (by decide +kernel)) (fun _ _ _ _ _ => (dg_name 2 sc__law_any_belts.nd)) (fun _ _ _ _ _ => dts_nil) (fun _ _ _ _ _ => (d_call G__law_any_belt hr takes0 (da_cons (d_var 0) (da_cons (d_var 1) da_nil)))))) da_nil))))
abbrev s__law_spot : Stmt := top 46
theorem sc__law_spot : FnScope ["_law_bag", "_law_made", "_law_kind", "_law_some", "_law_k"] ["_law_bag", "_law_made", "_law_kind"] (defScope s__law_spot) := ⟨rfl, rfl, rfl, by decide +kernel, rfl, by decide +kernel, by decide +kernel⟩
theorem fn__law_spot (T : Txt K mg w) {f : Addr} {fd : FuncData} (hm : mg "_law_spot" = some (.ref f)) (F : Fun K "_law_spot" "_law_spot" s__law_spot f fd) (G__law_pick : FnD P w K mg base 1 "_law_pick" s__law_pick ["_law_bag", "_law_many"] m_law_pick) : FnD P w K mg base 2 "_law_spot" s__law_spot ["_law_bag", "_law_made", "_law_kind"] m_law_spot := by
  refine fnd_mk (np := 3) (nN := 5) (k := 1) hm F (F.binds fun _ _ _ _ _ _ us hl => match us, hl with | [_, _, _], _ => rfl) sc__law_spot rfl rfl fun cdv A outer s H E hr => ?_
  have tk : Takes (cxOf (L2.CX P w) P w K mg base ["_law_bag", "_law_made", "_law_kind", "_law_some", "_law_k"] "_law_spot" (defScope s__law_spot) f cdv A outer s H E) (fun cls d _ H => E cls d H) := takes_of rfl rfl rfl rfl
  exact (dss_cons (ds_setLc (mw := mFz) 3 (own := [("_law_k", 4)]) (rd_fz) rfl sc__law_spot.nd (di_range1 (da_cons (d_callB call_len c_len T.n_len (da_cons (d_var 1) da_nil)) da_nil) T.n_range) (blkOk_by (own := [("_law_k", 4)]) (N := ["_law_bag", "_law_made", "_law_kind", "_law_some", "_law_k"]) (sc := defScope s__law_spot) (by decide +kernel)) (fun _ _ _ _ _ => (dg_name 4 sc__law_spot.nd)) (fun _ _ _ _ _ => (dts_one (DT.w (dw_or (dt_cmp (op_eqA hr.units) o_eq (d_ix ix_seq o_ix (d_var 1) (d_var 4)) (d_var 2)) (dw_or1 (DT.w (dw_and (dt_cmp (op_eqA hr.units) o_eq (d_var 2) d_str) (dw_and1 (dt_cmp (op_neA hr.units) o_ne (d_ix ix_seq o_ix (d_var 1) (d_var 4)) d_str))))))))) (fun _ _ _ _ _ => (d_var 4))) (dss_cons (ds_if (dt_cmp (op_eqA hr.units) o_eq (d_call G__law_pick hr tk (da_cons (d_var 0) (da_cons d_int da_nil))) d_int) (dss_one (ds_ret (d_ix ix_seq o_ix (d_var 3) (d_fold (d := .int (-1)) (d_un un_neg o_neg d_int) (fun _ _ => rfl))))) dss_nil) (dss_one (ds_ret (d_ix ix_seq o_ix (d_var 3) (d_call G__law_pick hr tk (da_cons (d_var 0) (da_cons (d_callB call_len c_len T.n_len (da_cons (d_var 3) da_nil)) da_nil))))))))
abbrev s__law_minutes : Stmt := top 47
theorem sc__law_minutes : FnScope ["_law_bag", "_law_belts", "_law_tiny", "_law_shifts", "_law_apart", "_law_wide", "_law_near", "_law_amount"] ["_law_bag", "_law_belts", "_law_tiny"] (defScope s__law_minutes) := ⟨rfl, rfl, rfl, by decide +kernel, rfl, by decide +kernel, by decide +kernel⟩
theorem fn__law_minutes (T : Txt K mg w) {f : Addr} {fd : FuncData} (hm : mg "_law_minutes" = some (.ref f)) (F : Fun K "_law_minutes" "_law_minutes" s__law_minutes f fd) (G__law_pick : FnD P w K mg base 1 "_law_pick" s__law_pick ["_law_bag", "_law_many"] m_law_pick) : FnD P w K mg base 2 "_law_minutes" s__law_minutes ["_law_bag", "_law_belts", "_law_tiny"] m_law_minutes := by
  refine fnd_mk (np := 3) (nN := 8) (k := 1) hm F (F.binds fun _ _ _ _ _ _ us hl => match us, hl with | [_, _, _], _ => rfl) sc__law_minutes rfl rfl fun cdv A outer s H E hr => ?_
  have tk : Takes (cxOf (L2.CX P w) P w K mg base ["_law_bag", "_law_belts", "_law_tiny", "_law_shifts", "_law_apart", "_law_wide", "_law_near", "_law_amount"] "_law_minutes" (defScope s__law_minutes) f cdv A outer s H E) (fun cls d _ H => E cls d H) := takes_of rfl rfl rfl rfl
  exact (dss_cons (ds_if (dt_cmp (op_eqA hr.units) o_eq (d_var 2) d_int) (dss_one (ds_ret (d_op op_sub o_sub (d_call G__law_pick hr tk (da_cons (d_var 0) (da_cons d_int da_nil))) d_int))) dss_nil) (dss_cons (ds_asg (d_ix ix_seq o_ix (d_var 1) (d_call G__law_pick hr tk (da_cons (d_var 0) (da_cons (d_callB call_len c_len T.n_len (da_cons (d_var 1) da_nil)) da_nil)))) (dg_any rfl (dgs_cons (dg_name 3 sc__law_minutes.nd) (dgs_cons (dg_name 4 sc__law_minutes.nd) dgs_nil)))) (dss_cons (ds_set 5 sc__law_minutes.nd (d_op op_sub o_sub (d_ix ix_seq o_ix (d_var 3) (d_fold (d := .int (-1)) (d_un un_neg o_neg d_int) (fun _ _ => rfl))) (d_ix ix_seq o_ix (d_var 3) d_int))) (dss_cons (ds_set 6 sc__law_minutes.nd (d_fz (dl_lst (da_cons d_int (da_cons (d_var 4) (da_cons (d_var 5) (da_cons d_int (da_cons d_int (da_cons (d_call G__law_pick hr tk (da_cons (d_var 0) (da_cons d_int da_nil))) (da_cons d_int (da_cons (d_op op_sub o_sub (d_var 4) (d_var 5)) (da_cons (d_op op_addD o_add (d_var 4) (d_var 5)) da_nil)))))))))))) (dss_cons (ds_set 7 sc__law_minutes.nd (d_callB (call_min2 rfl) c_II T.n_min (da_cons d_int (da_cons (d_op op_sub o_sub (d_op op_addD o_add (d_ix ix_seq o_ix (d_var 6) (d_call G__law_pick hr tk (da_cons (d_var 0) (da_cons d_int da_nil)))) (d_call G__law_pick hr tk (da_cons (d_var 0) (da_cons d_int da_nil)))) d_int) da_nil)))) (dss_one (ds_ret (d_op op_mulW o_mul (d_var 7) (d_op op_sub o_sub d_int (d_op op_mulW o_mul d_int (d_call G__law_pick hr tk (da_cons (d_var 0) (da_cons d_int da_nil)))))))))))))
abbrev s__law_next_words : Stmt := top 48
theorem sc__law_next_words : FnScope ["_law_made", "_law_room", "_law_some"] ["_law_made", "_law_room"] (defScope s__law_next_words) := ⟨rfl, rfl, rfl, by decide +kernel, rfl, by decide +kernel, by decide +kernel⟩
theorem fn__law_next_words (T : Txt K mg w) {f : Addr} {fd : FuncData} (hm : mg "_law_next_words" = some (.ref f)) (F : Fun K "_law_next_words" "_law_next_words" s__law_next_words f fd) : FnD P w K mg base 1 "_law_next_words" s__law_next_words ["_law_made", "_law_room"] m_law_next_words := by
  refine fnd_mk (np := 2) (nN := 3) (k := 0) hm F (F.binds fun _ _ _ _ _ _ us hl => match us, hl with | [_, _], _ => rfl) sc__law_next_words rfl rfl fun cdv A outer s H E hr => ?_
  have tk : Takes (cxOf (L2.CX P w) P w K mg base ["_law_made", "_law_room", "_law_some"] "_law_next_words" (defScope s__law_next_words) f cdv A outer s H E) (fun cls d _ H => E cls d H) := takes_of rfl rfl rfl rfl
  exact (dss_cons (ds_set 2 sc__law_next_words.nd (d_fz (dl_cat (dl_cat (dl_lst (da_cons d_str da_nil)) (dl_rep (dl_lst (da_cons d_str da_nil)) (d_callTy call_int1 c_int1 T.n_int (da_cons (d_cmp op_in_seq o_in d_str (d_var 0) (by rfl)) da_nil)))) (dl_rep (dl_lst (da_cons d_str da_nil)) (d_callTy call_int1 c_int1 T.n_int (da_cons (d_and (d_cmp op_in_seq o_in d_str (d_var 0) (by rfl)) (d_one (d_cmp op_in_seq o_in d_str (d_var 0) (by rfl)))) da_nil)))))) (dss_cons (ds_if (dt_cmp op_gt o_gt (d_ix ix_seq o_ix (d_var 1) d_int) d_int) (dss_cons (ds_set 2 sc__law_next_words.nd (d_fz (dl_cat (dl_catV (d_var 2) (dl_lst (da_cons d_str (da_cons d_str (da_cons d_str (da_cons d_str (da_cons d_str (da_cons d_str da_nil)))))))) (dl_rep (dl_lst (da_cons d_str da_nil)) (d_callB (call_min2 rfl) c_II T.n_min (da_cons d_int (da_cons (d_ix ix_seq o_ix (d_var 1) d_int) da_nil))))))) (dss_one (ds_set 2 sc__law_next_words.nd (d_fz (dl_catV (d_var 2) (dl_rep (dl_lst (da_cons d_str da_nil)) (d_callTy call_int1 c_int1 T.n_int (da_cons (d_op op_mulW o_mul d_int (d_callTy call_int1 c_int1 T.n_int (da_cons (d_and (d_cmp op_gt o_gt (d_ix ix_seq o_ix (d_var 1) d_int) d_int) (d_one (d_cmp op_in_seq o_in d_str (d_var 0) (by rfl)))) da_nil))) da_nil)))))))) dss_nil) (dss_one (ds_ret (d_var 2)))))
abbrev s__law_any_rules : Stmt := top 49
theorem sc__law_any_rules : FnScope ["_law_bag"] ["_law_bag"] (defScope s__law_any_rules) := ⟨rfl, rfl, rfl, by decide +kernel, rfl, by decide +kernel, by decide +kernel⟩
theorem fn__law_any_rules (T : Txt K mg w) {f : Addr} {fd : FuncData} (hm : mg "_law_any_rules" = some (.ref f)) (F : Fun K "_law_any_rules" "_law_any_rules" s__law_any_rules f fd) (G__law_pick : FnD P w K mg base 1 "_law_pick" s__law_pick ["_law_bag", "_law_many"] m_law_pick) : FnD P w K mg base 2 "_law_any_rules" s__law_any_rules ["_law_bag"] m_law_any_rules := by
  refine fnd_mk (np := 1) (nN := 1) (k := 1) hm F (F.binds fun _ _ _ _ _ _ us hl => match us, hl with | [_], _ => rfl) sc__law_any_rules rfl rfl fun cdv A outer s H E hr => ?_
  have tk : Takes (cxOf (L2.CX P w) P w K mg base ["_law_bag"] "_law_any_rules" (defScope s__law_any_rules) f cdv A outer s H E) (fun cls d _ H => E cls d H) := takes_of rfl rfl rfl rfl
  exact (dss_one (ds_ret (d_tup (da_cons (d_ix ix_seq o_ix (d_fz (dl_lst (da_cons d_str (da_cons d_str (da_cons d_str da_nil))))) (d_call G__law_pick hr tk (da_cons (d_var 0) (da_cons d_int da_nil)))) (da_cons (d_ix ix_seq o_ix (d_fz (dl_lst (da_cons d_str (da_cons d_str (da_cons d_str da_nil))))) (d_call G__law_pick hr tk (da_cons (d_var 0) (da_cons d_int da_nil)))) da_nil)))))
abbrev s__law_any_deed : Stmt := top 50
theorem sc__law_any_deed : FnScope ["_law_bag", "_law_belts", "_law_made", "_law_room", "_law_some", "_law_word", "_law_site"] ["_law_bag", "_law_belts", "_law_made", "_law_room"] (defScope s__law_any_deed) := ⟨rfl, rfl, rfl, by decide +kernel, rfl, by decide +kernel, by decide +kernel⟩
theorem fn__law_any_deed (T : Txt K mg w) {f : Addr} {fd : FuncData} (hm : mg "_law_any_deed" = some (.ref f)) (F : Fun K "_law_any_deed" "_law_any_deed" s__law_any_deed f fd) (G__law_spot : FnD P w K mg base 2 "_law_spot" s__law_spot ["_law_bag", "_law_made", "_law_kind"] m_law_spot) (G__law_any_rules : FnD P w K mg base 2 "_law_any_rules" s__law_any_rules ["_law_bag"] m_law_any_rules) (G__law_pick : FnD P w K mg base 1 "_law_pick" s__law_pick ["_law_bag", "_law_many"] m_law_pick) (G__law_minutes : FnD P w K mg base 2 "_law_minutes" s__law_minutes ["_law_bag", "_law_belts", "_law_tiny"] m_law_minutes) (G__law_next_words : FnD P w K mg base 1 "_law_next_words" s__law_next_words ["_law_made", "_law_room"] m_law_next_words) : FnD P w K mg base 3 "_law_any_deed" s__law_any_deed ["_law_bag", "_law_belts", "_law_made", "_law_room"] m_law_any_deed := by
  refine fnd_mk (np := 4) (nN := 7) (k := 2) hm F (F.binds fun _ _ _ _ _ _ us hl => match us, hl with | [_, _, _, _], _ => rfl) sc__law_any_deed rfl rfl fun cdv A outer s H E hr => ?_
  have tk : Takes (cxOf (L2.CX P w) P w K mg base ["_law_bag", "_law_belts", "_law_made", "_law_room", "_law_some", "_law_word", "_law_site"] "_law_any_deed" (defScope s__law_any_deed) f cdv A outer s H E) (fun cls d _ H => E cls d H) := takes_of rfl rfl rfl rfl
  exact (dss_cons (ds_set 4 sc__law_any_deed.nd (d_call G__law_next_words hr tk (da_cons (d_var 2) (da_cons (d_var 3) da_nil)))) (dss_cons (ds_set 5 sc__law_any_deed.nd (d_ix ix_seq o_ix (d_var 4) (d_call G__law_pick hr tk (da_cons (d_var 0) (da_cons (d_callB call_len c_len T.n_len (da_cons (d_var 4) da_nil)) da_nil))))) (dss_cons (ds_if (dt_cmp (op_eqA hr.units) o_eq (d_var 5) d_str) (dss_one (ds_ret (d_tup (da_cons d_str (da_cons (d_call G__law_spot hr tk (da_cons (d_var 0) (da_cons (d_var 2) (da_cons d_str da_nil)))) (da_cons (d_call G__law_minutes hr tk (da_cons (d_var 0) (da_cons (d_var 1) (da_cons (d_ix ix_seq o_ix (d_var 3) d_int) da_nil)))) da_nil)))))) dss_nil) (dss_cons (ds_if (dt_cmp (op_eqA hr.units) o_eq (d_var 5) d_str) (dss_one (ds_ret (d_tup (da_cons d_str (da_cons (d_call G__law_spot hr tk (da_cons (d_var 0) (da_cons (d_var 2) (da_cons d_str da_nil)))) (da_cons (d_call G__law_spot hr tk (da_cons (d_var 0) (da_cons (d_var 2) (da_cons d_str da_nil)))) da_nil)))))) dss_nil) (dss_cons (ds_if (dt_cmp (op_eqA hr.units) o_eq (d_var 5) d_str) (dss_one (ds_ret (d_tup (da_cons d_str (da_cons (d_call G__law_spot hr tk (da_cons (d_var 0) (da_cons (d_var 2) (da_cons d_str da_nil)))) (da_cons (d_call G__law_spot hr tk (da_cons (d_var 0) (da_cons (d_var 2) (da_cons d_str da_nil)))) da_nil)))))) dss_nil) (dss_cons (ds_set 6 sc__law_any_deed.nd (d_call G__law_pick hr tk (da_cons (d_var 0) (da_cons (d_callB call_len c_len T.n_len (da_cons (d_var 1) da_nil)) da_nil)))) (dss_cons (ds_if (dt_cmp (op_eqA hr.units) o_eq (d_var 5) d_str) (dss_one (ds_ret (d_op op_addD o_add (d_tup (da_cons d_str (da_cons (d_call G__law_spot hr tk (da_cons (d_var 0) (da_cons (d_var 2) (da_cons d_str da_nil)))) (da_cons (d_var 6) da_nil)))) (d_call G__law_any_rules hr tk (da_cons (d_var 0) da_nil))))) dss_nil) (dss_one (ds_ret (d_tup (da_cons (d_var 5) (da_cons (d_call G__law_spot hr tk (da_cons (d_var 0) (da_cons (d_var 2) (da_cons d_str da_nil)))) (da_cons (d_var 6) da_nil)))))))))))))
abbrev s__law_kind_made : Stmt := top 51
theorem sc__law_kind_made : FnScope ["_law_made", "_law_deed"] ["_law_made", "_law_deed"] (defScope s__law_kind_made) := ⟨rfl, rfl, rfl, by decide +kernel, rfl, by decide +kernel, by decide +kernel⟩
theorem fn__law_kind_made (T : Txt K mg w) {f : Addr} {fd : FuncData} (hm : mg "_law_kind_made" = some (.ref f)) (F : Fun K "_law_kind_made" "_law_kind_made" s__law_kind_made f fd) : FnD P w K mg base 1 "_law_kind_made" s__law_kind_made ["_law_made", "_law_deed"] m_law_kind_made := by
  refine fnd_mk (np := 2) (nN := 2) (k := 0) hm F (F.binds fun _ _ _ _ _ _ us hl => match us, hl with | [_, _], _ => rfl) sc__law_kind_made rfl rfl fun cdv A outer s H E hr => ?_
  have tk : Takes (cxOf (L2.CX P w) P w K mg base ["_law_made", "_law_deed"] "_law_kind_made" (defScope s__law_kind_made) f cdv A outer s H E) (fun cls d _ H => E cls d H) := takes_of rfl rfl rfl rfl
  exact (dss_cons (ds_if (dt_cmp (op_eqA hr.units) o_eq (d_ix ix_seq o_ix (d_var 1) d_int) d_str) (dss_one (ds_ret (d_ix ix_seq o_ix (d_var 0) (d_ix ix_seq o_ix (d_var 1) d_int)))) dss_nil) (dss_cons (ds_if (dt_cmp (op_eqA hr.units) o_eq (d_ix ix_seq o_ix (d_var 1) d_int) d_str) (dss_one (ds_ret d_str)) dss_nil) (dss_cons (ds_if (DT.w (dw_or (dt_cmp (op_eqA hr.units) o_eq (d_ix ix_seq o_ix (d_var 1) d_int) d_str) (dw_or1 (dt_cmp (op_eqA hr.units) o_eq (d_ix ix_seq o_ix (d_var 1) d_int) d_str)))) (dss_one (ds_ret d_str)) dss_nil) (dss_one (ds_ret d_str)))))
abbrev s__law_kind_row : Stmt := top 52
theorem sc__law_kind_row : FnScope ["_law_plan", "_law_made", "_law_deed"] ["_law_plan"] (defScope s__law_kind_row) := ⟨rfl, rfl, rfl, by decide +kernel, rfl, by decide +kernel, by decide +kernel⟩
theorem fn__law_kind_row (T : Txt K mg w) {f : Addr} {fd : FuncData} (hm : mg "_law_kind_row" = some (.ref f)) (F : Fun K "_law_kind_row" "_law_kind_row" s__law_kind_row f fd) (G__law_kind_made : FnD P w K mg base 1 "_law_kind_made" s__law_kind_made ["_law_made", "_law_deed"] m_law_kind_made) : FnD P w K mg base 2 "_law_kind_row" s__law_kind_row ["_law_plan"] m_law_kind_row := by
  refine fnd_mk (np := 1) (nN := 3) (k := 1) hm F (F.binds fun _ _ _ _ _ _ us hl => match us, hl with | [_], _ => rfl) sc__law_kind_row rfl rfl fun cdv A outer s H E hr => ?_
  have tk : Takes (cxOf (L2.CX P w) P w K mg base ["_law_plan", "_law_made", "_law_deed"] "_law_kind_row" (defScope s__law_kind_row) f cdv A outer s H E) (fun cls d _ H => E cls d H) := takes_of rfl rfl rfl rfl
  exact (dss_cons (ds_set 1 sc__law_kind_row.nd (d_new (dl_lst (da_cons d_str da_nil)))) (dss_cons (ds_forA (passes_of rfl) rfl (d_var 0) (dg_name 2 sc__law_kind_row.nd) (dss_one (ds_app (d_var 1) (d_call G__law_kind_made hr tk (da_cons (d_var 1) (da_cons (d_var 2) da_nil))) (fun a b => ps_expr (pe_bm PySem.F.plainAttrs_list PySem.F.slot_list_append PySem.F.type_list_append mt_append a (pa_cons b pa_nil)))))) (dss_one (ds_ret (d_var 1)))))
abbrev s__law_less_room : Stmt := top 53
theorem sc__law_less_room : FnScope ["_law_room", "_law_deed", "_law_turned"] ["_law_room", "_law_deed"] (defScope s__law_less_room) := ⟨rfl, rfl, rfl, by decide +kernel, rfl, by decide +kernel, by decide +kernel⟩
theorem fn__law_less_room (T : Txt K mg w) {f : Addr} {fd : FuncData} (hm : mg "_law_less_room" = some (.ref f)) (F : Fun K "_law_less_room" "_law_less_room" s__law_less_room f fd) : FnD P w K mg base 1 "_law_less_room" s__law_less_room ["_law_room", "_law_deed"] m_law_less_room := by
  refine fnd_mk (np := 2) (nN := 3) (k := 0) hm F (F.binds fun _ _ _ _ _ _ us hl => match us, hl with | [_, _], _ => rfl) sc__law_less_room rfl rfl fun cdv A outer s H E hr => ?_
  have tk : Takes (cxOf (L2.CX P w) P w K mg base ["_law_room", "_law_deed", "_law_turned"] "_law_less_room" (defScope s__law_less_room) f cdv A outer s H E) (fun cls d _ H => E cls d H) := takes_of rfl rfl rfl rfl
  exact (dss_cons (ds_set 2 sc__law_less_room.nd (d_callTy call_int1 c_int1 T.n_int (da_cons (d_cmp op_in_seq o_in (d_ix ix_seq o_ix (d_var 1) d_int) (d_fz (dl_lst (da_cons d_str (da_cons d_str (da_cons d_str (da_cons d_str da_nil)))))) (by rfl)) da_nil))) (dss_one (ds_ret (d_fz (dl_lst (da_cons (d_op op_sub o_sub (d_ix ix_seq o_ix (d_var 0) d_int) (d_var 2)) (da_cons (d_op op_sub o_sub (d_ix ix_seq o_ix (d_var 0) d_int) (d_callTy call_int1 c_int1 T.n_int (da_cons (d_cmp (op_eqA hr.units) o_eq (d_ix ix_seq o_ix (d_var 1) d_int) d_str) da_nil))) (da_cons (d_op op_sub o_sub (d_ix ix_seq o_ix (d_var 0) d_int) (d_callTy call_int1 c_int1 T.n_int (da_cons (d_cmp (op_eqA hr.units) o_eq (d_ix ix_seq o_ix (d_var 1) d_int) d_str) da_nil))) (da_cons (d_ix ix_seq o_ix (d_var 0) d_int) da_nil)))))))))
abbrev s__law_longer_plan : Stmt := top 54
theorem sc__law_longer_plan : FnScope ["_law_bag", "_law_belts", "_law_plan", "_law_steps", "_law_room", "_law_k", "_law_deed"] ["_law_bag", "_law_belts", "_law_plan", "_law_steps", "_law_room"] (defScope s__law_longer_plan) := ⟨rfl, rfl, rfl, by decide +kernel, rfl, by decide +kernel, by decide +kernel⟩
theorem fn__law_longer_plan (T : Txt K mg w) {f : Addr} {fd : FuncData} (hm : mg "_law_longer_plan" = some (.ref f)) (F : Fun K "_law_longer_plan" "_law_longer_plan" s__law_longer_plan f fd) (G__law_less_room : FnD P w K mg base 1 "_law_less_room" s__law_less_room ["_law_room", "_law_deed"] m_law_less_room) (G__law_any_deed : FnD P w K mg base 3 "_law_any_deed" s__law_any_deed ["_law_bag", "_law_belts", "_law_made", "_law_room"] m_law_any_deed) (G__law_kind_row : FnD P w K mg base 2 "_law_kind_row" s__law_kind_row ["_law_plan"] m_law_kind_row) : FnD P w K mg base 4 "_law_longer_plan" s__law_longer_plan ["_law_bag", "_law_belts", "_law_plan", "_law_steps", "_law_room"] m_law_longer_plan := by
  refine fnd_mk (np := 5) (nN := 7) (k := 3) hm F (F.binds fun _ _ _ _ _ _ us hl => match us, hl with | [_, _, _, _, _], _ => rfl) sc__law_longer_plan rfl rfl fun cdv A outer s H E hr => ?_
  have tk : Takes (cxOf (L2.CX P w) P w K mg base ["_law_bag", "_law_belts", "_law_plan", "_law_steps", "_law_room", "_law_k", "_law_deed"] "_law_longer_plan" (defScope s__law_longer_plan) f cdv A outer s H E) (fun cls d _ H => E cls d H) := takes_of rfl rfl rfl rfl
  exact (dss_cons (ds_for (passes_of rfl) rfl (di_range1 (da_cons (d_var 3) da_nil) T.n_range) (dg_name 5 sc__law_longer_plan.nd) (dss_cons (ds_set 6 sc__law_longer_plan.nd (d_call G__law_any_deed hr tk (da_cons (d_var 0) (da_cons (d_var 1) (da_cons (d_call G__law_kind_row hr tk (da_cons (d_var 2) da_nil)) (da_cons (d_var 4) da_nil)))))) (dss_cons (ds_set 4 sc__law_longer_plan.nd (d_call G__law_less_room hr tk (da_cons (d_var 4) (da_cons (d_var 6) da_nil)))) (dss_one (ds_set 2 sc__law_longer_plan.nd (d_op op_addD o_add (d_var 2) (d_tup (da_cons (d_var 6) da_nil)))))))) (dss_one (ds_ret (d_var 2))))
abbrev s__law_holds : Stmt := top 55
theorem sc__law_holds : FnScope ["_law_chart", "_law_when", "_law_held", "_law_at", "_law_shift"] ["_law_chart", "_law_when"] (defScope s__law_holds) := ⟨rfl, rfl, rfl, by decide +kernel, rfl, by decide +kernel, by decide +kernel⟩
theorem fn__law_holds (T : Txt K mg w) {f : Addr} {fd : FuncData} (hm : mg "_law_holds" = some (.ref f)) (F : Fun K "_law_holds" "_law_holds" s__law_holds f fd) : FnD P w K mg base 1 "_law_holds" s__law_holds ["_law_chart", "_law_when"] m_law_holds := by
  refine fnd_mk (np := 2) (nN := 5) (k := 0) hm F (F.binds fun _ _ _ _ _ _ us hl => match us, hl with | [_, _], _ => rfl) sc__law_holds rfl rfl fun cdv A outer s H E hr => ?_
  have tk : Takes (cxOf (L2.CX P w) P w K mg base ["_law_chart", "_law_when", "_law_held", "_law_at", "_law_shift"] "_law_holds" (defScope s__law_holds) f cdv A outer s H E) (fun cls d _ H => E cls d H) := takes_of rfl rfl rfl rfl
  exact (dss_cons (ds_set 2 sc__law_holds.nd (d_ix ix_seq o_ix (d_var 0) d_int)) (dss_cons (ds_forA (passes_of rfl) rfl (d_ix ix_seq o_ix (d_var 0) d_int) (dg_any rfl (dgs_cons (dg_name 3 sc__law_holds.nd) (dgs_cons (dg_name 4 sc__law_holds.nd) dgs_nil))) (dss_one (ds_if (dt_cmp op_le o_le (d_var 3) (d_var 1)) (dss_one (ds_set 2 sc__law_holds.nd (d_var 4))) dss_nil))) (dss_one (ds_ret (d_var 2)))))
abbrev s__law_searched : Stmt := top 56
theorem sc__law_searched : FnScope ["_law_belt", "_law_chart", "_law_hour", "_law_double", "_law_none", "_law_fits", "_law_ahead", "_law_at", "_law_shift"] ["_law_belt", "_law_chart", "_law_hour", "_law_double", "_law_none"] (defScope s__law_searched) := ⟨rfl, rfl, rfl, by decide +kernel, rfl, by decide +kernel, by decide +kernel⟩
theorem fn__law_searched (T : Txt K mg w) {f : Addr} {fd : FuncData} (hm : mg "_law_searched" = some (.ref f)) (F : Fun K "_law_searched" "_law_searched" s__law_searched f fd) (G__law_holds : FnD P w K mg base 1 "_law_holds" s__law_holds ["_law_chart", "_law_when"] m_law_holds) : FnD P w K mg base 2 "_law_searched" s__law_searched ["_law_belt", "_law_chart", "_law_hour", "_law_double", "_law_none"] m_law_searched := by
  refine fnd_mk (np := 5) (nN := 9) (k := 1) hm F (F.binds fun _ _ _ _ _ _ us hl => match us, hl with | [_, _, _, _, _], _ => rfl) sc__law_searched rfl rfl fun cdv A outer s H E hr => ?_
  have tk : Takes (cxOf (L2.CX P w) P w K mg base ["_law_belt", "_law_chart", "_law_hour", "_law_double", "_law_none", "_law_fits", "_law_ahead", "_law_at", "_law_shift"] "_law_searched" (defScope s__law_searched) f cdv A outer s H E) (fun cls d _ H => E cls d H) := takes_of rfl rfl rfl rfl
  exact (dss_cons (ds_setLcA (mw := mFz) 5 (own := [("_law_shift", 8)]) (rd_fz) rfl sc__law_searched.nd (d_backA (d_ix ix_seq o_ix (d_var 0) d_int)) (blkOk_by (own := [("_law_shift", 8)]) (N := ["_law_belt", "_law_chart", "_law_hour", "_law_double", "_law_none", "_law_fits", "_law_ahead", "_law_at", "_law_shift"]) (sc := defScope s__law_searched) (by decide +kernel)) (fun _ _ _ _ _ => (dg_name 8 sc__law_searched.nd)) (fun _ _ _ _ _ => (dts_one (dt_cmp (op_eqA hr.units) o_eq (d_call G__law_holds hr takes0 (da_cons (d_var 1) (da_cons (d_op op_sub o_sub (d_var 2) (d_var 8)) da_nil))) (d_var 8)))) (fun _ _ _ _ _ => (d_op op_sub o_sub (d_var 2) (d_var 8)))) (dss_cons (ds_if (dt_cmp (op_eqA hr.units) o_eq (d_callB call_len c_len T.n_len (da_cons (d_var 5) da_nil)) d_int) (dss_one (ds_ret (d_ix ix_seq o_ix (d_var 5) d_int))) dss_nil) (dss_cons (ds_if (dt_cmp (op_eqA hr.units) o_eq (d_callB call_len c_len T.n_len (da_cons (d_var 5) da_nil)) d_int) (dss_one (ds_ret (d_dix hr.units (d_disp (dps_cons d_str (d_ix ix_seq o_ix (d_var 5) d_int) (dps_cons d_str (d_ix ix_seq o_ix (d_var 5) d_int) (dps_cons d_str d_non dps_nil)))) (d_var 3)))) dss_nil) (dss_cons (ds_set 6 sc__law_searched.nd (d_ix ix_seq o_ix (d_var 1) d_int)) (dss_cons (ds_forA (passes_of rfl) rfl (d_ix ix_seq o_ix (d_var 1) d_int) (dg_any rfl (dgs_cons (dg_name 7 sc__law_searched.nd) (dgs_cons (dg_name 8 sc__law_searched.nd) dgs_nil))) (dss_cons (ds_if (DT.w (dw_and (dt_cmp op_ge o_ge (d_op op_sub o_sub (d_var 2) (d_var 6)) (d_var 7)) (dw_and1 (dt_cmp op_lt o_lt (d_op op_sub o_sub (d_var 2) (d_var 8)) (d_var 7))))) (dss_one (ds_ret (d_dix hr.units (d_disp (dps_cons d_str (d_op op_sub o_sub (d_var 2) (d_var 6)) (dps_cons d_str (d_op op_sub o_sub (d_var 2) (d_var 8)) (dps_cons d_str d_non dps_nil)))) (d_var 4)))) dss_nil) (dss_one (ds_set 6 sc__law_searched.nd (d_var 8))))) (dss_one (ds_ret d_non)))))))
abbrev s__law_asked_at : Stmt := top 57
theorem sc__law_asked_at : FnScope ["_law_belts", "_law_deed", "_law_made", "_law_base", "_law_shift"] ["_law_belts", "_law_deed", "_law_made"] (defScope s__law_asked_at) := ⟨rfl, rfl, rfl, by decide +kernel, rfl, by decide +kernel, by decide +kernel⟩
theorem fn__law_asked_at (T : Txt K mg w) {f : Addr} {fd : FuncData} (hm : mg "_law_asked_at" = some (.ref f)) (F : Fun K "_law_asked_at" "_law_asked_at" s__law_asked_at f fd) : FnD P w K mg base 1 "_law_asked_at" s__law_asked_at ["_law_belts", "_law_deed", "_law_made"] m_law_asked_at := by
  refine fnd_mk (np := 3) (nN := 5) (k := 0) hm F (F.binds fun _ _ _ _ _ _ us hl => match us, hl with | [_, _, _], _ => rfl) sc__law_asked_at rfl rfl fun cdv A outer s H E hr => ?_
  have tk : Takes (cxOf (L2.CX P w) P w K mg base ["_law_belts", "_law_deed", "_law_made", "_law_base", "_law_shift"] "_law_asked_at" (defScope s__law_asked_at) f cdv A outer s H E) (fun cls d _ H => E cls d H) := takes_of rfl rfl rfl rfl
  exact (dss_cons (ds_set 3 sc__law_asked_at.nd (d_ix ix_seq o_ix (d_var 2) (d_ix ix_seq o_ix (d_var 1) d_int))) (dss_cons (ds_if (dt_cmp (op_eqA hr.units) o_eq (d_ix ix_seq o_ix (d_var 1) d_int) d_str) (dss_one (ds_ret (d_fz (dl_lcA (own := [("_law_shift", 4)]) rfl sc__law_asked_at.nd (d_backA (d_ix ix_seq o_ix (d_ix ix_seq o_ix (d_var 0) (d_ix ix_seq o_ix (d_var 1) d_int)) d_int)) (blkOk_by (own := [("_law_shift", 4)]) (N := ["_law_belts", "_law_deed", "_law_made", "_law_base", "_law_shift"]) (sc := defScope s__law_asked_at) (by decide +kernel)) (fun _ _ _ _ _ => (dg_name 4 sc__law_asked_at.nd)) (fun _ _ _ _ _ => dts_nil) (fun _ _ _ _ _ => (d_op op_sub o_sub (d_var 3) (d_var 4))))))) dss_nil) (dss_cons (ds_if (DT.w (dw_or (dt_cmp (op_eqA hr.units) o_eq (d_ix ix_seq o_ix (d_var 1) d_int) d_str) (dw_or1 (dt_cmp (op_eqA hr.units) o_eq (d_ix ix_seq o_ix (d_var 1) d_int) d_str)))) (dss_one (ds_ret (d_fz (dl_lst (da_cons (d_var 3) da_nil))))) dss_nil) (dss_cons (ds_if (dt_cmp (op_eqA hr.units) o_eq (d_ix ix_seq o_ix (d_var 1) d_int) d_str) (dss_one (ds_ret (d_fz (dl_lst (da_cons (d_op op_sub o_sub (d_var 3) d_int) da_nil))))) dss_nil) (dss_one (ds_ret (d_fz (dl_lst da_nil))))))))
abbrev s__law_worth_made : Stmt := top 58
theorem sc__law_worth_made : FnScope ["_law_belts", "_law_charts", "_law_deed", "_law_made", "_law_base"] ["_law_belts", "_law_charts", "_law_deed", "_law_made"] (defScope s__law_worth_made) := ⟨rfl, rfl, rfl, by decide +kernel, rfl, by decide +kernel, by decide +kernel⟩
theorem fn__law_worth_made (T : Txt K mg w) {f : Addr} {fd : FuncData} (hm : mg "_law_worth_made" = some (.ref f)) (F : Fun K "_law_worth_made" "_law_worth_made" s__law_worth_made f fd) (G__law_holds : FnD P w K mg base 1 "_law_holds" s__law_holds ["_law_chart", "_law_when"] m_law_holds) (G__law_searched : FnD P w K mg base 2 "_law_searched" s__law_searched ["_law_belt", "_law_chart", "_law_hour", "_law_double", "_law_none"] m_law_searched) : FnD P w K mg base 3 "_law_worth_made" s__law_worth_made ["_law_belts", "_law_charts", "_law_deed", "_law_made"] m_law_worth_made := by
  refine fnd_mk (np := 4) (nN := 5) (k := 2) hm F (F.binds fun _ _ _ _ _ _ us hl => match us, hl with | [_, _, _, _], _ => rfl) sc__law_worth_made rfl rfl fun cdv A outer s H E hr => ?_
  have tk : Takes (cxOf (L2.CX P w) P w K mg base ["_law_belts", "_law_charts", "_law_deed", "_law_made", "_law_base"] "_law_worth_made" (defScope s__law_worth_made) f cdv A outer s H E) (fun cls d _ H => E cls d H) := takes_of rfl rfl rfl rfl
  exact (dss_cons (ds_set 4 sc__law_worth_made.nd (d_ix ix_seq o_ix (d_var 3) (d_ix ix_seq o_ix (d_var 2) d_int))) (dss_cons (ds_if (dt_cmp (op_eqA hr.units) o_eq (d_ix ix_seq o_ix (d_var 2) d_int) d_str) (dss_one (ds_ret (d_call G__law_searched hr tk (da_cons (d_ix ix_seq o_ix (d_var 0) (d_ix ix_seq o_ix (d_var 2) d_int)) (da_cons (d_ix ix_seq o_ix (d_var 1) (d_ix ix_seq o_ix (d_var 2) d_int)) (da_cons (d_var 4) (da_cons (d_ix ix_seq o_ix (d_var 2) d_int) (da_cons (d_ix ix_seq o_ix (d_var 2) d_int) da_nil)))))))) dss_nil) (dss_cons (ds_if (dt_cmp (op_eqA hr.units) o_eq (d_ix ix_seq o_ix (d_var 2) d_int) d_str) (dss_one (ds_ret (d_op op_addD o_add (d_var 4) (d_call G__law_holds hr tk (da_cons (d_ix ix_seq o_ix (d_var 1) (d_ix ix_seq o_ix (d_var 2) d_int)) (da_cons (d_var 4) da_nil)))))) dss_nil) (dss_cons (ds_if (dt_cmp (op_eqA hr.units) o_eq (d_ix ix_seq o_ix (d_var 2) d_int) d_str) (dss_one (ds_ret (d_call G__law_holds hr tk (da_cons (d_ix ix_seq o_ix (d_var 1) (d_ix ix_seq o_ix (d_var 2) d_int)) (da_cons (d_var 4) da_nil))))) dss_nil) (dss_cons (ds_if (dt_cmp (op_eqA hr.units) o_eq (d_ix ix_seq o_ix (d_var 2) d_int) d_str) (dss_one (ds_ret (d_op op_addD o_add (d_var 4) (d_ix ix_seq o_ix (d_var 3) (d_ix ix_seq o_ix (d_var 2) d_int))))) dss_nil) (dss_cons (ds_if (dt_cmp (op_eqA hr.units) o_eq (d_ix ix_seq o_ix (d_var 2) d_int) d_str) (dss_one (ds_ret (d_op op_sub o_sub (d_var 4) (d_ix ix_seq o_ix (d_var 3) (d_ix ix_seq o_ix (d_var 2) d_int))))) dss_nil) (dss_cons (ds_if (dt_cmp (op_eqA hr.units) o_eq (d_ix ix_seq o_ix (d_var 2) d_int) d_str) (dss_one (ds_ret (d_op op_addD o_add (d_var 4) (d_ix ix_seq o_ix (d_var 2) d_int)))) dss_nil) (dss_one (ds_ret (d_var 4))))))))))
abbrev s__law_agree : Stmt := top 59
theorem sc__law_agree : FnScope ["_law_chart", "_law_newer", "_law_now", "_law_edges", "_law_at", "_law_shift"] ["_law_chart", "_law_newer", "_law_now"] (defScope s__law_agree) := ⟨rfl, rfl, rfl, by decide +kernel, rfl, by decide +kernel, by decide +kernel⟩
theorem fn__law_agree (T : Txt K mg w) {f : Addr} {fd : FuncData} (hm : mg "_law_agree" = some (.ref f)) (F : Fun K "_law_agree" "_law_agree" s__law_agree f fd) (G__law_holds : FnD P w K mg base 1 "_law_holds" s__law_holds ["_law_chart", "_law_when"] m_law_holds) : FnD P w K mg base 2 "_law_agree" s__law_agree ["_law_chart", "_law_newer", "_law_now"] m_law_agree := by
  refine fnd_mk (np := 3) (nN := 6) (k := 1) hm F (F.binds fun _ _ _ _ _ _ us hl => match us, hl with | [_, _, _], _ => rfl) sc__law_agree rfl rfl fun cdv A outer s H E hr => ?_
  have tk : Takes (cxOf (L2.CX P w) P w K mg base ["_law_chart", "_law_newer", "_law_now", "_law_edges", "_law_at", "_law_shift"] "_law_agree" (defScope s__law_agree) f cdv A outer s H E) (fun cls d _ H => E cls d H) := takes_of rfl rfl rfl rfl
  exact (dss_cons (ds_setLc (mw := mNew) 3 (own := [("_law_at", 4), ("_law_shift", 5)]) (rd_new) rfl sc__law_agree.nd (di_seq (d_op op_addD o_add (d_ix ix_seq o_ix (d_var 0) d_int) (d_ix ix_seq o_ix (d_var 1) d_int))) (blkOk_by (own := [("_law_at", 4), ("_law_shift", 5)]) (N := ["_law_chart", "_law_newer", "_law_now", "_law_edges", "_law_at", "_law_shift"]) (sc := defScope s__law_agree) (by decide +kernel)) (fun _ _ _ _ _ => (dg_any rfl (dgs_cons (dg_name 4 sc__law_agree.nd) (dgs_cons (dg_name 5 sc__law_agree.nd) dgs_nil)))) (fun _ _ _ _ _ => (dts_one (dt_cmp op_lt o_lt (d_var 4) (d_var 2)))) (fun _ _ _ _ _ => (d_var 4))) (dss_cons (ds_app (d_var 3) (d_op op_sub o_sub (d_callB (cr_min rfl) c_min1 T.n_min (da_cons (d_fz (dl_catC (d_var 3) (dl_lst (da_cons (d_var 2) da_nil)))) da_nil)) d_int) (fun a b => ps_expr (pe_bm PySem.F.plainAttrs_list PySem.F.slot_list_append PySem.F.type_list_append mt_append a (pa_cons b pa_nil)))) (dss_one (ds_ret (d_cmp (op_eqA hr.units) o_eq (d_fz (dl_lcA (own := [("_law_at", 4)]) rfl sc__law_agree.nd (d_var 3) (blkOk_by (own := [("_law_at", 4)]) (N := ["_law_chart", "_law_newer", "_law_now", "_law_edges", "_law_at", "_law_shift"]) (sc := defScope s__law_agree) (by decide +kernel)) (fun _ _ _ _ _ => (dg_name 4 sc__law_agree.nd)) (fun _ _ _ _ _ => (dts_one (dt_cmp (op_neA hr.units) o_ne (d_call G__law_holds hr takes0 (da_cons (d_var 0) (da_cons (d_var 4) da_nil))) (d_call G__law_holds hr takes0 (da_cons (d_var 1) (da_cons (d_var 4) da_nil)))))) (fun _ _ _ _ _ => (d_var 4)))) (d_fz (dl_lst da_nil)))))))
abbrev s__law_follow : Stmt := top 60
theorem sc__law_follow : FnScope ["_law_belts", "_law_plan", "_law_earth", "_law_origin", "_law_charts", "_law_edged", "_law_made", "_law_looked", "_law_k", "_law_deed", "_law_when", "_law_side", "_law_mark", "_law_worth"] ["_law_belts", "_law_plan", "_law_earth", "_law_origin"] (defScope s__law_follow) := ⟨rfl, rfl, rfl, by decide +kernel, rfl, by decide +kernel, by decide +kernel⟩
theorem fn__law_follow (T : Txt K mg w) {f : Addr} {fd : FuncData} (hm : mg "_law_follow" = some (.ref f)) (F : Fun K "_law_follow" "_law_follow" s__law_follow f fd) (G__law_worth_made : FnD P w K mg base 3 "_law_worth_made" s__law_worth_made ["_law_belts", "_law_charts", "_law_deed", "_law_made"] m_law_worth_made) (G__law_agree : FnD P w K mg base 2 "_law_agree" s__law_agree ["_law_chart", "_law_newer", "_law_now"] m_law_agree) (G__law_holds : FnD P w K mg base 1 "_law_holds" s__law_holds ["_law_chart", "_law_when"] m_law_holds) (G__law_asked_at : FnD P w K mg base 1 "_law_asked_at" s__law_asked_at ["_law_belts", "_law_deed", "_law_made"] m_law_asked_at) : FnD P w K mg base 4 "_law_follow" s__law_follow ["_law_belts", "_law_plan", "_law_earth", "_law_origin"] m_law_follow := by
  refine fnd_mk (np := 4) (nN := 14) (k := 3) hm F (F.binds fun _ _ _ _ _ _ us hl => match us, hl with | [_, _, _, _], _ => rfl) sc__law_follow rfl rfl fun cdv A outer s H E hr => ?_
  have tk : Takes (cxOf (L2.CX P w) P w K mg base ["_law_belts", "_law_plan", "_law_earth", "_law_origin", "_law_charts", "_law_edged", "_law_made", "_law_looked", "_law_k", "_law_deed", "_law_when", "_law_side", "_law_mark", "_law_worth"] "_law_follow" (defScope s__law_follow) f cdv A outer s H E) (fun cls d _ H => E cls d H) := takes_of rfl rfl rfl rfl
  exact (dss_cons (ds_asg (d_tup (da_cons (d_new (dl_callTy call_list_of c_list T.n_list (da_cons (d_ix ix_seq o_ix (d_var 2) d_int) da_nil))) (da_cons d_dnew (da_cons (d_new (dl_lst (da_cons (d_var 3) da_nil))) (da_cons (d_new (dl_lst da_nil)) da_nil))))) (dg_any rfl (dgs_cons (dg_name 4 sc__law_follow.nd) (dgs_cons (dg_name 5 sc__law_follow.nd) (dgs_cons (dg_name 6 sc__law_follow.nd) (dgs_cons (dg_name 7 sc__law_follow.nd) dgs_nil)))))) (dss_cons (ds_for (passes_of rfl) rfl (di_range1 (da_cons (d_callB call_len c_len T.n_len (da_cons (d_var 1) da_nil)) da_nil) T.n_range) (dg_name 8 sc__law_follow.nd) (dss_cons (ds_set 9 sc__law_follow.nd (d_ix ix_seq o_ix (d_var 1) (d_var 8))) (dss_cons (ds_forA (passes_of rfl) rfl (d_call G__law_asked_at hr tk (da_cons (d_var 0) (da_cons (d_var 9) (da_cons (d_var 6) da_nil)))) (dg_name 10 sc__law_follow.nd) (dss_cons (ds_set 11 sc__law_follow.nd (d_callTy call_int1 c_int1 T.n_int (da_cons (d_and (d_cmp (op_din hr.units) o_din (d_ix ix_seq o_ix (d_var 9) d_int) (d_var 5) (by rfl)) (d_one (d_cmp op_ge o_ge (d_var 10) (d_dix hr.units (d_var 5) (d_ix ix_seq o_ix (d_var 9) d_int))))) da_nil))) (dss_cons (ds_set 12 sc__law_follow.nd (d_tup (da_cons (d_ix ix_seq o_ix (d_var 9) d_int) (da_cons (d_var 11) (da_cons (d_op op_sub o_sub (d_var 10) (d_var 3)) (da_cons (d_call G__law_holds hr tk (da_cons (d_ix ix_seq o_ix (d_var 4) (d_ix ix_seq o_ix (d_var 9) d_int)) (da_cons (d_var 10) da_nil))) da_nil)))))) (dss_one (ds_if (dt_cmp (op_notIn2 hr.u66) o_in2 (d_var 12) (d_var 7) (by rfl)) (dss_one (ds_app (d_var 7) (d_var 12) (fun a b => ps_expr (pe_bm PySem.F.plainAttrs_list PySem.F.slot_list_append PySem.F.type_list_append mt_append a (pa_cons b pa_nil))))) dss_nil))))) (dss_cons (ds_if (dt_cmp (op_eqA hr.units) o_eq (d_ix ix_seq o_ix (d_var 9) d_int) d_str) (dss_cons (ds_if (dt_not (dt_val (d_call G__law_agree hr tk (da_cons (d_ix ix_seq o_ix (d_var 4) (d_ix ix_seq o_ix (d_var 9) d_int)) (da_cons (d_ix ix_seq o_ix (d_ix ix_seq o_ix (d_var 2) d_int) (d_ix ix_seq o_ix (d_var 9) d_int)) (da_cons (d_ix ix_seq o_ix (d_var 6) (d_ix ix_seq o_ix (d_var 9) d_int)) da_nil)))))) (dss_one (ds_ret d_non)) dss_nil) (dss_cons (ds_setDx hr.units (d_ix ix_seq o_ix (d_var 6) (d_ix ix_seq o_ix (d_var 9) d_int)) (d_var 5) (d_ix ix_seq o_ix (d_var 9) d_int)) (dss_one (ds_setIx (d_ix ix_seq o_ix (d_ix ix_seq o_ix (d_var 2) d_int) (d_ix ix_seq o_ix (d_var 9) d_int)) (d_var 4) (d_ix ix_seq o_ix (d_var 9) d_int))))) dss_nil) (dss_cons (ds_set 13 sc__law_follow.nd (d_call G__law_worth_made hr tk (da_cons (d_var 0) (da_cons (d_var 4) (da_cons (d_var 9) (da_cons (d_var 6) da_nil)))))) (dss_cons (ds_if (dt_cmp op_isN o_isN (d_var 13) d_non) (dss_one (ds_ret (d_tup (da_cons (d_var 7) (da_cons (d_var 6) (da_cons (d_var 8) da_nil)))))) dss_nil) (dss_one (ds_app (d_var 6) (d_var 13) (fun a b => ps_expr (pe_bm PySem.F.plainAttrs_list PySem.F.slot_list_append PySem.F.type_list_append mt_append a (pa_cons b pa_nil))))))))))) (dss_one (ds_ret (d_tup (da_cons (d_var 7) (da_cons (d_var 6) (da_cons d_non da_nil))))))))
abbrev s__law_any_chart : Stmt := top 61
theorem sc__law_any_chart : FnScope ["_law_bag", "_law_belt", "_law_around", "_law_shifts", "_law_apart", "_law_held", "_law_begun", "_law_wide", "_law_when", "_law_jumps", "_law_k", "_law_rest", "_law_shift"] ["_law_bag", "_law_belt", "_law_around"] (defScope s__law_any_chart) := ⟨rfl, rfl, rfl, by decide +kernel, rfl, by decide +kernel, by decide +kernel⟩
theorem fn__law_any_chart (T : Txt K mg w) {f : Addr} {fd : FuncData} (hm : mg "_law_any_chart" = some (.ref f)) (F : Fun K "_law_any_chart" "_law_any_chart" s__law_any_chart f fd) (G__law_pick : FnD P w K mg base 1 "_law_pick" s__law_pick ["_law_bag", "_law_many"] m_law_pick) : FnD P w K mg base 2 "_law_any_chart" s__law_any_chart ["_law_bag", "_law_belt", "_law_around"] m_law_any_chart := by
  refine fnd_mk (np := 3) (nN := 13) (k := 1) hm F (F.binds fun _ _ _ _ _ _ us hl => match us, hl with | [_, _, _], _ => rfl) sc__law_any_chart rfl rfl fun cdv A outer s H E hr => ?_
  have tk : Takes (cxOf (L2.CX P w) P w K mg base ["_law_bag", "_law_belt", "_law_around", "_law_shifts", "_law_apart", "_law_held", "_law_begun", "_law_wide", "_law_when", "_law_jumps", "_law_k", "_law_rest", "_law_shift"] "_law_any_chart" (defScope s__law_any_chart) f cdv A outer s H E) (fun cls d _ H => E cls d H) := takes_of rfl rfl rfl rfl
  exact (dss_cons (ds_asg (d_var 1) (dg_any rfl (dgs_cons (dg_name 3 sc__law_any_chart.nd) (dgs_cons (dg_name 4 sc__law_any_chart.nd) dgs_nil)))) (dss_cons (ds_set 5 sc__law_any_chart.nd (d_ix ix_seq o_ix (d_var 3) (d_call G__law_pick hr tk (da_cons (d_var 0) (da_cons (d_callB call_len c_len T.n_len (da_cons (d_var 3) da_nil)) da_nil))))) (dss_cons (ds_set 6 sc__law_any_chart.nd (d_var 5)) (dss_cons (ds_set 7 sc__law_any_chart.nd (d_ix ix_seq o_ix (d_fz (dl_lst (da_cons d_int (da_cons d_int (da_cons (d_op op_sub o_sub (d_op op_addD o_add d_int (d_ix ix_seq o_ix (d_var 3) (d_fold (d := .int (-1)) (d_un un_neg o_neg d_int) (fun _ _ => rfl)))) (d_ix ix_seq o_ix (d_var 3) d_int)) (da_cons d_int (da_cons (d_op op_mulW o_mul d_int (d_var 4)) (da_cons d_int da_nil)))))))) (d_call G__law_pick hr tk (da_cons (d_var 0) (da_cons d_int da_nil))))) (dss_cons (ds_set 8 sc__law_any_chart.nd (d_op op_sub o_sub (d_op op_sub o_sub (d_op op_addD o_add (d_var 2) (d_call G__law_pick hr tk (da_cons (d_var 0) (da_cons (d_op op_addD o_add (d_op op_mulW o_mul d_int (d_var 7)) d_int) da_nil)))) (d_var 7)) (d_op op_mulW o_mul (d_var 4) (d_call G__law_pick hr tk (da_cons (d_var 0) (da_cons d_int da_nil)))))) (dss_cons (ds_set 9 sc__law_any_chart.nd (d_new (dl_lst da_nil))) (dss_cons (ds_for (passes_of rfl) rfl (di_range1 (da_cons (d_op op_mulW o_mul (d_ix ix_seq o_ix (d_fz (dl_lst (da_cons d_int (da_cons d_int (da_cons d_int (da_cons d_int (da_cons d_int (da_cons d_int (da_cons d_int (da_cons d_int da_nil)))))))))) (d_call G__law_pick hr tk (da_cons (d_var 0) (da_cons d_int da_nil)))) (d_callTy call_int1 c_int1 T.n_int (da_cons (d_cmp op_gt o_gt (d_callB call_len c_len T.n_len (da_cons (d_var 3) da_nil)) d_int) da_nil))) da_nil) T.n_range) (dg_name 10 sc__law_any_chart.nd) (dss_cons (ds_setLcA (mw := mFz) 11 (own := [("_law_shift", 12)]) (rd_fz) rfl sc__law_any_chart.nd (d_var 3) (blkOk_by (own := [("_law_shift", 12)]) (N := ["_law_bag", "_law_belt", "_law_around", "_law_shifts", "_law_apart", "_law_held", "_law_begun", "_law_wide", "_law_when", "_law_jumps", "_law_k", "_law_rest", "_law_shift"]) (sc := defScope s__law_any_chart) (by decide +kernel)) (fun _ _ _ _ _ => (dg_name 12 sc__law_any_chart.nd)) (fun _ _ _ _ _ => (dts_one (dt_cmp (op_neA hr.units) o_ne (d_var 12) (d_var 5)))) (fun _ _ _ _ _ => (d_var 12))) (dss_cons (ds_set 5 sc__law_any_chart.nd (d_ix ix_seq o_ix (d_var 11) (d_call G__law_pick hr tk (da_cons (d_var 0) (da_cons (d_callB call_len c_len T.n_len (da_cons (d_var 11) da_nil)) da_nil))))) (dss_cons (ds_app (d_var 9) (d_tup (da_cons (d_var 8) (da_cons (d_var 5) da_nil))) (fun a b => ps_expr (pe_bm PySem.F.plainAttrs_list PySem.F.slot_list_append PySem.F.type_list_append mt_append a (pa_cons b pa_nil)))) (dss_one (ds_set 8 sc__law_any_chart.nd (d_op op_addD o_add (d_op op_addD o_add (d_var 8) (d_var 4)) (d_ix ix_seq o_ix (d_fz (dl_lst (da_cons d_int (da_cons d_int (da_cons d_int (da_cons (d_call G__law_pick hr tk (da_cons (d_var 0) (da_cons d_int da_nil))) da_nil)))))) (d_call G__law_pick hr tk (da_cons (d_var 0) (da_cons d_int da_nil))))))))))) (dss_one (ds_ret (d_tup (da_cons (d_var 6) (da_cons (d_callTy call_tupF c_tuple T.n_tuple (da_cons (d_var 9) da_nil)) da_nil))))))))))))
abbrev s__law_any_later : Stmt := top 62
theorem sc__law_any_later : FnScope ["_law_bag", "_law_belt", "_law_chart", "_law_now", "_law_kept", "_law_held", "_law_when", "_law_k", "_law_rest", "_law_jump", "_law_shift"] ["_law_bag", "_law_belt", "_law_chart", "_law_now"] (defScope s__law_any_later) := ⟨rfl, rfl, rfl, by decide +kernel, rfl, by decide +kernel, by decide +kernel⟩
theorem fn__law_any_later (T : Txt K mg w) {f : Addr} {fd : FuncData} (hm : mg "_law_any_later" = some (.ref f)) (F : Fun K "_law_any_later" "_law_any_later" s__law_any_later f fd) (G__law_pick : FnD P w K mg base 1 "_law_pick" s__law_pick ["_law_bag", "_law_many"] m_law_pick) : FnD P w K mg base 2 "_law_any_later" s__law_any_later ["_law_bag", "_law_belt", "_law_chart", "_law_now"] m_law_any_later := by
  refine fnd_mk (np := 4) (nN := 11) (k := 1) hm F (F.binds fun _ _ _ _ _ _ us hl => match us, hl with | [_, _, _, _], _ => rfl) sc__law_any_later rfl rfl fun cdv A outer s H E hr => ?_
  have tk : Takes (cxOf (L2.CX P w) P w K mg base ["_law_bag", "_law_belt", "_law_chart", "_law_now", "_law_kept", "_law_held", "_law_when", "_law_k", "_law_rest", "_law_jump", "_law_shift"] "_law_any_later" (defScope s__law_any_later) f cdv A outer s H E) (fun cls d _ H => E cls d H) := takes_of rfl rfl rfl rfl
  exact (dss_cons (ds_setLcA (mw := mNew) 4 (own := [("_law_jump", 9)]) (rd_new) rfl sc__law_any_later.nd (d_ix ix_seq o_ix (d_var 2) d_int) (blkOk_by (own := [("_law_jump", 9)]) (N := ["_law_bag", "_law_belt", "_law_chart", "_law_now", "_law_kept", "_law_held", "_law_when", "_law_k", "_law_rest", "_law_jump", "_law_shift"]) (sc := defScope s__law_any_later) (by decide +kernel)) (fun _ _ _ _ _ => (dg_name 9 sc__law_any_later.nd)) (fun _ _ _ _ _ => (dts_one (dt_cmp op_lt o_lt (d_ix ix_seq o_ix (d_var 9) d_int) (d_var 3)))) (fun _ _ _ _ _ => (d_var 9))) (dss_cons (ds_asg (d_tup (da_cons (d_ix ix_seq o_ix (d_var 2) d_int) (da_cons (d_var 3) da_nil))) (dg_any rfl (dgs_cons (dg_name 5 sc__law_any_later.nd) (dgs_cons (dg_name 6 sc__law_any_later.nd) dgs_nil)))) (dss_cons (ds_if (dt_cmp (op_neA hr.units) o_ne (d_var 4) (d_fz (dl_lst da_nil))) (dss_one (ds_asg (d_tup (da_cons (d_ix ix_seq o_ix (d_ix ix_seq o_ix (d_var 4) (d_fold (d := .int (-1)) (d_un un_neg o_neg d_int) (fun _ _ => rfl))) d_int) (da_cons (d_callB (call_max2 rfl) c_II T.n_max (da_cons (d_var 3) (da_cons (d_op op_addD o_add (d_ix ix_seq o_ix (d_ix ix_seq o_ix (d_var 4) (d_fold (d := .int (-1)) (d_un un_neg o_neg d_int) (fun _ _ => rfl))) d_int) (d_ix ix_seq o_ix (d_var 1) d_int)) da_nil))) da_nil))) (dg_any rfl (dgs_cons (dg_name 5 sc__law_any_later.nd) (dgs_cons (dg_name 6 sc__law_any_later.nd) dgs_nil))))) dss_nil) (dss_cons (ds_set 6 sc__law_any_later.nd (d_op op_addD o_add (d_var 6) (d_ix ix_seq o_ix (d_fz (dl_lst (da_cons d_int (da_cons d_int (da_cons d_int (da_cons d_int (da_cons (d_call G__law_pick hr tk (da_cons (d_var 0) (da_cons d_int da_nil))) da_nil))))))) (d_call G__law_pick hr tk (da_cons (d_var 0) (da_cons d_int da_nil)))))) (dss_cons (ds_for (passes_of rfl) rfl (di_range1 (da_cons (d_op op_mulW o_mul (d_call G__law_pick hr tk (da_cons (d_var 0) (da_cons d_int da_nil))) (d_callTy call_int1 c_int1 T.n_int (da_cons (d_cmp op_gt o_gt (d_callB call_len c_len T.n_len (da_cons (d_ix ix_seq o_ix (d_var 1) d_int) da_nil)) d_int) da_nil))) da_nil) T.n_range) (dg_name 7 sc__law_any_later.nd) (dss_cons (ds_setLcA (mw := mFz) 8 (own := [("_law_shift", 10)]) (rd_fz) rfl sc__law_any_later.nd (d_ix ix_seq o_ix (d_var 1) d_int) (blkOk_by (own := [("_law_shift", 10)]) (N := ["_law_bag", "_law_belt", "_law_chart", "_law_now", "_law_kept", "_law_held", "_law_when", "_law_k", "_law_rest", "_law_jump", "_law_shift"]) (sc := defScope s__law_any_later) (by decide +kernel)) (fun _ _ _ _ _ => (dg_name 10 sc__law_any_later.nd)) (fun _ _ _ _ _ => (dts_one (dt_cmp (op_neA hr.units) o_ne (d_var 10) (d_var 5)))) (fun _ _ _ _ _ => (d_var 10))) (dss_cons (ds_set 5 sc__law_any_later.nd (d_ix ix_seq o_ix (d_var 8) (d_call G__law_pick hr tk (da_cons (d_var 0) (da_cons (d_callB call_len c_len T.n_len (da_cons (d_var 8) da_nil)) da_nil))))) (dss_cons (ds_app (d_var 4) (d_tup (da_cons (d_var 6) (da_cons (d_var 5) da_nil))) (fun a b => ps_expr (pe_bm PySem.F.plainAttrs_list PySem.F.slot_list_append PySem.F.type_list_append mt_append a (pa_cons b pa_nil)))) (dss_one (ds_set 6 sc__law_any_later.nd (d_op op_addD o_add (d_op op_addD o_add (d_var 6) (d_ix ix_seq o_ix (d_var 1) d_int)) (d_ix ix_seq o_ix (d_fz (dl_lst (da_cons d_int (da_cons d_int (da_cons d_int (da_cons (d_call G__law_pick hr tk (da_cons (d_var 0) (da_cons d_int da_nil))) da_nil)))))) (d_call G__law_pick hr tk (da_cons (d_var 0) (da_cons d_int da_nil))))))))))) (dss_one (ds_ret (d_tup (da_cons (d_ix ix_seq o_ix (d_var 2) d_int) (da_cons (d_callTy call_tupF c_tuple T.n_tuple (da_cons (d_var 4) da_nil)) da_nil))))))))))
abbrev s__law_any_origin : Stmt := top 63
theorem sc__law_any_origin : FnScope ["_law_bag", "_law_far"] ["_law_bag"] (defScope s__law_any_origin) := ⟨rfl, rfl, rfl, by decide +kernel, rfl, by decide +kernel, by decide +kernel⟩
theorem fn__law_any_origin (T : Txt K mg w) {f : Addr} {fd : FuncData} (hm : mg "_law_any_origin" = some (.ref f)) (F : Fun K "_law_any_origin" "_law_any_origin" s__law_any_origin f fd) (G__law_pick : FnD P w K mg base 1 "_law_pick" s__law_pick ["_law_bag", "_law_many"] m_law_pick) : FnD P w K mg base 2 "_law_any_origin" s__law_any_origin ["_law_bag"] m_law_any_origin := by
  refine fnd_mk (np := 1) (nN := 2) (k := 1) hm F (F.binds fun _ _ _ _ _ _ us hl => match us, hl with | [_], _ => rfl) sc__law_any_origin rfl rfl fun cdv A outer s H E hr => ?_
  have tk : Takes (cxOf (L2.CX P w) P w K mg base ["_law_bag", "_law_far"] "_law_any_origin" (defScope s__law_any_origin) f cdv A outer s H E) (fun cls d _ H => E cls d H) := takes_of rfl rfl rfl rfl
  exact (dss_cons (ds_set 1 sc__law_any_origin.nd (d_op op_sub o_sub (d_call G__law_pick hr tk (da_cons (d_var 0) (da_cons d_int da_nil))) d_int)) (dss_one (ds_ret (d_ix ix_seq o_ix (d_fz (dl_lst (da_cons d_int (da_cons (d_var 1) (da_cons (d_op op_sub o_sub (d_call G__law_pick hr tk (da_cons (d_var 0) (da_cons d_int da_nil))) d_int) (da_cons (d_var 1) da_nil)))))) (d_call G__law_pick hr tk (da_cons (d_var 0) (da_cons d_int da_nil)))))))
abbrev s__law_any_earth : Stmt := top 64
theorem sc__law_any_earth : FnScope ["_law_bag", "_law_belts", "_law_plan", "_law_origin", "_law_near", "_law_charts", "_law_newer", "_law_at", "_law_deed", "_law_made", "_law_belt", "_law_k"] ["_law_bag", "_law_belts", "_law_plan", "_law_origin", "_law_near"] (defScope s__law_any_earth) := ⟨rfl, rfl, rfl, by decide +kernel, rfl, by decide +kernel, by decide +kernel⟩
theorem fn__law_any_earth (T : Txt K mg w) {f : Addr} {fd : FuncData} (hm : mg "_law_any_earth" = some (.ref f)) (F : Fun K "_law_any_earth" "_law_any_earth" s__law_any_earth f fd) (G__law_any_later : FnD P w K mg base 2 "_law_any_later" s__law_any_later ["_law_bag", "_law_belt", "_law_chart", "_law_now"] m_law_any_later) (G__law_follow : FnD P w K mg base 4 "_law_follow" s__law_follow ["_law_belts", "_law_plan", "_law_earth", "_law_origin"] m_law_follow) (G__law_any_chart : FnD P w K mg base 2 "_law_any_chart" s__law_any_chart ["_law_bag", "_law_belt", "_law_around"] m_law_any_chart) : FnD P w K mg base 5 "_law_any_earth" s__law_any_earth ["_law_bag", "_law_belts", "_law_plan", "_law_origin", "_law_near"] m_law_any_earth := by
  refine fnd_mk (np := 5) (nN := 12) (k := 4) hm F (F.binds fun _ _ _ _ _ _ us hl => match us, hl with | [_, _, _, _, _], _ => rfl) sc__law_any_earth rfl rfl fun cdv A outer s H E hr => ?_
  have tk : Takes (cxOf (L2.CX P w) P w K mg base ["_law_bag", "_law_belts", "_law_plan", "_law_origin", "_law_near", "_law_charts", "_law_newer", "_law_at", "_law_deed", "_law_made", "_law_belt", "_law_k"] "_law_any_earth" (defScope s__law_any_earth) f cdv A outer s H E) (fun cls d _ H => E cls d H) := takes_of rfl rfl rfl rfl
  exact (dss_cons (ds_setLcA (mw := mFz) 5 (own := [("_law_belt", 10)]) (rd_fz) rfl sc__law_any_earth.nd (d_var 1) (blkOk_by (own := [("_law_belt", 10)]) (N := ["_law_bag", "_law_belts", "_law_plan", "_law_origin", "_law_near", "_law_charts", "_law_newer", "_law_at", "_law_deed", "_law_made", "_law_belt", "_law_k"]) (sc := defScope s__law_any_earth) (by decide +kernel)) (fun _ _ _ _ _ => (dg_name 10 sc__law_any_earth.nd)) (fun _ _ _ _ _ => dts_nil) (fun _ _ _ _ _ => (d_call G__law_any_chart hr takes0 (da_cons (d_var 0) (da_cons (d_var 10) (da_cons (d_var 3) da_nil)))))) (dss_cons (ds_setLcA (mw := mNew) 6 (own := [("_law_belt", 10)]) (rd_new) rfl sc__law_any_earth.nd (d_var 1) (blkOk_by (own := [("_law_belt", 10)]) (N := ["_law_bag", "_law_belts", "_law_plan", "_law_origin", "_law_near", "_law_charts", "_law_newer", "_law_at", "_law_deed", "_law_made", "_law_belt", "_law_k"]) (sc := defScope s__law_any_earth) (by decide +kernel)) (fun _ _ _ _ _ => (dg_name 10 sc__law_any_earth.nd)) (fun _ _ _ _ _ => dts_nil) (fun _ _ _ _ _ => (d_call G__law_any_chart hr takes0 (da_cons (d_var 0) (da_cons (d_var 10) (da_cons (d_var 3) da_nil)))))) (dss_cons (ds_setLc (mw := mFz) 7 (own := [("_law_k", 11)]) (rd_fz) rfl sc__law_any_earth.nd (di_range1 (da_cons (d_callB call_len c_len T.n_len (da_cons (d_var 2) da_nil)) da_nil) T.n_range) (blkOk_by (own := [("_law_k", 11)]) (N := ["_law_bag", "_law_belts", "_law_plan", "_law_origin", "_law_near", "_law_charts", "_law_newer", "_law_at", "_law_deed", "_law_made", "_law_belt", "_law_k"]) (sc := defScope s__law_any_earth) (by decide +kernel)) (fun _ _ _ _ _ => (dg_name 11 sc__law_any_earth.nd)) (fun _ _ _ _ _ => (dts_one (dt_cmp (op_eqA hr.units) o_eq (d_ix ix_seq o_ix (d_ix ix_seq o_ix (d_var 2) (d_var 11)) d_int) d_str))) (fun _ _ _ _ _ => (d_var 11))) (dss_cons (ds_if (dt_cmp (op_neA hr.units) o_ne (d_var 7) (d_fz (dl_lst da_nil))) (dss_cons (ds_set 8 sc__law_any_earth.nd (d_ix ix_seq o_ix (d_var 2) (d_ix ix_seq o_ix (d_var 7) d_int))) (dss_cons (ds_set 9 sc__law_any_earth.nd (d_ix ix_seq o_ix (d_call G__law_follow hr tk (da_cons (d_var 1) (da_cons (d_slT (d_var 2) do_none (do_some (d_ix ix_seq o_ix (d_var 7) d_int))) (da_cons (d_tup (da_cons (d_var 5) (da_cons (d_var 5) da_nil))) (da_cons (d_var 3) da_nil))))) d_int)) (dss_one (ds_if (dt_cmp op_lt o_lt (d_ix ix_seq o_ix (d_var 8) d_int) (d_callB call_len c_len T.n_len (da_cons (d_var 9) da_nil))) (dss_one (ds_setIx (d_call G__law_any_later hr tk (da_cons (d_var 0) (da_cons (d_ix ix_seq o_ix (d_var 1) (d_ix ix_seq o_ix (d_var 8) d_int)) (da_cons (d_ix ix_seq o_ix (d_var 5) (d_ix ix_seq o_ix (d_var 8) d_int)) (da_cons (d_op op_addD o_add (d_ix ix_seq o_ix (d_var 9) (d_ix ix_seq o_ix (d_var 8) d_int)) (d_var 4)) da_nil))))) (d_var 6) (d_ix ix_seq o_ix (d_var 8) d_int))) dss_nil)))) dss_nil) (dss_one (ds_ret (d_tup (da_cons (d_callTy call_tupF c_tuple T.n_tuple (da_cons (d_var 5) da_nil)) (da_cons (d_callTy call_tupF c_tuple T.n_tuple (da_cons (d_var 6) da_nil)) da_nil)))))))))
abbrev s__law_ran : Stmt := top 65
theorem sc__law_ran : FnScope ["_law_belts", "_law_plan", "_law_earth", "_law_origin", "_law_way", "_law_told", "e"] ["_law_belts", "_law_plan", "_law_earth", "_law_origin"] (defScope s__law_ran) := ⟨rfl, rfl, rfl, by decide +kernel, rfl, by decide +kernel, by decide +kernel⟩
theorem fn__law_ran (T : Txt K mg w) {f : Addr} {fd : FuncData} (hm : mg "_law_ran" = some (.ref f)) (F : Fun K "_law_ran" "_law_ran" s__law_ran f fd) (G_run : FnDD P w K mg base 7 "run" s_run [(V.int 0)] [] ["zones", "program", "world", "start"] m_run) : FnD P w K mg base 8 "_law_ran" s__law_ran ["_law_belts", "_law_plan", "_law_earth", "_law_origin"] m_law_ran := by
  refine fnd_mk (np := 4) (nN := 7) (k := 7) hm F (F.binds fun _ _ _ _ _ _ us hl => match us, hl with | [_, _, _, _], _ => rfl) sc__law_ran rfl rfl fun cdv A outer s H E hr => ?_
  have tk : Takes (cxOf (L2.CX P w) P w K mg base ["_law_belts", "_law_plan", "_law_earth", "_law_origin", "_law_way", "_law_told", "e"] "_law_ran" (defScope s__law_ran) f cdv A outer s H E) (fun cls d _ H => E cls d H) := takes_of rfl rfl rfl rfl
  exact (dss_cons (ds_asg (d_tup (da_cons d_str (da_cons d_non da_nil))) (dg_any rfl (dgs_cons (dg_name 4 sc__law_ran.nd) (dgs_cons (dg_name 5 sc__law_ran.nd) dgs_nil)))) (dss_cons (ds_try (cs := ["InvalidNumber", "InvalidProgram", "InvalidWorld", "InvalidZone", "InvalidZones", "Refused", "Unsuited"]) sc__law_ran.nd tk (fun _ _ _ tk => (dss_one (ds_set 5 sc__law_ran.nd (d_callD1 (n := 4) G_run [0, 1, 2, 3] (by exact kwb_pos (List.cons_ne_nil _ _) (fun _ _ _ _ _ _ _ us ws its h1 h2 h3 => match us, ws, its, h1, h2, h3 with | [_, _, _, _], [], [_], _, _, _ => ⟨_, (by rfl), (by rfl)⟩)) (.cons (.int _) .nil) hr tk (da_cons (d_var 0) (da_cons (d_var 1) (da_cons (d_var 2) (da_cons (d_var 3) da_nil)))))))) (hds_as 6 T.t_Refused_IrImIdIeIsRdUd77 T.p__IrImIdIeIsRdUd77 (fun _ _ tk => (dss_cons (ds_set 4 sc__law_ran.nd d_str) (dss_one (ds_set 5 sc__law_ran.nd (d_xf T.f_Refused_step (d_var 6)))))) (hds_one T.t_Unsuited_IrImIdIeIsRdUd77 (fun _ _ tk => (dss_one (ds_set 4 sc__law_ran.nd d_str))) HdsD.nil))) (dss_one (ds_ret (d_tup (da_cons (d_var 4) (da_cons (d_var 5) da_nil)))))))
abbrev s__law_road : Stmt := top 66
theorem sc__law_road : FnScope ["_law_bag", "_law_belts", "_law_way", "_law_plan", "_law_row", "_law_site", "_law_spot_here", "_law_tail", "_law_ahead", "_law_deed"] ["_law_bag", "_law_belts", "_law_way"] (defScope s__law_road) := ⟨rfl, rfl, rfl, by decide +kernel, rfl, by decide +kernel, by decide +kernel⟩
theorem fn__law_road (T : Txt K mg w) {f : Addr} {fd : FuncData} (hm : mg "_law_road" = some (.ref f)) (F : Fun K "_law_road" "_law_road" s__law_road f fd) (G__law_pick : FnD P w K mg base 1 "_law_pick" s__law_pick ["_law_bag", "_law_many"] m_law_pick) (G__law_any_rules : FnD P w K mg base 2 "_law_any_rules" s__law_any_rules ["_law_bag"] m_law_any_rules) (G__law_minutes : FnD P w K mg base 2 "_law_minutes" s__law_minutes ["_law_bag", "_law_belts", "_law_tiny"] m_law_minutes) (G__law_spot : FnD P w K mg base 2 "_law_spot" s__law_spot ["_law_bag", "_law_made", "_law_kind"] m_law_spot) (G__law_kind_row : FnD P w K mg base 2 "_law_kind_row" s__law_kind_row ["_law_plan"] m_law_kind_row) (G__law_longer_plan : FnD P w K mg base 4 "_law_longer_plan" s__law_longer_plan ["_law_bag", "_law_belts", "_law_plan", "_law_steps", "_law_room"] m_law_longer_plan) : FnD P w K mg base 5 "_law_road" s__law_road ["_law_bag", "_law_belts", "_law_way"] m_law_road := by
  refine fnd_mk (np := 3) (nN := 10) (k := 4) hm F (F.binds fun _ _ _ _ _ _ us hl => match us, hl with | [_, _, _], _ => rfl) sc__law_road rfl rfl fun cdv A outer s H E hr => ?_
  have tk : Takes (cxOf (L2.CX P w) P w K mg base ["_law_bag", "_law_belts", "_law_way", "_law_plan", "_law_row", "_law_site", "_law_spot_here", "_law_tail", "_law_ahead", "_law_deed"] "_law_road" (defScope s__law_road) f cdv A outer s H E) (fun cls d _ H => E cls d H) := takes_of rfl rfl rfl rfl
  exact (dss_cons (ds_set 3 sc__law_road.nd (d_call G__law_longer_plan hr tk (da_cons (d_var 0) (da_cons (d_var 1) (da_cons (d_tup da_nil) (da_cons (d_call G__law_pick hr tk (da_cons (d_var 0) (da_cons d_int da_nil))) (da_cons (d_fz (dl_lst (da_cons d_int (da_cons d_int (da_cons d_int (da_cons d_int da_nil)))))) da_nil))))))) (dss_cons (ds_set 4 sc__law_road.nd (d_call G__law_kind_row hr tk (da_cons (d_var 3) da_nil))) (dss_cons (ds_set 5 sc__law_road.nd (d_call G__law_pick hr tk (da_cons (d_var 0) (da_cons (d_callB call_len c_len T.n_len (da_cons (d_var 1) da_nil)) da_nil)))) (dss_cons (ds_set 6 sc__law_road.nd (d_call G__law_spot hr tk (da_cons (d_var 0) (da_cons (d_var 4) (da_cons d_str da_nil))))) (dss_cons (ds_if (dt_cmp (op_eqA hr.units) o_eq (d_var 2) d_int) (dss_cons (ds_set 7 sc__law_road.nd (d_tup (da_cons (d_tup (da_cons d_str (da_cons (d_var 6) (da_cons (d_var 5) da_nil)))) (da_cons (d_op op_addD o_add (d_tup (da_cons d_str (da_cons (d_callB call_len c_len T.n_len (da_cons (d_var 4) da_nil)) (da_cons (d_var 5) da_nil)))) (d_call G__law_any_rules hr tk (da_cons (d_var 0) da_nil))) da_nil)))) (dss_one (ds_ret (d_tup (da_cons (d_op op_addD o_add (d_var 3) (d_var 7)) (da_cons (d_var 5) (da_cons (d_var 6) da_nil))))))) dss_nil) (dss_cons (ds_if (dt_cmp (op_eqA hr.units) o_eq (d_var 2) d_int) (dss_cons (ds_if (dt_cmp op_notIn_seq o_in d_str (d_var 4) (by rfl)) (dss_cons (ds_set 3 sc__law_road.nd (d_op op_addD o_add (d_var 3) (d_tup (da_cons (d_tup (da_cons d_str (da_cons (d_var 6) (da_cons (d_call G__law_pick hr tk (da_cons (d_var 0) (da_cons (d_callB call_len c_len T.n_len (da_cons (d_var 1) da_nil)) da_nil))) da_nil)))) da_nil)))) (dss_one (ds_app (d_var 4) d_str (fun a b => ps_expr (pe_bm PySem.F.plainAttrs_list PySem.F.slot_list_append PySem.F.type_list_append mt_append a (pa_cons b pa_nil)))))) dss_nil) (dss_cons (ds_set 7 sc__law_road.nd (d_tup (da_cons (d_tup (da_cons d_str (da_cons (d_call G__law_spot hr tk (da_cons (d_var 0) (da_cons (d_var 4) (da_cons d_str da_nil)))) (da_cons (d_call G__law_minutes hr tk (da_cons (d_var 0) (da_cons (d_var 1) (da_cons d_int da_nil)))) da_nil)))) da_nil))) (dss_cons (ds_set 7 sc__law_road.nd (d_op op_addD o_add (d_var 7) (d_tup (da_cons (d_op op_addD o_add (d_tup (da_cons d_str (da_cons (d_callB call_len c_len T.n_len (da_cons (d_var 4) da_nil)) (da_cons (d_var 5) da_nil)))) (d_call G__law_any_rules hr tk (da_cons (d_var 0) da_nil))) da_nil)))) (dss_one (ds_ret (d_tup (da_cons (d_op op_addD o_add (d_op op_addD o_add (d_var 3) (d_var 7)) (d_tup (da_cons (d_tup (da_cons d_str (da_cons (d_op op_addD o_add (d_callB call_len c_len T.n_len (da_cons (d_var 4) da_nil)) d_int) (da_cons (d_var 5) da_nil)))) da_nil))) (da_cons (d_var 5) (da_cons (d_callB call_len c_len T.n_len (da_cons (d_var 4) da_nil)) da_nil))))))))) dss_nil) (dss_cons (ds_set 7 sc__law_road.nd (d_tup (da_cons (d_tup (da_cons d_str (da_cons (d_var 6) (da_cons (d_var 5) da_nil)))) da_nil))) (dss_cons (ds_if (DT.w (dw_and (dt_cmp (op_eqA hr.units) o_eq (d_fz (dl_lcA (own := [("_law_deed", 9)]) rfl sc__law_road.nd (d_var 3) (blkOk_by (own := [("_law_deed", 9)]) (N := ["_law_bag", "_law_belts", "_law_way", "_law_plan", "_law_row", "_law_site", "_law_spot_here", "_law_tail", "_law_ahead", "_law_deed"]) (sc := defScope s__law_road) (by decide +kernel)) (fun _ _ _ _ _ => (dg_name 9 sc__law_road.nd)) (fun _ _ _ _ _ => (dts_one (dt_cmp (op_eqA hr.units) o_eq (d_ix ix_seq o_ix (d_var 9) d_int) d_str))) (fun _ _ _ _ _ => (d_var 9)))) (d_fz (dl_lst da_nil))) (dw_and1 (dt_cmp op_gt o_gt (d_call G__law_pick hr tk (da_cons (d_var 0) (da_cons d_int da_nil))) d_int)))) (dss_cons (ds_set 8 sc__law_road.nd (d_ix ix_seq o_ix (d_fz (dl_lst (da_cons d_int (da_cons d_int (da_cons (d_op op_addD o_add d_int (d_call G__law_pick hr tk (da_cons (d_var 0) (da_cons d_int da_nil)))) (da_cons d_int da_nil)))))) (d_call G__law_pick hr tk (da_cons (d_var 0) (da_cons d_int da_nil))))) (dss_one (ds_set 7 sc__law_road.nd (d_op op_addD o_add (d_var 7) (d_tup (da_cons (d_tup (da_cons d_str (da_cons (d_var 6) (da_cons (d_var 8) da_nil)))) (da_cons (d_tup (da_cons d_str (da_cons (d_op op_addD o_add (d_callB call_len c_len T.n_len (da_cons (d_var 4) da_nil)) d_int) (da_cons (d_var 5) da_nil)))) da_nil))))))) dss_nil) (dss_cons (ds_set 7 sc__law_road.nd (d_op op_addD o_add (d_var 7) (d_tup (da_cons (d_tup (da_cons d_str (da_cons (d_var 6) (da_cons (d_var 5) da_nil)))) (da_cons (d_tup (da_cons d_str (da_cons (d_callB call_len c_len T.n_len (da_cons (d_var 4) da_nil)) (da_cons (d_op op_addD o_add (d_callB call_len c_len T.n_len (da_cons (d_var 4) da_nil)) (d_callB call_len c_len T.n_len (da_cons (d_var 7) da_nil))) da_nil)))) da_nil))))) (dss_one (ds_ret (d_tup (da_cons (d_op op_addD o_add (d_var 3) (d_var 7)) (da_cons (d_var 5) (da_cons (d_var 6) da_nil)))))))))))))))
abbrev s__law_ends : Stmt := top 68
theorem sc__law_ends : FnScope ["_law_belts", "_law_plan", "_law_chart", "_law_site", "_law_spot_here", "_law_ran_here", "_law_way", "_law_told", "_law_deed", "_law_fits", "_law_each", "_law_shift"] ["_law_belts", "_law_plan", "_law_chart", "_law_site", "_law_spot_here", "_law_ran_here"] (defScope s__law_ends) := ⟨rfl, rfl, rfl, by decide +kernel, rfl, by decide +kernel, by decide +kernel⟩
theorem fn__law_ends (T : Txt K mg w) {f : Addr} {fd : FuncData} (hm : mg "_law_ends" = some (.ref f)) (F : Fun K "_law_ends" "_law_ends" s__law_ends f fd) (G__law_holds : FnD P w K mg base 1 "_law_holds" s__law_holds ["_law_chart", "_law_when"] m_law_holds) : FnD P w K mg base 2 "_law_ends" s__law_ends ["_law_belts", "_law_plan", "_law_chart", "_law_site", "_law_spot_here", "_law_ran_here"] m_law_ends := by
  refine fnd_mk (np := 6) (nN := 12) (k := 1) hm F (F.binds fun _ _ _ _ _ _ us hl => match us, hl with | [_, _, _, _, _, _], _ => rfl) sc__law_ends rfl rfl fun cdv A outer s H E hr => ?_
  have tk : Takes (cxOf (L2.CX P w) P w K mg base ["_law_belts", "_law_plan", "_law_chart", "_law_site", "_law_spot_here", "_law_ran_here", "_law_way", "_law_told", "_law_deed", "_law_fits", "_law_each", "_law_shift"] "_law_ends" (defScope s__law_ends) f cdv A outer s H E) (fun cls d _ H => E cls d H) := takes_of rfl rfl rfl rfl
  exact (dss_cons (ds_asg (d_var 5) (dg_any rfl (dgs_cons (dg_name 6 sc__law_ends.nd) (dgs_cons (dg_name 7 sc__law_ends.nd) dgs_nil)))) (dss_cons (ds_set 8 sc__law_ends.nd (d_ix ix_seq o_ix (d_fz (dl_lcA (own := [("_law_each", 10)]) rfl sc__law_ends.nd (d_var 1) (blkOk_by (own := [("_law_each", 10)]) (N := ["_law_belts", "_law_plan", "_law_chart", "_law_site", "_law_spot_here", "_law_ran_here", "_law_way", "_law_told", "_law_deed", "_law_fits", "_law_each", "_law_shift"]) (sc := defScope s__law_ends) (by decide +kernel)) (fun _ _ _ _ _ => (dg_name 10 sc__law_ends.nd)) (fun _ _ _ _ _ => (dts_one (dt_cmp (op_eqA hr.units) o_eq (d_ix ix_seq o_ix (d_var 10) d_int) d_str))) (fun _ _ _ _ _ => (d_var 10)))) (d_fold (d := .int (-1)) (d_un un_neg o_neg d_int) (fun _ _ => rfl)))) (dss_cons (ds_if (dt_cmp (op_eqA hr.units) o_eq (d_var 6) d_str) (dss_one (ds_ret (d_and (d_cmp (op_eqA hr.units) o_eq (d_var 7) (d_idxT hr.u66 (d_var 1) (d_var 8))) (d_one (d_cmp op_in_seq o_in d_str (d_var 8) (by rfl)))))) dss_nil) (dss_cons (ds_if (dt_cmp (op_eqA hr.units) o_eq (d_ix ix_seq o_ix (d_ix ix_seq o_ix (d_var 1) (d_fold (d := .int (-1)) (d_un un_neg o_neg d_int) (fun _ _ => rfl))) d_int) d_str) (dss_cons (ds_setLcA (mw := mFz) 9 (own := [("_law_shift", 11)]) (rd_fz) rfl sc__law_ends.nd (d_ix ix_seq o_ix (d_ix ix_seq o_ix (d_var 0) (d_var 3)) d_int) (blkOk_by (own := [("_law_shift", 11)]) (N := ["_law_belts", "_law_plan", "_law_chart", "_law_site", "_law_spot_here", "_law_ran_here", "_law_way", "_law_told", "_law_deed", "_law_fits", "_law_each", "_law_shift"]) (sc := defScope s__law_ends) (by decide +kernel)) (fun _ _ _ _ _ => (dg_name 11 sc__law_ends.nd)) (fun _ _ _ _ _ => (dts_one (dt_cmp (op_eqA hr.units) o_eq (d_call G__law_holds hr takes0 (da_cons (d_var 2) (da_cons (d_op op_sub o_sub (d_ix ix_seq o_ix (d_var 7) (d_var 4)) (d_var 11)) da_nil))) (d_var 11)))) (fun _ _ _ _ _ => (d_op op_sub o_sub (d_ix ix_seq o_ix (d_var 7) (d_var 4)) (d_var 11)))) (dss_one (ds_ret (d_and (d_cmp (op_eqA hr.units) o_eq (d_ix ix_seq o_ix (d_var 7) (d_fold (d := .int (-1)) (d_un un_neg o_neg d_int) (fun _ _ => rfl))) (d_op op_addD o_add (d_ix ix_seq o_ix (d_var 7) (d_fold (d := .int (-2)) (d_un un_neg o_neg d_int) (fun _ _ => rfl))) (d_call G__law_holds hr tk (da_cons (d_var 2) (da_cons (d_ix ix_seq o_ix (d_var 7) (d_fold (d := .int (-2)) (d_un un_neg o_neg d_int) (fun _ _ => rfl))) da_nil))))) (d_one (d_or (d_cmp (op_eqA hr.units) o_eq (d_var 9) (d_fz (dl_lst da_nil))) (d_one (d_cmp (op_eqA hr.units) o_eq (d_ix ix_seq o_ix (d_var 7) (d_fold (d := .int (-1)) (d_un un_neg o_neg d_int) (fun _ _ => rfl))) (d_ix ix_seq o_ix (d_var 7) (d_var 4)))))))))) dss_nil) (dss_cons (ds_setLcA (mw := mFz) 9 (own := [("_law_shift", 11)]) (rd_fz) rfl sc__law_ends.nd (d_ix ix_seq o_ix (d_ix ix_seq o_ix (d_var 0) (d_var 3)) d_int) (blkOk_by (own := [("_law_shift", 11)]) (N := ["_law_belts", "_law_plan", "_law_chart", "_law_site", "_law_spot_here", "_law_ran_here", "_law_way", "_law_told", "_law_deed", "_law_fits", "_law_each", "_law_shift"]) (sc := defScope s__law_ends) (by decide +kernel)) (fun _ _ _ _ _ => (dg_name 11 sc__law_ends.nd)) (fun _ _ _ _ _ => (dts_one (dt_cmp (op_eqA hr.units) o_eq (d_call G__law_holds hr takes0 (da_cons (d_var 2) (da_cons (d_op op_sub o_sub (d_ix ix_seq o_ix (d_var 7) (d_fold (d := .int (-2)) (d_un un_neg o_neg d_int) (fun _ _ => rfl))) (d_var 11)) da_nil))) (d_var 11)))) (fun _ _ _ _ _ => (d_op op_sub o_sub (d_ix ix_seq o_ix (d_var 7) (d_fold (d := .int (-2)) (d_un un_neg o_neg d_int) (fun _ _ => rfl))) (d_var 11)))) (dss_cons (ds_if (DT.w (dw_or (dt_cmp op_notIn_seq o_in (d_ix ix_seq o_ix (d_var 7) (d_var 4)) (d_var 9) (by rfl)) (dw_or1 (dt_cmp op_notIn_seq o_in (d_ix ix_seq o_ix (d_var 7) (d_fold (d := .int (-1)) (d_un un_neg o_neg d_int) (fun _ _ => rfl))) (d_var 9) (by rfl))))) (dss_one (ds_ret d_bl)) dss_nil) (dss_one (ds_ret (d_cmp (op_eqA hr.units) o_eq (d_ix ix_seq o_ix (d_var 7) (d_fold (d := .int (-1)) (d_un un_neg o_neg d_int) (fun _ _ => rfl))) (d_get hr.units (d_disp (dps_cons d_str (d_callB (cr_min rfl) c_min1 T.n_min (da_cons (d_var 9) da_nil)) (dps_cons d_str (d_callB (cr_max rfl) c_max1 T.n_max (da_cons (d_var 9) da_nil)) dps_nil))) (d_ix ix_seq o_ix (d_var 8) d_int) (d_ix ix_seq o_ix (d_var 7) (d_var 4))))))))))))
abbrev s__law_back : Stmt := top 67
theorem sc__law_back : FnScope ["_law_belts", "_law_plan", "_law_earth", "_law_site", "_law_spot_here", "_law_ran_here", "_law_way", "_law_told", "_law_chart", "_law_deed"] ["_law_belts", "_law_plan", "_law_earth", "_law_site", "_law_spot_here", "_law_ran_here"] (defScope s__law_back) := ⟨rfl, rfl, rfl, by decide +kernel, rfl, by decide +kernel, by decide +kernel⟩
theorem fn__law_back (T : Txt K mg w) {f : Addr} {fd : FuncData} (hm : mg "_law_back" = some (.ref f)) (F : Fun K "_law_back" "_law_back" s__law_back f fd) (G__law_ends : FnD P w K mg base 2 "_law_ends" s__law_ends ["_law_belts", "_law_plan", "_law_chart", "_law_site", "_law_spot_here", "_law_ran_here"] m_law_ends) : FnD P w K mg base 3 "_law_back" s__law_back ["_law_belts", "_law_plan", "_law_earth", "_law_site", "_law_spot_here", "_law_ran_here"] m_law_back := by
  refine fnd_mk (np := 6) (nN := 10) (k := 2) hm F (F.binds fun _ _ _ _ _ _ us hl => match us, hl with | [_, _, _, _, _, _], _ => rfl) sc__law_back rfl rfl fun cdv A outer s H E hr => ?_
  have tk : Takes (cxOf (L2.CX P w) P w K mg base ["_law_belts", "_law_plan", "_law_earth", "_law_site", "_law_spot_here", "_law_ran_here", "_law_way", "_law_told", "_law_chart", "_law_deed"] "_law_back" (defScope s__law_back) f cdv A outer s H E) (fun cls d _ H => E cls d H) := takes_of rfl rfl rfl rfl
  exact (dss_cons (ds_asg (d_var 5) (dg_any rfl (dgs_cons (dg_name 6 sc__law_back.nd) (dgs_cons (dg_name 7 sc__law_back.nd) dgs_nil)))) (dss_cons (ds_if (dt_cmp (op_eqA hr.units) o_eq (d_ix ix_seq o_ix (d_ix ix_seq o_ix (d_var 1) (d_fold (d := .int (-1)) (d_un un_neg o_neg d_int) (fun _ _ => rfl))) d_int) d_str) (dss_one (ds_ret (d_and (d_cmp (op_eqA hr.units) o_eq (d_var 6) d_str) (d_one (d_cmp (op_eqA hr.units) o_eq (d_ix ix_seq o_ix (d_var 7) (d_fold (d := .int (-1)) (d_un un_neg o_neg d_int) (fun _ _ => rfl))) (d_ix ix_seq o_ix (d_var 7) (d_var 4))))))) dss_nil) (dss_cons (ds_set 8 sc__law_back.nd (d_ix ix_seq o_ix (d_ix ix_seq o_ix (d_var 2) d_int) (d_var 3))) (dss_cons (ds_if (dt_cmp (op_in2 hr.u66) o_in2 (d_tup (da_cons d_str (da_cons (d_var 3) da_nil))) (d_fz (dl_lcA (own := [("_law_deed", 9)]) rfl sc__law_back.nd (d_var 1) (blkOk_by (own := [("_law_deed", 9)]) (N := ["_law_belts", "_law_plan", "_law_earth", "_law_site", "_law_spot_here", "_law_ran_here", "_law_way", "_law_told", "_law_chart", "_law_deed"]) (sc := defScope s__law_back) (by decide +kernel)) (fun _ _ _ _ _ => (dg_name 9 sc__law_back.nd)) (fun _ _ _ _ _ => dts_nil) (fun _ _ _ _ _ => (d_tup (da_cons (d_ix ix_seq o_ix (d_var 9) d_int) (da_cons (d_ix ix_seq o_ix (d_var 9) d_int) da_nil)))))) (by rfl)) (dss_one (ds_set 8 sc__law_back.nd (d_ix ix_seq o_ix (d_ix ix_seq o_ix (d_var 2) d_int) (d_var 3)))) dss_nil) (dss_cons (ds_if (DT.w (dw_and (dt_cmp (op_eqA hr.units) o_eq (d_var 6) d_str) (dw_and1 (dt_cmp op_lt o_lt (d_var 7) (d_op op_sub o_sub (d_callB call_len c_len T.n_len (da_cons (d_var 1) da_nil)) d_int))))) (dss_one (ds_ret d_bl)) dss_nil) (dss_one (ds_ret (d_call G__law_ends hr tk (da_cons (d_var 0) (da_cons (d_var 1) (da_cons (d_var 8) (da_cons (d_var 3) (da_cons (d_var 4) (da_cons (d_var 5) da_nil))))))))))))))
abbrev s_law : Stmt := top 69
theorem sc_law : FnScope ["_law_script", "_law_cell", "_law_bag", "_law_belts", "_law_plan", "_law_site", "_law_spot_here", "_law_origin", "_law_earth", "_law_ran_here", "_law_shown", "_law_chart", "_law_fits", "_law_deed", "_law_shift"] ["_law_script"] (defScope s_law) := ⟨rfl, rfl, rfl, by decide +kernel, rfl, by decide +kernel, by decide +kernel⟩
theorem fn_law (T : Txt K mg w) {f : Addr} {fd : FuncData} (hm : mg "law" = some (.ref f)) (F : Fun K "law" "law" s_law f fd) (G__law_holds : FnD P w K mg base 1 "_law_holds" s__law_holds ["_law_chart", "_law_when"] m_law_holds) (G__law_follow : FnD P w K mg base 4 "_law_follow" s__law_follow ["_law_belts", "_law_plan", "_law_earth", "_law_origin"] m_law_follow) (G__law_back : FnD P w K mg base 3 "_law_back" s__law_back ["_law_belts", "_law_plan", "_law_earth", "_law_site", "_law_spot_here", "_law_ran_here"] m_law_back) (G__law_ran : FnD P w K mg base 8 "_law_ran" s__law_ran ["_law_belts", "_law_plan", "_law_earth", "_law_origin"] m_law_ran) (G__law_any_earth : FnD P w K mg base 5 "_law_any_earth" s__law_any_earth ["_law_bag", "_law_belts", "_law_plan", "_law_origin", "_law_near"] m_law_any_earth) (G__law_any_origin : FnD P w K mg base 2 "_law_any_origin" s__law_any_origin ["_law_bag"] m_law_any_origin) (G__law_road : FnD P w K mg base 5 "_law_road" s__law_road ["_law_bag", "_law_belts", "_law_way"] m_law_road) (G__law_pick : FnD P w K mg base 1 "_law_pick" s__law_pick ["_law_bag", "_law_many"] m_law_pick) (G__law_any_belts : FnD P w K mg base 3 "_law_any_belts" s__law_any_belts ["_law_bag", "_law_upto"] m_law_any_belts) (G__law_bag_of : FnD P w K mg base 1 "_law_bag_of" s__law_bag_of ["_law_cell"] m_law_bag_of) : FnD P w K mg base 9 "law" s_law ["_law_script"] m_law_k27_whole_there_and_back := by
  refine fnd_mk (np := 1) (nN := 15) (k := 8) hm F (F.binds fun _ _ _ _ _ _ us hl => match us, hl with | [_], _ => rfl) sc_law rfl rfl fun cdv A outer s H E hr => ?_
  have tk : Takes (cxOf (L2.CX P w) P w K mg base ["_law_script", "_law_cell", "_law_bag", "_law_belts", "_law_plan", "_law_site", "_law_spot_here", "_law_origin", "_law_earth", "_law_ran_here", "_law_shown", "_law_chart", "_law_fits", "_law_deed", "_law_shift"] "law" (defScope s_law) f cdv A outer s H E) (fun cls d _ H => E cls d H) := takes_of rfl rfl rfl rfl
  exact (dss_cons (ds_for (passes_of rfl) rfl (di_seq (d_fz (dl_cat (dl_lst (da_cons d_int da_nil)) (dl_slL (d_var 0) do_none (do_some d_int))))) (dg_name 1 sc_law.nd) (dss_cons (ds_set 2 sc_law.nd (d_call G__law_bag_of hr tk (da_cons (d_var 1) da_nil))) (dss_cons (ds_set 3 sc_law.nd (d_call G__law_any_belts hr tk (da_cons (d_var 2) (da_cons d_int da_nil)))) (dss_cons (ds_asg (d_call G__law_road hr tk (da_cons (d_var 2) (da_cons (d_var 3) (da_cons (d_call G__law_pick hr tk (da_cons (d_var 2) (da_cons d_int da_nil))) da_nil)))) (dg_any rfl (dgs_cons (dg_name 4 sc_law.nd) (dgs_cons (dg_name 5 sc_law.nd) (dgs_cons (dg_name 6 sc_law.nd) dgs_nil))))) (dss_cons (ds_set 7 sc_law.nd (d_call G__law_any_origin hr tk (da_cons (d_var 2) da_nil))) (dss_cons (ds_set 8 sc_law.nd (d_call G__law_any_earth hr tk (da_cons (d_var 2) (da_cons (d_var 3) (da_cons (d_var 4) (da_cons (d_var 7) (da_cons d_int da_nil))))))) (dss_cons (ds_set 9 sc_law.nd (d_call G__law_ran hr tk (da_cons (d_var 3) (da_cons (d_var 4) (da_cons (d_var 8) (da_cons (d_var 7) da_nil)))))) (dss_cons (ds_if (DT.w (dw_or (dt_cmp (op_eqA hr.units) o_eq (d_ix ix_seq o_ix (d_var 9) d_int) d_str) (dw_or1 (DT.w (dw_and (dt_cmp (op_eqA hr.units) o_eq (d_ix ix_seq o_ix (d_var 9) d_int) d_str) (dw_and1 (dt_cmp (op_neA hr.units) o_ne (d_callB call_len c_len T.n_len (da_cons (d_ix ix_seq o_ix (d_var 9) d_int) da_nil)) (d_op op_addD o_add (d_callB call_len c_len T.n_len (da_cons (d_var 4) da_nil)) d_int)))))))) (dss_one (ds_ret d_bl)) dss_nil) (dss_cons (ds_if (dt_not (dt_val (d_call G__law_back hr tk (da_cons (d_var 3) (da_cons (d_var 4) (da_cons (d_var 8) (da_cons (d_var 5) (da_cons (d_var 6) (da_cons (d_var 9) da_nil))))))))) (dss_one (ds_ret d_bl)) dss_nil) (dss_one (ds_if (DT.w (dw_and (dt_cmp (op_eqA hr.units) o_eq (d_ix ix_seq o_ix (d_var 9) d_int) d_str) (dw_and1 (dt_cmp (op_eqA hr.units) o_eq (d_ix ix_seq o_ix (d_ix ix_seq o_ix (d_var 4) (d_fold (d := .int (-1)) (d_un un_neg o_neg d_int) (fun _ _ => rfl))) d_int) d_str)))) (dss_cons (ds_set 10 sc_law.nd (d_ix ix_seq o_ix (d_ix ix_seq o_ix (d_call G__law_follow hr tk (da_cons (d_var 3) (da_cons (d_slT (d_var 4) do_none (do_some (d_fold (d := .int (-1)) (d_un un_neg o_neg d_int) (fun _ _ => rfl)))) (da_cons (d_var 8) (da_cons (d_var 7) da_nil))))) d_int) (d_fold (d := .int (-1)) (d_un un_neg o_neg d_int) (fun _ _ => rfl)))) (dss_cons (ds_set 11 sc_law.nd (d_ix ix_seq o_ix (d_ix ix_seq o_ix (d_var 8) (d_callTy call_int1 c_int1 T.n_int (da_cons (d_cmp (op_in2 hr.u66) o_in2 (d_tup (da_cons d_str (da_cons (d_var 5) da_nil))) (d_fz (dl_lcA (own := [("_law_deed", 13)]) rfl sc_law.nd (d_var 4) (blkOk_by (own := [("_law_deed", 13)]) (N := ["_law_script", "_law_cell", "_law_bag", "_law_belts", "_law_plan", "_law_site", "_law_spot_here", "_law_origin", "_law_earth", "_law_ran_here", "_law_shown", "_law_chart", "_law_fits", "_law_deed", "_law_shift"]) (sc := defScope s_law) (by decide +kernel)) (fun _ _ _ _ _ => (dg_name 13 sc_law.nd)) (fun _ _ _ _ _ => dts_nil) (fun _ _ _ _ _ => (d_tup (da_cons (d_ix ix_seq o_ix (d_var 13) d_int) (da_cons (d_ix ix_seq o_ix (d_var 13) d_int) da_nil)))))) (by rfl)) da_nil))) (d_var 5))) (dss_cons (ds_setLcA (mw := mFz) 12 (own := [("_law_shift", 14)]) (rd_fz) rfl sc_law.nd (d_ix ix_seq o_ix (d_ix ix_seq o_ix (d_var 3) (d_var 5)) d_int) (blkOk_by (own := [("_law_shift", 14)]) (N := ["_law_script", "_law_cell", "_law_bag", "_law_belts", "_law_plan", "_law_site", "_law_spot_here", "_law_origin", "_law_earth", "_law_ran_here", "_law_shown", "_law_chart", "_law_fits", "_law_deed", "_law_shift"]) (sc := defScope s_law) (by decide +kernel)) (fun _ _ _ _ _ => (dg_name 14 sc_law.nd)) (fun _ _ _ _ _ => (dts_one (dt_cmp (op_eqA hr.units) o_eq (d_call G__law_holds hr takes0 (da_cons (d_var 11) (da_cons (d_op op_sub o_sub (d_var 10) (d_var 14)) da_nil))) (d_var 14)))) (fun _ _ _ _ _ => (d_var 14))) (dss_one (ds_if (DT.w (dw_or (dt_cmp (op_neA hr.units) o_ne (d_callB call_len c_len T.n_len (da_cons (d_var 12) da_nil)) d_int) (dw_or1 (dt_cmp (op_neA hr.units) o_ne (d_ix ix_seq o_ix (d_ix ix_seq o_ix (d_var 4) (d_fold (d := .int (-1)) (d_un un_neg o_neg d_int) (fun _ _ => rfl))) d_int) d_str)))) (dss_one (ds_ret d_bl)) dss_nil))))) dss_nil))))))))))) (dss_one (ds_ret d_bl)))
abbrev si_Refused : Stmt := inClass (top 8) 0
theorem sci_Refused : FnScope ["self", "step"] ["self", "step"] (defScope si_Refused) := ⟨rfl, rfl, rfl, by decide +kernel, rfl, by decide +kernel, by decide +kernel⟩
end
theorem all_mk {l : PySem.W.OpenLaw} {w : World} {K : Frag} {h : Heap} {mg : Str → Option Value} {fa : Addr} (hlaw : LawTrue m_law_k27_whole_there_and_back) (X : K.In h) (G : h.Ns mainGlobals mg) (hfa : mg "law" = some (.ref fa))
    {f0 : Addr} {od0 an0 : Option Addr} {sl0 : Array (Option Value)} {oc0 kV0 dc0 pm0 cd0 ct0 : Value} {f1 : Addr} {od1 an1 : Option Addr} {sl1 : Array (Option Value)} {oc1 kV1 dc1 pm1 cd1 ct1 : Value} {f2 : Addr} {od2 an2 : Option Addr} {sl2 : Array (Option Value)} {oc2 kV2 dc2 pm2 cd2 ct2 : Value} {f3 : Addr} {od3 an3 : Option Addr} {sl3 : Array (Option Value)} {oc3 kV3 dc3 pm3 cd3 ct3 : Value} {f4 : Addr} {od4 an4 : Option Addr} {sl4 : Array (Option Value)} {oc4 kV4 dc4 pm4 cd4 ct4 : Value} {f5 : Addr} {od5 an5 : Option Addr} {sl5 : Array (Option Value)} {oc5 kV5 dc5 pm5 cd5 ct5 : Value} {f6 : Addr} {od6 an6 : Option Addr} {sl6 : Array (Option Value)} {oc6 kV6 dc6 pm6 cd6 ct6 : Value} {f7 : Addr} {od7 an7 : Option Addr} {sl7 : Array (Option Value)} {oc7 kV7 dc7 pm7 cd7 ct7 : Value} {f8 : Addr} {od8 an8 : Option Addr} {sl8 : Array (Option Value)} {oc8 kV8 dc8 pm8 cd8 ct8 : Value} {f9 : Addr} {od9 an9 : Option Addr} {sl9 : Array (Option Value)} {oc9 kV9 dc9 pm9 cd9 ct9 : Value} {f10 : Addr} {od10 an10 : Option Addr} {sl10 : Array (Option Value)} {oc10 kV10 dc10 pm10 cd10 ct10 : Value} {f11 : Addr} {od11 an11 : Option Addr} {sl11 : Array (Option Value)} {oc11 kV11 dc11 pm11 cd11 ct11 : Value} {f12 : Addr} {od12 an12 : Option Addr} {sl12 : Array (Option Value)} {oc12 kV12 dc12 pm12 cd12 ct12 : Value} {f13 : Addr} {od13 an13 : Option Addr} {sl13 : Array (Option Value)} {oc13 kV13 dc13 pm13 cd13 ct13 : Value} {f14 : Addr} {od14 an14 : Option Addr} {sl14 : Array (Option Value)} {oc14 kV14 dc14 pm14 cd14 ct14 : Value} {f15 : Addr} {od15 an15 : Option Addr} {sl15 : Array (Option Value)} {oc15 kV15 dc15 pm15 cd15 ct15 : Value} {f16 : Addr} {od16 an16 : Option Addr} {sl16 : Array (Option Value)} {oc16 kV16 dc16 pm16 cd16 ct16 : Value} {f17 : Addr} {od17 an17 : Option Addr} {sl17 : Array (Option Value)} {oc17 kV17 dc17 pm17 cd17 ct17 : Value} {f18 : Addr} {od18 an18 : Option Addr} {sl18 : Array (Option Value)} {oc18 kV18 dc18 pm18 cd18 ct18 : Value} {f19 : Addr} {od19 an19 : Option Addr} {sl19 : Array (Option Value)} {oc19 kV19 dc19 pm19 cd19 ct19 : Value} {f20 : Addr} {od20 an20 : Option Addr} {sl20 : Array (Option Value)} {oc20 kV20 dc20 pm20 cd20 ct20 : Value} {f21 : Addr} {od21 an21 : Option Addr} {sl21 : Array (Option Value)} {oc21 kV21 dc21 pm21 cd21 ct21 : Value} {T21 : Addr} {oT21 : Option Addr} {nT21 : Nat} {sT21 : Array (Option Value)} {tT21_0 : Tok} {f22 : Addr} {od22 an22 : Option Addr} {sl22 : Array (Option Value)} {oc22 kV22 dc22 pm22 cd22 ct22 : Value} {f23 : Addr} {od23 an23 : Option Addr} {sl23 : Array (Option Value)} {oc23 kV23 dc23 pm23 cd23 ct23 : Value} {f24 : Addr} {od24 an24 : Option Addr} {sl24 : Array (Option Value)} {oc24 kV24 dc24 pm24 cd24 ct24 : Value} {f25 : Addr} {od25 an25 : Option Addr} {sl25 : Array (Option Value)} {oc25 kV25 dc25 pm25 cd25 ct25 : Value} {f26 : Addr} {od26 an26 : Option Addr} {sl26 : Array (Option Value)} {oc26 kV26 dc26 pm26 cd26 ct26 : Value} {f27 : Addr} {od27 an27 : Option Addr} {sl27 : Array (Option Value)} {oc27 kV27 dc27 pm27 cd27 ct27 : Value} {f28 : Addr} {od28 an28 : Option Addr} {sl28 : Array (Option Value)} {oc28 kV28 dc28 pm28 cd28 ct28 : Value} {f29 : Addr} {od29 an29 : Option Addr} {sl29 : Array (Option Value)} {oc29 kV29 dc29 pm29 cd29 ct29 : Value} {f30 : Addr} {od30 an30 : Option Addr} {sl30 : Array (Option Value)} {oc30 kV30 dc30 pm30 cd30 ct30 : Value} {f31 : Addr} {od31 an31 : Option Addr} {sl31 : Array (Option Value)} {oc31 kV31 dc31 pm31 cd31 ct31 : Value} {f32 : Addr} {od32 an32 : Option Addr} {sl32 : Array (Option Value)} {oc32 kV32 dc32 pm32 cd32 ct32 : Value} {f33 : Addr} {od33 an33 : Option Addr} {sl33 : Array (Option Value)} {oc33 kV33 dc33 pm33 cd33 ct33 : Value} {f34 : Addr} {od34 an34 : Option Addr} {sl34 : Array (Option Value)} {oc34 kV34 dc34 pm34 cd34 ct34 : Value} {f35 : Addr} {od35 an35 : Option Addr} {sl35 : Array (Option Value)} {oc35 kV35 dc35 pm35 cd35 ct35 : Value} {f36 : Addr} {od36 an36 : Option Addr} {sl36 : Array (Option Value)} {oc36 kV36 dc36 pm36 cd36 ct36 : Value} {f37 : Addr} {od37 an37 : Option Addr} {sl37 : Array (Option Value)} {oc37 kV37 dc37 pm37 cd37 ct37 : Value} {f38 : Addr} {od38 an38 : Option Addr} {sl38 : Array (Option Value)} {oc38 kV38 dc38 pm38 cd38 ct38 : Value} {f39 : Addr} {od39 an39 : Option Addr} {sl39 : Array (Option Value)} {oc39 kV39 dc39 pm39 cd39 ct39 : Value} {f40 : Addr} {od40 an40 : Option Addr} {sl40 : Array (Option Value)} {oc40 kV40 dc40 pm40 cd40 ct40 : Value} {f41 : Addr} {od41 an41 : Option Addr} {sl41 : Array (Option Value)} {oc41 kV41 dc41 pm41 cd41 ct41 : Value} {f42 : Addr} {od42 an42 : Option Addr} {sl42 : Array (Option Value)} {oc42 kV42 dc42 pm42 cd42 ct42 : Value} {f43 : Addr} {od43 an43 : Option Addr} {sl43 : Array (Option Value)} {oc43 kV43 dc43 pm43 cd43 ct43 : Value} {f44 : Addr} {od44 an44 : Option Addr} {sl44 : Array (Option Value)} {oc44 kV44 dc44 pm44 cd44 ct44 : Value} {f45 : Addr} {od45 an45 : Option Addr} {sl45 : Array (Option Value)} {oc45 kV45 dc45 pm45 cd45 ct45 : Value} {f46 : Addr} {od46 an46 : Option Addr} {sl46 : Array (Option Value)} {oc46 kV46 dc46 pm46 cd46 ct46 : Value} {f47 : Addr} {od47 an47 : Option Addr} {sl47 : Array (Option Value)} {oc47 kV47 dc47 pm47 cd47 ct47 : Value} {f48 : Addr} {od48 an48 : Option Addr} {sl48 : Array (Option Value)} {oc48 kV48 dc48 pm48 cd48 ct48 : Value} {f49 : Addr} {od49 an49 : Option Addr} {sl49 : Array (Option Value)} {oc49 kV49 dc49 pm49 cd49 ct49 : Value} {Q0_1 : Addr} {nQ0_1 : Nat} {sQ0_1 : Array (Option Value)} {tQ0_2 : Tok} {tQ0_3 : Tok} {tQ0_4 : Tok} {Q1_1 : Addr} {nQ1_1 : Nat} {sQ1_1 : Array (Option Value)} {tQ1_2 : Tok} {tQ1_3 : Tok} {tQ1_4 : Tok} {Q2_t : Addr} {nQ2_t : Nat} {hQ2_0 : Int} {uQ2_0 : Tok} {tQ2_1 : Tok} {hQ2_1 : Int} {uQ2_1 : Tok} {tQ2_2 : Tok} {hQ2_2 : Int} {uQ2_2 : Tok} {tQ2_3 : Tok} {hQ2_3 : Int} {uQ2_3 : Tok} {tQ2_4 : Tok} {hQ2_4 : Int} {uQ2_4 : Tok} {tQ2_5 : Tok} {hQ2_5 : Int} {uQ2_5 : Tok} {tQ2_6 : Tok} {t3 : Tok} {t4 : Tok} {t5 : Tok} {t6 : Tok} {Q7_t : Addr} {nQ7_t : Nat} {hQ7_0 : Int} {uQ7_0 : Tok} {Q7_1 : Addr} {nQ7_1 : Nat} {sQ7_1 : Array (Option Value)} {tQ7_2 : Tok} {tQ7_3 : Tok} {hQ7_1 : Int} {uQ7_1 : Tok} {Q7_4 : Addr} {nQ7_4 : Nat} {sQ7_4 : Array (Option Value)} {tQ7_5 : Tok} {tQ7_6 : Tok} {tQ7_7 : Tok} {tQ7_8 : Tok} {hQ7_2 : Int} {uQ7_2 : Tok} {Q7_9 : Addr} {nQ7_9 : Nat} {sQ7_9 : Array (Option Value)} {tQ7_10 : Tok} {tQ7_11 : Tok} {hQ7_3 : Int} {uQ7_3 : Tok} {Q7_12 : Addr} {nQ7_12 : Nat} {sQ7_12 : Array (Option Value)} {tQ7_13 : Tok} {tQ7_14 : Tok} {hQ7_4 : Int} {uQ7_4 : Tok} {Q7_15 : Addr} {nQ7_15 : Nat} {sQ7_15 : Array (Option Value)} {tQ7_16 : Tok} {tQ7_17 : Tok} {hQ7_5 : Int} {uQ7_5 : Tok} {Q7_18 : Addr} {nQ7_18 : Nat} {sQ7_18 : Array (Option Value)} {tQ7_19 : Tok} {tQ7_20 : Tok} {hQ7_6 : Int} {uQ7_6 : Tok} {Q7_21 : Addr} {nQ7_21 : Nat} {sQ7_21 : Array (Option Value)} {tQ7_22 : Tok} {tQ7_23 : Tok} {C0 : Addr} {C1 : Addr} {C2 : Addr} {C3 : Addr} {C4 : Addr} {C5 : Addr} {C6 : Addr} {C7 : Addr} {nm_6 q_6 : Str} {N_6 fI_6 : Addr} {bs_6 bm_6 sub_6 : List Value} {sn_6 : List Str} {ab_6 : Bool} {col_6 : Option Bool} {dd_6 : Option Addr} {m0_6 m1_6 m2_6 m3_6 m5_6 : Option Value} {oI_6 kVI_6 dcI_6 pmI_6 cdI_6 ctI_6 : Value} {odI_6 anI_6 : Option Addr} {slI_6 : Array (Option Value)}
    (a0 : PySem.W.nsIn K mainGlobals "is_integer" = some (some (.ref f0)))
    (l0 : K.lookup f0 = some ⟨oc0, od0, .func (PySem.W.fnOf "is_integer" "is_integer" (defArgs s_is_integer) (defBody s_is_integer) (defScope s_is_integer) .none kV0 dc0 pm0 an0 cd0 ct0), sl0⟩)
    (c0 : PySem.W.codeIn K cd0 "is_integer" = true)
    (k0 : PySem.W.keepIn K (.ref f0) = true)
    (a1 : PySem.W.nsIn K mainGlobals "is_zone" = some (some (.ref f1)))
    (l1 : K.lookup f1 = some ⟨oc1, od1, .func (PySem.W.fnOf "is_zone" "is_zone" (defArgs s_is_zone) (defBody s_is_zone) (defScope s_is_zone) .none kV1 dc1 pm1 an1 cd1 ct1), sl1⟩)
    (c1 : PySem.W.codeIn K cd1 "is_zone" = true)
    (k1 : PySem.W.keepIn K (.ref f1) = true)
    (a2 : PySem.W.nsIn K mainGlobals "is_zones" = some (some (.ref f2)))
    (l2 : K.lookup f2 = some ⟨oc2, od2, .func (PySem.W.fnOf "is_zones" "is_zones" (defArgs s_is_zones) (defBody s_is_zones) (defScope s_is_zones) .none kV2 dc2 pm2 an2 cd2 ct2), sl2⟩)
    (c2 : PySem.W.codeIn K cd2 "is_zones" = true)
    (k2 : PySem.W.keepIn K (.ref f2) = true)
    (a3 : PySem.W.nsIn K mainGlobals "need_zone" = some (some (.ref f3)))
    (l3 : K.lookup f3 = some ⟨oc3, od3, .func (PySem.W.fnOf "need_zone" "need_zone" (defArgs s_need_zone) (defBody s_need_zone) (defScope s_need_zone) .none kV3 dc3 pm3 an3 cd3 ct3), sl3⟩)
    (c3 : PySem.W.codeIn K cd3 "need_zone" = true)
    (k3 : PySem.W.keepIn K (.ref f3) = true)
    (a4 : PySem.W.nsIn K mainGlobals "need_zones" = some (some (.ref f4)))
    (l4 : K.lookup f4 = some ⟨oc4, od4, .func (PySem.W.fnOf "need_zones" "need_zones" (defArgs s_need_zones) (defBody s_need_zones) (defScope s_need_zones) .none kV4 dc4 pm4 an4 cd4 ct4), sl4⟩)
    (c4 : PySem.W.codeIn K cd4 "need_zones" = true)
    (k4 : PySem.W.keepIn K (.ref f4) = true)
    (a5 : PySem.W.nsIn K mainGlobals "need_number" = some (some (.ref f5)))
    (l5 : K.lookup f5 = some ⟨oc5, od5, .func (PySem.W.fnOf "need_number" "need_number" (defArgs s_need_number) (defBody s_need_number) (defScope s_need_number) .none kV5 dc5 pm5 an5 cd5 ct5), sl5⟩)
    (c5 : PySem.W.codeIn K cd5 "need_number" = true)
    (k5 : PySem.W.keepIn K (.ref f5) = true)
    (a6 : PySem.W.nsIn K mainGlobals "is_offset" = some (some (.ref f6)))
    (l6 : K.lookup f6 = some ⟨oc6, od6, .func (PySem.W.fnOf "is_offset" "is_offset" (defArgs s_is_offset) (defBody s_is_offset) (defScope s_is_offset) .none kV6 dc6 pm6 an6 cd6 ct6), sl6⟩)
    (c6 : PySem.W.codeIn K cd6 "is_offset" = true)
    (k6 : PySem.W.keepIn K (.ref f6) = true)
    (a7 : PySem.W.nsIn K mainGlobals "is_mark" = some (some (.ref f7)))
    (l7 : K.lookup f7 = some ⟨oc7, od7, .func (PySem.W.fnOf "is_mark" "is_mark" (defArgs s_is_mark) (defBody s_is_mark) (defScope s_is_mark) .none kV7 dc7 pm7 an7 cd7 ct7), sl7⟩)
    (c7 : PySem.W.codeIn K cd7 "is_mark" = true)
    (k7 : PySem.W.keepIn K (.ref f7) = true)
    (a8 : PySem.W.nsIn K mainGlobals "is_table" = some (some (.ref f8)))
    (l8 : K.lookup f8 = some ⟨oc8, od8, .func (PySem.W.fnOf "is_table" "is_table" (defArgs s_is_table) (defBody s_is_table) (defScope s_is_table) .none kV8 dc8 pm8 an8 cd8 ct8), sl8⟩)
    (c8 : PySem.W.codeIn K cd8 "is_table" = true)
    (k8 : PySem.W.keepIn K (.ref f8) = true)
    (a9 : PySem.W.nsIn K mainGlobals "offset_in" = some (some (.ref f9)))
    (l9 : K.lookup f9 = some ⟨oc9, od9, .func (PySem.W.fnOf "offset_in" "offset_in" (defArgs s_offset_in) (defBody s_offset_in) (defScope s_offset_in) .none kV9 dc9 pm9 an9 cd9 ct9), sl9⟩)
    (c9 : PySem.W.codeIn K cd9 "offset_in" = true)
    (k9 : PySem.W.keepIn K (.ref f9) = true)
    (a10 : PySem.W.nsIn K mainGlobals "found_by" = some (some (.ref f10)))
    (l10 : K.lookup f10 = some ⟨oc10, od10, .func (PySem.W.fnOf "found_by" "found_by" (defArgs s_found_by) (defBody s_found_by) (defScope s_found_by) .none kV10 dc10 pm10 an10 cd10 ct10), sl10⟩)
    (c10 : PySem.W.codeIn K cd10 "found_by" = true)
    (k10 : PySem.W.keepIn K (.ref f10) = true)
    (a11 : PySem.W.nsIn K mainGlobals "is_part" = some (some (.ref f11)))
    (l11 : K.lookup f11 = some ⟨oc11, od11, .func (PySem.W.fnOf "is_part" "is_part" (defArgs s_is_part) (defBody s_is_part) (defScope s_is_part) .none kV11 dc11 pm11 an11 cd11 ct11), sl11⟩)
    (c11 : PySem.W.codeIn K cd11 "is_part" = true)
    (k11 : PySem.W.keepIn K (.ref f11) = true)
    (a12 : PySem.W.nsIn K mainGlobals "is_step" = some (some (.ref f12)))
    (l12 : K.lookup f12 = some ⟨oc12, od12, .func (PySem.W.fnOf "is_step" "is_step" (defArgs s_is_step) (defBody s_is_step) (defScope s_is_step) .none kV12 dc12 pm12 an12 cd12 ct12), sl12⟩)
    (c12 : PySem.W.codeIn K cd12 "is_step" = true)
    (k12 : PySem.W.keepIn K (.ref f12) = true)
    (a13 : PySem.W.nsIn K mainGlobals "kind_made" = some (some (.ref f13)))
    (l13 : K.lookup f13 = some ⟨oc13, od13, .func (PySem.W.fnOf "kind_made" "kind_made" (defArgs s_kind_made) (defBody s_kind_made) (defScope s_kind_made) .none kV13 dc13 pm13 an13 cd13 ct13), sl13⟩)
    (c13 : PySem.W.codeIn K cd13 "kind_made" = true)
    (k13 : PySem.W.keepIn K (.ref f13) = true)
    (a14 : PySem.W.nsIn K mainGlobals "is_program" = some (some (.ref f14)))
    (l14 : K.lookup f14 = some ⟨oc14, od14, .func (PySem.W.fnOf "is_program" "is_program" (defArgs s_is_program) (defBody s_is_program) (defScope s_is_program) .none kV14 dc14 pm14 an14 cd14 ct14), sl14⟩)
    (c14 : PySem.W.codeIn K cd14 "is_program" = true)
    (k14 : PySem.W.keepIn K (.ref f14) = true)
    (a15 : PySem.W.nsIn K mainGlobals "need_program" = some (some (.ref f15)))
    (l15 : K.lookup f15 = some ⟨oc15, od15, .func (PySem.W.fnOf "need_program" "need_program" (defArgs s_need_program) (defBody s_need_program) (defScope s_need_program) .none kV15 dc15 pm15 an15 cd15 ct15), sl15⟩)
    (c15 : PySem.W.codeIn K cd15 "need_program" = true)
    (k15 : PySem.W.keepIn K (.ref f15) = true)
    (a16 : PySem.W.nsIn K mainGlobals "is_world" = some (some (.ref f16)))
    (l16 : K.lookup f16 = some ⟨oc16, od16, .func (PySem.W.fnOf "is_world" "is_world" (defArgs s_is_world) (defBody s_is_world) (defScope s_is_world) .none kV16 dc16 pm16 an16 cd16 ct16), sl16⟩)
    (c16 : PySem.W.codeIn K cd16 "is_world" = true)
    (k16 : PySem.W.keepIn K (.ref f16) = true)
    (a17 : PySem.W.nsIn K mainGlobals "need_world" = some (some (.ref f17)))
    (l17 : K.lookup f17 = some ⟨oc17, od17, .func (PySem.W.fnOf "need_world" "need_world" (defArgs s_need_world) (defBody s_need_world) (defScope s_need_world) .none kV17 dc17 pm17 an17 cd17 ct17), sl17⟩)
    (c17 : PySem.W.codeIn K cd17 "need_world" = true)
    (k17 : PySem.W.keepIn K (.ref f17) = true)
    (a18 : PySem.W.nsIn K mainGlobals "asked_moments" = some (some (.ref f18)))
    (l18 : K.lookup f18 = some ⟨oc18, od18, .func (PySem.W.fnOf "asked_moments" "asked_moments" (defArgs s_asked_moments) (defBody s_asked_moments) (defScope s_asked_moments) .none kV18 dc18 pm18 an18 cd18 ct18), sl18⟩)
    (c18 : PySem.W.codeIn K cd18 "asked_moments" = true)
    (k18 : PySem.W.keepIn K (.ref f18) = true)
    (a19 : PySem.W.nsIn K mainGlobals "value_made" = some (some (.ref f19)))
    (l19 : K.lookup f19 = some ⟨oc19, od19, .func (PySem.W.fnOf "value_made" "value_made" (defArgs s_value_made) (defBody s_value_made) (defScope s_value_made) .none kV19 dc19 pm19 an19 cd19 ct19), sl19⟩)
    (c19 : PySem.W.codeIn K cd19 "value_made" = true)
    (k19 : PySem.W.keepIn K (.ref f19) = true)
    (a20 : PySem.W.nsIn K mainGlobals "table_ahead" = some (some (.ref f20)))
    (l20 : K.lookup f20 = some ⟨oc20, od20, .func (PySem.W.fnOf "table_ahead" "table_ahead" (defArgs s_table_ahead) (defBody s_table_ahead) (defScope s_table_ahead) .none kV20 dc20 pm20 an20 cd20 ct20), sl20⟩)
    (c20 : PySem.W.codeIn K cd20 "table_ahead" = true)
    (k20 : PySem.W.keepIn K (.ref f20) = true)
    (a21 : PySem.W.nsIn K mainGlobals "run" = some (some (.ref f21)))
    (l21 : K.lookup f21 = some ⟨oc21, od21, .func (PySem.W.fnOf "run" "run" (defArgs s_run) (defBody s_run) (defScope s_run) (.ref T21) kV21 dc21 pm21 an21 cd21 ct21), sl21⟩)
    (lT21 : K.lookup T21 = some ⟨.type "tuple", oT21, .seq #[(.int 0 tT21_0)] nT21, sT21⟩)
    (c21 : PySem.W.codeIn K cd21 "run" = true)
    (k21 : PySem.W.keepIn K (.ref f21) = true)
    (a22 : PySem.W.nsIn K mainGlobals "_law_bag_of" = some (some (.ref f22)))
    (l22 : K.lookup f22 = some ⟨oc22, od22, .func (PySem.W.fnOf "_law_bag_of" "_law_bag_of" (defArgs s__law_bag_of) (defBody s__law_bag_of) (defScope s__law_bag_of) .none kV22 dc22 pm22 an22 cd22 ct22), sl22⟩)
    (c22 : PySem.W.codeIn K cd22 "_law_bag_of" = true)
    (k22 : PySem.W.keepIn K (.ref f22) = true)
    (a23 : PySem.W.nsIn K mainGlobals "_law_pick" = some (some (.ref f23)))
    (l23 : K.lookup f23 = some ⟨oc23, od23, .func (PySem.W.fnOf "_law_pick" "_law_pick" (defArgs s__law_pick) (defBody s__law_pick) (defScope s__law_pick) .none kV23 dc23 pm23 an23 cd23 ct23), sl23⟩)
    (c23 : PySem.W.codeIn K cd23 "_law_pick" = true)
    (k23 : PySem.W.keepIn K (.ref f23) = true)
    (a24 : PySem.W.nsIn K mainGlobals "_law_any_belt" = some (some (.ref f24)))
    (l24 : K.lookup f24 = some ⟨oc24, od24, .func (PySem.W.fnOf "_law_any_belt" "_law_any_belt" (defArgs s__law_any_belt) (defBody s__law_any_belt) (defScope s__law_any_belt) .none kV24 dc24 pm24 an24 cd24 ct24), sl24⟩)
    (c24 : PySem.W.codeIn K cd24 "_law_any_belt" = true)
    (k24 : PySem.W.keepIn K (.ref f24) = true)
    (a25 : PySem.W.nsIn K mainGlobals "_law_any_belts" = some (some (.ref f25)))
    (l25 : K.lookup f25 = some ⟨oc25, od25, .func (PySem.W.fnOf "_law_any_belts" "_law_any_belts" (defArgs s__law_any_belts) (defBody s__law_any_belts) (defScope s__law_any_belts) .none kV25 dc25 pm25 an25 cd25 ct25), sl25⟩)
    (c25 : PySem.W.codeIn K cd25 "_law_any_belts" = true)
    (k25 : PySem.W.keepIn K (.ref f25) = true)
    (a26 : PySem.W.nsIn K mainGlobals "_law_spot" = some (some (.ref f26)))
    (l26 : K.lookup f26 = some ⟨oc26, od26, .func (PySem.W.fnOf "_law_spot" "_law_spot" (defArgs s__law_spot) (defBody s__law_spot) (defScope s__law_spot) .none kV26 dc26 pm26 an26 cd26 ct26), sl26⟩)
    (c26 : PySem.W.codeIn K cd26 "_law_spot" = true)
    (k26 : PySem.W.keepIn K (.ref f26) = true)
    (a27 : PySem.W.nsIn K mainGlobals "_law_minutes" = some (some (.ref f27)))
    (l27 : K.lookup f27 = some ⟨oc27, od27, .func (PySem.W.fnOf "_law_minutes" "_law_minutes" (defArgs s__law_minutes) (defBody s__law_minutes) (defScope s__law_minutes) .none kV27 dc27 pm27 an27 cd27 ct27), sl27⟩)
    (c27 : PySem.W.codeIn K cd27 "_law_minutes" = true)
    (k27 : PySem.W.keepIn K (.ref f27) = true)
    (a28 : PySem.W.nsIn K mainGlobals "_law_next_words" = some (some (.ref f28)))
    (l28 : K.lookup f28 = some ⟨oc28, od28, .func (PySem.W.fnOf "_law_next_words" "_law_next_words" (defArgs s__law_next_words) (defBody s__law_next_words) (defScope s__law_next_words) .none kV28 dc28 pm28 an28 cd28 ct28), sl28⟩)
    (c28 : PySem.W.codeIn K cd28 "_law_next_words" = true)
    (k28 : PySem.W.keepIn K (.ref f28) = true)
    (a29 : PySem.W.nsIn K mainGlobals "_law_any_rules" = some (some (.ref f29)))
    (l29 : K.lookup f29 = some ⟨oc29, od29, .func (PySem.W.fnOf "_law_any_rules" "_law_any_rules" (defArgs s__law_any_rules) (defBody s__law_any_rules) (defScope s__law_any_rules) .none kV29 dc29 pm29 an29 cd29 ct29), sl29⟩)
    (c29 : PySem.W.codeIn K cd29 "_law_any_rules" = true)
    (k29 : PySem.W.keepIn K (.ref f29) = true)
    (a30 : PySem.W.nsIn K mainGlobals "_law_any_deed" = some (some (.ref f30)))
    (l30 : K.lookup f30 = some ⟨oc30, od30, .func (PySem.W.fnOf "_law_any_deed" "_law_any_deed" (defArgs s__law_any_deed) (defBody s__law_any_deed) (defScope s__law_any_deed) .none kV30 dc30 pm30 an30 cd30 ct30), sl30⟩)
    (c30 : PySem.W.codeIn K cd30 "_law_any_deed" = true)
    (k30 : PySem.W.keepIn K (.ref f30) = true)
    (a31 : PySem.W.nsIn K mainGlobals "_law_kind_made" = some (some (.ref f31)))
    (l31 : K.lookup f31 = some ⟨oc31, od31, .func (PySem.W.fnOf "_law_kind_made" "_law_kind_made" (defArgs s__law_kind_made) (defBody s__law_kind_made) (defScope s__law_kind_made) .none kV31 dc31 pm31 an31 cd31 ct31), sl31⟩)
    (c31 : PySem.W.codeIn K cd31 "_law_kind_made" = true)
    (k31 : PySem.W.keepIn K (.ref f31) = true)
    (a32 : PySem.W.nsIn K mainGlobals "_law_kind_row" = some (some (.ref f32)))
    (l32 : K.lookup f32 = some ⟨oc32, od32, .func (PySem.W.fnOf "_law_kind_row" "_law_kind_row" (defArgs s__law_kind_row) (defBody s__law_kind_row) (defScope s__law_kind_row) .none kV32 dc32 pm32 an32 cd32 ct32), sl32⟩)
    (c32 : PySem.W.codeIn K cd32 "_law_kind_row" = true)
    (k32 : PySem.W.keepIn K (.ref f32) = true)
    (a33 : PySem.W.nsIn K mainGlobals "_law_less_room" = some (some (.ref f33)))
    (l33 : K.lookup f33 = some ⟨oc33, od33, .func (PySem.W.fnOf "_law_less_room" "_law_less_room" (defArgs s__law_less_room) (defBody s__law_less_room) (defScope s__law_less_room) .none kV33 dc33 pm33 an33 cd33 ct33), sl33⟩)
    (c33 : PySem.W.codeIn K cd33 "_law_less_room" = true)
    (k33 : PySem.W.keepIn K (.ref f33) = true)
    (a34 : PySem.W.nsIn K mainGlobals "_law_longer_plan" = some (some (.ref f34)))
    (l34 : K.lookup f34 = some ⟨oc34, od34, .func (PySem.W.fnOf "_law_longer_plan" "_law_longer_plan" (defArgs s__law_longer_plan) (defBody s__law_longer_plan) (defScope s__law_longer_plan) .none kV34 dc34 pm34 an34 cd34 ct34), sl34⟩)
    (c34 : PySem.W.codeIn K cd34 "_law_longer_plan" = true)
    (k34 : PySem.W.keepIn K (.ref f34) = true)
    (a35 : PySem.W.nsIn K mainGlobals "_law_holds" = some (some (.ref f35)))
    (l35 : K.lookup f35 = some ⟨oc35, od35, .func (PySem.W.fnOf "_law_holds" "_law_holds" (defArgs s__law_holds) (defBody s__law_holds) (defScope s__law_holds) .none kV35 dc35 pm35 an35 cd35 ct35), sl35⟩)
    (c35 : PySem.W.codeIn K cd35 "_law_holds" = true)
    (k35 : PySem.W.keepIn K (.ref f35) = true)
    (a36 : PySem.W.nsIn K mainGlobals "_law_searched" = some (some (.ref f36)))
    (l36 : K.lookup f36 = some ⟨oc36, od36, .func (PySem.W.fnOf "_law_searched" "_law_searched" (defArgs s__law_searched) (defBody s__law_searched) (defScope s__law_searched) .none kV36 dc36 pm36 an36 cd36 ct36), sl36⟩)
    (c36 : PySem.W.codeIn K cd36 "_law_searched" = true)
    (k36 : PySem.W.keepIn K (.ref f36) = true)
    (a37 : PySem.W.nsIn K mainGlobals "_law_asked_at" = some (some (.ref f37)))
    (l37 : K.lookup f37 = some ⟨oc37, od37, .func (PySem.W.fnOf "_law_asked_at" "_law_asked_at" (defArgs s__law_asked_at) (defBody s__law_asked_at) (defScope s__law_asked_at) .none kV37 dc37 pm37 an37 cd37 ct37), sl37⟩)
    (c37 : PySem.W.codeIn K cd37 "_law_asked_at" = true)
    (k37 : PySem.W.keepIn K (.ref f37) = true)
    (a38 : PySem.W.nsIn K mainGlobals "_law_worth_made" = some (some (.ref f38)))
    (l38 : K.lookup f38 = some ⟨oc38, od38, .func (PySem.W.fnOf "_law_worth_made" "_law_worth_made" (defArgs s__law_worth_made) (defBody s__law_worth_made) (defScope s__law_worth_made) .none kV38 dc38 pm38 an38 cd38 ct38), sl38⟩)
    (c38 : PySem.W.codeIn K cd38 "_law_worth_made" = true)
    (k38 : PySem.W.keepIn K (.ref f38) = true)
    (a39 : PySem.W.nsIn K mainGlobals "_law_agree" = some (some (.ref f39)))
    (l39 : K.lookup f39 = some ⟨oc39, od39, .func (PySem.W.fnOf "_law_agree" "_law_agree" (defArgs s__law_agree) (defBody s__law_agree) (defScope s__law_agree) .none kV39 dc39 pm39 an39 cd39 ct39), sl39⟩)
    (c39 : PySem.W.codeIn K cd39 "_law_agree" = true)
    (k39 : PySem.W.keepIn K (.ref f39) = true)
    (a40 : PySem.W.nsIn K mainGlobals "_law_follow" = some (some (.ref f40)))
    (l40 : K.lookup f40 = some ⟨oc40, od40, .func (PySem.W.fnOf "_law_follow" "_law_follow" (defArgs s__law_follow) (defBody s__law_follow) (defScope s__law_follow) .none kV40 dc40 pm40 an40 cd40 ct40), sl40⟩)
    (c40 : PySem.W.codeIn K cd40 "_law_follow" = true)
    (k40 : PySem.W.keepIn K (.ref f40) = true)
    (a41 : PySem.W.nsIn K mainGlobals "_law_any_chart" = some (some (.ref f41)))
    (l41 : K.lookup f41 = some ⟨oc41, od41, .func (PySem.W.fnOf "_law_any_chart" "_law_any_chart" (defArgs s__law_any_chart) (defBody s__law_any_chart) (defScope s__law_any_chart) .none kV41 dc41 pm41 an41 cd41 ct41), sl41⟩)
    (c41 : PySem.W.codeIn K cd41 "_law_any_chart" = true)
    (k41 : PySem.W.keepIn K (.ref f41) = true)
    (a42 : PySem.W.nsIn K mainGlobals "_law_any_later" = some (some (.ref f42)))
    (l42 : K.lookup f42 = some ⟨oc42, od42, .func (PySem.W.fnOf "_law_any_later" "_law_any_later" (defArgs s__law_any_later) (defBody s__law_any_later) (defScope s__law_any_later) .none kV42 dc42 pm42 an42 cd42 ct42), sl42⟩)
    (c42 : PySem.W.codeIn K cd42 "_law_any_later" = true)
    (k42 : PySem.W.keepIn K (.ref f42) = true)
    (a43 : PySem.W.nsIn K mainGlobals "_law_any_origin" = some (some (.ref f43)))
    (l43 : K.lookup f43 = some ⟨oc43, od43, .func (PySem.W.fnOf "_law_any_origin" "_law_any_origin" (defArgs s__law_any_origin) (defBody s__law_any_origin) (defScope s__law_any_origin) .none kV43 dc43 pm43 an43 cd43 ct43), sl43⟩)
    (c43 : PySem.W.codeIn K cd43 "_law_any_origin" = true)
    (k43 : PySem.W.keepIn K (.ref f43) = true)
    (a44 : PySem.W.nsIn K mainGlobals "_law_any_earth" = some (some (.ref f44)))
    (l44 : K.lookup f44 = some ⟨oc44, od44, .func (PySem.W.fnOf "_law_any_earth" "_law_any_earth" (defArgs s__law_any_earth) (defBody s__law_any_earth) (defScope s__law_any_earth) .none kV44 dc44 pm44 an44 cd44 ct44), sl44⟩)
    (c44 : PySem.W.codeIn K cd44 "_law_any_earth" = true)
    (k44 : PySem.W.keepIn K (.ref f44) = true)
    (a45 : PySem.W.nsIn K mainGlobals "_law_ran" = some (some (.ref f45)))
    (l45 : K.lookup f45 = some ⟨oc45, od45, .func (PySem.W.fnOf "_law_ran" "_law_ran" (defArgs s__law_ran) (defBody s__law_ran) (defScope s__law_ran) .none kV45 dc45 pm45 an45 cd45 ct45), sl45⟩)
    (c45 : PySem.W.codeIn K cd45 "_law_ran" = true)
    (k45 : PySem.W.keepIn K (.ref f45) = true)
    (a46 : PySem.W.nsIn K mainGlobals "_law_road" = some (some (.ref f46)))
    (l46 : K.lookup f46 = some ⟨oc46, od46, .func (PySem.W.fnOf "_law_road" "_law_road" (defArgs s__law_road) (defBody s__law_road) (defScope s__law_road) .none kV46 dc46 pm46 an46 cd46 ct46), sl46⟩)
    (c46 : PySem.W.codeIn K cd46 "_law_road" = true)
    (k46 : PySem.W.keepIn K (.ref f46) = true)
    (a47 : PySem.W.nsIn K mainGlobals "_law_ends" = some (some (.ref f47)))
    (l47 : K.lookup f47 = some ⟨oc47, od47, .func (PySem.W.fnOf "_law_ends" "_law_ends" (defArgs s__law_ends) (defBody s__law_ends) (defScope s__law_ends) .none kV47 dc47 pm47 an47 cd47 ct47), sl47⟩)
    (c47 : PySem.W.codeIn K cd47 "_law_ends" = true)
    (k47 : PySem.W.keepIn K (.ref f47) = true)
    (a48 : PySem.W.nsIn K mainGlobals "_law_back" = some (some (.ref f48)))
    (l48 : K.lookup f48 = some ⟨oc48, od48, .func (PySem.W.fnOf "_law_back" "_law_back" (defArgs s__law_back) (defBody s__law_back) (defScope s__law_back) .none kV48 dc48 pm48 an48 cd48 ct48), sl48⟩)
    (c48 : PySem.W.codeIn K cd48 "_law_back" = true)
    (k48 : PySem.W.keepIn K (.ref f48) = true)
    (a49 : PySem.W.nsIn K mainGlobals "law" = some (some (.ref f49)))
    (l49 : K.lookup f49 = some ⟨oc49, od49, .func (PySem.W.fnOf "law" "law" (defArgs s_law) (defBody s_law) (defScope s_law) .none kV49 dc49 pm49 an49 cd49 ct49), sl49⟩)
    (c49 : PySem.W.codeIn K cd49 "law" = true)
    (k49 : PySem.W.keepIn K (.ref f49) = true)
    (z0 : PySem.W.nsIn K mainGlobals "all" = some none)
    (z1 : PySem.W.nsIn K mainGlobals "bool" = some none)
    (z2 : PySem.W.nsIn K mainGlobals "enumerate" = some none)
    (z3 : PySem.W.nsIn K mainGlobals "int" = some none)
    (z4 : PySem.W.nsIn K mainGlobals "isinstance" = some none)
    (z5 : PySem.W.nsIn K mainGlobals "len" = some none)
    (z6 : PySem.W.nsIn K mainGlobals "list" = some none)
    (z7 : PySem.W.nsIn K mainGlobals "max" = some none)
    (z8 : PySem.W.nsIn K mainGlobals "min" = some none)
    (z9 : PySem.W.nsIn K mainGlobals "range" = some none)
    (z10 : PySem.W.nsIn K mainGlobals "str" = some none)
    (z11 : PySem.W.nsIn K mainGlobals "sum" = some none)
    (z12 : PySem.W.nsIn K mainGlobals "tuple" = some none)
    (v0 : PySem.W.nsIn K mainGlobals "FOLDS" = some (some (.ref Q0_1)))
    (q0_1 : K.lookup Q0_1 = some ⟨.type "tuple", none, .seq #[(.str "early" tQ0_2), (.str "late" tQ0_3), (.str "refuse" tQ0_4)] nQ0_1, sQ0_1⟩)
    (v1 : PySem.W.nsIn K mainGlobals "GAPS" = some (some (.ref Q1_1)))
    (q1_1 : K.lookup Q1_1 = some ⟨.type "tuple", none, .seq #[(.str "ahead" tQ1_2), (.str "behind" tQ1_3), (.str "refuse" tQ1_4)] nQ1_1, sQ1_1⟩)
    (v2 : PySem.W.nsIn K mainGlobals "MADE" = some (some (.ref Q2_t)))
    (tb2 : K.lookup Q2_t = some ⟨.type "dict", none, .dict #[⟨hQ2_0, (.str "read" uQ2_0), (.str "reading" tQ2_1)⟩, ⟨hQ2_1, (.str "find" uQ2_1), (.str "moment" tQ2_2)⟩, ⟨hQ2_2, (.str "offset" uQ2_2), (.str "span" tQ2_3)⟩, ⟨hQ2_3, (.str "edition" uQ2_3), (.str "moment" tQ2_4)⟩, ⟨hQ2_4, (.str "plus" uQ2_4), (.str "reading" tQ2_5)⟩, ⟨hQ2_5, (.str "less" uQ2_5), (.str "moment" tQ2_6)⟩] nQ2_t, #[]⟩)
    (hs2_0 : hQ2_0 = PyData.keyHash w.params "read")
    (hs2_1 : hQ2_1 = PyData.keyHash w.params "find")
    (hs2_2 : hQ2_2 = PyData.keyHash w.params "offset")
    (hs2_3 : hQ2_3 = PyData.keyHash w.params "edition")
    (hs2_4 : hQ2_4 = PyData.keyHash w.params "plus")
    (hs2_5 : hQ2_5 = PyData.keyHash w.params "less")
    (lw2 : (Q2_t == sysModules) = false)
    (v3 : PySem.W.nsIn K mainGlobals "MOST_MINUTES" = some (some (.int (100000) t3)))
    (v4 : PySem.W.nsIn K mainGlobals "MOST_OFFSET" = some (some (.int (900) t4)))
    (v5 : PySem.W.nsIn K mainGlobals "MOST_SPACING" = some (some (.int (1000000) t5)))
    (v6 : PySem.W.nsIn K mainGlobals "MOST_STEPS" = some (some (.int (8) t6)))
    (v7 : PySem.W.nsIn K mainGlobals "PARTS" = some (some (.ref Q7_t)))
    (tb7 : K.lookup Q7_t = some ⟨.type "dict", none, .dict #[⟨hQ7_0, (.str "read" uQ7_0), (.ref Q7_1)⟩, ⟨hQ7_1, (.str "find" uQ7_1), (.ref Q7_4)⟩, ⟨hQ7_2, (.str "offset" uQ7_2), (.ref Q7_9)⟩, ⟨hQ7_3, (.str "edition" uQ7_3), (.ref Q7_12)⟩, ⟨hQ7_4, (.str "plus" uQ7_4), (.ref Q7_15)⟩, ⟨hQ7_5, (.str "less" uQ7_5), (.ref Q7_18)⟩, ⟨hQ7_6, (.str "add" uQ7_6), (.ref Q7_21)⟩] nQ7_t, #[]⟩)
    (hs7_0 : hQ7_0 = PyData.keyHash w.params "read")
    (hs7_1 : hQ7_1 = PyData.keyHash w.params "find")
    (hs7_2 : hQ7_2 = PyData.keyHash w.params "offset")
    (hs7_3 : hQ7_3 = PyData.keyHash w.params "edition")
    (hs7_4 : hQ7_4 = PyData.keyHash w.params "plus")
    (hs7_5 : hQ7_5 = PyData.keyHash w.params "less")
    (hs7_6 : hQ7_6 = PyData.keyHash w.params "add")
    (lw7 : (Q7_t == sysModules) = false)
    (q7_1 : K.lookup Q7_1 = some ⟨.type "tuple", none, .seq #[(.str "moment" tQ7_2), (.str "place" tQ7_3)] nQ7_1, sQ7_1⟩)
    (q7_4 : K.lookup Q7_4 = some ⟨.type "tuple", none, .seq #[(.str "reading" tQ7_5), (.str "place" tQ7_6), (.str "fold" tQ7_7), (.str "gap" tQ7_8)] nQ7_4, sQ7_4⟩)
    (q7_9 : K.lookup Q7_9 = some ⟨.type "tuple", none, .seq #[(.str "moment" tQ7_10), (.str "place" tQ7_11)] nQ7_9, sQ7_9⟩)
    (q7_12 : K.lookup Q7_12 = some ⟨.type "tuple", none, .seq #[(.str "moment" tQ7_13), (.str "place" tQ7_14)] nQ7_12, sQ7_12⟩)
    (q7_15 : K.lookup Q7_15 = some ⟨.type "tuple", none, .seq #[(.str "moment" tQ7_16), (.str "span" tQ7_17)] nQ7_15, sQ7_15⟩)
    (q7_18 : K.lookup Q7_18 = some ⟨.type "tuple", none, .seq #[(.str "reading" tQ7_19), (.str "span" tQ7_20)] nQ7_18, sQ7_18⟩)
    (q7_21 : K.lookup Q7_21 = some ⟨.type "tuple", none, .seq #[(.str "point" tQ7_22), (.str "minutes" tQ7_23)] nQ7_21, sQ7_21⟩)
    (xa0 : PySem.W.nsIn K mainGlobals "InvalidNumber" = some (some (.ref C0)))
    (xq0 : PySem.W.excIn K C0 [.type "ValueError", .type "Exception", .type "BaseException", .type "object"] "ValueError.__new__" = true)
    (xk0 : PySem.W.keepIn K (.ref C0) = true)
    (xb0 : PySem.W.subIn K (.ref C0) (.type "BaseException") = some true)
    (xt0 : PySem.W.typeIn K (.ref C0) = some (.type "type"))
    (xa1 : PySem.W.nsIn K mainGlobals "InvalidProgram" = some (some (.ref C1)))
    (xq1 : PySem.W.excIn K C1 [.type "ValueError", .type "Exception", .type "BaseException", .type "object"] "ValueError.__new__" = true)
    (xk1 : PySem.W.keepIn K (.ref C1) = true)
    (xb1 : PySem.W.subIn K (.ref C1) (.type "BaseException") = some true)
    (xt1 : PySem.W.typeIn K (.ref C1) = some (.type "type"))
    (xa2 : PySem.W.nsIn K mainGlobals "InvalidWorld" = some (some (.ref C2)))
    (xq2 : PySem.W.excIn K C2 [.type "ValueError", .type "Exception", .type "BaseException", .type "object"] "ValueError.__new__" = true)
    (xk2 : PySem.W.keepIn K (.ref C2) = true)
    (xb2 : PySem.W.subIn K (.ref C2) (.type "BaseException") = some true)
    (xt2 : PySem.W.typeIn K (.ref C2) = some (.type "type"))
    (xa3 : PySem.W.nsIn K mainGlobals "InvalidZone" = some (some (.ref C3)))
    (xq3 : PySem.W.excIn K C3 [.type "ValueError", .type "Exception", .type "BaseException", .type "object"] "ValueError.__new__" = true)
    (xk3 : PySem.W.keepIn K (.ref C3) = true)
    (xb3 : PySem.W.subIn K (.ref C3) (.type "BaseException") = some true)
    (xt3 : PySem.W.typeIn K (.ref C3) = some (.type "type"))
    (xa4 : PySem.W.nsIn K mainGlobals "InvalidZones" = some (some (.ref C4)))
    (xq4 : PySem.W.excIn K C4 [.type "ValueError", .type "Exception", .type "BaseException", .type "object"] "ValueError.__new__" = true)
    (xk4 : PySem.W.keepIn K (.ref C4) = true)
    (xb4 : PySem.W.subIn K (.ref C4) (.type "BaseException") = some true)
    (xt4 : PySem.W.typeIn K (.ref C4) = some (.type "type"))
    (xa5 : PySem.W.nsIn K mainGlobals "Unsuited" = some (some (.ref C5)))
    (xq5 : PySem.W.excIn K C5 [.type "ValueError", .type "Exception", .type "BaseException", .type "object"] "ValueError.__new__" = true)
    (xk5 : PySem.W.keepIn K (.ref C5) = true)
    (xb5 : PySem.W.subIn K (.ref C5) (.type "BaseException") = some true)
    (xt5 : PySem.W.typeIn K (.ref C5) = some (.type "type"))
    (xa6 : PySem.W.nsIn K mainGlobals "Refused" = some (some (.ref C6)))
    (xf0 : PySem.W.findIn K (.ref C6) "__getattribute__" = some (some (.builtin "BaseException.__getattribute__")))
    (xf1 : PySem.W.findIn K (.ref C6) "__getattr__" = some none)
    (xf2 : PySem.W.subIn K (.ref C6) (.type "BaseException") = some true)
    (xf3 : PySem.W.hasDictIn K C6 = true)
    (xf4 : PySem.W.findIn K (.ref C6) "step" = some none)
    (xf5 : PySem.W.findIn K (.ref C0) "__getattribute__" = some (some (.builtin "BaseException.__getattribute__")))
    (xf6 : PySem.W.findIn K (.ref C0) "__getattr__" = some none)
    (xf7 : PySem.W.hasDictIn K C0 = true)
    (xf8 : PySem.W.findIn K (.ref C0) "__class__" = some (some (.builtin "object.__class__")))
    (xf9 : PySem.W.specialIn K (.builtin "object.__class__") "__get__" = some (some (.builtin "getset_descriptor.__get__")))
    (xf10 : PySem.W.takesIn K (.builtin "object.__class__") = some true)
    (xf11 : PySem.W.mroIn K C0 (.type "object") = some true)
    (xf12 : PySem.W.mroIn K C0 (.type "tuple") = some false)
    (xf13 : PySem.W.mroIn K C0 (.type "list") = some false)
    (xf14 : PySem.W.mroIn K C0 (.type "int") = some false)
    (xf15 : PySem.W.mroIn K C0 (.type "str") = some false)
    (xf16 : PySem.W.mroIn K C0 (.type "bool") = some false)
    (xf17 : PySem.W.mroIn K C0 (.type "dict") = some false)
    (xf18 : PySem.W.findIn K (.ref C1) "__getattribute__" = some (some (.builtin "BaseException.__getattribute__")))
    (xf19 : PySem.W.findIn K (.ref C1) "__getattr__" = some none)
    (xf20 : PySem.W.hasDictIn K C1 = true)
    (xf21 : PySem.W.findIn K (.ref C1) "__class__" = some (some (.builtin "object.__class__")))
    (xf22 : PySem.W.mroIn K C1 (.type "object") = some true)
    (xf23 : PySem.W.mroIn K C1 (.type "tuple") = some false)
    (xf24 : PySem.W.mroIn K C1 (.type "list") = some false)
    (xf25 : PySem.W.mroIn K C1 (.type "int") = some false)
    (xf26 : PySem.W.mroIn K C1 (.type "str") = some false)
    (xf27 : PySem.W.mroIn K C1 (.type "bool") = some false)
    (xf28 : PySem.W.mroIn K C1 (.type "dict") = some false)
    (xf29 : PySem.W.findIn K (.ref C2) "__getattribute__" = some (some (.builtin "BaseException.__getattribute__")))
    (xf30 : PySem.W.findIn K (.ref C2) "__getattr__" = some none)
    (xf31 : PySem.W.hasDictIn K C2 = true)
    (xf32 : PySem.W.findIn K (.ref C2) "__class__" = some (some (.builtin "object.__class__")))
    (xf33 : PySem.W.mroIn K C2 (.type "object") = some true)
    (xf34 : PySem.W.mroIn K C2 (.type "tuple") = some false)
    (xf35 : PySem.W.mroIn K C2 (.type "list") = some false)
    (xf36 : PySem.W.mroIn K C2 (.type "int") = some false)
    (xf37 : PySem.W.mroIn K C2 (.type "str") = some false)
    (xf38 : PySem.W.mroIn K C2 (.type "bool") = some false)
    (xf39 : PySem.W.mroIn K C2 (.type "dict") = some false)
    (xf40 : PySem.W.findIn K (.ref C3) "__getattribute__" = some (some (.builtin "BaseException.__getattribute__")))
    (xf41 : PySem.W.findIn K (.ref C3) "__getattr__" = some none)
    (xf42 : PySem.W.hasDictIn K C3 = true)
    (xf43 : PySem.W.findIn K (.ref C3) "__class__" = some (some (.builtin "object.__class__")))
    (xf44 : PySem.W.mroIn K C3 (.type "object") = some true)
    (xf45 : PySem.W.mroIn K C3 (.type "tuple") = some false)
    (xf46 : PySem.W.mroIn K C3 (.type "list") = some false)
    (xf47 : PySem.W.mroIn K C3 (.type "int") = some false)
    (xf48 : PySem.W.mroIn K C3 (.type "str") = some false)
    (xf49 : PySem.W.mroIn K C3 (.type "bool") = some false)
    (xf50 : PySem.W.mroIn K C3 (.type "dict") = some false)
    (xf51 : PySem.W.findIn K (.ref C4) "__getattribute__" = some (some (.builtin "BaseException.__getattribute__")))
    (xf52 : PySem.W.findIn K (.ref C4) "__getattr__" = some none)
    (xf53 : PySem.W.hasDictIn K C4 = true)
    (xf54 : PySem.W.findIn K (.ref C4) "__class__" = some (some (.builtin "object.__class__")))
    (xf55 : PySem.W.mroIn K C4 (.type "object") = some true)
    (xf56 : PySem.W.mroIn K C4 (.type "tuple") = some false)
    (xf57 : PySem.W.mroIn K C4 (.type "list") = some false)
    (xf58 : PySem.W.mroIn K C4 (.type "int") = some false)
    (xf59 : PySem.W.mroIn K C4 (.type "str") = some false)
    (xf60 : PySem.W.mroIn K C4 (.type "bool") = some false)
    (xf61 : PySem.W.mroIn K C4 (.type "dict") = some false)
    (xf62 : PySem.W.findIn K (.ref C6) "__class__" = some (some (.builtin "object.__class__")))
    (xf63 : PySem.W.mroIn K C6 (.type "object") = some true)
    (xf64 : PySem.W.mroIn K C6 (.type "tuple") = some false)
    (xf65 : PySem.W.mroIn K C6 (.type "list") = some false)
    (xf66 : PySem.W.mroIn K C6 (.type "int") = some false)
    (xf67 : PySem.W.mroIn K C6 (.type "str") = some false)
    (xf68 : PySem.W.mroIn K C6 (.type "bool") = some false)
    (xf69 : PySem.W.mroIn K C6 (.type "dict") = some false)
    (xf70 : PySem.W.findIn K (.ref C5) "__getattribute__" = some (some (.builtin "BaseException.__getattribute__")))
    (xf71 : PySem.W.findIn K (.ref C5) "__getattr__" = some none)
    (xf72 : PySem.W.hasDictIn K C5 = true)
    (xf73 : PySem.W.findIn K (.ref C5) "__class__" = some (some (.builtin "object.__class__")))
    (xf74 : PySem.W.mroIn K C5 (.type "object") = some true)
    (xf75 : PySem.W.mroIn K C5 (.type "tuple") = some false)
    (xf76 : PySem.W.mroIn K C5 (.type "list") = some false)
    (xf77 : PySem.W.mroIn K C5 (.type "int") = some false)
    (xf78 : PySem.W.mroIn K C5 (.type "str") = some false)
    (xf79 : PySem.W.mroIn K C5 (.type "bool") = some false)
    (xf80 : PySem.W.mroIn K C5 (.type "dict") = some false)
    (xf81 : PySem.W.typeIn K (.ref C6) = some (.type "type"))
    (xf82 : PySem.W.subIn K (.ref C0) (.ref C6) = some false)
    (xf83 : PySem.W.subIn K (.ref C1) (.ref C6) = some false)
    (xf84 : PySem.W.subIn K (.ref C2) (.ref C6) = some false)
    (xf85 : PySem.W.subIn K (.ref C3) (.ref C6) = some false)
    (xf86 : PySem.W.subIn K (.ref C4) (.ref C6) = some false)
    (xf87 : PySem.W.subIn K (.ref C6) (.ref C6) = some true)
    (xf88 : PySem.W.subIn K (.ref C5) (.ref C6) = some false)
    (xf89 : PySem.W.subIn K (.ref C0) (.ref C5) = some false)
    (xf90 : PySem.W.subIn K (.ref C1) (.ref C5) = some false)
    (xf91 : PySem.W.subIn K (.ref C2) (.ref C5) = some false)
    (xf92 : PySem.W.subIn K (.ref C3) (.ref C5) = some false)
    (xf93 : PySem.W.subIn K (.ref C4) (.ref C5) = some false)
    (xf94 : PySem.W.subIn K (.ref C6) (.ref C5) = some false)
    (xf95 : PySem.W.subIn K (.ref C5) (.ref C5) = some true)
    (xa7 : PySem.W.nsIn K mainGlobals "HourError" = some (some (.ref C7)))
    (xL6 : K.lookup C6 = some (excClassObj nm_6 q_6 C6 N_6 bs_6 bm_6 true sn_6 sub_6 ab_6 col_6 dd_6 m0_6 m1_6 m2_6 m3_6 m5_6 "ValueError.__new__"))
    (rb6 : PySem.HandSPX.refsVE bm_6 = true)
    (xf96 : PySem.W.findIn K (.ref C6) "__init__" = some (some (.ref fI_6)))
    (xf97 : PySem.W.typeIn K (.ref fI_6) = some (.type "function"))
    (lI6 : K.lookup fI_6 = some ⟨oI_6, odI_6, .func (PySem.W.fnOf "__init__" "Refused.__init__" (defArgs si_Refused) (defBody si_Refused) (defScope si_Refused) .none kVI_6 dcI_6 pmI_6 anI_6 cdI_6 ctI_6), slI_6⟩)
    (cI6 : PySem.W.codeIn K cdI_6 "Refused.__init__" = true)
    (xf98 : PySem.W.keepIn K (.ref fI_6) = true)
    (xf99 : PySem.W.readsIn K C7 (.type "type") = true)
    (xf100 : PySem.W.specialIn K (.ref C7) "__getattribute__" = some (some (.builtin "type.__getattribute__")))
    (xf101 : PySem.W.findCls K (.ref C7) (.type "type") "__init__" = some (.val (.builtin "ValueError.__init__")))
    (xf102 : PySem.W.findIn K (.ref C6) "__setattr__" = some (some (.builtin "object.__setattr__")))
    (xf103 : PySem.W.keepIn K (.ref C6) = true) :
    ∃ fd : FuncData, (∀ (s : Shared) (v : Value), BindsTo s fd ⟨[v], []⟩ [("_law_script", v)]) ∧ ∀ base : Heap, K.In base → base.Ns mainGlobals mg → FnOk l.prog w K mg base (L2.CX l.prog w) 9 fa fd ["_law_script"] (spLaw K) := by
  have e := hfa.symm.trans (PySem.W.mg_of X G a49)
  cases e
  have T : Txt K mg w := ⟨PySem.W.mg_none_of X G z0, PySem.W.mg_none_of X G z1, PySem.W.mg_none_of X G z2, PySem.W.mg_none_of X G z3, PySem.W.mg_none_of X G z4, PySem.W.mg_none_of X G z5, PySem.W.mg_none_of X G z6, PySem.W.mg_none_of X G z7, PySem.W.mg_none_of X G z8, PySem.W.mg_none_of X G z9, PySem.W.mg_none_of X G z10, PySem.W.mg_none_of X G z11, PySem.W.mg_none_of X G z12, ⟨_, _, PySem.W.mg_of X G v0, rvR, (.tup (kt_mk q0_1 (Nat.le_of_ble_eq_true rfl) (.cons rvS (.cons rvS (.cons rvS .nil)))) (.cons (.str _) (.cons (.str _) (.cons (.str _) .nil))))⟩, ⟨_, _, PySem.W.mg_of X G v1, rvR, (.tup (kt_mk q1_1 (Nat.le_of_ble_eq_true rfl) (.cons rvS (.cons rvS (.cons rvS .nil)))) (.cons (.str _) (.cons (.str _) (.cons (.str _) .nil))))⟩, ⟨_, _, _, PySem.W.mg_of X G v2, tb2, lw2, (.cons rfl hs2_0 rvS (.str _) (.cons rfl hs2_1 rvS (.str _) (.cons rfl hs2_2 rvS (.str _) (.cons rfl hs2_3 rvS (.str _) (.cons rfl hs2_4 rvS (.str _) (.cons rfl hs2_5 rvS (.str _) .nil))))))⟩, ⟨t3, PySem.W.mg_of X G v3⟩, ⟨t4, PySem.W.mg_of X G v4⟩, ⟨t5, PySem.W.mg_of X G v5⟩, ⟨t6, PySem.W.mg_of X G v6⟩, ⟨_, _, _, PySem.W.mg_of X G v7, tb7, lw7, (.cons rfl hs7_0 rvR (.tup (kt_mk q7_1 (Nat.le_of_ble_eq_true rfl) (.cons rvS (.cons rvS .nil))) (.cons (.str _) (.cons (.str _) .nil))) (.cons rfl hs7_1 rvR (.tup (kt_mk q7_4 (Nat.le_of_ble_eq_true rfl) (.cons rvS (.cons rvS (.cons rvS (.cons rvS .nil))))) (.cons (.str _) (.cons (.str _) (.cons (.str _) (.cons (.str _) .nil))))) (.cons rfl hs7_2 rvR (.tup (kt_mk q7_9 (Nat.le_of_ble_eq_true rfl) (.cons rvS (.cons rvS .nil))) (.cons (.str _) (.cons (.str _) .nil))) (.cons rfl hs7_3 rvR (.tup (kt_mk q7_12 (Nat.le_of_ble_eq_true rfl) (.cons rvS (.cons rvS .nil))) (.cons (.str _) (.cons (.str _) .nil))) (.cons rfl hs7_4 rvR (.tup (kt_mk q7_15 (Nat.le_of_ble_eq_true rfl) (.cons rvS (.cons rvS .nil))) (.cons (.str _) (.cons (.str _) .nil))) (.cons rfl hs7_5 rvR (.tup (kt_mk q7_18 (Nat.le_of_ble_eq_true rfl) (.cons rvS (.cons rvS .nil))) (.cons (.str _) (.cons (.str _) .nil))) (.cons rfl hs7_6 rvR (.tup (kt_mk q7_21 (Nat.le_of_ble_eq_true rfl) (.cons rvS (.cons rvS .nil))) (.cons (.str _) (.cons (.str _) .nil))) .nil)))))))⟩, ⟨C0, PySem.W.mg_of X G xa0, xq0, xk0, xb0, xt0⟩, ⟨C1, PySem.W.mg_of X G xa1, xq1, xk1, xb1, xt1⟩, ⟨C2, PySem.W.mg_of X G xa2, xq2, xk2, xb2, xt2⟩, ⟨C3, PySem.W.mg_of X G xa3, xq3, xk3, xb3, xt3⟩, ⟨C4, PySem.W.mg_of X G xa4, xq4, xk4, xb4, xt4⟩, ⟨C5, PySem.W.mg_of X G xa5, xq5, xk5, xb5, xt5⟩, ⟨C6, (PySem.W.mg_of X G xa6), ⟨xf0, xf1, xf2, xf3⟩, xf4⟩, ⟨(List.forall_mem_cons.mpr ⟨⟨_, (PySem.W.mg_of X G xa0), C0, rfl, ⟨xf5, xf6, xb0, xf7, xf8, xf9, xf10, xf11⟩, (List.forall_mem_cons.mpr ⟨(kit_plain (by decide +kernel) xf12), (List.forall_mem_cons.mpr ⟨(kit_plain (by decide +kernel) xf13), (List.forall_mem_cons.mpr ⟨(kit_plain (by decide +kernel) xf14), (List.forall_mem_cons.mpr ⟨(kit_plain (by decide +kernel) xf15), (List.forall_mem_cons.mpr ⟨(kit_plain (by decide +kernel) xf16), (List.forall_mem_cons.mpr ⟨(kit_plain (by decide +kernel) xf17), (fun _ z => absurd z List.not_mem_nil)⟩)⟩)⟩)⟩)⟩)⟩)⟩, (List.forall_mem_cons.mpr ⟨⟨_, (PySem.W.mg_of X G xa1), C1, rfl, ⟨xf18, xf19, xb1, xf20, xf21, xf9, xf10, xf22⟩, (List.forall_mem_cons.mpr ⟨(kit_plain (by decide +kernel) xf23), (List.forall_mem_cons.mpr ⟨(kit_plain (by decide +kernel) xf24), (List.forall_mem_cons.mpr ⟨(kit_plain (by decide +kernel) xf25), (List.forall_mem_cons.mpr ⟨(kit_plain (by decide +kernel) xf26), (List.forall_mem_cons.mpr ⟨(kit_plain (by decide +kernel) xf27), (List.forall_mem_cons.mpr ⟨(kit_plain (by decide +kernel) xf28), (fun _ z => absurd z List.not_mem_nil)⟩)⟩)⟩)⟩)⟩)⟩)⟩, (List.forall_mem_cons.mpr ⟨⟨_, (PySem.W.mg_of X G xa2), C2, rfl, ⟨xf29, xf30, xb2, xf31, xf32, xf9, xf10, xf33⟩, (List.forall_mem_cons.mpr ⟨(kit_plain (by decide +kernel) xf34), (List.forall_mem_cons.mpr ⟨(kit_plain (by decide +kernel) xf35), (List.forall_mem_cons.mpr ⟨(kit_plain (by decide +kernel) xf36), (List.forall_mem_cons.mpr ⟨(kit_plain (by decide +kernel) xf37), (List.forall_mem_cons.mpr ⟨(kit_plain (by decide +kernel) xf38), (List.forall_mem_cons.mpr ⟨(kit_plain (by decide +kernel) xf39), (fun _ z => absurd z List.not_mem_nil)⟩)⟩)⟩)⟩)⟩)⟩)⟩, (List.forall_mem_cons.mpr ⟨⟨_, (PySem.W.mg_of X G xa3), C3, rfl, ⟨xf40, xf41, xb3, xf42, xf43, xf9, xf10, xf44⟩, (List.forall_mem_cons.mpr ⟨(kit_plain (by decide +kernel) xf45), (List.forall_mem_cons.mpr ⟨(kit_plain (by decide +kernel) xf46), (List.forall_mem_cons.mpr ⟨(kit_plain (by decide +kernel) xf47), (List.forall_mem_cons.mpr ⟨(kit_plain (by decide +kernel) xf48), (List.forall_mem_cons.mpr ⟨(kit_plain (by decide +kernel) xf49), (List.forall_mem_cons.mpr ⟨(kit_plain (by decide +kernel) xf50), (fun _ z => absurd z List.not_mem_nil)⟩)⟩)⟩)⟩)⟩)⟩)⟩, (List.forall_mem_cons.mpr ⟨⟨_, (PySem.W.mg_of X G xa4), C4, rfl, ⟨xf51, xf52, xb4, xf53, xf54, xf9, xf10, xf55⟩, (List.forall_mem_cons.mpr ⟨(kit_plain (by decide +kernel) xf56), (List.forall_mem_cons.mpr ⟨(kit_plain (by decide +kernel) xf57), (List.forall_mem_cons.mpr ⟨(kit_plain (by decide +kernel) xf58), (List.forall_mem_cons.mpr ⟨(kit_plain (by decide +kernel) xf59), (List.forall_mem_cons.mpr ⟨(kit_plain (by decide +kernel) xf60), (List.forall_mem_cons.mpr ⟨(kit_plain (by decide +kernel) xf61), (fun _ z => absurd z List.not_mem_nil)⟩)⟩)⟩)⟩)⟩)⟩)⟩, (List.forall_mem_cons.mpr ⟨⟨_, (PySem.W.mg_of X G xa6), C6, rfl, ⟨xf0, xf1, xf2, xf3, xf62, xf9, xf10, xf63⟩, (List.forall_mem_cons.mpr ⟨(kit_plain (by decide +kernel) xf64), (List.forall_mem_cons.mpr ⟨(kit_plain (by decide +kernel) xf65), (List.forall_mem_cons.mpr ⟨(kit_plain (by decide +kernel) xf66), (List.forall_mem_cons.mpr ⟨(kit_plain (by decide +kernel) xf67), (List.forall_mem_cons.mpr ⟨(kit_plain (by decide +kernel) xf68), (List.forall_mem_cons.mpr ⟨(kit_plain (by decide +kernel) xf69), (fun _ z => absurd z List.not_mem_nil)⟩)⟩)⟩)⟩)⟩)⟩)⟩, (List.forall_mem_cons.mpr ⟨⟨_, (PySem.W.mg_of X G xa5), C5, rfl, ⟨xf70, xf71, xb5, xf72, xf73, xf9, xf10, xf74⟩, (List.forall_mem_cons.mpr ⟨(kit_plain (by decide +kernel) xf75), (List.forall_mem_cons.mpr ⟨(kit_plain (by decide +kernel) xf76), (List.forall_mem_cons.mpr ⟨(kit_plain (by decide +kernel) xf77), (List.forall_mem_cons.mpr ⟨(kit_plain (by decide +kernel) xf78), (List.forall_mem_cons.mpr ⟨(kit_plain (by decide +kernel) xf79), (List.forall_mem_cons.mpr ⟨(kit_plain (by decide +kernel) xf80), (fun _ z => absurd z List.not_mem_nil)⟩)⟩)⟩)⟩)⟩)⟩)⟩, (fun _ z => absurd z List.not_mem_nil)⟩)⟩)⟩)⟩)⟩)⟩)⟩)⟩, ⟨_, (PySem.W.mg_of X G xa6), (List.forall_mem_cons.mpr ⟨⟨_, (PySem.W.mg_of X G xa0), (PySem.W.exm_ref xf2 xf3 xf81 xf82).trans (by decide +kernel)⟩, (List.forall_mem_cons.mpr ⟨⟨_, (PySem.W.mg_of X G xa1), (PySem.W.exm_ref xf2 xf3 xf81 xf83).trans (by decide +kernel)⟩, (List.forall_mem_cons.mpr ⟨⟨_, (PySem.W.mg_of X G xa2), (PySem.W.exm_ref xf2 xf3 xf81 xf84).trans (by decide +kernel)⟩, (List.forall_mem_cons.mpr ⟨⟨_, (PySem.W.mg_of X G xa3), (PySem.W.exm_ref xf2 xf3 xf81 xf85).trans (by decide +kernel)⟩, (List.forall_mem_cons.mpr ⟨⟨_, (PySem.W.mg_of X G xa4), (PySem.W.exm_ref xf2 xf3 xf81 xf86).trans (by decide +kernel)⟩, (List.forall_mem_cons.mpr ⟨⟨_, (PySem.W.mg_of X G xa6), (PySem.W.exm_ref xf2 xf3 xf81 xf87).trans (by decide +kernel)⟩, (List.forall_mem_cons.mpr ⟨⟨_, (PySem.W.mg_of X G xa5), (PySem.W.exm_ref xf2 xf3 xf81 xf88).trans (by decide +kernel)⟩, (fun _ z => absurd z List.not_mem_nil)⟩)⟩)⟩)⟩)⟩)⟩)⟩)⟩, ⟨_, (PySem.W.mg_of X G xa5), (List.forall_mem_cons.mpr ⟨⟨_, (PySem.W.mg_of X G xa0), (PySem.W.exm_ref xb5 xf72 xt5 xf89).trans (by decide +kernel)⟩, (List.forall_mem_cons.mpr ⟨⟨_, (PySem.W.mg_of X G xa1), (PySem.W.exm_ref xb5 xf72 xt5 xf90).trans (by decide +kernel)⟩, (List.forall_mem_cons.mpr ⟨⟨_, (PySem.W.mg_of X G xa2), (PySem.W.exm_ref xb5 xf72 xt5 xf91).trans (by decide +kernel)⟩, (List.forall_mem_cons.mpr ⟨⟨_, (PySem.W.mg_of X G xa3), (PySem.W.exm_ref xb5 xf72 xt5 xf92).trans (by decide +kernel)⟩, (List.forall_mem_cons.mpr ⟨⟨_, (PySem.W.mg_of X G xa4), (PySem.W.exm_ref xb5 xf72 xt5 xf93).trans (by decide +kernel)⟩, (List.forall_mem_cons.mpr ⟨⟨_, (PySem.W.mg_of X G xa6), (PySem.W.exm_ref xb5 xf72 xt5 xf94).trans (by decide +kernel)⟩, (List.forall_mem_cons.mpr ⟨⟨_, (PySem.W.mg_of X G xa5), (PySem.W.exm_ref xb5 xf72 xt5 xf95).trans (by decide +kernel)⟩, (fun _ z => absurd z List.not_mem_nil)⟩)⟩)⟩)⟩)⟩)⟩)⟩)⟩⟩
  have F0 := fun_mk (st := s_is_integer) l0 c0 k0
  have F1 := fun_mk (st := s_is_zone) l1 c1 k1
  have F2 := fun_mk (st := s_is_zones) l2 c2 k2
  have F3 := fun_mk (st := s_need_zone) l3 c3 k3
  have F4 := fun_mk (st := s_need_zones) l4 c4 k4
  have F5 := fun_mk (st := s_need_number) l5 c5 k5
  have F6 := fun_mk (st := s_is_offset) l6 c6 k6
  have F7 := fun_mk (st := s_is_mark) l7 c7 k7
  have F8 := fun_mk (st := s_is_table) l8 c8 k8
  have F9 := fun_mk (st := s_offset_in) l9 c9 k9
  have F10 := fun_mk (st := s_found_by) l10 c10 k10
  have F11 := fun_mk (st := s_is_part) l11 c11 k11
  have F12 := fun_mk (st := s_is_step) l12 c12 k12
  have F13 := fun_mk (st := s_kind_made) l13 c13 k13
  have F14 := fun_mk (st := s_is_program) l14 c14 k14
  have F15 := fun_mk (st := s_need_program) l15 c15 k15
  have F16 := fun_mk (st := s_is_world) l16 c16 k16
  have F17 := fun_mk (st := s_need_world) l17 c17 k17
  have F18 := fun_mk (st := s_asked_moments) l18 c18 k18
  have F19 := fun_mk (st := s_value_made) l19 c19 k19
  have F20 := fun_mk (st := s_table_ahead) l20 c20 k20
  have F21 : FunD K "run" "run" (defArgs s_run) (defBody s_run) (defScope s_run) [(V.int 0)] [] f21 _ := ⟨⟨_, _, _, _, _, _, _, _, _, _, rfl, l21, c21, .inr ⟨List.cons_ne_nil _ _, T21, _, _, _, rfl, lT21, rfl, (.cons rvI .nil)⟩, .inl rfl⟩, k21⟩
  have F22 := fun_mk (st := s__law_bag_of) l22 c22 k22
  have F23 := fun_mk (st := s__law_pick) l23 c23 k23
  have F24 := fun_mk (st := s__law_any_belt) l24 c24 k24
  have F25 := fun_mk (st := s__law_any_belts) l25 c25 k25
  have F26 := fun_mk (st := s__law_spot) l26 c26 k26
  have F27 := fun_mk (st := s__law_minutes) l27 c27 k27
  have F28 := fun_mk (st := s__law_next_words) l28 c28 k28
  have F29 := fun_mk (st := s__law_any_rules) l29 c29 k29
  have F30 := fun_mk (st := s__law_any_deed) l30 c30 k30
  have F31 := fun_mk (st := s__law_kind_made) l31 c31 k31
  have F32 := fun_mk (st := s__law_kind_row) l32 c32 k32
  have F33 := fun_mk (st := s__law_less_room) l33 c33 k33
  have F34 := fun_mk (st := s__law_longer_plan) l34 c34 k34
  have F35 := fun_mk (st := s__law_holds) l35 c35 k35
  have F36 := fun_mk (st := s__law_searched) l36 c36 k36
  have F37 := fun_mk (st := s__law_asked_at) l37 c37 k37
  have F38 := fun_mk (st := s__law_worth_made) l38 c38 k38
  have F39 := fun_mk (st := s__law_agree) l39 c39 k39
  have F40 := fun_mk (st := s__law_follow) l40 c40 k40
  have F41 := fun_mk (st := s__law_any_chart) l41 c41 k41
  have F42 := fun_mk (st := s__law_any_later) l42 c42 k42
  have F43 := fun_mk (st := s__law_any_origin) l43 c43 k43
  have F44 := fun_mk (st := s__law_any_earth) l44 c44 k44
  have F45 := fun_mk (st := s__law_ran) l45 c45 k45
  have F46 := fun_mk (st := s__law_road) l46 c46 k46
  have F47 := fun_mk (st := s__law_ends) l47 c47 k47
  have F48 := fun_mk (st := s__law_back) l48 c48 k48
  have F49 := fun_mk (st := s_law) l49 c49 k49
  refine ⟨PySem.W.fnOf "law" "law" (defArgs s_law) (defBody s_law) (defScope s_law) .none kV49 dc49 pm49 an49 cd49 ct49, fun s v => .of_eq rfl, fun base _ _ => ?_⟩
  have HI_Refused : HiOk K mg "HourError" := ⟨C7, .type "type", (PySem.W.mg_of X G xa7), xf99, xf100, xf101⟩
  have FI_Refused := fun_mk (st := si_Refused) lI6 cI6 xf98
  have GI_Refused : XiOk l.prog w K mg base 1 "Refused" ["step"] := xi_mk1 (msg := "a find is refused") (PySem.W.mg_of X G xa6) ⟨⟨_, _, _, _, _, _, _, _, _, _, _, _, _, _, _, xL6, rb6⟩, xf102, xf2, xf81, xf103⟩ xf96 xf97 FI_Refused (FI_Refused.binds fun _ _ _ _ _ _ us hl => match us, hl with | [_, _], _ => rfl) sci_Refused xf4 (fun cdv A outer s H E => pss_cons (ps_expr (pe_hinit rfl HI_Refused (pa_cons (pv 0) (pa_cons pe_str pa_nil)))) (pss_one (ps_ost (pv 0) (pv 1))))
  have G_is_integer := fn_is_integer (P := l.prog) (w := w) (base := base) T (PySem.W.mg_of X G a0) F0  
  have G_is_zone := fn_is_zone (P := l.prog) (w := w) (base := base) T (PySem.W.mg_of X G a1) F1  G_is_integer
  have G_is_zones := fn_is_zones (P := l.prog) (w := w) (base := base) T (PySem.W.mg_of X G a2) F2  G_is_zone
  have G_need_zone := fn_need_zone (P := l.prog) (w := w) (base := base) T (PySem.W.mg_of X G a3) F3  G_is_zone
  have G_need_zones := fn_need_zones (P := l.prog) (w := w) (base := base) T (PySem.W.mg_of X G a4) F4  G_is_zones
  have G_need_number := fn_need_number (P := l.prog) (w := w) (base := base) T (PySem.W.mg_of X G a5) F5  G_is_integer
  have G_is_offset := fn_is_offset (P := l.prog) (w := w) (base := base) T (PySem.W.mg_of X G a6) F6  G_is_integer
  have G_is_mark := fn_is_mark (P := l.prog) (w := w) (base := base) T (PySem.W.mg_of X G a7) F7  G_is_integer G_is_offset
  have G_is_table := fn_is_table (P := l.prog) (w := w) (base := base) T (PySem.W.mg_of X G a8) F8  G_is_mark G_is_offset G_need_zone
  have G_offset_in := fn_offset_in (P := l.prog) (w := w) (base := base) T (PySem.W.mg_of X G a9) F9  
  have G_found_by := fn_found_by (P := l.prog) (w := w) (base := base) T (PySem.W.mg_of X G a10) F10  
  have G_is_part := fn_is_part (P := l.prog) (w := w) (base := base) T (PySem.W.mg_of X G a11) F11  G_is_integer
  have G_is_step := fn_is_step (P := l.prog) (w := w) (base := base) T (PySem.W.mg_of X G a12) F12  G_is_part
  have G_kind_made := fn_kind_made (P := l.prog) (w := w) (base := base) T (PySem.W.mg_of X G a13) F13  
  have G_is_program := fn_is_program (P := l.prog) (w := w) (base := base) T (PySem.W.mg_of X G a14) F14  G_kind_made G_is_step G_need_zones
  have G_need_program := fn_need_program (P := l.prog) (w := w) (base := base) T (PySem.W.mg_of X G a15) F15  G_is_program
  have G_is_world := fn_is_world (P := l.prog) (w := w) (base := base) T (PySem.W.mg_of X G a16) F16  G_is_table G_need_zones
  have G_need_world := fn_need_world (P := l.prog) (w := w) (base := base) T (PySem.W.mg_of X G a17) F17  G_is_world
  have G_asked_moments := fn_asked_moments (P := l.prog) (w := w) (base := base) T (PySem.W.mg_of X G a18) F18  
  have G_value_made := fn_value_made (P := l.prog) (w := w) (base := base) T (PySem.W.mg_of X G a19) F19  G_found_by
  have G_table_ahead := fn_table_ahead (P := l.prog) (w := w) (base := base) T (PySem.W.mg_of X G a20) F20  
  have G_run := fn_run (P := l.prog) (w := w) (base := base) T (PySem.W.mg_of X G a21) F21  G_value_made G_offset_in G_asked_moments G_table_ahead G_need_number G_need_world G_need_program G_need_zones GI_Refused
  have G__law_bag_of := fn__law_bag_of (P := l.prog) (w := w) (base := base) T (PySem.W.mg_of X G a22) F22  
  have G__law_pick := fn__law_pick (P := l.prog) (w := w) (base := base) T (PySem.W.mg_of X G a23) F23  
  have G__law_any_belt := fn__law_any_belt (P := l.prog) (w := w) (base := base) T (PySem.W.mg_of X G a24) F24  G__law_pick
  have G__law_any_belts := fn__law_any_belts (P := l.prog) (w := w) (base := base) T (PySem.W.mg_of X G a25) F25  G__law_pick G__law_any_belt
  have G__law_spot := fn__law_spot (P := l.prog) (w := w) (base := base) T (PySem.W.mg_of X G a26) F26  G__law_pick
  have G__law_minutes := fn__law_minutes (P := l.prog) (w := w) (base := base) T (PySem.W.mg_of X G a27) F27  G__law_pick
  have G__law_next_words := fn__law_next_words (P := l.prog) (w := w) (base := base) T (PySem.W.mg_of X G a28) F28  
  have G__law_any_rules := fn__law_any_rules (P := l.prog) (w := w) (base := base) T (PySem.W.mg_of X G a29) F29  G__law_pick
  have G__law_any_deed := fn__law_any_deed (P := l.prog) (w := w) (base := base) T (PySem.W.mg_of X G a30) F30  G__law_spot G__law_any_rules G__law_pick G__law_minutes G__law_next_words
  have G__law_kind_made := fn__law_kind_made (P := l.prog) (w := w) (base := base) T (PySem.W.mg_of X G a31) F31  
  have G__law_kind_row := fn__law_kind_row (P := l.prog) (w := w) (base := base) T (PySem.W.mg_of X G a32) F32  G__law_kind_made
  have G__law_less_room := fn__law_less_room (P := l.prog) (w := w) (base := base) T (PySem.W.mg_of X G a33) F33  
  have G__law_longer_plan := fn__law_longer_plan (P := l.prog) (w := w) (base := base) T (PySem.W.mg_of X G a34) F34  G__law_less_room G__law_any_deed G__law_kind_row
  have G__law_holds := fn__law_holds (P := l.prog) (w := w) (base := base) T (PySem.W.mg_of X G a35) F35  
  have G__law_searched := fn__law_searched (P := l.prog) (w := w) (base := base) T (PySem.W.mg_of X G a36) F36  G__law_holds
  have G__law_asked_at := fn__law_asked_at (P := l.prog) (w := w) (base := base) T (PySem.W.mg_of X G a37) F37  
  have G__law_worth_made := fn__law_worth_made (P := l.prog) (w := w) (base := base) T (PySem.W.mg_of X G a38) F38  G__law_holds G__law_searched
  have G__law_agree := fn__law_agree (P := l.prog) (w := w) (base := base) T (PySem.W.mg_of X G a39) F39  G__law_holds
  have G__law_follow := fn__law_follow (P := l.prog) (w := w) (base := base) T (PySem.W.mg_of X G a40) F40  G__law_worth_made G__law_agree G__law_holds G__law_asked_at
  have G__law_any_chart := fn__law_any_chart (P := l.prog) (w := w) (base := base) T (PySem.W.mg_of X G a41) F41  G__law_pick
  have G__law_any_later := fn__law_any_later (P := l.prog) (w := w) (base := base) T (PySem.W.mg_of X G a42) F42  G__law_pick
  have G__law_any_origin := fn__law_any_origin (P := l.prog) (w := w) (base := base) T (PySem.W.mg_of X G a43) F43  G__law_pick
  have G__law_any_earth := fn__law_any_earth (P := l.prog) (w := w) (base := base) T (PySem.W.mg_of X G a44) F44  G__law_any_later G__law_follow G__law_any_chart
  have G__law_ran := fn__law_ran (P := l.prog) (w := w) (base := base) T (PySem.W.mg_of X G a45) F45  G_run
  have G__law_road := fn__law_road (P := l.prog) (w := w) (base := base) T (PySem.W.mg_of X G a46) F46  G__law_pick G__law_any_rules G__law_minutes G__law_spot G__law_kind_row G__law_longer_plan
  have G__law_ends := fn__law_ends (P := l.prog) (w := w) (base := base) T (PySem.W.mg_of X G a47) F47  G__law_holds
  have G__law_back := fn__law_back (P := l.prog) (w := w) (base := base) T (PySem.W.mg_of X G a48) F48  G__law_ends
  have G_law := fn_law (P := l.prog) (w := w) (base := base) T (PySem.W.mg_of X G a49) F49  G__law_holds G__law_follow G__law_back G__law_ran G__law_any_earth G__law_any_origin G__law_road G__law_pick G__law_any_belts G__law_bag_of
  exact law_ok (PySem.W.mg_of X G a49) F49 G_law hlaw
theorem walk {l : PySem.W.OpenLaw} {q : Program} {loose : List Str} {XP : (Str → Option Value) → Heap → Prop} {YP : World → Heap → Prop} {d : DefRec} {K : Params → Frag} (hn : l.most = some 63) (hdf : d.params.defaults = [])
    (hY : ∀ (w : World) (h : Heap), YP w h → (K w.params).In h)
    (F : ∀ (w : World) (mg : Str → Option Value) (fa : Addr) (h : Heap), (K w.params).In h → h.Ns mainGlobals mg → mg d.name = some (.ref fa) →
      ∃ fd : FuncData, (∀ (s : Shared) (u : Value), BindsTo s fd ⟨[u], []⟩ [("_law_script", u)]) ∧ ∀ base : Heap, (K w.params).In base → base.Ns mainGlobals mg → FnOk l.prog w (K w.params) mg base (L2.CX l.prog w) 9 fa fd ["_law_script"] (spLaw (K w.params))) :
    PySem.W.WalkO q loose XP YP l.row.toRowW d [] (fun f vs => PySem.call f vs) :=
  L2.walk_of (n := 63) (k := 9) (x := "_law_script") (CX := fun w => L2.CX l.prog w) (sp := fun w => spLaw (K w.params)) hn (by decide) hdf ⟨rfl, by decide, by decide⟩ hY F (fun _ _ a ns hl _ hS => ⟨a, ns, rfl, hS, hl, fun _ => rfl⟩) fun _ _ _ _ _ z => cx_no z
end V
-- text HmBase
namespace Dm
open PySem L2
/-- a pot of digits stands at p -/
def Pot (p : Nat) (S : Sto) : Prop := ∃ k : Int, S[p]? = some (.lst [.int k])
/-- from S to S': the pot at p has turned, cells have come, all else is as it was -/
structure Go (p : Nat) (S S' : Sto) : Prop where
  len : S.length ≤ S'.length
  same : ∀ n, n < S.length → n ≠ p → S'[n]? = S[n]?
  pot : Pot p S'
theorem Pot.lt {p : Nat} {S : Sto} (h : Pot p S) : p < S.length := by
  obtain ⟨k, e⟩ := h
  exact (List.getElem?_eq_some_iff.mp e).1
theorem Go.refl {p : Nat} {S : Sto} (h : Pot p S) : Go p S S := ⟨Nat.le_refl _, fun _ _ _ => rfl, h⟩
theorem Go.trans {p : Nat} {S S1 S2 : Sto} (a : Go p S S1) (b : Go p S1 S2) : Go p S S2 :=
  ⟨Nat.le_trans a.len b.len, fun n h hn => (b.same n (Nat.lt_of_lt_of_le h a.len) hn).trans (a.same n h hn), b.pot⟩
theorem Go.push {p : Nat} {S S1 : Sto} (a : Go p S S1) (c : Cell) : Go p S (S1 ++ [c]) :=
  ⟨by rw [List.length_append]; exact Nat.le_trans a.len (Nat.le_add_right _ _), fun n h hn => by
    rw [List.getElem?_append_left (Nat.lt_of_lt_of_le h a.len)]
    exact a.same n h hn, by
    obtain ⟨k, e⟩ := a.pot
    exact ⟨k, by rw [List.getElem?_append_left (List.getElem?_eq_some_iff.mp e).1]; exact e⟩⟩
/-- a cell that is younger than S is written -/
theorem Go.setNew {p n : Nat} {S S1 : Sto} (hp : Pot p S) (a : Go p S S1) (hn : S.length ≤ n) (c : Cell) : Go p S (S1.set n c) :=
  ⟨by rw [List.length_set]; exact a.len, fun m h hm => by
    rw [List.getElem?_set_ne (by omega)]
    exact a.same m h hm, by
    obtain ⟨k, e⟩ := a.pot
    have := hp.lt
    exact ⟨k, by rw [List.getElem?_set_ne (by omega)]; exact e⟩⟩
theorem Go.get {p n : Nat} {S S1 : Sto} {c : Cell} (a : Go p S S1) (h : S[n]? = some c) (hn : n ≠ p) : S1[n]? = some c := by
  rw [a.same n (List.getElem?_eq_some_iff.mp h).1 hn]
  exact h
end Dm
-- text HmDig
namespace Dm
open PySem L2
theorem rngD_nil {lo : Int} : rngD lo 0 = [] := rfl
theorem rngD_cons {lo : Int} {n : Nat} : rngD lo (n + 1) = .int lo :: rngD (lo + 1) n := by
  unfold rngD
  rw [List.range_succ_eq_map, List.map_cons, List.map_map]
  congr 1
  · simp
  · refine List.map_congr_left fun i _ => ?_
    simp only [Function.comp]
    congr 1
    omega
end Dm
-- text HmZone
namespace Dm
open PySem L2
theorem seq_cut {ρ : Rho} {S : Sto} {N B C : Rho → Sto → Prop} {R : D → Sto → Prop} {EO : EXO} {a b : MS} (M : Rho → Sto → Prop) (h : ∀ M' : Rho → Sto → Prop, (∀ ρ S, M ρ S → M' ρ S) → (a ρ S).DoesE EO M' R B C) (k : ∀ ρ S, M ρ S → (b ρ S).DoesE EO N R B C) : (mSeq a b ρ S).DoesE EO N R B C := by
  rw [does_seq]
  exact (h M fun _ _ h => h).mono k (fun _ _ h => h) (fun _ _ h => h) (fun _ _ h => h)
/-- a zone of one, two or three offsets -/
inductive ZoneOK : List Int → Int → Prop
  | one (a s : Int) : -900 ≤ a → a ≤ 900 → 0 < s → s ≤ 1000000 → ZoneOK [a] s
  | two (a b s : Int) : -900 ≤ a → a < b → b ≤ 900 → b - a < s → s ≤ 1000000 → ZoneOK [a, b] s
  | three (a b c s : Int) : -900 ≤ a → a < b → b < c → c ≤ 900 → c - a < s → s ≤ 1000000 → ZoneOK [a, b, c] s
def zoneD (os : List Int) (s : Int) : D := .tup [.tup (os.map .int), .int s]
@[simp] theorem atI_last1 {α : Type} {x : α} : atI [x] (-1) = some x := rfl
@[simp] theorem atI_last2 {α : Type} {x y : α} : atI [x, y] (-1) = some y := rfl
@[simp] theorem atI_last3 {α : Type} {x y z : α} : atI [x, y, z] (-1) = some z := rfl
end Dm
-- text HmBag
namespace Dm
open PySem L2
/-- a bag of draws stands at p, n more can be drawn -/
def Bag (p n : Nat) (S : Sto) : Prop := ∃ a b c : Int, S[p]? = some (.lst [.int a, .int b, .int c]) ∧ 0 ≤ b ∧ b < 2305843009213693951 ∧ 0 ≤ c ∧ c + n ≤ 9223372036854775808
/-- from S to S': cells have come, all but p is as it was -/
structure GoB (p : Nat) (S S' : Sto) : Prop where
  len : S.length ≤ S'.length
  same : ∀ n, n < S.length → n ≠ p → S'[n]? = S[n]?
theorem Bag.lt {p n : Nat} {S : Sto} (h : Bag p n S) : p < S.length := by
  obtain ⟨a, b, c, e, _⟩ := h
  exact (List.getElem?_eq_some_iff.mp e).1
theorem Bag.mono {p n m : Nat} {S : Sto} (h : Bag p n S) (hm : m ≤ n) : Bag p m S := by
  obtain ⟨a, b, c, e, h1, h2, h3, h4⟩ := h
  exact ⟨a, b, c, e, h1, h2, h3, by omega⟩
theorem Bag.push {p n : Nat} {S : Sto} (h : Bag p n S) (c : Cell) : Bag p n (S ++ [c]) := by
  have hl := h.lt
  obtain ⟨a, b, c, e, r⟩ := h
  exact ⟨a, b, c, by rw [List.getElem?_append_left hl]; exact e, r⟩
theorem Bag.set {p n q : Nat} {S : Sto} (h : Bag p n S) (hq : q ≠ p) (c : Cell) : Bag p n (S.set q c) := by
  obtain ⟨a, b, c, e, r⟩ := h
  exact ⟨a, b, c, by rw [List.getElem?_set_ne hq]; exact e, r⟩
theorem GoB.refl {p : Nat} {S : Sto} : GoB p S S := ⟨Nat.le_refl _, fun _ _ _ => rfl⟩
theorem GoB.trans {p : Nat} {S S1 S2 : Sto} (a : GoB p S S1) (b : GoB p S1 S2) : GoB p S S2 :=
  ⟨Nat.le_trans a.len b.len, fun n h hn => (b.same n (Nat.lt_of_lt_of_le h a.len) hn).trans (a.same n h hn)⟩
theorem GoB.push {p : Nat} {S : Sto} (c : Cell) : GoB p S (S ++ [c]) := ⟨by rw [List.length_append]; omega, fun n h _ => List.getElem?_append_left h⟩
theorem GoB.setNew {p n : Nat} {S S1 : Sto} (a : GoB p S S1) (hn : S.length ≤ n) (c : Cell) : GoB p S (S1.set n c) :=
  ⟨by rw [List.length_set]; exact a.len, fun m h hm => by
    rw [List.getElem?_set_ne (by omega)]
    exact a.same m h hm⟩
theorem GoB.get {p n : Nat} {S S1 : Sto} {c : Cell} (a : GoB p S S1) (h : S[n]? = some c) (hn : n ≠ p) : S1[n]? = some c := by
  rw [a.same n (List.getElem?_eq_some_iff.mp h).1 hn]
  exact h
theorem bag_of_does {S : Sto} {c : Int} {Q : D → Sto → Prop} (q : ∀ S', Bag S.length 9223372036854775808 S' → GoB S.length S S' → Q (.cell S.length) S') : (m_law_bag_of [.int c] S).Does Q := by
  refine does_def rfl ?_
  have hc : CDivW c 2305843009213693951 := cdivw (by decide) (by decide)
  simp [hc]
  exact q _ ⟨_, _, 0, by rw [List.getElem?_append_right (Nat.le_refl _), Nat.sub_self]; rfl, Int.emod_nonneg c (by decide), Int.emod_lt_of_pos c (by decide), by decide, by decide⟩ (GoB.push _)
theorem pick_does {S : Sto} {p n : Nat} {u : Int} {Q : D → Sto → Prop} (hp : Bag p (n + 1) S) (h0 : 0 < u) (hb : u < 18446744073709551616)
    (q : ∀ r S', Bag p n S' → GoB p S S' → 0 ≤ r → r < u → Q (.int r) S') : (m_law_pick [.cell p, .int u] S).Does Q := by
  obtain ⟨a, b, c, e, b0, b1, c0, c1⟩ := id hp
  have hl := hp.lt
  refine does_def rfl ?_
  have hu : ∀ k : Int, CDivW k u := fun k => cdivw h0 hb
  have hm : ∀ k : Int, CDivW k 2305843009213693951 := fun k => cdivw (by decide) (by decide)
  have hd : ∀ k : Int, CDivW k 4099 := fun k => cdivw (by decide) (by decide)
  by_cases ha : 0 < a
  · simp [gIx_cell e, ha, hu]
    refine ⟨h0, _, e, 0, rfl, ?_⟩
    refine q _ _ ⟨a / u, b, c, by simp [hl], b0, b1, c0, by omega⟩ ⟨by rw [List.length_set]; exact Nat.le_refl _, fun n h hn => List.getElem?_set_ne (Ne.symm hn)⟩ (Int.emod_nonneg _ (by omega)) (Int.emod_lt_of_pos _ h0)
  · simp [gIx_cell e, ha]
    refine ⟨_, e, 2, rfl, ?_⟩
    have e2 : (S.set p (.lst ([.int a, .int b, .int c].set 2 (.int (c + 1)))))[p]? = some (.lst [.int a, .int b, .int (c + 1)]) := by
      rw [List.getElem?_set_self hl]; rfl
    have g1 : GoB p S (S.set p (.lst ([.int a, .int b, .int c].set 2 (.int (c + 1))))) := ⟨by rw [List.length_set]; exact Nat.le_refl _, fun n h hn => List.getElem?_set_ne (Ne.symm hn)⟩
    generalize S.set p (.lst ([.int a, .int b, .int c].set 2 (.int (c + 1)))) = S1 at e2 g1
    have w1 : CMulW 104729 (c + 1) := cmulw64 (by omega) (by omega)
    have w2 : CMulW 15485863 (c + 1) := cmulw64 (by omega) (by omega)
    have w3 : CMulW (b + 104729 * (c + 1)) (b + 15485863 * (c + 1) + 11) := cmulw 100 100 (by omega) (by omega) (by decide)
    have r0 : 0 ≤ ((b + 104729 * (c + 1)) * (b + 15485863 * (c + 1) + 11)) % 2305843009213693951 := Int.emod_nonneg _ (by decide)
    have r1 : ((b + 104729 * (c + 1)) * (b + 15485863 * (c + 1) + 11)) % 2305843009213693951 < 2305843009213693951 := Int.emod_lt_of_pos _ (by decide)
    have w5 : CMulW 7 (c + 1) := cmulw64 (by omega) (by omega)
    simp [gIx_cell e2, hu, hm, hd, w1, w2, w3, w5]
    generalize ((b + 104729 * (c + 1)) * (b + 15485863 * (c + 1) + 11)) % 2305843009213693951 = r at r0 r1
    have w4 : CMulW r r := cmulw64 (by omega) (by omega)
    exact ⟨w4, h0, q _ _ ⟨a, b, c + 1, e2, b0, b1, by omega, by omega⟩ g1 (Int.emod_nonneg _ (by omega)) (Int.emod_lt_of_pos _ h0)⟩
end Dm
-- text HmBelt
namespace Dm
open PySem L2
/-- gaps drawn: each at least 1 and at most w -/
def GapsOK (w : Int) (gs : List Int) : Prop := ∀ g, g ∈ gs → 1 ≤ g ∧ g ≤ w
theorem any_belt_does {S : Sto} {p n : Nat} {Q : D → Sto → Prop} (hp : Bag p (n + 20) S) (q : ∀ os s S', Bag p n S' → GoB p S S' → ZoneOK os s → Q (zoneD os s) S') : (m_law_any_belt [.cell p, .int 3] S).Does Q := by
  refine does_def rfl ?_
  -- how many
  refine seq_cut (fun ρ S' => ∃ k : Int, ρ = [some (.cell p), some (.int 3), some (.int k), none, none, none, none, none, none, none] ∧ Bag p (n + 19) S' ∧ GoB p S S' ∧ (k = 1 ∨ k = 2 ∨ k = 3)) (fun M hM => ?_) ?_
  · simp
    refine pick_does (n := n + 19) hp (by decide) (by decide) fun r S1 b1 g1 r0 r1 => ?_
    have e : r = 0 ∨ r = 1 ∨ r = 2 ∨ r = 3 ∨ r = 4 ∨ r = 5 := by omega
    rcases e with e | e | e | e | e | e <;> subst e <;> simp [atI, ixN] <;> exact hM _ _ ⟨_, rfl, b1, g1, by decide⟩
  rintro ρ S1 ⟨k, rfl, b1, g1, hk⟩
  -- how wide
  refine seq_cut (fun ρ S' => ∃ w : Int, ρ = [some (.cell p), some (.int 3), some (.int k), some (.int w), none, none, none, none, none, none] ∧ Bag p (n + 18) S' ∧ GoB p S S' ∧ 1 ≤ w ∧ w ≤ 1800) (fun M hM => ?_) ?_
  · simp
    refine pick_does (n := n + 18) b1 (by decide) (by decide) fun r S2 b2 g2 r0 r1 => ?_
    have e : r = 0 ∨ r = 1 ∨ r = 2 ∨ r = 3 ∨ r = 4 ∨ r = 5 := by omega
    rcases e with e | e | e | e | e | e <;> subst e <;> simp [atI, ixN] <;> exact hM _ _ ⟨_, rfl, b2, g1.trans g2, by decide, by decide⟩
  rintro ρ S2 ⟨w, rfl, b2, g2, w0, w1⟩
  refine seq_cut (fun ρ S' => S' = S2 ∧ ∃ w : Int, ρ = [some (.cell p), some (.int 3), some (.int k), some (.int w), none, none, none, none, none, none] ∧ 1 ≤ w ∧ w * (k - 1) ≤ 1800 ∧ w ≤ 1800) (fun M hM => ?_) ?_
  · rcases hk with rfl | rfl | rfl
    · have hc : CDivW w 1 := cdivw (by decide) (by decide)
      simp [hc]
      refine hM _ _ ⟨rfl, _, rfl, ?_, ?_, ?_⟩ <;> split <;> omega
    · have hc : CDivW w 1 := cdivw (by decide) (by decide)
      simp [hc]
      refine hM _ _ ⟨rfl, _, rfl, ?_, ?_, ?_⟩ <;> split <;> omega
    · have hc : CDivW w 2 := cdivw (by decide) (by decide)
      simp [hc]
      refine hM _ _ ⟨rfl, _, rfl, ?_, ?_, ?_⟩ <;> split <;> omega
  clear w0 w1
  rintro ρ _ ⟨rfl, w, rfl, w0, w1, w2⟩
  -- the gaps
  refine seq_cut (fun ρ S' => ∃ gs x9, ρ = [some (.cell p), some (.int 3), some (.int k), some (.int w), some (.lst (gs.map .int)), none, none, none, none, x9] ∧ Bag p (n + 14) S' ∧ GoB p S S' ∧ (gs : List Int).length = (k - 1).toNat ∧ GapsOK w gs) (fun M hM => ?_) ?_
  · have draw1 : ∀ {S' : Sto} {m : Nat} {Q : D → Sto → Prop}, Bag p (m + 2) S' → (∀ g S'', Bag p m S'' → GoB p S' S'' → 1 ≤ g → g ≤ w → Q (.int g) S'') →
        (m_law_pick [.cell p, .int w] S').Does fun y S1 => (m_law_pick [.cell p, .int 2] S1).Does fun y_1 S2 => OptQ (gMul S2 y y_1) fun z => OptQ (gSub S2 (.int w) z) fun z => Q z S2 := by
      intro S' m Q b' q'
      refine pick_does (n := m + 1) b' (by omega) (by omega) fun r S3 b3 g3 r0 r1 => ?_
      refine pick_does (n := m) b3 (by decide) (by decide) fun r' S4 b4 g4 r0' r1' => ?_
      have hc : CMulW r r' := cmulw64 (by omega) (by omega)
      simp [hc]
      have e : r' = 0 ∨ r' = 1 := by omega
      rcases e with rfl | rfl
      · exact q' _ _ b4 (g3.trans g4) (by omega) (by omega)
      · exact q' _ _ b4 (g3.trans g4) (by omega) (by omega)
    rcases hk with rfl | rfl | rfl
    · simp [rngD_nil]
      exact hM _ _ ⟨[], _, rfl, b2.mono (by omega), g2, rfl, fun _ h => nomatch h⟩
    · simp [rngD_cons, rngD_nil, wipeD]
      refine draw1 (m := n + 16) b2 fun a S3 b3 g3 a0 a1 => ?_
      exact hM _ _ ⟨[a], _, rfl, b3.mono (by omega), g2.trans g3, rfl, fun g h => by cases List.mem_singleton.mp h; exact ⟨a0, a1⟩⟩
    · simp [rngD_cons, rngD_nil, wipeD]
      refine draw1 (m := n + 16) b2 fun a S3 b3 g3 a0 a1 => ?_
      refine draw1 (m := n + 14) b3 fun b S4 b4 g4 c0 c1 => ?_
      exact hM _ _ ⟨[a, b], _, rfl, b4, g2.trans (g3.trans g4), rfl, fun g h => by simp at h; rcases h with rfl | rfl <;> constructor <;> assumption⟩
  rintro ρ S3 ⟨gs, x9, rfl, b3, g3, gl, gok⟩
  have hs : 0 ≤ gs.sum ∧ gs.sum ≤ 1800 := by
    rcases hk with rfl | rfl | rfl
    · match gs, gl with
      | [], _ => decide
    · match gs, gl, gok with
      | [a], _, gok =>
        have := gok a (by simp)
        simp
        omega
    · match gs, gl, gok with
      | [a, b], _, gok =>
        have := gok a (by simp)
        have := gok b (by simp)
        simp
        omega
  -- the offsets
  refine seq_cut (fun ρ S' => ∃ low q, ρ = [some (.cell p), some (.int 3), some (.int k), some (.int w), some (.lst (gs.map .int)), some (.cell q), none, none, none, x9] ∧ Bag p (n + 13) S' ∧ GoB p S S' ∧ S'[q]? = some (.lst [.int low]) ∧ S.length ≤ q ∧ -900 ≤ low ∧ low ≤ 900 - gs.sum) (fun M hM => ?_) ?_
  · simp [gSum_ints (S := S3) (d := .lst (gs.map .int)) (ns := gs) rfl]
    refine pick_does (n := n + 13) b3 (by omega) (by omega) fun r S4 b4 g4 r0 r1 => ?_
    simp
    have g := g3.trans g4
    exact hM _ _ ⟨_, _, rfl, b4.push _, g.trans (GoB.push _), by rw [List.getElem?_append_right (Nat.le_refl _), Nat.sub_self]; rfl, g.len, by omega, by omega⟩
  rintro ρ S4 ⟨low, q', rfl, b4, g4, e4, hq, l0, l1⟩
  have hpq : q' ≠ p := by have := hp.lt; omega
  have step : ∀ (S5 : Sto) (xs : List Int) (l a : Int), S5[q']? = some (.lst ((xs ++ [l]).map .int)) → gIx S5 (.cell q') (.int (-1)) = some (.int l) := by
    intro S5 xs l a e
    rw [gIx_cell e]
    have h1 : (1 : Int) ≤ ↑xs.length + 1 := by omega
    have h2 : (-1 + ((xs.length : Int) + 1)).toNat = xs.length := by omega
    simp [atI, ixN, h1, h2]
  refine seq_cut (fun ρ S' => ∃ os x6, ρ = [some (.cell p), some (.int 3), some (.int k), some (.int w), some (.lst (gs.map .int)), some (.cell q'), x6, none, none, x9] ∧ Bag p (n + 13) S' ∧ GoB p S S' ∧ S'[q']? = some (.lst ((os : List Int).map .int)) ∧ (∀ s, gs.sum < s → s ≤ 1000000 → ZoneOK os s)) (fun M hM => ?_) ?_
  · have grow : ∀ {S5 : Sto} {l : List D} (a : Int), S5[q']? = some (.lst l) → Bag p (n + 13) S5 → GoB p S S5 → Bag p (n + 13) (S5.set q' (.lst (l ++ [.int a]))) ∧ GoB p S (S5.set q' (.lst (l ++ [.int a]))) ∧ (S5.set q' (.lst (l ++ [.int a])))[q']? = some (.lst (l ++ [.int a])) :=
      fun a e b g => ⟨b.set hpq _, g.setNew hq _, List.getElem?_set_self (List.getElem?_eq_some_iff.mp e).1⟩
    rcases hk with rfl | rfl | rfl
    · match gs, gl, hs, l1 with
      | [], _, hs, l1 =>
        simp at l1 ⊢
        exact hM _ _ ⟨[low], _, rfl, b4, g4, e4, fun s h1 h2 => .one _ _ l0 (by omega) (by simpa using h1) h2⟩
    · match gs, gl, hs, l1, gok with
      | [a], _, hs, l1, gok =>
        have := gok a (by simp)
        simp at l1 hs ⊢
        simp [step S4 [] low a e4, e4]
        obtain ⟨b5, g5, e5⟩ := grow (low + a) e4 b4 g4
        exact hM _ _ ⟨[low, low + a], _, rfl, b5, g5, e5, fun s h1 h2 => .two _ _ _ l0 (by omega) (by omega) (by simp at h1; omega) h2⟩
    · match gs, gl, hs, l1, gok with
      | [a, b], _, hs, l1, gok =>
        have := gok a (by simp)
        have := gok b (by simp)
        simp at l1 hs ⊢
        simp [step S4 [] low a e4, e4]
        obtain ⟨b5, g5, e5⟩ := grow (low + a) e4 b4 g4
        have e5' : (S4.set q' (.lst ([D.int low] ++ [D.int (low + a)])))[q']? = some (.lst (([low] ++ [low + a]).map .int)) := e5
        simp at e5'
        simp [step _ [low] (low + a) b e5']
        refine ⟨⟨_, e5'⟩, _, e5', by simp, ?_⟩
        obtain ⟨b6, g6, e6⟩ := grow (low + a + b) e5' b5 g5
        rw [List.set_set] at b6 g6 e6
        exact hM _ _ ⟨[low, low + a, low + a + b], _, rfl, b6, g6, e6, fun s h1 h2 => .three _ _ _ _ l0 (by omega) (by omega) (by omega) (by simp at h1; omega) h2⟩
  rintro ρ S5 ⟨os, x6, rfl, b5, g5, e5, zz⟩
  -- the spacing
  refine seq_cut (fun ρ S' => S' = S5 ∧ ρ = [some (.cell p), some (.int 3), some (.int k), some (.int w), some (.lst (gs.map .int)), some (.cell q'), x6, some (.int (gs.sum + 1)), none, x9]) (fun M hM => ?_) ?_
  · simp [gSum_ints (S := S5) (d := .lst (gs.map .int)) (ns := gs) rfl]
    exact hM _ _ ⟨rfl, rfl⟩
  rintro ρ _ ⟨rfl, rfl⟩
  refine seq_cut (fun ρ S' => ∃ m1 m2 : Int, ρ = [some (.cell p), some (.int 3), some (.int k), some (.int w), some (.lst (gs.map .int)), some (.cell q'), x6, some (.int (gs.sum + 1)), some (.lst [.int 0, .int 1, .int 40, .int (1000000 - (gs.sum + 1)), .int m1, .int 100, .int m2]), x9] ∧ Bag p (n + 11) S' ∧ GoB p S S' ∧ S'[q']? = some (.lst (os.map .int)) ∧ 0 ≤ m1 ∧ m1 < 2000 ∧ 0 ≤ m2 ∧ m2 ≤ 1000000 - (gs.sum + 1)) (fun M hM => ?_) ?_
  · simp
    refine pick_does (n := n + 12) b5 (by decide) (by decide) fun r S6 b6 g6 r0 r1 => ?_
    refine pick_does (n := n + 11) b6 (by omega) (by omega) fun r' S7 b7 g7 r0' r1' => ?_
    exact hM _ _ ⟨_, _, rfl, b7, g5.trans (g6.trans g7), g7.get (g6.get e5 hpq) hpq, r0, r1, r0', by omega⟩
  rintro ρ S6 ⟨m1, m2, rfl, b6, g6, e6, m10, m11, m20, m21⟩
  simp [gTuple_cell e6]
  refine pick_does (n := n + 10) b6 (by decide) (by decide) fun r S7 b7 g7 r0 r1 => ?_
  have e : r = 0 ∨ r = 1 ∨ r = 2 ∨ r = 3 ∨ r = 4 ∨ r = 5 ∨ r = 6 := by omega
  rcases e with e | e | e | e | e | e | e <;> subst e <;> simp [atI, ixN] <;> exact q os _ _ (b7.mono (by omega)) (g6.trans g7) (zz _ (by omega) (by omega))
theorem any_belts_does {S : Sto} {p n : Nat} {Q : D → Sto → Prop} (hp : Bag p (n + 60) S) (q : ∀ zs S', Bag p n S' → GoB p S S' → (∀ z, z ∈ zs → ZoneOK z.1 z.2) → zs.length = 1 ∨ zs.length = 2 → Q (.tup ((zs : List (List Int × Int)).map fun z => zoneD z.1 z.2)) S') :
    (m_law_any_belts [.cell p, .int 3] S).Does Q := by
  refine does_def rfl ?_
  simp
  refine pick_does (n := n + 59) hp (by decide) (by decide) fun r S1 b1 g1 r0 r1 => ?_
  have e : r = 0 ∨ r = 1 := by omega
  rcases e with rfl | rfl
  · simp [rngD_cons, rngD_nil, wipeD]
    refine any_belt_does (n := n + 39) b1 fun os s S2 b2 g2 z => ?_
    exact q [(os, s)] _ (b2.mono (by omega)) (g1.trans g2) (fun z' h => by cases List.mem_singleton.mp h; exact z) (.inl rfl)
  · simp [rngD_cons, rngD_nil, wipeD]
    refine any_belt_does (n := n + 39) b1 fun os s S2 b2 g2 z => ?_
    refine any_belt_does (n := n + 19) b2 fun os' s' S3 b3 g3 z' => ?_
    exact q [(os, s), (os', s')] _ (b3.mono (by omega)) (g1.trans (g2.trans g3)) (fun z'' h => by simp at h; rcases h with rfl | rfl <;> assumption) (.inr rfl)
end Dm
-- text HmTab
namespace Dm
open PySem L2
theorem pure_of {α : Type} {r : Res α} {a : α} {S : Sto} (h : ∀ Q : α → Sto → Prop, Q a S → r.Does Q) : r = .ok a S := by
  obtain ⟨a', S', e, h1, h2⟩ := (h (fun x T => x = a ∧ T = S) ⟨rfl, rfl⟩).eq
  rw [e, h1, h2]
section
variable {S : Sto} {os : List Int} {s h m : Int} {js : List (Int × Int)}
theorem ZoneOK.len {os : List Int} {s : Int} (z : ZoneOK os s) : 1 ≤ os.length ∧ os.length ≤ 3 := by cases z <;> simp
theorem ZoneOK.sp (z : ZoneOK os s) : 0 < s ∧ s ≤ 1000000 := by cases z <;> constructor <;> omega
theorem ZoneOK.nodup (z : ZoneOK os s) : os.Nodup := by cases z <;> simp <;> omega
@[simp] theorem is_integer_int {i : Int} : m_is_integer [.int i] S = .ok (.bl true) S := by
  refine pure_of fun Q q => ?_
  refine does_def rfl ?_
  simpa [isTn] using q
theorem is_zone_ok (z : ZoneOK os s) : m_is_zone [zoneD os s] S = .ok (.bl true) S := by
  refine pure_of fun Q q => ?_
  refine does_def rfl ?_
  cases z with
  | one a s h1 h2 h3 h4 => simp [zoneD, isTn, rngD_cons, rngD_nil, h1, h2, h3, h4, q]
  | two a b s h1 h2 h3 h4 h5 =>
    have e1 : a ≤ 900 := by omega
    have e2 : -900 ≤ b := by omega
    have e3 : ¬ b ≤ a := by omega
    simp [zoneD, isTn, rngD_cons, rngD_nil, h1, h2, h3, h4, h5, e1, e2, e3, q]
  | three a b c s h1 h2 h3 h4 h5 h6 => 
    have e1 : a ≤ 900 := by omega
    have e2 : -900 ≤ b := by omega
    have e3 : ¬ b ≤ a := by omega
    have e4 : b ≤ 900 := by omega
    have e5 : -900 ≤ c := by omega
    have e6 : ¬ c ≤ b := by omega
    simp [zoneD, isTn, rngD_cons, rngD_nil, h1, h2, h3, h4, h5, h6, e1, e2, e3, e4, e5, e6, q]
@[simp] theorem need_zone_ok (z : ZoneOK os s) : m_need_zone [zoneD os s] S = .ok .non S := by
  refine pure_of fun Q q => ?_
  refine does_def rfl ?_
  simp [is_zone_ok z, q]
@[simp] theorem need_number_int {i : Int} : m_need_number [.int i] S = .ok .non S := by
  refine pure_of fun Q q => ?_
  refine does_def rfl ?_
  simp [q]
/-- a jump and a table, as data -/
def jmpD (j : Int × Int) : D := .tup [.int j.1, .int j.2]
def tabD (h : Int) (js : List (Int × Int)) : D := .tup [.int h, .tup (js.map jmpD)]
section
variable {j : Int × Int} {ρ : Rho} {f : List D → Rho → Option Rho}
@[simp] theorem ix_jmp0 : gIx S (jmpD j) (.int 0) = some (.int j.1) := by simp [jmpD]
@[simp] theorem ix_jmp1 : gIx S (jmpD j) (.int 1) = some (.int j.2) := by simp [jmpD]
@[simp] theorem ix_tab0 : gIx S (tabD h js) (.int 0) = some (.int h) := by simp [tabD]
@[simp] theorem ix_tab1 : gIx S (tabD h js) (.int 1) = some (.tup (js.map jmpD)) := by simp [tabD]
@[simp] theorem ix_zone0 : gIx S (zoneD os s) (.int 0) = some (.tup (os.map .int)) := by simp [zoneD]
@[simp] theorem ix_zone1 : gIx S (zoneD os s) (.int 1) = some (.int s) := by simp [zoneD]
@[simp] theorem len_jmp : gLen S [jmpD j] = some (.int 2) := rfl
@[simp] theorem len_tab : gLen S [tabD h js] = some (.int 2) := rfl
@[simp] theorem len_zone : gLen S [zoneD os s] = some (.int 2) := rfl
@[simp] theorem ty_jmp : tyOf S (jmpD j) = some .tup := rfl
@[simp] theorem ty_tab : tyOf S (tabD h js) = some .tup := rfl
@[simp] theorem ty_zone : tyOf S (zoneD os s) = some .tup := rfl
@[simp] theorem tg_jmp : tgT 2 f (jmpD j) ρ = f [.int j.1, .int j.2] ρ := rfl
@[simp] theorem tg_tab : tgT 2 f (tabD h js) ρ = f [.int h, .tup (js.map jmpD)] ρ := rfl
@[simp] theorem tg_zone : tgT 2 f (zoneD os s) ρ = f [.tup (os.map .int), .int s] ρ := rfl
end
/-- the jumps that may follow: the offset held, the moment of the jump before -/
def Chain (os : List Int) (s : Int) : Int → Option Int → List (Int × Int) → Prop
  | _, _, [] => True
  | h, p, (m, o) :: r => o ∈ os ∧ o ≠ h ∧ (∀ q, p = some q → q + s ≤ m) ∧ Chain os s o (some m) r
def endH : Int → List (Int × Int) → Int
  | h, [] => h
  | _, (_, o) :: r => endH o r
def endP : Option Int → List (Int × Int) → Option Int
  | p, [] => p
  | _, (m, _) :: r => endP (some m) r
theorem endH_snoc {m o : Int} : ∀ {h : Int} {js : List (Int × Int)}, endH h (js ++ [(m, o)]) = o
  | _, [] => rfl
  | _, (m', o') :: r => endH_snoc (h := o') (js := r)
theorem endP_snoc {m o : Int} : ∀ {p : Option Int} {js : List (Int × Int)}, endP p (js ++ [(m, o)]) = some m
  | _, [] => rfl
  | _, (m', o') :: r => endP_snoc (p := some m') (js := r)
theorem chain_snoc {m o : Int} : ∀ {h : Int} {p : Option Int} {js : List (Int × Int)}, Chain os s h p js → o ∈ os → o ≠ endH h js → (∀ q, endP p js = some q → q + s ≤ m) → Chain os s h p (js ++ [(m, o)])
  | _, _, [], _, a, b, c => ⟨a, b, c, trivial⟩
  | _, _, (m', o') :: r, ⟨x, y, z, w⟩, a, b, c => ⟨x, y, z, chain_snoc w a b c⟩
structure TabOK (os : List Int) (s h : Int) (js : List (Int × Int)) : Prop where
  held : h ∈ os
  chain : Chain os s h none js
theorem flat_ints (os : List Int) : (os.map D.int).all flatD = true := by
  rw [List.all_map]
  exact List.all_eq_true.mpr fun _ _ => rfl
theorem any_ints (os : List Int) (o : Int) : (os.map D.int).any (eqF · (.int o)) = decide (o ∈ os) := by
  induction os with
  | nil => simp
  | cons a r ih =>
    rw [List.map_cons, List.any_cons, ih, eqF_int]
    have e : (a == o) = decide (o = a) := by
      by_cases h : o = a
      · subst h; simp
      · have h' : ¬ a = o := fun x => h x.symm
        simp [h, h']
    rw [e]
    simp
theorem gIn_ints {o : Int} : gIn false S (.int o) (.tup (os.map .int)) = some (.bl (decide (o ∈ os))) := by
  unfold gIn
  rw [seqOf_tup]
  simp only
  rw [if_pos ⟨rfl, flat_ints os⟩, any_ints]
  simp
theorem is_offset_int {o : Int} : m_is_offset [zoneD os s, .int o] S = .ok (.bl (decide (o ∈ os))) S := by
  refine pure_of fun Q q => ?_
  refine does_def rfl ?_
  simp [gIn_ints, q]
theorem is_mark_jmp {j : Int × Int} : m_is_mark [zoneD os s, jmpD j] S = .ok (.bl (decide (j.2 ∈ os))) S := by
  refine pure_of fun Q q => ?_
  refine does_def rfl ?_
  simp [isTn, is_offset_int, q]
def enumF (k : Nat) (ds : List D) : List D := (ds.zipIdx k).map fun p => .tup [.int (p.2 : Nat), p.1]
theorem enumD_eq {ds : List D} : enumD ds = enumF 0 ds := rfl
theorem enumF_cons {k : Nat} {d : D} {r : List D} : enumF k (d :: r) = .tup [.int k, d] :: enumF (k + 1) r := rfl
theorem is_table_ok (z : ZoneOK os s) (t : TabOK os s h js) : m_is_table [zoneD os s, tabD h js] S = .ok (.bl true) S := by
  refine pure_of fun Q q => ?_
  refine does_def rfl ?_
  simp [isTn, need_zone_ok z, is_offset_int, t.held, enumD_eq]
  refine forL_cut (fun ds ρ S' => S' = S ∧ ∃ (pre suf : List (Int × Int)) (h' : Int) (pm : Option Int) (x4 x5 : Option D), ρ = [some (zoneD os s), some (tabD h js), some (.int h'), some (.tup (js.map jmpD)), x4, x5]
    ∧ js = pre ++ suf ∧ ds = enumF pre.length (suf.map jmpD) ∧ Chain os s h' pm suf ∧ (pre ≠ [] → ∃ m o, pm = some m ∧ atI (js.map jmpD) ((pre.length : Int) - 1) = some (jmpD (m, o)))) _ ⟨rfl, [], js, h, none, none, none, rfl, rfl, rfl, t.chain, fun h => (h rfl).elim⟩ ?_ ?_
  · rintro d r ρ S' ⟨rfl, pre, suf, h', pm, x4, x5, rfl, ej, e, c, l⟩
    cases suf with
    | nil => cases e
    | cons j suf =>
      rw [List.map_cons, enumF_cons] at e
      injection e with e1 e2
      subst e1
      obtain ⟨c1, c2, c3, c4⟩ := c
      refine ⟨[some (zoneD os s), some (tabD h js), some (.int h'), some (.tup (js.map jmpD)), some (.int pre.length), some (jmpD j)], by simp, fun M hM => ?_⟩
      have last : some (jmpD j) = atI (js.map jmpD) (((pre ++ [j]).length : Int) - 1) := by
        rw [ej, atI_of (by simp) (by simp; omega)]
        simp
      have fin : M [some (zoneD os s), some (tabD h js), some (.int j.2), some (.tup (js.map jmpD)), some (.int pre.length), some (jmpD j)] S' :=
        hM _ _ ⟨rfl, pre ++ [j], suf, _, _, _, _, rfl, by rw [ej, List.append_assoc] <;> rfl, by rw [e2, List.length_append] <;> rfl, c4, fun _ => ⟨_, _, rfl, last.symm⟩⟩
      simp [is_mark_jmp, c1, c2]
      by_cases hp : pre = []
      · subst hp
        simpa using fin
      · obtain ⟨m, o, e3, e4⟩ := l hp
        have c5 := c3 m e3
        rw [e4]
        have c6 : ¬ j.1 - m < s := by omega
        simp [List.length_pos_iff, hp, c6]
        exact fin
  · rintro ρ S' ⟨rfl, pre, suf, h', pm, x4, x5, rfl, ej, e, c, l⟩
    simpa using q
end
end Dm
-- text HmChart
namespace Dm
open PySem L2
section
variable {S : Sto} {os : List Int} {s h m : Int} {js : List (Int × Int)} {p : Nat}
@[simp] theorem need_table_ok (z : ZoneOK os s) (t : TabOK os s h js) : m_need_table [zoneD os s, tabD h js] S = .ok .non S := by
  refine pure_of fun Q q => ?_
  refine does_def rfl ?_
  simp [is_table_ok z t, q]
/-- the offset at a moment: up to the first jump after it -/
def offAt : Int → List (Int × Int) → Int → Int
  | h, [], _ => h
  | h, (a, o) :: r, m => if m < a then h else offAt o r m
def shAt : Int → List (Int × Int) → Int → Int
  | h, [], _ => h
  | h, (a, o) :: r, m => shAt (if a ≤ m then o else h) r m
theorem shAt_late {pm : Int} (hs : 0 < s) (hm : m < pm) : ∀ {js : List (Int × Int)} {h0 : Int} {pm : Int}, m < pm → Chain os s h0 (some pm) js → shAt h js m = h
  | [], _, _, _, _ => rfl
  | (a, o) :: r, h0, pm, hm, ⟨_, _, c, d⟩ => by
    have e := c pm rfl
    have n : ¬ a ≤ m := by omega
    rw [shAt, if_neg n]
    exact shAt_late hs (by omega) (show m < a by omega) d
theorem shAt_eq (hs : 0 < s) : ∀ {js : List (Int × Int)} {h : Int} {p : Option Int}, Chain os s h p js → shAt h js m = offAt h js m
  | [], _, _, _ => rfl
  | (a, o) :: r, h, p, ⟨_, _, c, d⟩ => by
    by_cases g : m < a
    · rw [shAt, offAt, if_pos g, if_neg (by omega)]
      exact shAt_late hs g g d
    · rw [shAt, offAt, if_neg g, if_pos (by omega)]
      exact shAt_eq hs d
theorem offset_in_ok : m_offset_in [tabD h js, .int m] S = .ok (.int (offAt h js m)) S := by
  refine pure_of fun Q q => ?_
  refine does_def rfl ?_
  simp
  refine forL_cut (fun ds ρ S' => S' = S ∧ ∃ (suf : List (Int × Int)) (h' : Int) (x3 x4 : Option D), ρ = [some (tabD h js), some (.int m), some (.int h'), x3, x4] ∧ ds = suf.map jmpD ∧ offAt h js m = offAt h' suf m) _ ⟨rfl, js, h, none, none, rfl, rfl, rfl⟩ ?_ ?_
  · rintro d r ρ S' ⟨rfl, suf, h', x3, x4, rfl, e, eo⟩
    cases suf with
    | nil => cases e
    | cons j suf =>
      obtain ⟨a, o⟩ := j
      injection e with e1 e2
      subst e1
      refine ⟨_, rfl, fun M hM => ?_⟩
      simp
      by_cases g : m < a
      · simp [g]
        rw [offAt, if_pos g] at eo
        rw [← eo]; exact q
      · simp [g]
        rw [offAt, if_neg g] at eo
        exact hM _ _ ⟨rfl, suf, o, _, _, rfl, e2, eo⟩
  · rintro ρ S' ⟨rfl, suf, h', x3, x4, rfl, e, eo⟩
    cases suf with
    | cons j suf => cases e
    | nil =>
      simp
      rw [show h' = offAt h js m from eo.symm]
      exact q
theorem ZoneOK.at (z : ZoneOK os s) {i : Int} (h0 : 0 ≤ i) (h1 : i < os.length) : ∃ o, atI (os.map D.int) i = some (.int o) ∧ o ∈ os ∧ os[i.toNat]? = some o := by
  have l : i.toNat < os.length := by omega
  refine ⟨os[i.toNat], ?_, List.getElem_mem l, List.getElem?_eq_getElem l⟩
  rw [atI_of h0 (by rw [List.length_map]; exact h1), List.getElem?_map, List.getElem?_eq_getElem l] <;> rfl
end
end Dm
-- text HmNear
namespace Dm
open PySem L2
section
variable {S : Sto} {os : List Int} {s h m : Int} {js : List (Int × Int)} {p : Nat}
theorem Pot.set {n : Nat} {c : Cell} (h : Pot p S) (hn : p ≠ n) : Pot p (S.set n c) := by
  obtain ⟨k, e⟩ := h
  exact ⟨k, by rw [List.getElem?_set_ne (Ne.symm hn)]; exact e⟩
end
theorem cut_len {ds : List D} {lo hi : Option Int} : (cutD ds lo hi).length ≤ ds.length := by
  unfold cutD
  rw [List.length_take, List.length_drop]
  omega
theorem cut_mem {ds : List D} {lo hi : Option Int} {d : D} (h : d ∈ cutD ds lo hi) : d ∈ ds := List.mem_of_mem_drop (List.mem_of_mem_take h)
/-- the loop over the cells of a script -/
theorem law_loop {nN : Nat} {C k : Int} {body : MS} (hn : 2 ≤ nN) (hb : ∀ c L (xs : List (Option D)) (S : Sto), xs.length = nN - 2 → (body (some L :: some (.int c) :: xs) S).Does (fun ρ S' => ∃ y xs', ρ = some L :: y :: xs' ∧ xs'.length = nN - 2) (fun _ _ => False) (fun _ _ => False) (fun _ _ => False)) :
    LawTrue (mDef 1 nN (mSeq (mFor (iSeq (mFz (mCatL (mLst (mCons (mK (.int C)) mNil)) (mSlL (mVar 0) mNoPart (mPart (mK (.int k))))))) (tgN 1) body) (mRet (mK (.bl true))))) := by
  intro ns hl
  obtain ⟨m, rfl⟩ : ∃ m, nN = m + 2 := ⟨nN - 2, by omega⟩
  have main : (mDef 1 (m + 2) (mSeq (mFor (iSeq (mFz (mCatL (mLst (mCons (mK (.int C)) mNil)) (mSlL (mVar 0) mNoPart (mPart (mK (.int k))))))) (tgN 1) body) (mRet (mK (.bl true)))) [.lst (ns.map .int)] []).Does fun d _ => d = .bl true := by
    refine does_def rfl ?_
    rw [does_seq, does_for]
    simp only [does_iSeq, does_fz, does_catL, does_lst, does_cons, does_k, does_nil, does_slL, does_var, List.map_cons, List.map_nil, List.singleton_append, List.getElem?_cons_zero, does_noPart, does_part, lstOf_lst]
    refine ⟨by simp, ?_⟩
    have cl : (cutD (ns.map .int) none (some k)).length ≤ 63 := Nat.le_trans cut_len (by rw [List.length_map]; exact hl)
    refine ⟨by simp only [List.length_cons, List.length_nil]; omega, ?_⟩
    refine forL_cut (fun ds ρ S' => (∀ d, d ∈ ds → ∃ c : Int, d = .int c) ∧ ∃ y xs', ρ = some (.lst (ns.map .int)) :: y :: xs' ∧ xs'.length = m) _ ⟨?_, none, List.replicate m none, rfl, List.length_replicate⟩ ?_ ?_
    · intro d hd
      rcases List.mem_cons.mp hd with rfl | hd
      · exact ⟨_, rfl⟩
      · obtain ⟨c, _, rfl⟩ := List.mem_map.mp (cut_mem hd)
        exact ⟨c, rfl⟩
    · rintro d r ρ S' ⟨hd, y, xs', rfl, hx⟩
      obtain ⟨c, rfl⟩ := hd d List.mem_cons_self
      refine ⟨_, rfl, fun M hM => ?_⟩
      refine (hb c _ xs' S' (by omega)).mono ?_ (fun _ _ h => h.elim) (fun _ _ h => h.elim) (fun _ _ h => h.elim)
      rintro ρ2 S2 ⟨y, xs2, rfl, h2⟩
      exact hM _ _ ⟨fun d h => hd d (List.mem_cons_of_mem _ h), y, xs2, rfl, by omega⟩
    · rintro ρ S' _
      rfl
  obtain ⟨d, S', e, rfl⟩ := main.eq
  exact ⟨S', e⟩
end Dm
-- text HmSame
namespace Dm
open PySem L2
/-- data that the law calls the same, of a depth -/
inductive Eqv (S : Sto) : Nat → D → D → Prop
  | non {n : Nat} : Eqv S n .non .non
  | int {n : Nat} {i : Int} : Eqv S n (.int i) (.int i)
  | bl {n : Nat} {b : Bool} : Eqv S n (.bl b) (.bl b)
  | str {n : Nat} {x : Str} : Eqv S n (.str x) (.str x)
  | tup {n : Nat} {ds es : List D} : ds.length = es.length → es.length ≤ 16777216 → (∀ (i : Nat) (d e : D), ds[i]? = some d → es[i]? = some e → Eqv S n d e) → Eqv S (n + 1) (.tup ds) (.tup es)
  | lst {n : Nat} {d e : D} {ds es : List D} : lstOf S d = some ds → lstOf S e = some es → ds.length = es.length → es.length ≤ 16777216 → (∀ (i : Nat) (d e : D), ds[i]? = some d → es[i]? = some e → Eqv S n d e) → Eqv S (n + 1) d e
section
variable {S : Sto}
theorem bls_true {α : Type} : ∀ {l : List α}, blsOf (l.map fun _ => D.bl true) = some (l.map fun _ => true)
  | [] => rfl
  | a :: l => by
    rw [List.map_cons, blsOf, bls_true] <;> rfl
theorem all_true {α : Type} : ∀ {l : List α}, (l.map fun _ => true).all id = true
  | [] => rfl
  | a :: l => by rw [List.map_cons, List.all_cons, all_true] <;> rfl
theorem gAll_true {α : Type} {l : List α} : gAll S [.lst (l.map fun _ => D.bl true)] = some (.bl true) := by
  unfold gAll
  simp only [lstOf_lst, Option.bind_some, bls_true, Option.map_some, all_true]
theorem Eqv.up {n m : Nat} {d e : D} (h : Eqv S n d e) (hm : n ≤ m) : Eqv S m d e := by
  induction h generalizing m with
  | non => exact .non
  | int => exact .int
  | bl => exact .bl
  | str => exact .str
  | tup hl h16 _ ih =>
    obtain ⟨k, rfl⟩ : ∃ k, m = k + 1 := ⟨m - 1, by omega⟩
    exact .tup hl h16 fun i d e a b => ih i d e a b (by omega)
  | lst hd he hl h16 _ ih =>
    obtain ⟨k, rfl⟩ : ∃ k, m = k + 1 := ⟨m - 1, by omega⟩
    exact .lst hd he hl h16 fun i d e a b => ih i d e a b (by omega)
end
end Dm
-- text HmHours
namespace Dm
open PySem L2
section
variable {S : Sto} {os : List Int} {s h m r : Int} {js : List (Int × Int)} {p : Nat}
theorem ZoneOK.asc (z : ZoneOK os s) : os.Pairwise (· < ·) := by cases z <;> simp <;> omega
theorem off_mem : ∀ {js : List (Int × Int)} {h : Int} {p : Option Int}, h ∈ os → Chain os s h p js → offAt h js m ∈ os
  | [], _, _, hh, _ => hh
  | (a, o) :: t, h, p, hh, ⟨c1, _, _, c4⟩ => by
    rw [offAt]
    split
    · exact hh
    · exact off_mem c1 c4
/-- the moments of a reading, by the offsets -/
def momsOf (os : List Int) (h : Int) (js : List (Int × Int)) (r : Int) : List Int := (os.reverse.filter fun o => offAt h js (r - o) == o).map fun o => r - o
theorem moms_mem (hm : ∀ m, offAt h js m ∈ os) : m ∈ momsOf os h js r ↔ offAt h js m = r - m := by
  unfold momsOf
  rw [List.mem_map]
  constructor
  · rintro ⟨o, ho, rfl⟩
    obtain ⟨_, h2⟩ := List.mem_filter.mp ho
    have h3 : offAt h js (r - o) = o := by simpa using h2
    omega
  · intro e
    refine ⟨r - m, List.mem_filter.mpr ⟨List.mem_reverse.mpr (e ▸ hm m), ?_⟩, by omega⟩
    have : r - (r - m) = m := by omega
    simp [this, e]
theorem moms_asc (z : os.Pairwise (· < ·)) : (momsOf os h js r).Pairwise (· < ·) := by
  unfold momsOf
  rw [List.pairwise_map]
  refine List.Pairwise.imp ?_ ((List.pairwise_reverse.mpr z).filter _)
  intro a b hab
  omega
theorem lcQ_filter {f : D → Rho → Option Rho} {mt me : ME} {ρ : Rho} {α : Type} {as : List α} {i : α → D} {S : Sto} {Q : List D → Sto → Prop} (t : α → Bool) (g : α → D) (h : ∀ a, a ∈ as → ∃ ρ1, f (i a) ρ = some ρ1 ∧ (∀ Q : D → Sto → Prop, Q (.bl (t a)) S → (mt ρ1 S).Does Q) ∧ ∀ Q : D → Sto → Prop, t a = true → Q (g a) S → (me ρ1 S).Does Q) (q : Q ((as.filter t).map g) S) : LcQ f mt me ρ (as.map i) S Q := by
  induction as generalizing Q with
  | nil => rw [List.map_nil, lcQ_nil]; exact q
  | cons a r ih =>
    obtain ⟨ρ1, e, k1, k2⟩ := h a List.mem_cons_self
    rw [List.map_cons, lcQ_cons, e]
    refine k1 _ ?_
    rw [blQ_bl]
    cases c : t a with
    | true =>
      rw [if_pos rfl]
      refine k2 _ c (ih (fun d hd => h d (List.mem_cons_of_mem _ hd)) ?_)
      rw [List.filter_cons, if_pos c] at q
      exact q
    | false =>
      rw [if_neg (by decide)]
      refine ih (fun d hd => h d (List.mem_cons_of_mem _ hd)) ?_
      rw [List.filter_cons, if_neg (by rw [c]; decide)] at q
      exact q
end
end Dm
-- text HmLooks
namespace Dm
open PySem L2
/-- from S to S': the pots of P have turned, all else is as it was -/
structure GoS (P : Nat → Prop) (S S' : Sto) : Prop where
  len : S.length ≤ S'.length
  same : ∀ n, n < S.length → ¬ P n → S'[n]? = S[n]?
  pot : ∀ n, P n → Pot n S'
section
variable {P : Nat → Prop} {S S1 S2 : Sto} {p q n : Nat} {os : List Int} {s : Int}
theorem GoS.refl (h : ∀ n, P n → Pot n S) : GoS P S S := ⟨Nat.le_refl _, fun _ _ _ => rfl, h⟩
theorem GoS.trans (a : GoS P S S1) (b : GoS P S1 S2) : GoS P S S2 :=
  ⟨Nat.le_trans a.len b.len, fun n h hn => (b.same n (Nat.lt_of_lt_of_le h a.len) hn).trans (a.same n h hn), b.pot⟩
theorem Pot.push {c : Cell} (h : Pot p S) : Pot p (S ++ [c]) := by
  obtain ⟨k, e⟩ := h
  exact ⟨k, by rw [List.getElem?_append_left (List.getElem?_eq_some_iff.mp e).1]; exact e⟩
theorem GoS.push (a : GoS P S S1) (c : Cell) : GoS P S (S1 ++ [c]) :=
  ⟨by rw [List.length_append]; exact Nat.le_trans a.len (Nat.le_add_right _ _), fun n h hn => by
    rw [List.getElem?_append_left (Nat.lt_of_lt_of_le h a.len)]
    exact a.same n h hn, fun n hn => (a.pot n hn).push⟩
theorem GoS.setNew (h : ∀ n, P n → Pot n S) (a : GoS P S S1) (hn : S.length ≤ n) (c : Cell) : GoS P S (S1.set n c) :=
  ⟨by rw [List.length_set]; exact a.len, fun m hm hp => by
    rw [List.getElem?_set_ne (by omega)]
    exact a.same m hm hp, fun m hm => by
    have := (h m hm).lt
    exact (a.pot m hm).set (by omega)⟩
theorem GoS.get {c : Cell} (a : GoS P S S1) (h : S[n]? = some c) (hn : ¬ P n) : S1[n]? = some c := by
  rw [a.same n (List.getElem?_eq_some_iff.mp h).1 hn]
  exact h
theorem Go.all (g : Go q S S1) (hq : P q) (h : ∀ n, P n → Pot n S) : GoS P S S1 :=
  ⟨g.len, fun n hn hp => g.same n hn fun e => hp (e ▸ hq), fun n hn => by
    by_cases e : n = q
    · subst e; exact g.pot
    · obtain ⟨k, z⟩ := h n hn
      exact ⟨k, g.get z e⟩⟩
theorem GoS.one (g : GoS (· = p) S S1) : Go p S S1 := ⟨g.len, fun n hn e => g.same n hn e, g.pot p rfl⟩
def looksD (ls : List (Int × Int)) : D := .tup (ls.map jmpD)
end
end Dm
-- text HmCrowd
namespace Dm
open PySem L2
/-! ### looks by their places -/
def Hh (ls : List (Int × Int)) (i : Nat) : Int := (ls.getD i (0, 0)).1
section
variable {S : Sto} {os : List Int} {s : Int} {ls : List (Int × Int)} {n p : Nat}
@[simp] theorem ty_looks : tyOf S (looksD ls) = some .tup := rfl
@[simp] theorem len_looks : gLen S [looksD ls] = some (.int ls.length) := by simp [looksD]
@[simp] theorem ix_looks {i : Int} : gIx S (looksD ls) (.int i) = atI (ls.map jmpD) i := rfl
end
end Dm
-- text HmEarly
namespace Dm
open PySem L2
end Dm
-- text HmFit
namespace Dm
open PySem L2
end Dm
namespace Dm
open PySem L2
/-- data without cells -/
inductive Plain : Nat → D → Prop
  | non {n : Nat} : Plain n .non
  | int {n : Nat} {i : Int} : Plain n (.int i)
  | bl {n : Nat} {b : Bool} : Plain n (.bl b)
  | str {n : Nat} {x : Str} : Plain n (.str x)
  | tup {n : Nat} {ds : List D} : ds.length ≤ 16777216 → (∀ d, d ∈ ds → Plain n d) → Plain (n + 1) (.tup ds)
theorem Plain.eqv {S : Sto} {n : Nat} {d : D} (h : Plain n d) : Eqv S n d d := by
  induction h with
  | non => exact .non
  | int => exact .int
  | bl => exact .bl
  | str => exact .str
  | tup hl _ ih => exact .tup rfl hl fun i d e a b => by rw [a] at b; cases b; exact ih d (List.mem_of_getElem? a)
theorem Plain.up {n m : Nat} {d : D} (h : Plain n d) (hm : n ≤ m) : Plain m d := by
  induction h generalizing m with
  | non => exact .non
  | int => exact .int
  | bl => exact .bl
  | str => exact .str
  | tup hl _ ih =>
    obtain ⟨k, rfl⟩ : ∃ k, m = k + 1 := ⟨m - 1, by omega⟩
    exact .tup hl fun d hd => ih d hd (by omega)
end Dm
-- text HmEtab
namespace Dm
open PySem L2
end Dm
-- text HmHold
namespace Dm
open PySem L2
/-! ### looks that some table has are not crowded -/
end Dm
-- text HmLeft
namespace Dm
open PySem L2
theorem cut_take {ds : List D} {k : Int} (h : 0 ≤ k) : cutD ds none (some k) = ds.take k.toNat := by
  unfold cutD
  have e : k = (k.toNat : Int) := by omega
  rw [e, HT.sIx_nat, HT.sIx_none, List.drop_zero, Nat.sub_zero, Int.toNat_natCast]
  by_cases c : k.toNat ≤ ds.length
  · rw [Nat.min_eq_left c]
  · rw [Nat.min_eq_right (by omega), List.take_length, List.take_of_length_le (by omega)]
/-! ### looks with one more -/
section
variable {S : Sto} {os : List Int} {s m o : Int} {ls : List (Int × Int)} {n p : Nat}
/-- cells have come -/
def Grow (S S' : Sto) : Prop := ∃ cs, S' = S ++ cs
theorem Grow.refl : Grow S S := ⟨[], (List.append_nil _).symm⟩
theorem Grow.push {S' : Sto} (h : Grow S S') (c : Cell) : Grow S (S' ++ [c]) := by
  obtain ⟨cs, rfl⟩ := h
  exact ⟨cs ++ [c], by rw [List.append_assoc]⟩
theorem Grow.trans {S1 S2 : Sto} (h : Grow S S1) (h2 : Grow S1 S2) : Grow S S2 := by
  obtain ⟨cs, rfl⟩ := h
  obtain ⟨ds, rfl⟩ := h2
  exact ⟨cs ++ ds, by rw [List.append_assoc]⟩
theorem Grow.get {S' : Sto} {c : Cell} (h : Grow S S') (e : S[n]? = some c) : S'[n]? = some c := by
  obtain ⟨cs, rfl⟩ := h
  rw [List.getElem?_append_left (List.getElem?_eq_some_iff.mp e).1]
  exact e
theorem Grow.len {S' : Sto} (h : Grow S S') : S.length ≤ S'.length := by
  obtain ⟨cs, rfl⟩ := h
  rw [List.length_append]; omega
theorem Grow.go {S' : Sto} (h : Grow S S') (hp : Pot p S) : Go p S S' := by
  refine ⟨h.len, fun n hn _ => ?_, ?_⟩
  · obtain ⟨cs, rfl⟩ := h
    rw [List.getElem?_append_left hn]
  · obtain ⟨k, e⟩ := hp
    exact ⟨k, h.get e⟩
end
end Dm
-- text HmFind
namespace Dm
open PySem L2
section
variable {S : Sto} {os : List Int} {s h r : Int} {js : List (Int × Int)} {fold gap : Str}
/-! ### the law's gap -/
theorem off_late {m p : Int} (hm : m < p + s) : ∀ {js : List (Int × Int)} {h : Int}, Chain os s h (some p) js → offAt h js m = h
  | [], _, _ => rfl
  | (a, o) :: t, h, ch => by
    have := ch.2.2.1 p rfl
    rw [offAt, if_pos (by omega)]
/-- three moments, no farther apart than jumps -/
theorem two_same {m1 m2 m3 : Int} (h12 : m1 < m2) (h23 : m2 ≤ m3) (hw : m3 - m1 < s) : ∀ {js : List (Int × Int)} {h : Int} {p : Option Int}, Chain os s h p js → offAt h js m1 ≠ offAt h js m2 → offAt h js m2 = offAt h js m3
  | [], _, _, _, ne => absurd rfl ne
  | (a, o) :: t, h, p, ch, ne => by
    by_cases c : m1 < a
    · rw [offAt, if_pos c] at ne
      by_cases d : m2 < a
      · rw [offAt, if_pos d] at ne; exact absurd rfl ne
      · rw [offAt, if_neg d, offAt, if_neg (by omega), off_late (p := a) (by omega) ch.2.2.2, off_late (p := a) (by omega) ch.2.2.2]
    · rw [offAt, if_neg c, offAt, if_neg (by omega)] at ne
      have := two_same h12 h23 hw ch.2.2.2 ne
      rw [offAt, if_neg (by omega), offAt, if_neg (by omega)]
      exact this
/-- the widest offsets -/
structure Ends2 (os : List Int) (s a b : Int) : Prop where
  lo : atI (os.map D.int) 0 = some (.int a)
  hi : atI (os.map D.int) (-1) = some (.int b)
  w : b - a < s
  mem : ∀ o, o ∈ os → a ≤ o ∧ o ≤ b
  ma : a ∈ os
  mb : b ∈ os
theorem ZoneOK.ends2 (z : ZoneOK os s) : ∃ a b, Ends2 os s a b := by
  cases z with
  | one a s => exact ⟨a, a, rfl, rfl, by omega, by simp, by simp, by simp⟩
  | two a b s => exact ⟨a, b, rfl, rfl, by omega, by simp; omega, by simp, by simp⟩
  | three a b c s => exact ⟨a, c, rfl, rfl, by omega, by simp; omega, by simp, by simp⟩
theorem moms_two (z : ZoneOK os s) (t : TabOK os s h js) : (momsOf os h js r).length ≤ 2 := by
  obtain ⟨a, b, E⟩ := z.ends2
  have asc := moms_asc (h := h) (js := js) (r := r) z.asc
  have mm : ∀ m, m ∈ momsOf os h js r → offAt h js m = r - m := fun m hm => (moms_mem (fun m => off_mem t.held t.chain)).mp hm
  match e : momsOf os h js r with
  | [] => simp
  | [_] => simp
  | [_, _] => simp
  | m1 :: m2 :: m3 :: _ =>
    rw [e] at asc mm
    have h1 := mm m1 (by simp)
    have h2 := mm m2 (by simp)
    have h3 := mm m3 (by simp)
    simp only [List.pairwise_cons, List.mem_cons] at asc
    have a1 : m1 < m2 := asc.1 m2 (.inl rfl)
    have a2 : m2 < m3 := asc.2.1 m3 (.inl rfl)
    have o1 := E.mem _ (off_mem (m := m1) t.held t.chain)
    have o3 := E.mem _ (off_mem (m := m3) t.held t.chain)
    have := two_same a1 (Int.le_of_lt a2) (by have := E.w; omega) t.chain (by omega)
    omega
/-! ### what is found -/
@[simp] theorem gDIx_new {kvs : List (Key × D)} {y : D} : gDIx (S ++ [.dic kvs]) (.cell S.length) y = (keyD y).bind fun k => valD kvs k := gDIx_cell (by simp)
def RuleF (x : Str) : Prop := x = "early" ∨ x = "late" ∨ x = "refuse"
def RuleG (x : Str) : Prop := x = "ahead" ∨ x = "behind" ∨ x = "refuse"
def findO (ms : List Int) (g : Int × Int) (r : Int) (fold gap : Str) : D := match ms with
  | [m] => .int m
  | [m, m'] => if fold = "refuse" then .non else if fold = "early" then .int m else .int m'
  | _ => if gap = "refuse" then .non else if gap = "ahead" then .int (r - g.1) else .int (r - g.2)
theorem valD_put_same {kvs : List (Key × D)} {k : Key} {v : D} : valD (putD kvs k v) k = some v := by
  unfold putD
  split
  · next c =>
    unfold valD
    induction kvs with
    | nil => simp at c
    | cons p kvs ih =>
      rw [List.map_cons, List.find?_cons]
      by_cases e : p.1 = k
      · simp [e]
      · have c2 : (kvs.any fun kv => decide (kv.1 = k)) = true := by
          rw [List.any_cons] at c
          simpa [e] using c
        simp only [if_neg e, decide_eq_false e]
        exact ih c2
  · next c =>
    unfold valD
    have : kvs.find? (fun kv => decide (kv.1 = k)) = none := by
      rw [List.find?_eq_none]
      intro x hx hq
      exact c (List.any_eq_true.mpr ⟨x, hx, hq⟩)
    rw [List.find?_append, this]
    simp
theorem valD_put_other {kvs : List (Key × D)} {k k' : Key} {v : D} (hn : k' ≠ k) : valD (putD kvs k v) k' = valD kvs k' := by
  unfold putD
  split
  · next c =>
    clear c
    unfold valD
    induction kvs with
    | nil => rfl
    | cons p kvs ih =>
      rw [List.map_cons, List.find?_cons, List.find?_cons]
      by_cases e : p.1 = k
      · have e2 : ¬ p.1 = k' := fun q => hn (q.symm.trans e)
        simp only [if_pos e, decide_eq_false e2]
        exact ih
      · simp only [if_neg e]
        by_cases e2 : p.1 = k'
        · simp [e2]
        · simp only [decide_eq_false e2]
          exact ih
  · unfold valD
    rw [List.find?_append]
    have : ¬ k = k' := fun q => hn q.symm
    simp [this]
@[simp] theorem flatD_str {x : Str} : flatD (.str x) = true := rfl
theorem found_by_does {Q : D → Sto → Prop} {n : Nat} {kvs : List (Key × D)} (z : ZoneOK os s) (hn : S[n]? = some (.dic kvs)) (hk : ∀ o, o ∈ os → valD kvs (.inl (r - o)) = some (.int (offAt h js (r - o))))
    {a b : Int} (E : Ends2 os s a b) (hf : RuleF fold) (hg : RuleG gap) (q : Q (findO (momsOf os h js r) (offAt h js (r - b), offAt h js (r - a)) r fold gap) S) : (m_found_by [.tup (os.map .int), .cell n, .int r, .str fold, .str gap] S).Does Q := by
  refine does_def rfl ?_
  refine seq_cut (fun ρ S' => S = S' ∧ ∃ x6, ρ = [some (.tup (os.map .int)), some (.cell n), some (.int r), some (.str fold), some (.str gap), some (.lst ((momsOf os h js r).map .int)), x6]) (fun M hM => ?_) ?_
  · simp [wipeD]
    rw [← List.map_reverse, lcAQ_fix (.inl rfl) (by rw [List.length_map, List.length_reverse])]
    refine lcQ_filter (fun o : Int => offAt h js (r - o) == o) (fun o => .int (r - o)) ?_ ?_
    · intro o ho
      have ho' : o ∈ os := List.mem_reverse.mp ho
      refine ⟨_, rfl, fun Q q => ?_, fun Q e q => ?_⟩
      · simp [gDIx_cell hn, hk o ho']
        exact q
      · simp
        exact q
    · have := hM [some (.tup (os.map .int)), some (.cell n), some (.int r), some (.str fold), some (.str gap), some (.lst ((momsOf os h js r).map .int)), none] S ⟨rfl, _, rfl⟩
      have e : (momsOf os h js r).map D.int = (os.reverse.filter fun o => offAt h js (r - o) == o).map fun o => D.int (r - o) := by
        unfold momsOf
        rw [List.map_map] <;> rfl
      rw [e] at this
      exact this
  rintro ρ _ ⟨rfl, x6, rfl⟩
  have ha := hk a E.ma
  have hb := hk b E.mb
  simp [E.lo, E.hi, gDIx_cell hn, ha, hb]
  unfold findO at q
  match e : momsOf os h js r with
  | [] =>
    rw [e] at q
    rcases hg with rfl | rfl | rfl <;> (simp at q ⊢; exact q)
  | [m] =>
    rw [e] at q
    simp at q ⊢
    exact q
  | [m1, m2] =>
    rw [e] at q
    rcases hf with rfl | rfl | rfl <;> (simp at q ⊢; exact q)
  | m1 :: m2 :: m3 :: l =>
    rw [e] at q
    have n1 : ¬ ((l.length : Int) + 1 + 1 + 1 = 1) := by omega
    have n2 : ¬ ((l.length : Int) + 1 + 1 + 1 = 2) := by omega
    rcases hg with rfl | rfl | rfl <;> (simp [n1, n2] at q ⊢; exact q)
end
end Dm
-- text HmProg
namespace Dm
open PySem L2
/-! ### programs of steps -/
inductive Kd where
  | mom | rdg | spn
  deriving DecidableEq
def Kd.s : Kd → Str
  | .mom => "moment"
  | .rdg => "reading"
  | .spn => "span"
def Kd.d (k : Kd) : D := .str k.s
inductive Stp where
  | read (i p : Nat) | find (i p : Nat) (f g : Str) | offset (i p : Nat) | edition (i p : Nat)
  | plus (i j : Nat) | less (i j : Nat) | add (i : Nat) (m : Int)
def Stp.d : Stp → D
  | .read i p => .tup [.str "read", .int i, .int p]
  | .find i p f g => .tup [.str "find", .int i, .int p, .str f, .str g]
  | .offset i p => .tup [.str "offset", .int i, .int p]
  | .edition i p => .tup [.str "edition", .int i, .int p]
  | .plus i j => .tup [.str "plus", .int i, .int j]
  | .less i j => .tup [.str "less", .int i, .int j]
  | .add i m => .tup [.str "add", .int i, .int m]
def Stp.kind (row : List Kd) : Stp → Kd
  | .read _ _ => .rdg
  | .find _ _ _ _ => .mom
  | .offset _ _ => .spn
  | .edition _ _ => .mom
  | .plus _ _ => .rdg
  | .less _ _ => .mom
  | .add i _ => row.getD i .mom
/-- a step behind values of these kinds, beside nz zones -/
def Stp.OK (nz : Nat) (row : List Kd) : Stp → Prop
  | .read i p => row[i]? = some .mom ∧ p < nz
  | .find i p f g => row[i]? = some .rdg ∧ p < nz ∧ RuleF f ∧ RuleG g
  | .offset i p => row[i]? = some .mom ∧ p < nz
  | .edition i p => row[i]? = some .mom ∧ p < nz
  | .plus i j => row[i]? = some .mom ∧ row[j]? = some .spn
  | .less i j => row[i]? = some .rdg ∧ row[j]? = some .spn
  | .add i m => (row[i]? = some .mom ∨ row[i]? = some .rdg) ∧ -100000 ≤ m ∧ m ≤ 100000
def Stp.isEd : Stp → Bool
  | .edition _ _ => true
  | _ => false
def kindsFrom (row : List Kd) : List Stp → List Kd
  | [] => row
  | t :: ts => kindsFrom (row ++ [t.kind row]) ts
def ProgFrom (nz : Nat) (row : List Kd) : List Stp → Prop
  | [] => True
  | t :: ts => t.OK nz row ∧ ProgFrom nz (row ++ [t.kind row]) ts
def progD (ts : List Stp) : D := .tup (ts.map Stp.d)
/-- a program beside nz zones -/
structure ProgOK (nz : Nat) (ts : List Stp) : Prop where
  len : ts.length ≤ 8
  steps : ProgFrom nz [.mom] ts
  eds : (ts.filter Stp.isEd).length < 2
theorem kindsFrom_snoc (row : List Kd) : ∀ (ts : List Stp) (t : Stp), kindsFrom row (ts ++ [t]) = kindsFrom row ts ++ [t.kind (kindsFrom row ts)]
  | [], t => rfl
  | u :: ts, t => by
    show kindsFrom (row ++ [u.kind row]) (ts ++ [t]) = _
    rw [kindsFrom_snoc]; rfl
theorem progFrom_snoc {nz : Nat} : ∀ {ts : List Stp} {row : List Kd} {t : Stp}, ProgFrom nz row ts → t.OK nz (kindsFrom row ts) → ProgFrom nz row (ts ++ [t])
  | [], _, _, _, h => ⟨h, trivial⟩
  | u :: ts, _, _, ⟨a, b⟩, h => ⟨a, progFrom_snoc b h⟩
theorem kindsFrom_length (row : List Kd) : ∀ ts : List Stp, (kindsFrom row ts).length = row.length + ts.length
  | [] => rfl
  | t :: ts => by
    show (kindsFrom (row ++ [t.kind row]) ts).length = _
    rw [kindsFrom_length]
    simp
    omega
/-! ### the parts of a step -/
section
variable {S : Sto} {zs : List D} {n m : Nat} {row : List Kd}
theorem row_at {i : Nat} {k : Kd} (hn : S[n]? = some (.lst (row.map Kd.d))) (h : row[i]? = some k) : gIx S (.cell n) (.int i) = some (.str k.s) ∧ gLen S [.cell n] = some (.int row.length) ∧ (i : Int) < row.length := by
  have hi := (List.getElem?_eq_some_iff.mp h).1
  refine ⟨?_, by rw [gLen_cell hn, List.length_map], by omega⟩
  rw [gIx_cell hn, atI_of (by omega) (by rw [List.length_map]; omega)]
  simp [h, Kd.d]
theorem part_kind {i : Nat} {k : Kd} (hn : S[n]? = some (.lst (row.map Kd.d))) (h : row[i]? = some k) : m_is_part [.tup zs, .cell n, .str k.s, .int i] S = .ok (.bl true) S := by
  refine pure_of fun Q q => ?_
  refine does_def rfl ?_
  obtain ⟨h1, h2, h3⟩ := row_at hn h
  cases k <;> (simp [h1, h2, h3, Kd.s]; exact q)
theorem part_point {i : Nat} {k : Kd} (hn : S[n]? = some (.lst (row.map Kd.d))) (h : row[i]? = some k) (hk : k ≠ .spn) : m_is_part [.tup zs, .cell n, .str "point", .int i] S = .ok (.bl true) S := by
  refine pure_of fun Q q => ?_
  refine does_def rfl ?_
  obtain ⟨h1, h2, h3⟩ := row_at hn h
  cases k with
  | spn => exact absurd rfl hk
  | mom => simp [h1, h2, h3, Kd.s]; exact q
  | rdg => simp [h1, h2, h3, Kd.s]; exact q
theorem part_place {p : Nat} (h : p < zs.length) : m_is_part [.tup zs, .cell n, .str "place", .int p] S = .ok (.bl true) S := by
  refine pure_of fun Q q => ?_
  refine does_def rfl ?_
  simp [h]; exact q
theorem part_minutes {m : Int} (h : -100000 ≤ m ∧ m ≤ 100000) : m_is_part [.tup zs, .cell n, .str "minutes", .int m] S = .ok (.bl true) S := by
  refine pure_of fun Q q => ?_
  refine does_def rfl ?_
  simp [h]; exact q
theorem part_fold {f : Str} (h : RuleF f) : m_is_part [.tup zs, .cell n, .str "fold", .str f] S = .ok (.bl true) S := by
  refine pure_of fun Q q => ?_
  refine does_def rfl ?_
  rcases h with rfl | rfl | rfl <;> (simp [isTn, gIn, eqF]; exact q)
theorem part_gap {f : Str} (h : RuleG f) : m_is_part [.tup zs, .cell n, .str "gap", .str f] S = .ok (.bl true) S := by
  refine pure_of fun Q q => ?_
  refine does_def rfl ?_
  rcases h with rfl | rfl | rfl <;> (simp [isTn, gIn, eqF]; exact q)
/-! ### steps -/
theorem is_step_ok {t : Stp} (hn : S[n]? = some (.lst (row.map Kd.d))) (h : t.OK zs.length row) : m_is_step [.tup zs, .cell n, t.d] S = .ok (.bl true) S := by
  refine pure_of fun Q q => ?_
  refine does_def rfl ?_
  cases t with
  | read i p =>
    have e1 := part_kind (zs := zs) hn h.1
    have e2 := part_place (S := S) (n := n) h.2
    simp only [Kd.s] at e1
    simp (decide := true) [Stp.d, isTn, tbLook, enumD, wipeD, e1, e2, gAll, lstOf, blsOf]
    exact q
  | offset i p =>
    have e1 := part_kind (zs := zs) hn h.1
    have e2 := part_place (S := S) (n := n) h.2
    simp only [Kd.s] at e1
    simp (decide := true) [Stp.d, isTn, tbLook, enumD, wipeD, e1, e2, gAll, lstOf, blsOf]
    exact q
  | edition i p =>
    have e1 := part_kind (zs := zs) hn h.1
    have e2 := part_place (S := S) (n := n) h.2
    simp only [Kd.s] at e1
    simp (decide := true) [Stp.d, isTn, tbLook, enumD, wipeD, e1, e2, gAll, lstOf, blsOf]
    exact q
  | find i p f g =>
    have e1 := part_kind (zs := zs) hn h.1
    have e2 := part_place (S := S) (n := n) h.2.1
    have e3 := part_fold (S := S) (n := n) (zs := zs) h.2.2.1
    have e4 := part_gap (S := S) (n := n) (zs := zs) h.2.2.2
    simp only [Kd.s] at e1
    simp (decide := true) [Stp.d, isTn, tbLook, enumD, wipeD, atI, ixN, e1, e2, e3, e4, gAll, lstOf, blsOf]
    exact q
  | plus i j =>
    have e1 := part_kind (zs := zs) hn h.1
    have e2 := part_kind (zs := zs) hn h.2
    simp only [Kd.s] at e1 e2
    simp (decide := true) [Stp.d, isTn, tbLook, enumD, wipeD, e1, e2, gAll, lstOf, blsOf]
    exact q
  | less i j =>
    have e1 := part_kind (zs := zs) hn h.1
    have e2 := part_kind (zs := zs) hn h.2
    simp only [Kd.s] at e1 e2
    simp (decide := true) [Stp.d, isTn, tbLook, enumD, wipeD, e1, e2, gAll, lstOf, blsOf]
    exact q
  | add i m =>
    have e2 := part_minutes (S := S) (n := n) (zs := zs) h.2
    have e1 : m_is_part [.tup zs, .cell n, .str "point", .int i] S = .ok (.bl true) S := by
      rcases h.1 with h | h
      · exact part_point hn h (by decide)
      · exact part_point hn h (by decide)
    simp (decide := true) [Stp.d, isTn, tbLook, enumD, wipeD, e1, e2, gAll, lstOf, blsOf]
    exact q
theorem kind_made_ok {t : Stp} (hn : S[n]? = some (.lst (row.map Kd.d))) (h : t.OK m row) : m_kind_made [.cell n, t.d] S = .ok (t.kind row).d S := by
  refine pure_of fun Q q => ?_
  refine does_def rfl ?_
  cases t with
  | add i m =>
    have e : ∃ k, row[i]? = some k := by rcases h.1 with h | h <;> exact ⟨_, h⟩
    obtain ⟨k, e⟩ := e
    obtain ⟨h1, h2, h3⟩ := row_at hn e
    simp [Stp.d, h1]
    simp [Stp.kind, e, Kd.d] at q
    exact q
  | _ => simp (decide := true) [Stp.d, tbLook]; exact q
end
end Dm
-- text HmProg2
namespace Dm
open PySem L2
abbrev Zs := List (List Int × Int)
def zonesD (zs : Zs) : D := .tup (zs.map fun z => zoneD z.1 z.2)
/-- one or two zones -/
structure ZsOK (zs : Zs) : Prop where
  all : ∀ z, z ∈ zs → ZoneOK z.1 z.2
  len : zs.length = 1 ∨ zs.length = 2
section
variable {S : Sto} {zs : Zs} {ts : List Stp}
theorem is_zones_ok (z : ZsOK zs) : m_is_zones [zonesD zs] S = .ok (.bl true) S := by
  refine pure_of fun Q q => ?_
  refine does_def rfl ?_
  obtain ⟨h, l⟩ := z
  match zs, h, l with
  | [], _, l => simp at l
  | [a], h, _ =>
    have h1 := h a (by simp)
    simp [zonesD, isTn, wipeD]
    rw [lcAQ_fix (n := 1) (ds := [zoneD a.1 a.2]) (.inl rfl) rfl]
    simp [is_zone_ok h1, gAll, lstOf, blsOf]
    exact q
  | [a, b], h, _ =>
    have h1 := h a (by simp)
    have h2 := h b (by simp)
    simp [zonesD, isTn, wipeD]
    rw [lcAQ_fix (n := 2) (ds := [zoneD a.1 a.2, zoneD b.1 b.2]) (.inl rfl) rfl]
    simp [is_zone_ok h1, is_zone_ok h2, gAll, lstOf, blsOf]
    exact q
  | _ :: _ :: _ :: _, _, l => simp at l
theorem need_zones_ok (z : ZsOK zs) : m_need_zones [zonesD zs] S = .ok .non S := by
  refine pure_of fun Q q => ?_
  refine does_def rfl ?_
  simp [is_zones_ok z]
  exact q
theorem isEd_does {t : Stp} {ρ : Rho} {i : Nat} (hi : ρ[i]? = some (some t.d)) : ∀ Q : D → Sto → Prop, Q (.bl t.isEd) S → (mOp gEq (mOp gIx (mVar i) (mK (.int 0))) (mK (.str "edition")) ρ S).Does Q := by
  intro Q q
  cases t <;> (simp (decide := true) [hi, Stp.d]; exact q)
theorem is_program_does {Q : D → Sto → Prop} (z : ZsOK zs) (h : ProgOK zs.length ts) (q : Q (.bl true) (S ++ [.lst ((kindsFrom [.mom] ts).map Kd.d)])) : (m_is_program [zonesD zs, progD ts] S).Does Q := by
  have hl := h.len
  have he := h.eds
  refine does_def rfl ?_
  simp [need_zones_ok z, progD, isTn, hl]
  have hl' : ¬ (8 : Int) < ts.length := by omega
  simp [hl']
  refine forL_cut (fun ds ρ S' => ∃ us row x3, ds = (us : List Stp).map Stp.d ∧ ρ = [some (zonesD zs), some (.tup (ts.map Stp.d)), some (.cell S.length), x3] ∧ S' = S ++ [.lst (row.map Kd.d)] ∧ ProgFrom zs.length row us ∧ kindsFrom row us = kindsFrom [.mom] ts ∧ row.length + us.length ≤ 61) _
    ⟨ts, [.mom], _, rfl, rfl, rfl, h.steps, rfl, by simp; omega⟩ ?_ ?_
  · rintro d r ρ S1 ⟨us, row, x2, e, rfl, rfl, hp, hk, hl⟩
    cases us with
    | nil => cases e
    | cons u us =>
      simp at e
      obtain ⟨rfl, rfl⟩ := e
      refine ⟨_, rfl, fun M hM => ?_⟩
      have hn : (S ++ [.lst (row.map Kd.d)])[S.length]? = some (.lst (row.map Kd.d)) := by simp
      have hs := is_step_ok (zs := zs.map fun z => zoneD z.1 z.2) hn (t := u) (by rw [List.length_map]; exact hp.1)
      simp at hl
      simp [zonesD, hs, kind_made_ok hn hp.1]
      refine ⟨by omega, hM _ _ ⟨us, row ++ [u.kind row], _, rfl, rfl, by simp, hp.2, hk, by simp; omega⟩⟩
  · rintro ρ S1 ⟨us, row, x2, e, rfl, rfl, hp, hk, hl⟩
    cases us with
    | cons u us => cases e
    | nil =>
      simp [wipeD]
      try rw [lcAQ_fix (.inl rfl) (by simp)]
      refine lcQ_filter (as := ts) (i := Stp.d) Stp.isEd Stp.d ?_ ?_
      · intro t _
        refine ⟨_, rfl, isEd_does rfl, fun Q _ q => ?_⟩
        simp
        exact q
      · simp
        have : ((ts.filter Stp.isEd).length : Int) < 2 := by omega
        simp [this]
        rw [← hk] at q
        exact q
theorem need_program_does {Q : D → Sto → Prop} (z : ZsOK zs) (h : ProgOK zs.length ts) (q : Q .non (S ++ [.lst ((kindsFrom [.mom] ts).map Kd.d)])) : (m_need_program [zonesD zs, progD ts] S).Does Q := by
  refine does_def rfl ?_
  simp
  refine is_program_does z h ?_
  simp
  exact q
end
end Dm
-- text HmDeed
namespace Dm
open PySem L2
theorem atI_lastL {α : Type} {l : List α} (h : l ≠ []) : ∃ x, x ∈ l ∧ atI l (-1) = some x := by
  have hp : 0 < l.length := List.length_pos_iff.mpr h
  have h1 : (0 : Int) ≤ -1 + (l.length : Int) := by omega
  have h2 : (-1 + (l.length : Int)).toNat = l.length - 1 := by omega
  refine ⟨l[l.length - 1]'(by omega), List.getElem_mem _, ?_⟩
  have h3 : (1 : Int) ≤ l.length := by omega
  simp [atI, ixN, h2, h3]
theorem atI_memL {α : Type} {l : List α} {r : Int} (h0 : 0 ≤ r) (h : r < l.length) : ∃ x, x ∈ l ∧ atI l r = some x := by
  rw [atI_of h0 h]
  have : r.toNat < l.length := by omega
  exact ⟨l[r.toNat], List.getElem_mem _, List.getElem?_eq_getElem this⟩
theorem kd_eq (a b : Kd) : (a.s == b.s) = decide (a = b) := by cases a <;> cases b <;> decide
theorem kd_point (k : Kd) : (k.s == ("point" : Str)) = false := by cases k <;> decide
section
variable {S : Sto} {p n r : Nat} {row : List Kd}
theorem spot_does {k : Kd} {Q : D → Sto → Prop} (hp : Bag p (n + 2) S) (hr : S[r]? = some (.lst (row.map Kd.d))) (hrp : r ≠ p) (hk : k ∈ row) (hl : row.length ≤ 60) (q : ∀ (i : Nat) S', Bag p n S' → GoB p S S' → row[i]? = some k → Q (.int i) S') :
    (m_law_spot [.cell p, .cell r, k.d] S).Does Q := by
  refine does_def rfl ?_
  refine seq_cut (fun ρ S' => S' = S ∧ ∃ l x4, ρ = [some (.cell p), some (.cell r), some k.d, some (.lst ((l : List Nat).map fun i : Nat => D.int i)), x4] ∧ l ≠ [] ∧ l.length ≤ 60 ∧ ∀ i, i ∈ l → row[i]? = some k) (fun M hM => ?_) ?_
  · simp [gLen_cell hr]
    refine ⟨by omega, ?_⟩
    unfold rngD
    refine lcQ_filter (as := List.range row.length) (i := fun i : Nat => D.int (0 + i)) (fun i => decide (row[i]? = some k)) (fun i : Nat => D.int i) ?_ ?_
    · intro i hi
      have hi' : i < row.length := List.mem_range.mp hi
      have e : row[i]? = some row[i] := List.getElem?_eq_getElem hi'
      obtain ⟨h1, h2, h3⟩ := row_at hr e
      refine ⟨_, rfl, fun Q q => ?_, fun Q _ q => ?_⟩
      · simp [wipeD, h1, Kd.d, kd_eq, kd_point]
        rw [e] at q
        by_cases c : row[i] = k
        · simp [c] at q ⊢
          exact q
        · simp [c] at q ⊢
          exact q
      · simp [wipeD]
        exact q
    · refine hM _ _ ⟨rfl, _, _, rfl, ?_, ?_, ?_⟩
      · obtain ⟨i, e⟩ := List.mem_iff_getElem?.mp hk
        exact List.ne_nil_of_mem (a := i) (List.mem_filter.mpr ⟨List.mem_range.mpr (List.getElem?_eq_some_iff.mp e).1, decide_eq_true e⟩)
      · exact Nat.le_trans (List.length_filter_le _ _) (by simpa using hl)
      · intro i hi
        exact of_decide_eq_true (List.mem_filter.mp hi).2
  rintro ρ _ ⟨rfl, l, x4, rfl, ne, ll, hi⟩
  have ne' : l.map (fun i : Nat => D.int i) ≠ [] := by simpa using ne
  simp
  refine pick_does (n := n + 1) hp (by decide) (by decide) fun c S1 b1 g1 r0 r1 => ?_
  by_cases hc : c = 0
  · simp [hc]
    obtain ⟨x, hx, e⟩ := atI_lastL ne'
    obtain ⟨i, hi', rfl⟩ := List.mem_map.mp hx
    rw [e]
    exact q i _ (b1.mono (by omega)) g1 (hi i hi')
  · simp [hc]
    have : 0 < l.length := List.length_pos_iff.mpr ne
    refine pick_does (n := n) b1 (by omega) (by omega) fun c2 S2 b2 g2 s0 s1 => ?_
    obtain ⟨x, hx, e⟩ := atI_memL (l := l.map fun i : Nat => D.int i) s0 (by simpa using s1)
    obtain ⟨i, hi', rfl⟩ := List.mem_map.mp hx
    simp [e]
    exact q i _ b2 (g1.trans g2) (hi i hi')
theorem rules_does {Q : D → Sto → Prop} (hp : Bag p (n + 2) S) (q : ∀ f g S', Bag p n S' → GoB p S S' → RuleF f → RuleG g → Q (.tup [.str f, .str g]) S') : (m_law_any_rules [.cell p] S).Does Q := by
  refine does_def rfl ?_
  simp
  refine pick_does (n := n + 1) hp (by decide) (by decide) fun c S1 b1 g1 r0 r1 => ?_
  have e1 : ∃ f, RuleF f ∧ atI [D.str "early", .str "late", .str "refuse"] c = some (.str f) := by
    have e : c = 0 ∨ c = 1 ∨ c = 2 := by omega
    rcases e with rfl | rfl | rfl
    · exact ⟨_, .inl rfl, by simp⟩
    · exact ⟨_, .inr (.inl rfl), by simp⟩
    · exact ⟨_, .inr (.inr rfl), by simp⟩
  obtain ⟨f, hf, ef⟩ := e1
  simp [ef]
  refine pick_does (n := n) b1 (by decide) (by decide) fun c2 S2 b2 g2 s0 s1 => ?_
  have e2 : ∃ g, RuleG g ∧ atI [D.str "ahead", .str "behind", .str "refuse"] c2 = some (.str g) := by
    have e : c2 = 0 ∨ c2 = 1 ∨ c2 = 2 := by omega
    rcases e with rfl | rfl | rfl
    · exact ⟨_, .inl rfl, by simp⟩
    · exact ⟨_, .inr (.inl rfl), by simp⟩
    · exact ⟨_, .inr (.inr rfl), by simp⟩
  obtain ⟨g, hg, eg⟩ := e2
  simp [eg]
  exact q f g _ b2 (g1.trans g2) hf hg
theorem in_row (hr : S[r]? = some (.lst (row.map Kd.d))) (k : Kd) : gIn false S (.str k.s) (.cell r) = some (.bl (decide (k ∈ row))) := by
  unfold gIn
  rw [seqOf_cell hr]
  have h1 : (row.map Kd.d).all flatD = true := by simp [Kd.d, flatD]
  have h2 : ((row.map Kd.d).any fun x => eqF x (.str k.s)) = decide (k ∈ row) := by
    rw [List.any_map]
    have : (fun x => eqF x (.str k.s)) ∘ Kd.d = fun a : Kd => decide (a = k) := by
      funext a
      show eqF (.str a.s) (.str k.s) = _
      show (a.s == k.s) = _
      exact kd_eq a k
    rw [this]
    by_cases c : k ∈ row
    · rw [decide_eq_true c, List.any_eq_true]
      exact ⟨k, c, decide_eq_true rfl⟩
    · rw [decide_eq_false c, List.any_eq_false]
      intro x hx
      simp only [decide_eq_true_eq]
      rintro rfl
      exact c hx
  simp only [h1, h2, flatD_str, and_self, if_true, Bool.false_eq_true, if_false]
theorem minutes_does {zs : Zs} {Q : D → Sto → Prop} (hp : Bag p (n + 5) S) (z : ZsOK zs) (q : ∀ m S', Bag p n S' → GoB p S S' → -100000 ≤ m ∧ m ≤ 100000 → Q (.int m) S') : (m_law_minutes [.cell p, zonesD zs, .int 0] S).Does Q := by
  refine does_def rfl ?_
  simp [zonesD]
  have hz : 0 < zs.length ∧ zs.length ≤ 2 := by rcases z.len with h | h <;> omega
  refine pick_does (n := n + 4) hp (by omega) (by omega) fun c S1 b1 g1 r0 r1 => ?_
  obtain ⟨x, hx, e⟩ := atI_memL (l := zs.map fun z => zoneD z.1 z.2) r0 (by simpa using r1)
  obtain ⟨⟨os, s⟩, hz', rfl⟩ := List.mem_map.mp hx
  have zo : ZoneOK os s := z.all _ hz'
  have hw : ∃ a b : Int, atI (os.map D.int) (-1) = some (.int b) ∧ atI (os.map D.int) 0 = some (.int a) ∧ 0 ≤ b - a ∧ b - a < s ∧ s ≤ 1000000 := by
    cases zo with
    | one a s h1 h2 h3 h4 => exact ⟨a, a, by simp, by simp, by omega, by omega, h4⟩
    | two a b s h1 h2 h3 h4 h5 => exact ⟨a, b, by simp, by simp, by omega, by omega, h5⟩
    | three a b c s h1 h2 h3 h4 h5 h6 => exact ⟨a, c, by simp, by simp, by omega, by omega, h6⟩
  obtain ⟨a, b, ea, eb, w0, w1, w2⟩ := hw
  rw [gIx_tup, e]
  simp [zoneD, ea, eb]
  refine pick_does (n := n + 3) b1 (by decide) (by decide) fun c2 S2 b2 g2 s0 s1 => ?_
  refine pick_does (n := n + 2) b2 (by decide) (by decide) fun c3 S3 b3 g3 t0 t1 => ?_
  have e3 : ∃ v : Int, 0 ≤ v ∧ atI [D.int 1, .int s, .int (b - a), .int 60, .int 100000, .int c2, .int 300, .int (s - (b - a)), .int (s + (b - a))] c3 = some (.int v) := by
    have e : c3 = 0 ∨ c3 = 1 ∨ c3 = 2 ∨ c3 = 3 ∨ c3 = 4 ∨ c3 = 5 ∨ c3 = 6 ∨ c3 = 7 ∨ c3 = 8 := by omega
    rcases e with e | e | e | e | e | e | e | e | e <;> subst e
    · exact ⟨1, by omega, by simp⟩
    · exact ⟨s, by omega, by simp⟩
    · exact ⟨b - a, by omega, by simp⟩
    · exact ⟨60, by omega, by simp [atI, ixN]⟩
    · exact ⟨100000, by omega, by simp [atI, ixN]⟩
    · exact ⟨c2, by omega, by simp [atI, ixN]⟩
    · exact ⟨300, by omega, by simp [atI, ixN]⟩
    · exact ⟨s - (b - a), by omega, by simp [atI, ixN]⟩
    · exact ⟨s + (b - a), by omega, by simp [atI, ixN]⟩
  obtain ⟨v, v0, ev⟩ := e3
  try rw [gIx_lst]
  rw [ev]
  simp
  refine pick_does (n := n + 1) b3 (by decide) (by decide) fun c4 S4 b4 g4 u0 u1 => ?_
  simp
  refine pick_does (n := n) b4 (by decide) (by decide) fun c5 S5 b5 g5 x0 x1 => ?_
  have hw : -1 ≤ (if v + c4 - 1 < 100000 then v + c4 - 1 else 100000) ∧ (if v + c4 - 1 < 100000 then v + c4 - 1 else 100000) ≤ 100000 := by split <;> omega
  generalize (if v + c4 - 1 < 100000 then v + c4 - 1 else 100000) = w at hw
  have k1 : CMulW 2 c5 := cmulw64 (by omega) (by omega)
  have k2 : CMulW w (1 - 2 * c5) := cmulw64 (by omega) (by omega)
  have g := g1.trans (g2.trans (g3.trans (g4.trans g5)))
  have e : c5 = 0 ∨ c5 = 1 := by omega
  rcases e with rfl | rfl
  · simp at k2
    simp [k1, k2]
    exact q _ _ b5 g (by omega)
  · simp at k2
    simp [k1, k2]
    exact q _ _ b5 g (by omega)
theorem stp_py {t : Stp} {nz : Nat} (h : t.OK nz row) : ∃ q, toPy t.d = some q ∧ q.canLay0 = true ∧ q.depth ≤ 1 := by
  cases t with
  | find i p f g =>
    obtain ⟨_, _, hf, hg⟩ := h
    refine ⟨_, rfl, ?_, by simp [PyData.depth, PyData.depthAll]⟩
    rcases hf with rfl | rfl | rfl <;> rcases hg with rfl | rfl | rfl <;> (simp [PyData.canLay0, PyData.canLayAll0]; decide +kernel)
  | _ => exact ⟨_, rfl, by simp [PyData.canLay0, PyData.canLayAll0]; decide +kernel, by simp [PyData.depth, PyData.depthAll]⟩
end
end Dm
-- text HmWanted
namespace Dm
open PySem L2
section
variable {S : Sto} {p n r : Nat} {row : List Kd}
theorem kindsFrom_mem {k : Kd} : ∀ {ts : List Stp} {row : List Kd}, k ∈ row → k ∈ kindsFrom row ts
  | [], _, h => h
  | t :: ts, row, h => kindsFrom_mem (ts := ts) (List.mem_append_left _ h)
end
end Dm
-- text HmPlan
namespace Dm
open PySem L2
def Stp.isFind : Stp → Bool
  | .find _ _ _ _ => true
  | _ => false
def Stp.isConv : Stp → Bool
  | .find _ _ _ _ => true
  | .read _ _ => true
  | .offset _ _ => true
  | .edition _ _ => true
  | _ => false
section
variable {S : Sto} {p n r : Nat} {row : List Kd}
theorem spot_point_does {Q : D → Sto → Prop} (hp : Bag p (n + 2) S) (hr : S[r]? = some (.lst (row.map Kd.d))) (hrp : r ≠ p) (hk : .mom ∈ row) (hl : row.length ≤ 60) (q : ∀ (i : Nat) S', Bag p n S' → GoB p S S' → (row[i]? = some .mom ∨ row[i]? = some .rdg) → Q (.int i) S') :
    (m_law_spot [.cell p, .cell r, .str "point"] S).Does Q := by
  refine does_def rfl ?_
  refine seq_cut (fun ρ S' => S' = S ∧ ∃ l x4, ρ = [some (.cell p), some (.cell r), some (.str "point"), some (.lst ((l : List Nat).map fun i : Nat => D.int i)), x4] ∧ l ≠ [] ∧ l.length ≤ 60 ∧ ∀ i, i ∈ l → (row[i]? = some .mom ∨ row[i]? = some .rdg)) (fun M hM => ?_) ?_
  · simp [gLen_cell hr]
    refine ⟨by omega, ?_⟩
    unfold rngD
    refine lcQ_filter (as := List.range row.length) (i := fun i : Nat => D.int (0 + i)) (fun i => decide (row[i]? = some .mom ∨ row[i]? = some .rdg)) (fun i : Nat => D.int i) ?_ ?_
    · intro i hi
      have hi' : i < row.length := List.mem_range.mp hi
      have e : row[i]? = some row[i] := List.getElem?_eq_getElem hi'
      obtain ⟨h1, h2, h3⟩ := row_at hr e
      refine ⟨_, rfl, fun Q q => ?_, fun Q _ q => ?_⟩
      · simp [wipeD, h1, kd_point]
        rw [e] at q
        revert q
        cases row[i] <;> (intro q; simp (decide := true) [Kd.s] at q ⊢; exact q)
      · simp [wipeD]
        exact q
    · refine hM _ _ ⟨rfl, _, _, rfl, ?_, ?_, ?_⟩
      · obtain ⟨i, e⟩ := List.mem_iff_getElem?.mp hk
        exact List.ne_nil_of_mem (a := i) (List.mem_filter.mpr ⟨List.mem_range.mpr (List.getElem?_eq_some_iff.mp e).1, decide_eq_true (.inl e)⟩)
      · exact Nat.le_trans (List.length_filter_le _ _) (by simpa using hl)
      · intro i hi
        exact of_decide_eq_true (List.mem_filter.mp hi).2
  rintro ρ _ ⟨rfl, l, x4, rfl, ne, ll, hi⟩
  have ne' : l.map (fun i : Nat => D.int i) ≠ [] := by simpa using ne
  simp
  refine pick_does (n := n + 1) hp (by decide) (by decide) fun c S1 b1 g1 r0 r1 => ?_
  by_cases hc : c = 0
  · simp [hc]
    obtain ⟨x, hx, e⟩ := atI_lastL ne'
    obtain ⟨i, hi', rfl⟩ := List.mem_map.mp hx
    rw [e]
    exact q i _ (b1.mono (by omega)) g1 (hi i hi')
  · simp [hc]
    have : 0 < l.length := List.length_pos_iff.mpr ne
    refine pick_does (n := n) b1 (by omega) (by omega) fun c2 S2 b2 g2 s0 s1 => ?_
    obtain ⟨x, hx, e⟩ := atI_memL (l := l.map fun i : Nat => D.int i) s0 (by simpa using s1)
    obtain ⟨i, hi', rfl⟩ := List.mem_map.mp hx
    simp [e]
    exact q i _ b2 (g1.trans g2) (hi i hi')
/-- few minutes -/
theorem minutes1_does {b : D} {Q : D → Sto → Prop} (hp : Bag p (n + 1) S) (q : ∀ m S', Bag p n S' → GoB p S S' → -2 ≤ m ∧ m ≤ 2 → Q (.int m) S') : (m_law_minutes [.cell p, b, .int 1] S).Does Q := by
  refine does_def rfl ?_
  simp
  refine pick_does (n := n) hp (by decide) (by decide) fun c S1 b1 g1 r0 r1 => ?_
  simp
  exact q _ _ b1 g1 (by omega)
/-- the words that may come next -/
def NW (row : List Kd) (a b c : Int) (w : Str) : Prop := w = "add" ∨ (w = "plus" ∧ Kd.spn ∈ row) ∨ (w = "less" ∧ Kd.spn ∈ row ∧ Kd.rdg ∈ row) ∨ (0 < a ∧ (w = "read" ∨ w = "offset" ∨ (w = "edition" ∧ 0 < c) ∨ (w = "find" ∧ 0 < b ∧ Kd.rdg ∈ row)))
def nwA : List Str := ["add", "add", "read", "read", "read", "offset"]
theorem next_words_does {a b c d : Int} {Q : D → Sto → Prop} (hr : S[r]? = some (.lst (row.map Kd.d))) (c0 : 0 ≤ c) (q : ∀ ws : List Str, ws ≠ [] → ws.length ≤ 60 → (∀ w, w ∈ ws → NW row a b c w) → Q (.lst (ws.map D.str)) S) :
    (m_law_next_words [.cell r, .lst [.int a, .int b, .int c, .int d]] S).Does Q := by
  refine does_def rfl ?_
  have hsp := in_row hr .spn
  have hrd := in_row hr .rdg
  simp only [Kd.s] at hsp hrd
  refine seq_cut (fun ρ S' => S' = S ∧ ∃ ws : List Str, ρ = [some (.cell r), some (.lst [.int a, .int b, .int c, .int d]), some (.lst (ws.map D.str))] ∧ ws ≠ [] ∧ ws.length ≤ 3 ∧ ∀ w, w ∈ ws → NW row a b c w) (fun M hM => ?_) ?_
  · simp [hsp, hrd]
    by_cases h1 : Kd.spn ∈ row
    · by_cases h2 : Kd.rdg ∈ row
      · simp [h1, h2]
        exact hM _ _ ⟨rfl, ["add", "plus", "less"], rfl, by simp, by simp, by simp [NW, h1, h2]⟩
      · simp [h1, h2]
        exact hM _ _ ⟨rfl, ["add", "plus"], rfl, by simp, by simp, by simp [NW, h1, h2]⟩
    · simp [h1]
      exact hM _ _ ⟨rfl, ["add"], rfl, by simp, by simp, by simp [NW]⟩
  rintro ρ S' ⟨rfl, ws, rfl, ne, ll, hw⟩
  by_cases ca : 0 < a
  · have hm : ∃ k : Nat, (if c < 2 then c else 2) = (k : Int) ∧ k ≤ 2 ∧ (0 < k → 0 < c) := ⟨(if c < 2 then c else 2).toNat, by split <;> omega, by split <;> omega, by split <;> omega⟩
    obtain ⟨k, ek, k2, kc⟩ := hm
    simp [ca, hrd, ek]
    have m9 : ∀ i : Int, 0 ≤ i → i ≤ 1 → CMulW 9 i := fun i h0 h1 => cmulw64 (by omega) (by omega)
    have base : ∀ w, w ∈ ws ++ (nwA ++ List.replicate k ("edition" : Str)) → NW row a b c w := by
      intro w h
      rcases List.mem_append.mp h with h | h
      · exact hw w h
      rcases List.mem_append.mp h with h | h
      · simp [nwA] at h
        rcases h with rfl | rfl | rfl <;> simp [NW, ca]
      · rw [List.mem_replicate] at h
        obtain ⟨hk, rfl⟩ := h
        simp [NW, ca, kc (by omega)]
    have more : ∀ j : Nat, (j = 0 ∨ (0 < b ∧ Kd.rdg ∈ row)) → j ≤ 9 → Q (.lst ((ws ++ (nwA ++ List.replicate k ("edition" : Str)) ++ List.replicate j ("find" : Str)).map D.str)) S' := by
      intro j hj j9
      refine q _ ?_ ?_ fun w h => ?_
      · intro h
        have : ws = [] := by
          have := congrArg List.length h
          simp [nwA] at this
        exact ne this
      · rw [List.length_append, List.length_append, List.length_append, List.length_replicate, List.length_replicate]
        simp [nwA]
        omega
      · rcases List.mem_append.mp h with h | h
        · exact base w h
        · rw [List.mem_replicate] at h
          obtain ⟨h0, rfl⟩ := h
          rcases hj with hj | ⟨h1, h2⟩
          · exact absurd hj h0
          · simp [NW, ca, h1, h2]
    refine ⟨by omega, by omega, by omega, ?_⟩
    by_cases cb : 0 < b
    · by_cases cr : Kd.rdg ∈ row
      · simp [cb, cr, m9 1 (by decide) (by decide)]
        refine ⟨by omega, ?_⟩
        have := more 9 (.inr ⟨cb, cr⟩) (by decide)
        simpa [nwA] using this
      · simp [cb, cr, m9 0 (by decide) (by decide)]
        refine ⟨by omega, ?_⟩
        have := more 0 (.inl rfl) (by decide)
        simpa [nwA] using this
    · simp [cb, m9 0 (by decide) (by decide)]
      refine ⟨by omega, ?_⟩
      have := more 0 (.inl rfl) (by decide)
      simpa [nwA] using this
  · simp [ca]
    exact q ws ne (by omega) hw
end
end Dm
-- text HmPlan2
namespace Dm
open PySem L2
/-- a drawn step -/
structure PGood (nz : Nat) (row : List Kd) (a b c : Int) (t : Stp) : Prop where
  ok : t.OK nz row
  conv : t.isConv = true → 0 < a
  find : t.isFind = true → 0 < b
  ed : t.isEd = true → 0 < c
section
variable {S : Sto} {p n r : Nat} {row : List Kd} {zs : Zs}
theorem any_deed_does {a b c d : Int} {Q : D → Sto → Prop} (hp : Bag p (n + 20) S) (z : ZsOK zs) (hr : S[r]? = some (.lst (row.map Kd.d))) (hrp : r ≠ p) (hm : .mom ∈ row) (hl : row.length ≤ 60) (c0 : 0 ≤ c) (hd : d = 0 ∨ d = 1)
    (q : ∀ t S', Bag p n S' → GoB p S S' → PGood zs.length row a b c t → Q t.d S') : (m_law_any_deed [.cell p, zonesD zs, .cell r, .lst [.int a, .int b, .int c, .int d]] S).Does Q := by
  refine does_def rfl ?_
  have hz : 0 < zs.length ∧ zs.length ≤ 2 := by rcases z.len with h | h <;> omega
  simp
  refine next_words_does hr c0 fun ws ne wl hw => ?_
  have wp : 0 < ws.length := List.length_pos_iff.mpr ne
  simp
  refine pick_does (n := n + 19) hp (by omega) (by omega) fun v S1 b1 g1 r0 r1 => ?_
  obtain ⟨x, hx, e⟩ := atI_memL (l := ws.map D.str) r0 (by simpa using r1)
  obtain ⟨w, hw1, rfl⟩ := List.mem_map.mp hx
  have nw := hw w hw1
  simp [e]
  have hr1 := g1.get hr hrp
  rcases nw with rfl | ⟨rfl, h1⟩ | ⟨rfl, h1, h2⟩ | ⟨ha, nw⟩
  · simp
    refine spot_point_does (n := n + 17) b1 hr1 hrp hm hl fun i S2 b2 g2 hi => ?_
    rcases hd with rfl | rfl
    · refine minutes_does (n := n + 12) b2 z fun m S3 b3 g3 hm' => ?_
      exact q (.add i m) S3 (b3.mono (by omega)) (g1.trans (g2.trans g3)) ⟨⟨hi, hm'⟩, fun h => (nomatch h), fun h => (nomatch h), fun h => (nomatch h)⟩
    · refine minutes1_does (n := n + 16) b2 fun m S3 b3 g3 hm' => ?_
      exact q (.add i m) S3 (b3.mono (by omega)) (g1.trans (g2.trans g3)) ⟨⟨hi, by omega⟩, fun h => (nomatch h), fun h => (nomatch h), fun h => (nomatch h)⟩
  · simp
    refine spot_does (n := n + 17) (k := .mom) b1 hr1 hrp hm hl fun i S2 b2 g2 hi => ?_
    refine spot_does (n := n + 15) (k := .spn) b2 (g2.get hr1 hrp) hrp h1 hl fun j S3 b3 g3 hj => ?_
    exact q (.plus i j) S3 (b3.mono (by omega)) (g1.trans (g2.trans g3)) ⟨⟨hi, hj⟩, fun h => (nomatch h), fun h => (nomatch h), fun h => (nomatch h)⟩
  · simp
    refine spot_does (n := n + 17) (k := .rdg) b1 hr1 hrp h2 hl fun i S2 b2 g2 hi => ?_
    refine spot_does (n := n + 15) (k := .spn) b2 (g2.get hr1 hrp) hrp h1 hl fun j S3 b3 g3 hj => ?_
    exact q (.less i j) S3 (b3.mono (by omega)) (g1.trans (g2.trans g3)) ⟨⟨hi, hj⟩, fun h => (nomatch h), fun h => (nomatch h), fun h => (nomatch h)⟩
  · have place : ∀ {Q2 : D → Sto → Prop}, (∀ (v : Nat) S2, v < zs.length → Bag p (n + 18) S2 → GoB p S1 S2 → Q2 (.int v) S2) → (m_law_pick [.cell p, .int zs.length] S1).Does Q2 := by
      intro Q2 h
      refine pick_does (n := n + 18) b1 (by omega) (by omega) fun v S2 b2 g2 r0 r1 => ?_
      have ev : v = ((v.toNat : Nat) : Int) := by omega
      rw [ev]
      exact h v.toNat S2 (by omega) b2 g2
    rcases nw with rfl | rfl | ⟨rfl, hc⟩ | ⟨rfl, hb, h2⟩
    · simp (decide := true) [zonesD]
      refine place fun v S2 hv b2 g2 => ?_
      refine spot_does (n := n + 16) (k := .mom) b2 (g2.get hr1 hrp) hrp hm hl fun i S3 b3 g3 hi => ?_
      exact q (.read i v) S3 (b3.mono (by omega)) (g1.trans (g2.trans g3)) ⟨⟨hi, hv⟩, fun _ => ha, fun h => (nomatch h), fun h => (nomatch h)⟩
    · simp (decide := true) [zonesD]
      refine place fun v S2 hv b2 g2 => ?_
      refine spot_does (n := n + 16) (k := .mom) b2 (g2.get hr1 hrp) hrp hm hl fun i S3 b3 g3 hi => ?_
      exact q (.offset i v) S3 (b3.mono (by omega)) (g1.trans (g2.trans g3)) ⟨⟨hi, hv⟩, fun _ => ha, fun h => (nomatch h), fun h => (nomatch h)⟩
    · simp (decide := true) [zonesD]
      refine place fun v S2 hv b2 g2 => ?_
      refine spot_does (n := n + 16) (k := .mom) b2 (g2.get hr1 hrp) hrp hm hl fun i S3 b3 g3 hi => ?_
      exact q (.edition i v) S3 (b3.mono (by omega)) (g1.trans (g2.trans g3)) ⟨⟨hi, hv⟩, fun _ => ha, fun h => (nomatch h), fun _ => hc⟩
    · simp (decide := true) [zonesD]
      refine place fun v S2 hv b2 g2 => ?_
      refine spot_does (n := n + 16) (k := .rdg) b2 (g2.get hr1 hrp) hrp h2 hl fun i S3 b3 g3 hi => ?_
      refine rules_does (n := n + 14) b3 fun f g S4 b4 g4 hf hg => ?_
      simp
      exact q (.find i v f g) S4 (b4.mono (by omega)) (g1.trans (g2.trans (g3.trans g4))) ⟨⟨hi, hv, hf, hg⟩, fun _ => ha, fun _ => hb, fun h => (nomatch h)⟩
theorem law_kind_made_ok {m : Nat} {t : Stp} (hn : S[n]? = some (.lst (row.map Kd.d))) (h : t.OK m row) : m_law_kind_made [.cell n, t.d] S = .ok (t.kind row).d S := by
  refine pure_of fun Q q => ?_
  refine does_def rfl ?_
  cases t with
  | add i m =>
    have e : ∃ k, row[i]? = some k := by rcases h.1 with h | h <;> exact ⟨_, h⟩
    obtain ⟨k, e⟩ := e
    obtain ⟨h1, h2, h3⟩ := row_at hn e
    simp [Stp.d, h1]
    simp [Stp.kind, e, Kd.d] at q
    exact q
  | _ => simp (decide := true) [Stp.d]; exact q
theorem kind_row_does {m : Nat} {ts : List Stp} {Q : D → Sto → Prop} (h : ProgFrom m [.mom] ts) (hl : ts.length ≤ 60) (q : Q (.cell S.length) (S ++ [.lst ((kindsFrom [.mom] ts).map Kd.d)])) : (m_law_kind_row [progD ts] S).Does Q := by
  refine does_def rfl ?_
  simp [progD]
  refine forL_cut (fun ds ρ S' => ∃ us row x2, ds = (us : List Stp).map Stp.d ∧ ρ = [some (.tup (ts.map Stp.d)), some (.cell S.length), x2] ∧ S' = S ++ [.lst (row.map Kd.d)] ∧ ProgFrom m row us ∧ kindsFrom row us = kindsFrom [.mom] ts ∧ row.length + us.length ≤ 61) _
    ⟨ts, [.mom], _, rfl, rfl, rfl, h, rfl, by simp; omega⟩ ?_ ?_
  · rintro d r ρ S1 ⟨us, row, x2, e, rfl, rfl, hp, hk, hl⟩
    cases us with
    | nil => cases e
    | cons u us =>
      simp at e
      obtain ⟨rfl, rfl⟩ := e
      refine ⟨_, rfl, fun M hM => ?_⟩
      have hn : (S ++ [.lst (row.map Kd.d)])[S.length]? = some (.lst (row.map Kd.d)) := by simp
      simp at hl
      simp [law_kind_made_ok hn hp.1]
      refine ⟨by omega, hM _ _ ⟨us, row ++ [u.kind row], _, rfl, rfl, by simp, hp.2, hk, by simp; omega⟩⟩
  · rintro ρ S1 ⟨us, row, x2, e, rfl, rfl, hp, hk, hl⟩
    cases us with
    | nil =>
      simp
      rw [← hk] at q
      exact q
    | cons u us => cases e
def bI (b : Bool) : Int := if b then 1 else 0
theorem less_room2_ok {t : Stp} {a b c d : Int} : m_law_less_room [.lst [.int a, .int b, .int c, .int d], t.d] S = .ok (.lst [.int (a - bI t.isConv), .int (b - bI t.isFind), .int (c - bI t.isEd), .int d]) S := by
  refine pure_of fun Q q => ?_
  refine does_def rfl ?_
  cases t <;> (simp [Stp.isEd, Stp.isConv, Stp.isFind, bI] at q; simp (decide := true) [Stp.d, gIn, eqF, atI, ixN]; exact q)
def cnt (f : Stp → Bool) (ts : List Stp) : Int := ((ts.filter f).length : Int)
theorem cnt_nil {f : Stp → Bool} : cnt f [] = 0 := rfl
theorem cnt_snoc {f : Stp → Bool} {ts : List Stp} {t : Stp} : cnt f (ts ++ [t]) = cnt f ts + bI (f t) := by
  unfold cnt bI
  rw [List.filter_append]
  by_cases h : f t = true
  · simp [h]
  · simp [h]
/-- .. with so many steps more -/
theorem longer_plan_does {ts0 : List Stp} {a b c d st : Int} {Q : D → Sto → Prop} (hp : Bag p (n + 20 * st.toNat) S) (z : ZsOK zs) (h0 : ProgFrom zs.length [.mom] ts0) (hl : ts0.length + st.toNat ≤ 59) (hs : st ≤ 60 ∧ -60 ≤ st) (a0 : 0 ≤ a) (b0 : 0 ≤ b) (c0 : 0 ≤ c) (hd : d = 0 ∨ d = 1)
    (q : ∀ ts S', Bag p n S' → GoB p S S' → ProgFrom zs.length [.mom] (ts0 ++ ts) → ts.length = st.toNat → cnt Stp.isConv ts ≤ a → cnt Stp.isFind ts ≤ b → cnt Stp.isEd ts ≤ c → Q (progD (ts0 ++ ts)) S') :
    (m_law_longer_plan [.cell p, zonesD zs, progD ts0, .int st, .lst [.int a, .int b, .int c, .int d]] S).Does Q := by
  refine does_def rfl ?_
  simp
  refine ⟨by omega, ?_⟩
  refine forL_cut (fun ds ρ S' => ∃ (ts : List Stp) (x5 x6 : Option D), ρ = [some (.cell p), some (zonesD zs), some (progD (ts0 ++ ts)), some (.int st), some (.lst [.int (a - cnt Stp.isConv ts), .int (b - cnt Stp.isFind ts), .int (c - cnt Stp.isEd ts), .int d]), x5, x6] ∧
      Bag p (n + 20 * ds.length) S' ∧ GoB p S S' ∧ ProgFrom zs.length [.mom] (ts0 ++ ts) ∧ ts.length + ds.length = st.toNat ∧ cnt Stp.isConv ts ≤ a ∧ cnt Stp.isFind ts ≤ b ∧ cnt Stp.isEd ts ≤ c) _
    ⟨[], none, none, by simp [cnt_nil], by rw [rngD_length]; exact hp, .refl, by simpa using h0, by rw [rngD_length]; simp, a0, b0, c0⟩ ?_ ?_
  · rintro e ds ρ S1 ⟨ts, x5, x6, rfl, b1, g1, hp1, hl1, ca, cb, cc⟩
    refine ⟨_, rfl, fun M hM => ?_⟩
    simp at hl1 b1
    have hk := kindsFrom_length [.mom] (ts0 ++ ts)
    simp at hk
    simp
    refine kind_row_does hp1 (by simp; omega) ?_
    have b2 : Bag p (n + 20 * ds.length + 20) (S1 ++ [.lst ((kindsFrom [.mom] (ts0 ++ ts)).map Kd.d)]) := (b1.push _).mono (by omega)
    have pl := b1.lt
    refine any_deed_does (n := n + 20 * ds.length) (row := kindsFrom [.mom] (ts0 ++ ts)) b2 z (by simp) (by omega) (kindsFrom_mem List.mem_cons_self) (by omega) (by omega) hd fun t S3 b3 g3 pg => ?_
    simp [less_room2_ok, progD]
    refine ⟨by omega, hM _ _ ⟨ts ++ [t], some e, some t.d, ?_, b3, g1.trans ((GoB.push _).trans g3), ?_, by simp; omega, ?_, ?_, ?_⟩⟩
    · rw [cnt_snoc, cnt_snoc, cnt_snoc]
      simp [progD]
      omega
    · rw [← List.append_assoc]
      exact progFrom_snoc hp1 pg.ok
    · rw [cnt_snoc]
      have := pg.conv
      unfold bI
      split
      · have := this (by assumption); omega
      · omega
    · rw [cnt_snoc]
      have := pg.find
      unfold bI
      split
      · have := this (by assumption); omega
      · omega
    · rw [cnt_snoc]
      have := pg.ed
      unfold bI
      split
      · have := this (by assumption); omega
      · omega
  · rintro ρ S1 ⟨ts, x5, x6, rfl, b1, g1, hp1, hl1, ca, cb, cc⟩
    simp at hl1
    simp
    exact q ts _ (b1.mono (by omega)) g1 hp1 hl1 ca cb cc
end
end Dm
-- text HmEarth
namespace Dm
open PySem L2
/-! ### tables by zones -/
abbrev Tb := Int × List (Int × Int)
def Tb.d (t : Tb) : D := tabD t.1 t.2
def Tb.of (t : Tb) (m : Int) : Int := offAt t.1 t.2 m
structure TbsOK (zs : Zs) (tb : List Tb) : Prop where
  len : tb.length = zs.length
  ok : ∀ (p : Nat) (z : List Int × Int) (t : Tb), zs[p]? = some z → tb[p]? = some t → TabOK z.1 z.2 t.1 t.2
def worldD (a b : List Tb) : D := .tup [.tup (a.map Tb.d), .tup (b.map Tb.d)]
def getT (tb : List Tb) (p : Nat) : Tb := tb.getD p (0, [])
def getZ (zs : Zs) (p : Nat) : List Int × Int := zs.getD p ([], 1)
def getV (vs : List Int) (i : Nat) : Int := vs.getD i 0
theorem getV_at {vs : List Int} {i : Nat} (h : i < vs.length) : vs[i]? = some (getV vs i) := by
  unfold getV
  rw [List.getD_eq_getElem?_getD, List.getElem?_eq_getElem h]; rfl
theorem getT_at {tb : List Tb} {i : Nat} (h : i < tb.length) : tb[i]? = some (getT tb i) := by
  unfold getT
  rw [List.getD_eq_getElem?_getD, List.getElem?_eq_getElem h]; rfl
theorem getZ_at {zs : Zs} {i : Nat} (h : i < zs.length) : zs[i]? = some (getZ zs i) := by
  unfold getZ
  rw [List.getD_eq_getElem?_getD, List.getElem?_eq_getElem h]; rfl
theorem TbsOK.tab {zs : Zs} {tb : List Tb} (h : TbsOK zs tb) {p : Nat} (hp : p < zs.length) : TabOK (getZ zs p).1 (getZ zs p).2 (getT tb p).1 (getT tb p).2 :=
  h.ok p _ _ (getZ_at hp) (getT_at (by rw [h.len]; exact hp))
theorem ZsOK.at {zs : Zs} (z : ZsOK zs) {p : Nat} (hp : p < zs.length) : ZoneOK (getZ zs p).1 (getZ zs p).2 := z.all _ (List.mem_of_getElem? (getZ_at hp))
theorem TbsOK.set {zs : Zs} {tb later : List Tb} (h : TbsOK zs tb) (h' : TbsOK zs later) (p : Nat) : TbsOK zs (tb.set p (getT later p)) := by
  refine ⟨by rw [List.length_set]; exact h.len, fun i z t hz ht => ?_⟩
  by_cases e : p = i
  · subst e
    have hp : p < tb.length := by
      have := (List.getElem?_eq_some_iff.mp ht).1
      rw [List.length_set] at this
      exact this
    rw [List.getElem?_set_self hp] at ht
    cases ht
    exact h'.ok p z _ hz (getT_at (by rw [h'.len, ← h.len]; exact hp))
  · rw [List.getElem?_set_ne e] at ht
    exact h.ok i z t hz ht
section
variable {S : Sto} {n : Nat}
theorem ix_ints {vs : List Int} {i : Nat} (h : S[n]? = some (.lst (vs.map .int))) (hi : i < vs.length) : gIx S (.cell n) (.int i) = some (.int (getV vs i)) := by
  rw [gIx_cell h, atI_of (by omega) (by rw [List.length_map]; omega)]
  simp [getV_at hi]
theorem ix_tabs {tb : List Tb} {i : Nat} (hi : i < tb.length) : atI (tb.map Tb.d) (i : Int) = some (getT tb i).d := by
  rw [atI_of (by omega) (by rw [List.length_map]; omega)]
  simp [getT_at hi]
theorem ix_tabsC {tb : List Tb} {i : Nat} (h : S[n]? = some (.lst (tb.map Tb.d))) (hi : i < tb.length) : gIx S (.cell n) (.int i) = some (getT tb i).d := by
  rw [gIx_cell h, ix_tabs hi]
theorem ix_zones {zs : Zs} {i : Nat} (hi : i < zs.length) : gIx S (zonesD zs) (.int i) = some (zoneD (getZ zs i).1 (getZ zs i).2) := by
  unfold zonesD
  rw [gIx_tup, atI_of (by omega) (by rw [List.length_map]; omega)]
  simp [getZ_at hi]
end
section
variable {S : Sto} {os : List Int} {s h m r : Int} {js : List (Int × Int)}
@[simp] theorem tgU_jmp {j : Int × Int} {ρ : Rho} {f : List D → Rho → Option Rho} : tgU 2 f (jmpD j) ρ = f [.int j.1, .int j.2] ρ := rfl
@[simp] theorem tgU_zone {ρ : Rho} {f : List D → Rho → Option Rho} : tgU 2 f (zoneD os s) ρ = f [.tup (os.map .int), .int s] ρ := rfl
@[simp] theorem tgU_tab {ρ : Rho} {f : List D → Rho → Option Rho} : tgU 2 f (tabD h js) ρ = f [.int h, .tup (js.map jmpD)] ρ := rfl
theorem law_holds_sh : m_law_holds [tabD h js, .int m] S = .ok (.int (shAt h js m)) S := by
  refine pure_of fun Q q => ?_
  refine does_def rfl ?_
  simp
  refine forL_cut (fun ds ρ S' => S' = S ∧ ∃ (suf : List (Int × Int)) (h' : Int) (x3 x4 : Option D), ρ = [some (tabD h js), some (.int m), some (.int h'), x3, x4] ∧ ds = suf.map jmpD ∧ shAt h js m = shAt h' suf m) _ ⟨rfl, js, h, none, none, rfl, rfl, rfl⟩ ?_ ?_
  · rintro d r ρ S' ⟨rfl, suf, h', x3, x4, rfl, e, eo⟩
    cases suf with
    | nil => cases e
    | cons j suf =>
      obtain ⟨a, o⟩ := j
      injection e with e1 e2
      subst e1
      refine ⟨_, rfl, fun M hM => ?_⟩
      simp
      by_cases g : a ≤ m
      · simp [g]
        rw [shAt, if_pos g] at eo
        exact hM _ _ ⟨rfl, suf, o, _, _, rfl, e2, eo⟩
      · simp [g]
        rw [shAt, if_neg g] at eo
        exact hM _ _ ⟨rfl, suf, _, _, _, rfl, e2, eo⟩
  · rintro ρ S' ⟨rfl, suf, h', x3, x4, rfl, e, eo⟩
    cases suf with
    | cons j suf => cases e
    | nil =>
      simp
      rw [show h' = shAt h js m from eo.symm]
      exact q
theorem law_holds_ok (z : ZoneOK os s) (t : TabOK os s h js) : m_law_holds [tabD h js, .int m] S = .ok (.int (offAt h js m)) S := by
  rw [law_holds_sh, shAt_eq z.sp.1 t.chain]
/-! ### a find -/
def findI (ms : List Int) (g : Int × Int) (r : Int) (fold gap : Str) : Option Int := match ms with
  | [m] => some m
  | [m, m'] => if fold = "refuse" then none else if fold = "early" then some m else some m'
  | _ => if gap = "refuse" then none else if gap = "ahead" then some (r - g.1) else some (r - g.2)
def optD : Option Int → D
  | none => .non
  | some i => .int i
theorem findO_eq {ms : List Int} {g : Int × Int} {fold gap : Str} : findO ms g r fold gap = optD (findI ms g r fold gap) := by
  unfold findO findI
  cases ms with
  | nil =>
    simp only
    split
    · rfl
    · split <;> rfl
  | cons m t =>
    cases t with
    | nil => rfl
    | cons m' t' =>
      cases t' with
      | nil =>
        simp only
        split
        · rfl
        · split <;> rfl
      | cons m'' l =>
        simp only
        split
        · rfl
        · split <;> rfl
/-- the first jump of a gap -/
def gapF (r : Int) : Int → List (Int × Int) → Option (Int × Int)
  | _, [] => none
  | h, (a, o) :: t => if a ≤ r - h ∧ r - o < a then some (h, o) else gapF r o t
theorem gapF_one {lo hi : Int} (hs : 0 < s) (hw : hi - lo < s) (hhi : ∀ o, o ∈ os → r - o ≤ hi) (hlo : ∀ o, o ∈ os → lo ≤ r - o) : ∀ {js : List (Int × Int)} {h : Int} {p : Option Int}, h ∈ os → Chain os s h p js → (∀ o, o ∈ os → offAt h js (r - o) ≠ o) →
    gapF r h js = some (offAt h js lo, offAt h js hi)
  | [], h, p, hh, ch, no => absurd rfl (no h hh)
  | (a, o) :: t, h, p, hh, ch, no => by
    obtain ⟨c1, c2, c3, c4⟩ := ch
    by_cases c : a ≤ lo
    · have h1 := hlo o c1
      rw [gapF, if_neg (by omega)]
      have e : ∀ m, a ≤ m → offAt h ((a, o) :: t) m = offAt o t m := fun m hm => by rw [offAt, if_neg (by omega)]
      have hl := hlo h hh
      have hh2 := hhi h hh
      rw [e lo c, e hi (by omega)]
      refine gapF_one hs hw hhi hlo c1 c4 fun o' ho' => ?_
      have := no o' ho'
      rw [e _ (by have := hlo o' ho'; omega)] at this
      exact this
    · have n1 := no h hh
      have n2 := no o c1
      by_cases d : r - h < a
      · rw [offAt, if_pos d] at n1
        exact absurd rfl n1
      · have h1 := hhi h hh
        by_cases d2 : a ≤ r - o
        · rw [offAt, if_neg (by omega), off_late (p := a) (by have := hhi o c1; omega) c4] at n2
          exact absurd rfl n2
        · rw [gapF, if_pos (by omega)]
          rw [offAt, if_pos (by omega), offAt, if_neg (by omega), off_late (p := a) (by omega) c4]
theorem gapF_both (z : ZoneOK os s) (t : TabOK os s h js) {a b : Int} (E : Ends2 os s a b) (e : momsOf os h js r = []) : gapF r h js = some (offAt h js (r - b), offAt h js (r - a)) := by
  have hw := E.w
  refine gapF_one z.sp.1 (by omega) (fun o ho => by have := E.mem o ho; omega) (fun o ho => by have := E.mem o ho; omega) t.held t.chain fun o ho hq => ?_
  have : r - o ∈ momsOf os h js r := (moms_mem (fun m => off_mem t.held t.chain)).mpr (by omega)
  rw [e] at this
  exact nomatch this
theorem searched_does {fold gap : Str} {Q : D → Sto → Prop} (z : ZoneOK os s) (t : TabOK os s h js) {a b : Int} (E : Ends2 os s a b) (hf : RuleF fold) (hg : RuleG gap)
    (q : ∀ S', Grow S S' → Q (optD (findI (momsOf os h js r) (offAt h js (r - b), offAt h js (r - a)) r fold gap)) S') : (m_law_searched [zoneD os s, tabD h js, .int r, .str fold, .str gap] S).Does Q := by
  refine does_def rfl ?_
  refine seq_cut (fun ρ S' => S = S' ∧ ρ = [some (zoneD os s), some (tabD h js), some (.int r), some (.str fold), some (.str gap), some (.lst ((momsOf os h js r).map .int)), none, none, none]) (fun M hM => ?_) ?_
  · simp [wipeD]
    rw [← List.map_reverse, lcAQ_fix (.inl rfl) (by rw [List.length_map, List.length_reverse])]
    refine lcQ_filter (fun o : Int => offAt h js (r - o) == o) (fun o => .int (r - o)) ?_ ?_
    · intro o ho
      refine ⟨_, rfl, fun Q q => ?_, fun Q e q => ?_⟩
      · simp [law_holds_ok z t]
        exact q
      · simp
        exact q
    · have := hM _ S ⟨rfl, rfl⟩
      have e : (momsOf os h js r).map D.int = (os.reverse.filter fun o => offAt h js (r - o) == o).map fun o => D.int (r - o) := by
        unfold momsOf
        rw [List.map_map] <;> rfl
      rw [e] at this
      exact this
  rintro ρ _ ⟨rfl, rfl⟩
  have m2 := moms_two (r := r) z t
  have g1 : ∀ c, Grow S (S ++ [c]) := fun c => ⟨[c], rfl⟩
  match e : momsOf os h js r, m2 with
  | [m], _ =>
    rw [e] at q
    simp
    exact q S .refl
  | [m, m'], _ =>
    rw [e] at q
    simp [keysD, mergeD, putD]
    rcases hf with rfl | rfl | rfl
    · simp (decide := true) [valD]
      exact q _ (g1 _)
    · simp (decide := true) [valD]
      exact q _ (g1 _)
    · simp (decide := true) [valD]
      exact q _ (g1 _)
  | [], _ =>
    have gb := gapF_both z t E e
    rw [e] at q
    simp
    refine forL_cut (fun ds ρ S' => S' = S ∧ ∃ (suf : List (Int × Int)) (h' : Int) (x7 x8 : Option D), ρ = [some (zoneD os s), some (tabD h js), some (.int r), some (.str fold), some (.str gap), some (.lst []), some (.int h'), x7, x8] ∧ ds = suf.map jmpD ∧ gapF r h' suf = some (offAt h js (r - b), offAt h js (r - a))) _
      ⟨rfl, js, h, none, none, rfl, rfl, gb⟩ ?_ ?_
    · rintro d rr ρ S' ⟨rfl, suf, h', x7, x8, rfl, ed, eo⟩
      cases suf with
      | nil => cases ed
      | cons j suf =>
        obtain ⟨at_, o⟩ := j
        injection ed with e1 e2
        subst e1
        refine ⟨_, rfl, fun M hM => ?_⟩
        rw [gapF] at eo
        by_cases c1 : at_ ≤ r - h'
        · by_cases c2 : r - o < at_
          · rw [if_pos ⟨c1, c2⟩] at eo
            injection eo with eo
            injection eo with eo1 eo2
            simp [c1, c2, keysD, mergeD, putD]
            rcases hg with rfl | rfl | rfl
            · simp (decide := true) [valD]
              have := q _ (g1 (.dic [(.inr "ahead", .int (r - h')), (.inr "behind", .int (r - o)), (.inr "refuse", .non)]))
              simp (decide := true) [findI, optD] at this
              rw [← eo1] at this
              exact this
            · simp (decide := true) [valD]
              have := q _ (g1 (.dic [(.inr "ahead", .int (r - h')), (.inr "behind", .int (r - o)), (.inr "refuse", .non)]))
              simp (decide := true) [findI, optD] at this
              rw [← eo2] at this
              exact this
            · simp (decide := true) [valD]
              have := q _ (g1 (.dic [(.inr "ahead", .int (r - h')), (.inr "behind", .int (r - o)), (.inr "refuse", .non)]))
              simp (decide := true) [findI, optD] at this
              exact this
          · rw [if_neg (fun x => c2 x.2)] at eo
            simp [c1, c2]
            exact hM _ _ ⟨rfl, suf, o, _, _, rfl, e2, eo⟩
        · rw [if_neg (fun x => c1 x.1)] at eo
          simp [c1]
          exact hM _ _ ⟨rfl, suf, o, _, _, rfl, e2, eo⟩
    · rintro ρ S' ⟨rfl, suf, h', x7, x8, rfl, ed, eo⟩
      cases suf with
      | cons j suf => cases ed
      | nil => cases eo
end
end Dm
-- text HmFollow
namespace Dm
open PySem L2
/-! ### a run by the document -/
def loO (os : List Int) : Int := os.headD 0
def hiO (os : List Int) : Int := os.getLastD 0
theorem ZoneOK.ends {os : List Int} {s : Int} (z : ZoneOK os s) : Ends2 os s (loO os) (hiO os) := by
  cases z with
  | one a s => exact ⟨rfl, rfl, by simp [loO, hiO]; omega, by simp [loO, hiO], by simp [loO], by simp [hiO]⟩
  | two a b s => exact ⟨rfl, rfl, by simp [loO, hiO]; omega, by simp [loO, hiO]; omega, by simp [loO], by simp [hiO]⟩
  | three a b c s => exact ⟨rfl, rfl, by simp [loO, hiO]; omega, by simp [loO, hiO]; omega, by simp [loO], by simp [hiO]⟩
def foundT (z : List Int × Int) (t : Tb) (r : Int) (f g : Str) : Option Int := findI (momsOf z.1 t.1 t.2 r) (t.of (r - hiO z.1), t.of (r - loO z.1)) r f g
def stepV (zs : Zs) (tb : List Tb) (vs : List Int) : Stp → Option Int
  | .read i p => some (getV vs i + (getT tb p).of (getV vs i))
  | .find i p f g => foundT (getZ zs p) (getT tb p) (getV vs i) f g
  | .offset i p => some ((getT tb p).of (getV vs i))
  | .edition i _ => some (getV vs i)
  | .plus i j => some (getV vs i + getV vs j)
  | .less i j => some (getV vs i - getV vs j)
  | .add i m => some (getV vs i + m)
def askedS (zs : Zs) (vs : List Int) : Stp → List Int
  | .read i _ => [getV vs i]
  | .find i p _ _ => (getZ zs p).1.reverse.map fun o => getV vs i - o
  | .offset i _ => [getV vs i]
  | .edition i _ => [getV vs i - 1]
  | _ => []
def Stp.base : Stp → Nat
  | .read i _ => i
  | .find i _ _ _ => i
  | .offset i _ => i
  | .edition i _ => i
  | .plus i _ => i
  | .less i _ => i
  | .add i _ => i
def Stp.place : Stp → Nat
  | .read _ p => p
  | .find _ p _ _ => p
  | .offset _ p => p
  | .edition _ p => p
  | _ => 0
theorem Stp.OK.base {nz : Nat} {row : List Kd} {t : Stp} (h : t.OK nz row) : t.base < row.length := by
  cases t with
  | add i m => rcases h.1 with h | h <;> exact (List.getElem?_eq_some_iff.mp h).1
  | _ => exact (List.getElem?_eq_some_iff.mp h.1).1
section
variable {S : Sto} {zs : Zs} {tb : List Tb} {vs : List Int} {row : List Kd} {n c : Nat} {t : Stp}
theorem asked_at_ok (z : ZsOK zs) (h : t.OK zs.length row) (hl : row.length = vs.length) (hn : S[n]? = some (.lst (vs.map .int))) : m_law_asked_at [zonesD zs, t.d, .cell n] S = .ok (.lst ((askedS zs vs t).map .int)) S := by
  refine pure_of fun Q q => ?_
  have hb := h.base
  rw [hl] at hb
  refine does_def rfl ?_
  cases t with
  | find i p f g =>
    have e := ix_ints hn hb
    simp only [Stp.base] at e
    simp (decide := true) [Stp.d, e, ix_zones h.2.1, wipeD]
    rw [← List.map_reverse, lcAQ_fix (.inl rfl) (by simp)]
    refine lcQ_filter (fun _ : Int => true) (fun o => .int (getV vs i - o)) ?_ ?_
    · intro o ho
      refine ⟨_, rfl, fun Q q => q, fun Q _ q => ?_⟩
      simp
      exact q
    · have e : ((getZ zs p).1.reverse.filter fun _ : Int => true) = (getZ zs p).1.reverse := List.filter_eq_self.mpr fun _ _ => rfl
      rw [e]
      simp [askedS, Function.comp_def] at q ⊢
      exact q
  | _ =>
    have e := ix_ints hn hb
    simp only [Stp.base] at e
    simp (decide := true) [Stp.d, e]
    simp [askedS] at q
    exact q
theorem worth_made_does (z : ZsOK zs) (tk : TbsOK zs tb) (h : t.OK zs.length row) (hl : row.length = vs.length) (hn : S[n]? = some (.lst (vs.map .int))) (hc : S[c]? = some (.lst (tb.map Tb.d))) {Q : D → Sto → Prop}
    (q : ∀ S', Grow S S' → Q (optD (stepV zs tb vs t)) S') : (m_law_worth_made [zonesD zs, .cell c, t.d, .cell n] S).Does Q := by
  have hb := h.base
  rw [hl] at hb
  have e := ix_ints hn hb
  have second : ∀ {j : Nat} {k : Kd}, row[j]? = some k → gIx S (.cell n) (.int j) = some (.int (getV vs j)) := fun hj => ix_ints hn (by rw [← hl]; exact (List.getElem?_eq_some_iff.mp hj).1)
  refine does_def rfl ?_
  cases t with
  | find i p f g =>
    simp only [Stp.base] at e
    have hp : p < tb.length := by rw [tk.len]; exact h.2.1
    simp (decide := true) [Stp.d, e, ix_zones h.2.1, ix_tabsC hc hp, atI, ixN]
    exact searched_does (z.at h.2.1) (tk.tab h.2.1) (z.at h.2.1).ends h.2.2.1 h.2.2.2 q
  | read i p =>
    simp only [Stp.base] at e
    have hp : p < tb.length := by rw [tk.len]; exact h.2
    have := law_holds_ok (S := S) (m := getV vs i) (z.at h.2) (tk.tab h.2)
    simp (decide := true) [Stp.d, e, ix_tabsC hc hp, Tb.d, this]
    exact q S .refl
  | offset i p =>
    simp only [Stp.base] at e
    have hp : p < tb.length := by rw [tk.len]; exact h.2
    have := law_holds_ok (S := S) (m := getV vs i) (z.at h.2) (tk.tab h.2)
    simp (decide := true) [Stp.d, e, ix_tabsC hc hp, Tb.d, this]
    exact q S .refl
  | edition i p =>
    simp only [Stp.base] at e
    simp (decide := true) [Stp.d, e]
    exact q S .refl
  | plus i j =>
    simp only [Stp.base] at e
    simp (decide := true) [Stp.d, e, second h.2]
    exact q S .refl
  | less i j =>
    simp only [Stp.base] at e
    simp (decide := true) [Stp.d, e, second h.2]
    exact q S .refl
  | add i m =>
    simp only [Stp.base] at e
    simp (decide := true) [Stp.d, e]
    exact q S .refl
/-! ### what is looked at -/
abbrev Lk := Int × Int × Int × Int
def lkD (m : Lk) : D := .tup [.int m.1, .int m.2.1, .int m.2.2.1, .int m.2.2.2]
def pushLk (lk : List Lk) (m : Lk) : List Lk := if m ∈ lk then lk else lk ++ [m]
def sideOf : Option (Nat × Int) → Nat → Int → Int
  | some (q, m), p, w => if q = p ∧ m ≤ w then 1 else 0
  | none, _, _ => 0
def edD : Option (Nat × Int) → List (Key × D)
  | none => []
  | some (q, m) => [(.inl q, .int m)]
theorem lks_py : ∀ lk : List Lk, toPys (lk.map lkD) = some (lk.map fun m => PyData.tuple [.int m.1, .int m.2.1, .int m.2.2.1, .int m.2.2.2])
  | [] => rfl
  | m :: lk => by
    have ih := lks_py lk
    simp only [List.map_cons, toPys, ih, lkD, toPy, Option.bind_some, Option.map_some]
theorem lks_lay : ∀ lk : List Lk, PyData.canLayAll0 (lk.map fun m => PyData.tuple [.int m.1, .int m.2.1, .int m.2.2.1, .int m.2.2.2]) = true
  | [] => rfl
  | m :: lk => by
    have ih := lks_lay lk
    simp only [List.map_cons, PyData.canLayAll0, ih, PyData.canLay0, Bool.and_self]
theorem lks_depth : ∀ lk : List Lk, PyData.depthAll (lk.map fun m => PyData.tuple [.int m.1, .int m.2.1, .int m.2.2.1, .int m.2.2.2]) ≤ 1
  | [] => by simp [PyData.depthAll]
  | m :: lk => by
    have ih := lks_depth lk
    simp only [List.map_cons, PyData.depthAll, PyData.depth]
    omega
end
end Dm
-- text HmFollow2
namespace Dm
open PySem L2
abbrev lkPy (m : Lk) : PyData := PyData.tuple [.int m.1, .int m.2.1, .int m.2.2.1, .int m.2.2.2]
theorem shaped_lst {l : List PyData} {k : Nat} (h1 : PyData.canLayAll0 l = true) (h2 : PyData.depthAll l ≤ k) (hk : k ≤ 63) : SeqAt.shaped (.list l) = true := by
  unfold SeqAt.shaped
  simp only [PyData.canLay0, h1, PyData.depth, Bool.true_and]
  exact decide_eq_true (by omega)
theorem lk_eqv (a b : Lk) : PyData.eqv (lkPy a) (lkPy b) = decide (b = a) := by
  obtain ⟨a1, a2, a3, a4⟩ := a
  obtain ⟨b1, b2, b3, b4⟩ := b
  have e : PyData.eqv (lkPy (a1, a2, a3, a4)) (lkPy (b1, b2, b3, b4)) = (a1 == b1 && (a2 == b2 && (a3 == b3 && (a4 == b4 && true)))) := by
    simp only [lkPy, PyData.eqv, PyData.eqvAll]
  rw [e]
  by_cases h : (b1, b2, b3, b4) = (a1, a2, a3, a4)
  · injection h with h1 h
    injection h with h2 h
    injection h with h3 h4
    subst h1 h2 h3 h4
    simp
  · rw [decide_eq_false h]
    apply Bool.eq_false_iff.mpr
    intro q
    simp only [Bool.and_eq_true, beq_iff_eq] at q
    obtain ⟨q1, q2, q3, q4, _⟩ := q
    exact h (by rw [q1, q2, q3, q4])
section
variable {S : Sto} {zs : Zs} {tb : List Tb} {vs : List Int} {row : List Kd} {n c : Nat} {t : Stp}
theorem notin_lks {lk : List Lk} {m : Lk} (h : S[n]? = some (.lst (lk.map lkD))) : gIn2 true S (lkD m) (.cell n) = some (.bl (!decide (m ∈ lk))) := by
  have e1 : toPyS S (lkD m) = some (lkPy m) := by simp only [toPyS, lkD, toPy, toPys, Option.bind_some, Option.map_some]
  have e2 : toPyS S (.cell n) = some (.list (lk.map lkPy)) := by simp only [toPyS, h, lks_py]; rfl
  unfold gIn2
  simp only [e1, e2]
  have s1 : SeqAt.shaped (lkPy m) = true := by
    unfold SeqAt.shaped
    simp only [lkPy, PyData.canLay0, PyData.canLayAll0, PyData.depth, PyData.depthAll]
    rfl
  have s2 : SeqAt.shaped (.list (lk.map lkPy)) = true := shaped_lst (lks_lay lk) (lks_depth lk) (by decide)
  rw [if_pos ⟨s1, s2⟩]
  have e3 : ((lk.map lkPy).any fun e => PyData.eqv e (lkPy m)) = decide (m ∈ lk) := by
    rw [List.any_map]
    have : (fun e => PyData.eqv e (lkPy m)) ∘ lkPy = fun a : Lk => decide (m = a) := by
      funext a
      exact lk_eqv a m
    rw [this]
    by_cases c : m ∈ lk
    · rw [decide_eq_true c, List.any_eq_true]
      exact ⟨m, c, decide_eq_true rfl⟩
    · rw [decide_eq_false c, List.any_eq_false]
      intro x hx
      simp only [decide_eq_true_eq]
      rintro rfl
      exact c hx
  rw [e3]
  rfl
/-- how a run ends -/
inductive Fin where
  | done (vs : List Int)
  | refused (vs : List Int) (k : Nat)
  | unsuited
def followS (ag : Tb → Tb → Int → Bool) (zs : Zs) (later : List Tb) : List Tb → Nat → List Int → List Stp → Fin
  | _, _, vs, [] => .done vs
  | tb, k, vs, t :: ts => if t.isEd = true ∧ ag (getT tb t.place) (getT later t.place) (getV vs t.base) = false then .unsuited
    else match stepV zs tb vs t with
      | none => .refused vs k
      | some v => followS ag zs later (if t.isEd = true then tb.set t.place (getT later t.place) else tb) (k + 1) (vs ++ [v]) ts
theorem ed_form {t : Stp} (h : t.isEd = true) : t = .edition t.base t.place := by
  cases t <;> first | rfl | cases h
theorem valD_ed {ed : Option (Nat × Int)} {p : Nat} : valD (edD ed) (.inl (p : Int)) = match ed with
    | some (q, m) => if q = p then some (.int m) else none
    | none => none := by
  cases ed with
  | none => rfl
  | some e =>
    obtain ⟨q, m⟩ := e
    unfold valD edD
    by_cases h : q = p
    · subst h; simp
    · have : ¬ ((q : Int) = (p : Int)) := by omega
      simp [h, this]
theorem side_ok {ρ : Rho} {ed : Option (Nat × Int)} {t : Stp} {w : Int} {i9 i5 i10 : Nat} (h9 : ρ[i9]? = some (some t.d)) (h5 : ρ[i5]? = some (some (.cell n))) (h10 : ρ[i10]? = some (some (.int w))) (hn : S[n]? = some (.dic (edD ed))) (ht : gIx S t.d (.int 2) = some (.int t.place)) {Q : D → Sto → Prop} (q : Q (.int (sideOf ed t.place w)) S) :
    (mCallB gInt1 (mCons (mAnd (mOp (gDIn false) (mOp gIx (mVar i9) (mK (.int 2))) (mVar i5)) (mOp gGe (mVar i10) (mOp gDIx (mVar i5) (mOp gIx (mVar i9) (mK (.int 2)))))) mNil) ρ S).Does Q := by
  have e := valD_ed (ed := ed) (p := t.place)
  cases ed with
  | none =>
    simp [h9, h5, h10, ht, gDIn_cell hn, e]
    exact q
  | some e0 =>
    obtain ⟨qq, m⟩ := e0
    by_cases c : qq = t.place
    · subst c
      simp only [if_true] at e
      simp [h9, h5, h10, ht, gDIn_cell hn, gDIx_cell hn, e]
      simp [sideOf] at q
      exact q
    · simp only [if_neg c] at e
      simp [h9, h5, h10, ht, gDIn_cell hn, e]
      simp [sideOf, c] at q
      exact q
theorem place_ix {row : List Kd} {nz : Nat} (h : t.OK nz row) (ha : askedS zs vs t ≠ []) : gIx S t.d (.int 2) = some (.int t.place) ∧ t.place < nz := by
  cases t with
  | read i p => exact ⟨by simp [Stp.d, Stp.place], h.2⟩
  | find i p f g => exact ⟨by simp [Stp.d, Stp.place], h.2.1⟩
  | offset i p => exact ⟨by simp [Stp.d, Stp.place], h.2⟩
  | edition i p => exact ⟨by simp [Stp.d, Stp.place], h.2⟩
  | _ => exact absurd rfl ha
end
end Dm
-- text HmFollow3
namespace Dm
open PySem L2
theorem Grow.setN {S S' : Sto} {n : Nat} (g : Grow S S') (hn : S.length ≤ n) (c : Cell) : Grow S (S'.set n c) := by
  obtain ⟨cs, rfl⟩ := g
  refine ⟨cs.set (n - S.length) c, ?_⟩
  rw [List.set_append]
  simp [Nat.not_lt.mpr hn]
theorem cnt_cons {f : Stp → Bool} {t : Stp} {ts : List Stp} : cnt f (t :: ts) = bI (f t) + cnt f ts := by
  unfold cnt bI
  by_cases h : f t = true
  · simp [h]; omega
  · simp [h]
theorem cnt_nn {f : Stp → Bool} {ts : List Stp} : 0 ≤ cnt f ts := Int.natCast_nonneg _
section
variable {S : Sto} {zs : Zs} {tb later : List Tb} {vs : List Int} {row : List Kd} {n c : Nat} {t : Stp} {ts : List Stp}
/-- the four cells of a run -/
structure Cells (S : Sto) (a : Nat) (tb : List Tb) (ed : Option (Nat × Int)) (vs : List Int) (lk : List Lk) : Prop where
  c4 : S[a]? = some (.lst (tb.map Tb.d))
  c5 : S[a + 1]? = some (.dic (edD ed))
  c6 : S[a + 2]? = some (.lst (vs.map .int))
  c7 : S[a + 3]? = some (.lst (lk.map lkD))
theorem Cells.grow {S S' : Sto} {a : Nat} {tb : List Tb} {ed : Option (Nat × Int)} {vs : List Int} {lk : List Lk} (h : Cells S a tb ed vs lk) (g : Grow S S') : Cells S' a tb ed vs lk := ⟨g.get h.c4, g.get h.c5, g.get h.c6, g.get h.c7⟩
theorem set_at {S : Sto} {n : Nat} {c c' : Cell} (h : S[n]? = some c') : (S.set n c)[n]? = some c := List.getElem?_set_self (List.getElem?_eq_some_iff.mp h).1
theorem Cells.look {S : Sto} {a : Nat} {tb : List Tb} {ed : Option (Nat × Int)} {vs : List Int} {lk : List Lk} (h : Cells S a tb ed vs lk) (lk' : List Lk) : Cells (S.set (a + 3) (.lst (lk'.map lkD))) a tb ed vs lk' :=
  ⟨by rw [List.getElem?_set_ne (by omega)]; exact h.c4, by rw [List.getElem?_set_ne (by omega)]; exact h.c5, by rw [List.getElem?_set_ne (by omega)]; exact h.c6, set_at h.c7⟩
theorem Cells.val {S : Sto} {a : Nat} {tb : List Tb} {ed : Option (Nat × Int)} {vs : List Int} {lk : List Lk} (h : Cells S a tb ed vs lk) (vs' : List Int) : Cells (S.set (a + 2) (.lst (vs'.map .int))) a tb ed vs' lk :=
  ⟨by rw [List.getElem?_set_ne (by omega)]; exact h.c4, by rw [List.getElem?_set_ne (by omega)]; exact h.c5, set_at h.c6, by rw [List.getElem?_set_ne (by omega)]; exact h.c7⟩
theorem Cells.edit {S : Sto} {a : Nat} {tb : List Tb} {ed : Option (Nat × Int)} {vs : List Int} {lk : List Lk} (h : Cells S a tb ed vs lk) (ed' : Option (Nat × Int)) : Cells (S.set (a + 1) (.dic (edD ed'))) a tb ed' vs lk :=
  ⟨by rw [List.getElem?_set_ne (by omega)]; exact h.c4, set_at h.c5, by rw [List.getElem?_set_ne (by omega)]; exact h.c6, by rw [List.getElem?_set_ne (by omega)]; exact h.c7⟩
theorem Cells.tabs {S : Sto} {a : Nat} {tb : List Tb} {ed : Option (Nat × Int)} {vs : List Int} {lk : List Lk} (h : Cells S a tb ed vs lk) (tb' : List Tb) : Cells (S.set a (.lst (tb'.map Tb.d))) a tb' ed vs lk :=
  ⟨set_at h.c4, by rw [List.getElem?_set_ne (by omega)]; exact h.c5, by rw [List.getElem?_set_ne (by omega)]; exact h.c6, by rw [List.getElem?_set_ne (by omega)]; exact h.c7⟩
def finQ (a : Nat) (Q : D → Sto → Prop) (tb : List Tb) (S0 : Sto) : Fin → Prop
  | .done vs => ∀ S' tb' ed lk, Grow S0 S' → Cells S' a tb' ed vs lk → Q (.tup [.cell (a + 3), .cell (a + 2), .non]) S'
  | .refused vs k => ∀ S' tb' ed lk, Grow S0 S' → Cells S' a tb' ed vs lk → Q (.tup [.cell (a + 3), .cell (a + 2), .int k]) S'
  | .unsuited => ∀ S', Grow S0 S' → Q .non S'
theorem asked_len {t : Stp} (z : ZsOK zs) : (askedS zs vs t).length ≤ 3 := by
  cases t with
  | find i p f g =>
    by_cases hp : p < zs.length
    · have := (z.at hp).len
      simp [askedS]
      omega
    · have : getZ zs p = ([], 1) := by
        unfold getZ
        rw [List.getD_eq_getElem?_getD, List.getElem?_eq_none (by omega)]; rfl
      simp [askedS, this]
  | _ => simp [askedS]
/-- a look of a step -/
def markS (org : Int) (tb : List Tb) (ed : Option (Nat × Int)) (t : Stp) (w : Int) : Lk := ((t.place : Int), sideOf ed t.place w, w - org, offAt (getT tb t.place).1 (getT tb t.place).2 w)
def addL (org : Int) (tb : List Tb) (ed : Option (Nat × Int)) (t : Stp) (lk : List Lk) (ws : List Int) : List Lk := ws.foldl (fun lk w => pushLk lk (markS org tb ed t w)) lk
/-- a run with its looks -/
def followL (ag : Tb → Tb → Int → Bool) (zs : Zs) (later : List Tb) (org : Int) : List Tb → Option (Nat × Int) → Nat → List Int → List Lk → List Stp → Fin × List Lk
  | _, _, _, vs, lk, [] => (.done vs, lk)
  | tb, ed, k, vs, lk, t :: ts => if t.isEd = true ∧ ag (getT tb t.place) (getT later t.place) (getV vs t.base) = false then (.unsuited, addL org tb ed t lk (askedS zs vs t))
    else match stepV zs tb vs t with
      | none => (.refused vs k, addL org tb ed t lk (askedS zs vs t))
      | some v => followL ag zs later org (if t.isEd = true then tb.set t.place (getT later t.place) else tb) (if t.isEd = true then some (t.place, getV vs t.base) else ed) (k + 1) (vs ++ [v]) (addL org tb ed t lk (askedS zs vs t)) ts
theorem followL_fst {ag : Tb → Tb → Int → Bool} {org : Int} : ∀ {ts : List Stp} {tb : List Tb} {ed : Option (Nat × Int)} {k : Nat} {vs : List Int} {lk : List Lk}, (followL ag zs later org tb ed k vs lk ts).1 = followS ag zs later tb k vs ts
  | [], _, _, _, _, _ => rfl
  | t :: ts, tb, ed, k, vs, lk => by
    rw [followL, followS]
    split
    · rfl
    · cases stepV zs tb vs t with
      | none => rfl
      | some v => exact followL_fst
def finQL (a : Nat) (Q : D → Sto → Prop) (S0 : Sto) : Fin × List Lk → Prop
  | (.done vs, lk) => ∀ S' tb' ed, Grow S0 S' → Cells S' a tb' ed vs lk → Q (.tup [.cell (a + 3), .cell (a + 2), .non]) S'
  | (.refused vs k, lk) => ∀ S' tb' ed, Grow S0 S' → Cells S' a tb' ed vs lk → Q (.tup [.cell (a + 3), .cell (a + 2), .int k]) S'
  | (.unsuited, _) => ∀ S', Grow S0 S' → Q .non S'
theorem follow_doesL {A B : D} {ag : Tb → Tb → Int → Bool} {org : Int} {Q : D → Sto → Prop} (z : ZsOK zs) (hok : ProgFrom zs.length [.mom] ts) (hl : ts.length ≤ 8) (he : cnt Stp.isEd ts ≤ 1) (tk : TbsOK zs tb) (tl : TbsOK zs later)
    (hag : ∀ i p, Stp.edition i p ∈ ts → ∀ (S : Sto) (m : Int) (Q : D → Sto → Prop), (∀ S', Grow S S' → Q (.bl (ag (getT tb p) (getT later p) m)) S') → (m_law_agree [(getT tb p).d, (getT later p).d, .int m] S).Does Q)
    (hA : A = .tup (tb.map Tb.d) ∨ A = .lst (tb.map Tb.d)) (hB : B = .tup (later.map Tb.d) ∨ B = .lst (later.map Tb.d))
    (q : finQL S.length Q S (followL ag zs later org tb none 0 [org] [] ts)) : (m_law_follow [zonesD zs, progD ts, .tup [A, B], .int org] S).Does Q := by
  have hz : zs.length ≤ 2 := by rcases z.len with h | h <;> omega
  have lt := tk.len
  have ll := tl.len
  have hBx : ∀ (S : Sto) {i : Nat}, i < later.length → gIx S B (.int i) = some (getT later i).d := by
    intro S i hi
    rcases hB with rfl | rfl <;> simp [ix_tabs hi]
  refine does_def rfl ?_
  refine seq_cut (fun ρ S' => ρ = [some (zonesD zs), some (progD ts), some (.tup [A, B]), some (.int org), some (.cell S.length), some (.cell (S.length + 1)), some (.cell (S.length + 2)), some (.cell (S.length + 3)), none, none, none, none, none, none] ∧
      Grow S S' ∧ Cells S' S.length tb none [org] []) (fun M hM => ?_) ?_
  · rcases hA with rfl | rfl
    · simp [tgU]
      refine hM _ _ ⟨rfl, ⟨_, rfl⟩, ?_⟩
      constructor <;> (rw [List.getElem?_append_right (by omega)]; simp [edD])
    · simp [tgU]
      refine hM _ _ ⟨rfl, ⟨_, rfl⟩, ?_⟩
      constructor <;> (rw [List.getElem?_append_right (by omega)]; simp [edD])
  rintro ρ S0 ⟨rfl, g0, cs0⟩
  simp [progD]
  refine ⟨by omega, ?_⟩
  refine forL_cut (fun ds ρ S' => ∃ (pre us : List Stp) (tb' : List Tb) (ed : Option (Nat × Int)) (vs : List Int) (lk : List Lk) (row : List Kd) (x8 x9 x10 x11 x12 x13 : Option D), ts = pre ++ us ∧ ds = rngD pre.length us.length ∧
      ρ = [some (zonesD zs), some (.tup (ts.map Stp.d)), some (.tup [A, B]), some (.int org), some (.cell S.length), some (.cell (S.length + 1)), some (.cell (S.length + 2)), some (.cell (S.length + 3)), x8, x9, x10, x11, x12, x13] ∧
      Grow S S' ∧ Cells S' S.length tb' ed vs lk ∧ TbsOK zs tb' ∧ ProgFrom zs.length row us ∧ row.length = vs.length ∧ vs.length = pre.length + 1 ∧ lk.length ≤ 3 * pre.length ∧ (tb' = tb ∧ ed = none ∨ cnt Stp.isEd us ≤ 0) ∧ cnt Stp.isEd us ≤ 1 ∧
      followL ag zs later org tb' ed pre.length vs lk us = followL ag zs later org tb none 0 [org] [] ts) _
    ⟨[], ts, tb, none, [org], [], [.mom], none, none, none, none, none, none, rfl, by simp, rfl, g0, cs0, tk, hok, rfl, rfl, by simp, .inl ⟨rfl, rfl⟩, he, rfl⟩ ?_ ?_
  · rintro d ds ρ S1 ⟨pre, us, tb', ed, vs, lk, row, x8, x9, x10, x11, x12, x13, ets, e, rfl, g1, cs, tk', hp, hrl, hvl, hlk, hed, he1, hf⟩
    cases us with
    | nil => cases e
    | cons t us =>
      rw [List.length_cons, rngD_cons] at e
      injection e with e1 e2
      subst e1
      refine ⟨_, rfl, fun M hM => ?_⟩
      have hpl : pre.length < ts.length := by rw [ets]; simp
      have hat : atI (ts.map Stp.d) (pre.length : Int) = some t.d := by
        rw [atI_of (by omega) (by rw [List.length_map]; omega)]
        simp [ets]
      have ok := hp.1
      have hb := ok.base
      rw [hrl] at hb
      generalize hP : pre.length = kk at *
      refine seq_cut (fun ρ S' => S' = S1 ∧ ρ = [some (zonesD zs), some (.tup (ts.map Stp.d)), some (.tup [A, B]), some (.int org), some (.cell S.length), some (.cell (S.length + 1)), some (.cell (S.length + 2)), some (.cell (S.length + 3)), some (.int kk), some t.d, x10, x11, x12, x13]) (fun M2 hM2 => ?_) ?_
      · simp [hat]
        exact hM2 _ _ ⟨rfl, rfl⟩
      rintro ρ _ ⟨rfl, rfl⟩
      refine seq_cut (fun ρ S' => ∃ (lk' : List Lk) (y10 y11 y12 : Option D), ρ = [some (zonesD zs), some (.tup (ts.map Stp.d)), some (.tup [A, B]), some (.int org), some (.cell S.length), some (.cell (S.length + 1)), some (.cell (S.length + 2)), some (.cell (S.length + 3)), some (.int kk), some t.d, y10, y11, y12, x13] ∧
          Grow S S' ∧ Cells S' S.length tb' ed vs lk' ∧ lk'.length ≤ lk.length + 3 ∧ lk' = addL org tb' ed t lk (askedS zs vs t)) (fun M2 hM2 => ?_) ?_
      · simp [asked_at_ok z ok hrl cs.c6]
        have hal := asked_len (vs := vs) (t := t) z
        refine forL_cut (fun ds ρ S' => ∃ (ws : List Int) (lk' : List Lk) (y10 y11 y12 : Option D), ds = ws.map .int ∧ ρ = [some (zonesD zs), some (.tup (ts.map Stp.d)), some (.tup [A, B]), some (.int org), some (.cell S.length), some (.cell (S.length + 1)), some (.cell (S.length + 2)), some (.cell (S.length + 3)), some (.int kk), some t.d, y10, y11, y12, x13] ∧
            Grow S S' ∧ Cells S' S.length tb' ed vs lk' ∧ lk'.length + ws.length ≤ lk.length + 3 ∧ (ws ≠ [] → askedS zs vs t ≠ []) ∧ addL org tb' ed t lk' ws = addL org tb' ed t lk (askedS zs vs t)) _
          ⟨askedS zs vs t, lk, _, _, _, rfl, rfl, g1, cs, by omega, id, rfl⟩ ?_ ?_
        · rintro d ds ρ S2 ⟨ws, lk', y10, y11, y12, ed0, rfl, g2, cs2, hln, hne, hal2⟩
          cases ws with
          | nil => cases ed0
          | cons w ws =>
            rw [List.map_cons] at ed0
            injection ed0 with e3 e4
            subst e3
            refine ⟨_, rfl, fun M3 hM3 => ?_⟩
            obtain ⟨hpi, hpl'⟩ := place_ix (S := S2) ok (hne (by simp))
            simp at hln
            rw [does_seq, does_asg]
            refine Res.Does.toE (side_ok (t := t) (w := w) (ed := ed) (n := S.length + 1) rfl rfl rfl cs2.c5 hpi ?_)
            have hh := law_holds_ok (S := S2) (m := w) (z.at hpl') (tk'.tab hpl')
            have hpt : t.place < tb'.length := by rw [tk'.len]; exact hpl'
            simp only [does_seq, does_asg]
            simp [hpi, ix_tabsC cs2.c4 hpt, Tb.d, hh]
            have hni := notin_lks (S := S2) (m := ((t.place : Int), sideOf ed t.place w, w - org, offAt (getT tb' t.place).1 (getT tb' t.place).2 w)) cs2.c7
            simp only [lkD] at hni
            rw [hni]
            by_cases c : ((t.place : Int), sideOf ed t.place w, w - org, offAt (getT tb' t.place).1 (getT tb' t.place).2 w) ∈ lk'
            · simp [c]
              refine hM3 _ _ ⟨ws, lk', _, _, _, e4, rfl, g2, cs2, by omega, fun _ => hne (by simp), ?_⟩
              rw [← hal2]
              show addL org tb' ed t lk' ws = addL org tb' ed t (pushLk lk' (markS org tb' ed t w)) ws
              unfold pushLk markS
              rw [if_pos c]
            · simp [c, cs2.c7]
              refine ⟨by omega, hM3 _ _ ⟨ws, lk' ++ [((t.place : Int), sideOf ed t.place w, w - org, offAt (getT tb' t.place).1 (getT tb' t.place).2 w)], _, _, _, e4, rfl, g2.setN (by omega) _, ?_, by simp; omega, fun _ => hne (by simp), ?_⟩⟩
              rotate_left
              · rw [← hal2]
                show _ = addL org tb' ed t (pushLk lk' (markS org tb' ed t w)) ws
                unfold pushLk markS
                rw [if_neg c]
              have := cs2.look (lk' ++ [((t.place : Int), sideOf ed t.place w, w - org, offAt (getT tb' t.place).1 (getT tb' t.place).2 w)])
              simp [lkD] at this
              exact this
        · rintro ρ S2 ⟨ws, lk', y10, y11, y12, ed0, rfl, g2, cs2, hln, hne, hal2⟩
          have hw0 : ws = [] := by
            cases ws with
            | nil => rfl
            | cons w ws => cases ed0
          subst hw0
          exact hM2 _ _ ⟨lk', _, _, _, rfl, g2, cs2, by omega, hal2⟩
      rintro ρ S2 ⟨lk', y10, y11, y12, rfl, g2, cs2, hln, hlkeq⟩
      have hlk2 : lk'.length ≤ 3 * (kk + 1) := by omega
      by_cases hE : t.isEd = true
      · obtain ⟨i, p, rfl⟩ : ∃ i p, t = .edition i p := ⟨_, _, ed_form hE⟩
        have h0 : tb' = tb ∧ ed = none := by
          rcases hed with hed | hed
          · exact hed
          · rw [cnt_cons] at hed
            have : bI (Stp.isEd (.edition i p)) = 1 := rfl
            have := cnt_nn (f := Stp.isEd) (ts := us)
            omega
        obtain ⟨rfl, rfl⟩ := h0
        have hib := ix_ints cs2.c6 hb
        simp only [Stp.base] at hib
        have hp2 : p < tb'.length := by rw [tk'.len]; exact ok.2
        have hp3 : p < later.length := by rw [ll]; exact ok.2
        have hw : gIx S2 (.tup [A, B]) (.int 1) = some B := by simp
        have hmem : Stp.edition i p ∈ ts := by rw [ets]; simp
        rw [followL, ← hlkeq] at hf
        simp only [Stp.isEd, Stp.place, Stp.base, true_and, if_true, stepV] at hf
        refine seq_cut (fun ρ S' => ag (getT tb' p) (getT later p) (getV vs i) = true ∧ ρ = [some (zonesD zs), some (.tup (ts.map Stp.d)), some (.tup [A, B]), some (.int org), some (.cell S.length), some (.cell (S.length + 1)), some (.cell (S.length + 2)), some (.cell (S.length + 3)), some (.int kk), some (Stp.edition i p).d, y10, y11, y12, x13] ∧
            Grow S S' ∧ Cells S' S.length (tb'.set p (getT later p)) (some (p, getV vs i)) vs lk') (fun M2 hM2 => ?_) ?_
        · simp (decide := true) [Stp.d, ix_tabsC cs2.c4 hp2, hBx _ hp3, hib]
          refine Res.Does.toE (hag i p hmem S2 (getV vs i) _ fun S3 g3 => ?_)
          have cs3 := cs2.grow g3
          have hib3 := ix_ints cs3.c6 hb
          simp only [Stp.base] at hib3
          have hw3 : gIx S3 (.tup [A, B]) (.int 1) = some B := by simp
          by_cases c : ag (getT tb' p) (getT later p) (getV vs i) = true
          · simp [c, hib3, cs3.c5, edD, putD, hBx _ hp3]
            have cs4 := cs3.edit (some (p, getV vs i))
            simp only [edD] at cs4
            have h16 : ixN (tb'.map Tb.d).length (p : Int) = some p := by
              have : (p : Int) < ((tb'.length : Nat) : Int) := by omega
              simp [ixN, this]
            refine ⟨_, cs3.c4, p, h16, ?_⟩
            refine hM2 _ _ ⟨c, rfl, ((g2.trans g3).setN (by omega) _).setN (Nat.le_refl _) _, ?_⟩
            have := cs4.tabs (tb'.set p (getT later p))
            rw [List.map_set] at this
            exact this
          · have c' : ag (getT tb' p) (getT later p) (getV vs i) = false := by simpa using c
            rw [if_pos c'] at hf
            rw [← hf] at q
            simp [c']
            exact q S3 (g2.trans g3)
        rintro ρ S3 ⟨hc, rfl, g3, cs3⟩
        rw [if_neg (by rw [hc]; exact Bool.noConfusion)] at hf
        simp
        refine Res.Does.toE (worth_made_does z (tk'.set tl p) ok hrl cs3.c6 cs3.c4 fun S4 g4 => ?_)
        have cs4 := cs3.grow g4
        have g34 := g3.trans g4
        simp [optD, stepV, cs4.c6]
        refine ⟨by omega, hM _ _ ⟨pre ++ [.edition i p], us, tb'.set p (getT later p), some (p, getV vs i), vs ++ [getV vs i], lk', row ++ [(Stp.edition i p).kind row], _, _, _, _, _, _, by rw [ets]; simp, by rw [List.length_append, List.length_singleton, hP, e2]; simp, rfl, g34.setN (by omega) _, ?_, tk'.set tl p, hp.2, by simp [hrl], by simp; omega, by simp; omega, .inr ?_, ?_, ?_⟩⟩
        · have := cs4.val (vs ++ [getV vs i])
          simp at this
          exact this
        · rw [cnt_cons] at he1
          have : bI (Stp.isEd (.edition i p)) = 1 := rfl
          omega
        · rw [cnt_cons] at he1
          have : bI (Stp.isEd (.edition i p)) = 1 := rfl
          omega
        · rw [← hf]
          simp [hP]
      · have hE' : t.isEd = false := by simpa using hE
        have hne : (gEq S2 (.str "x") (.str "x")) = (gEq S2 (.str "x") (.str "x")) := rfl
        have hq : ∀ (ρ : Rho) (S' : Sto), ρ[9]? = some (some t.d) → ∀ Q : D → Sto → Prop, Q (.bl false) S' → (mOp gEq (mOp gIx (mVar 9) (mK (.int 0))) (mK (.str "edition")) ρ S').Does Q := by
          intro ρ S' h9 Q qq
          cases t <;> first | (cases hE'; done) | (simp (decide := true) [h9, Stp.d]; exact qq)
        rw [does_seq, does_ifS]
        refine Res.Does.toE (hq _ _ rfl _ ?_)
        simp
        refine Res.Does.toE (worth_made_does z tk' ok hrl cs2.c6 cs2.c4 fun S3 g3 => ?_)
        have cs3 := cs2.grow g3
        have g23 := g2.trans g3
        rw [followL, ← hlkeq] at hf
        simp only [hE', Bool.false_eq_true, false_and, if_false] at hf
        cases hs : stepV zs tb' vs t with
        | none =>
          rw [hs] at hf
          rw [← hf] at q
          simp [optD]
          exact q S3 tb' ed g23 cs3
        | some v =>
          rw [hs] at hf
          simp [optD, cs3.c6]
          refine ⟨by omega, hM _ _ ⟨pre ++ [t], us, tb', ed, vs ++ [v], lk', row ++ [t.kind row], _, _, _, _, _, _, by rw [ets]; simp, by rw [List.length_append, List.length_singleton, hP, e2]; simp, rfl, g23.setN (by omega) _, ?_, tk', hp.2, by simp [hrl], by simp; omega, by simp; omega, ?_, ?_, ?_⟩⟩
          · have := cs3.val (vs ++ [v])
            simp at this
            exact this
          · rcases hed with hed | hed
            · exact .inl hed
            · refine .inr ?_
              rw [cnt_cons, hE'] at hed
              have : bI false = 0 := rfl
              omega
          · rw [cnt_cons, hE'] at he1
            have : bI false = 0 := rfl
            omega
          · rw [← hf]
            simp [hP]
  · rintro ρ S1 ⟨pre, us, tb', ed, vs, lk, row, x8, x9, x10, x11, x12, x13, ets, e, rfl, g1, cs, tk', hp, hrl, hvl, hlk, hed, he1, hf⟩
    cases us with
    | cons t us => rw [List.length_cons, rngD_cons] at e; cases e
    | nil =>
      simp
      rw [← hf] at q
      exact q S1 tb' ed g1 cs
theorem follow_doesW {A B : D} {ag : Tb → Tb → Int → Bool} {org : Int} {Q : D → Sto → Prop} (z : ZsOK zs) (hok : ProgFrom zs.length [.mom] ts) (hl : ts.length ≤ 8) (he : cnt Stp.isEd ts ≤ 1) (tk : TbsOK zs tb) (tl : TbsOK zs later)
    (hag : ∀ i p, Stp.edition i p ∈ ts → ∀ (S : Sto) (m : Int) (Q : D → Sto → Prop), (∀ S', Grow S S' → Q (.bl (ag (getT tb p) (getT later p) m)) S') → (m_law_agree [(getT tb p).d, (getT later p).d, .int m] S).Does Q)
    (hA : A = .tup (tb.map Tb.d) ∨ A = .lst (tb.map Tb.d)) (hB : B = .tup (later.map Tb.d) ∨ B = .lst (later.map Tb.d))
    (q : finQ S.length Q tb S (followS ag zs later tb 0 [org] ts)) : (m_law_follow [zonesD zs, progD ts, .tup [A, B], .int org] S).Does Q := by
  refine follow_doesL z hok hl he tk tl hag hA hB ?_
  have e := followL_fst (ag := ag) (zs := zs) (later := later) (org := org) (ts := ts) (tb := tb) (ed := none) (k := 0) (vs := [org]) (lk := [])
  rw [← e] at q
  generalize followL ag zs later org tb none 0 [org] [] ts = f at q
  obtain ⟨f, lk⟩ := f
  cases f with
  | done vs => exact fun S' tb' ed g cs => q S' tb' ed lk g cs
  | refused vs k => exact fun S' tb' ed g cs => q S' tb' ed lk g cs
  | unsuited => exact fun S' g => q S' g
theorem follow_does {ag : Tb → Tb → Int → Bool} {org : Int} {Q : D → Sto → Prop} (z : ZsOK zs) (hok : ProgFrom zs.length [.mom] ts) (hl : ts.length ≤ 8) (he : cnt Stp.isEd ts ≤ 1) (tk : TbsOK zs tb) (tl : TbsOK zs later)
    (hag : ∀ i p, Stp.edition i p ∈ ts → ∀ (S : Sto) (m : Int) (Q : D → Sto → Prop), (∀ S', Grow S S' → Q (.bl (ag (getT tb p) (getT later p) m)) S') → (m_law_agree [(getT tb p).d, (getT later p).d, .int m] S).Does Q)
    (q : finQ S.length Q tb S (followS ag zs later tb 0 [org] ts)) : (m_law_follow [zonesD zs, progD ts, worldD tb later, .int org] S).Does Q :=
  follow_doesW z hok hl he tk tl hag (.inl rfl) (.inl rfl) q
end
end Dm
-- text HmRun
namespace Dm
open PySem L2
section
variable {S : Sto} {zs : Zs} {tb later : List Tb} {vs : List Int} {row : List Kd} {n c : Nat} {t : Stp} {ts : List Stp}
/-! ### worlds -/
theorem all_tables (z : ZsOK zs) (tk : TbsOK zs tb) {ρ : Rho} (h2 : ρ[2]? = some (some (.tup (tb.map Tb.d)))) (hl : ρ.length = 5) {Q : List D → Sto → Prop} (q : Q (zs.map fun _ => D.bl true) S) :
    LcQ (tgU 2 (tgCons (tgN 3) (tgCons (tgN 4) tgNil))) mYes (mCall m_is_table (mCons (mVar 4) (mCons (mOp gIx (mVar 2) (mVar 3)) mNil))) ρ (enumD (zs.map fun z => zoneD z.1 z.2)) S Q := by
  match ρ, hl with
  | [a0, a1, a2, a3, a4], _ =>
    simp at h2
    subst h2
    match zs, tb, z, tk with
    | [a], [t0], z, tk =>
      have h1 := is_table_ok (S := S) (z.all a (by simp)) (tk.ok 0 a t0 rfl rfl)
      simp at q
      simp [enumD, tgU, Tb.d, h1]
      exact q
    | [a, b], [t0, t1], z, tk =>
      have h1 := is_table_ok (S := S) (z.all a (by simp)) (tk.ok 0 a t0 rfl rfl)
      have h2 := is_table_ok (S := S) (z.all b (by simp)) (tk.ok 1 b t1 rfl rfl)
      simp at q
      simp [enumD, tgU, Tb.d, h1, h2]
      exact q
    | [], _, z, _ => exact absurd z.len (by simp)
    | _ :: _ :: _ :: _, _, z, _ => exact absurd z.len (by simp)
    | [a], [], _, tk => exact absurd tk.len (by simp)
    | [a], _ :: _ :: _, _, tk => exact absurd tk.len (by simp)
    | [a, b], [], _, tk => exact absurd tk.len (by simp)
    | [a, b], [_], _, tk => exact absurd tk.len (by simp)
    | [a, b], _ :: _ :: _ :: _, _, tk => exact absurd tk.len (by simp)
theorem gAll_trues {α : Type} (l : List α) : gAll S [.lst (l.map fun _ => D.bl true)] = some (.bl true) := gAll_true
theorem is_world_ok (z : ZsOK zs) (tk : TbsOK zs tb) (tl : TbsOK zs later) : m_is_world [zonesD zs, worldD tb later] S = .ok (.bl true) S := by
  refine pure_of fun Q q => ?_
  refine does_def rfl ?_
  simp [need_zones_ok z, worldD, isTn]
  simp [zonesD, isTn, tk.len, wipeD]
  refine all_tables z tk rfl rfl ?_
  simp [gAll_trues, isTn, tl.len, wipeD]
  refine all_tables z tl rfl rfl ?_
  simp [gAll_trues]
  exact q
theorem need_world_ok (z : ZsOK zs) (tk : TbsOK zs tb) (tl : TbsOK zs later) : m_need_world [zonesD zs, worldD tb later] S = .ok .non S := by
  refine pure_of fun Q q => ?_
  refine does_def rfl ?_
  simp [is_world_ok z tk tl]
  exact q
/-! ### a step -/
theorem asked_moments_ok (z : ZsOK zs) (h : t.OK zs.length row) (hl : row.length = vs.length) (hn : S[n]? = some (.lst (vs.map .int))) : m_asked_moments [zonesD zs, t.d, .cell n] S = .ok (.lst ((askedS zs vs t).map .int)) S := by
  refine pure_of fun Q q => ?_
  have hb := h.base
  rw [hl] at hb
  refine does_def rfl ?_
  cases t with
  | find i p f g =>
    have e := ix_ints hn hb
    simp only [Stp.base] at e
    simp (decide := true) [Stp.d, e, ix_zones h.2.1, wipeD]
    rw [← List.map_reverse, lcAQ_fix (.inl rfl) (by simp)]
    refine lcQ_filter (fun _ : Int => true) (fun o => .int (getV vs i - o)) ?_ ?_
    · intro o ho
      refine ⟨_, rfl, fun Q q => q, fun Q _ q => ?_⟩
      simp
      exact q
    · have e : ((getZ zs p).1.reverse.filter fun _ : Int => true) = (getZ zs p).1.reverse := List.filter_eq_self.mpr fun _ _ => rfl
      rw [e]
      simp [askedS, Function.comp_def] at q ⊢
      exact q
  | _ =>
    have e := ix_ints hn hb
    simp only [Stp.base] at e
    simp (decide := true) [Stp.d, e]
    simp [askedS] at q
    exact q
theorem value_made_does (z : ZsOK zs) (tk : TbsOK zs tb) (h : t.OK zs.length row) (hl : row.length = vs.length) (hn : S[n]? = some (.lst (vs.map .int))) {kvs : List (Key × D)} (hc : S[c]? = some (.dic kvs))
    (hk : ∀ m, m ∈ askedS zs vs t → valD kvs (.inl m) = some (.int ((getT tb t.place).of m))) {Q : D → Sto → Prop} (q : Q (optD (stepV zs tb vs t)) S) : (m_value_made [zonesD zs, t.d, .cell n, .cell c] S).Does Q := by
  have hb := h.base
  rw [hl] at hb
  have e := ix_ints hn hb
  have second : ∀ {j : Nat} {k : Kd}, row[j]? = some k → gIx S (.cell n) (.int j) = some (.int (getV vs j)) := fun hj => ix_ints hn (by rw [← hl]; exact (List.getElem?_eq_some_iff.mp hj).1)
  refine does_def rfl ?_
  cases t with
  | find i p f g =>
    simp only [Stp.base] at e
    simp (decide := true) [Stp.d, e, ix_zones h.2.1, atI, ixN]
    refine found_by_does (h := (getT tb p).1) (js := (getT tb p).2) (z.at h.2.1) hc (fun o ho => hk _ ?_) (z.at h.2.1).ends h.2.2.1 h.2.2.2 ?_
    · simp [askedS]
      exact ho
    · rw [findO_eq]
      exact q
  | read i p =>
    simp only [Stp.base] at e
    have := hk (getV vs i) (by simp [askedS])
    simp (decide := true) [Stp.d, e, gDIx_cell hc, this]
    exact q
  | offset i p =>
    simp only [Stp.base] at e
    have := hk (getV vs i) (by simp [askedS])
    simp (decide := true) [Stp.d, e, gDIx_cell hc, this]
    exact q
  | edition i p =>
    simp only [Stp.base] at e
    simp (decide := true) [Stp.d, e]
    exact q
  | plus i j =>
    simp only [Stp.base] at e
    simp (decide := true) [Stp.d, e, second h.2]
    exact q
  | less i j =>
    simp only [Stp.base] at e
    simp (decide := true) [Stp.d, e, second h.2]
    exact q
  | add i m =>
    simp only [Stp.base] at e
    simp (decide := true) [Stp.d, e]
    exact q
/-! ### a table ahead of a moment -/
def aheadJ (js : List (Int × Int)) (m : Int) : List (Int × Int) := js.filter fun j => decide (j.1 < m)
theorem table_ahead_ok {h m : Int} {js : List (Int × Int)} : m_table_ahead [tabD h js, .int m] S = .ok (.tup [.int h, .lst ((aheadJ js m).map jmpD)]) S := by
  refine pure_of fun Q q => ?_
  refine does_def rfl ?_
  simp [wipeD]
  try rw [lcAQ_fix (.inl rfl) (by simp)]
  refine lcQ_filter (fun j : Int × Int => decide (j.1 < m)) jmpD ?_ ?_
  · intro j hj
    refine ⟨_, rfl, fun Q q => ?_, fun Q _ q => ?_⟩
    · simp
      exact q
    · simp
      exact q
  · exact q
def agP (a b : Tb) (m : Int) : Bool := decide (a.1 = b.1 ∧ aheadJ a.2 m = aheadJ b.2 m)
def jmpPy (j : Int × Int) : PyData := .tuple [.int j.1, .int j.2]
theorem jmps_py : ∀ l : List (Int × Int), toPys (l.map jmpD) = some (l.map jmpPy)
  | [] => rfl
  | m :: l => by
    have ih := jmps_py l
    simp only [List.map_cons, toPys, ih, jmpD, toPy, Option.bind_some, Option.map_some]
    rfl
theorem jmps_lay : ∀ l : List (Int × Int), PyData.canLayAll0 (l.map jmpPy) = true
  | [] => rfl
  | m :: l => by
    have ih := jmps_lay l
    simp only [List.map_cons, PyData.canLayAll0, ih, jmpPy, PyData.canLay0, Bool.and_self]
theorem jmps_depth : ∀ l : List (Int × Int), PyData.depthAll (l.map jmpPy) ≤ 1
  | [] => by simp [PyData.depthAll]
  | m :: l => by
    have ih := jmps_depth l
    simp only [List.map_cons, PyData.depthAll, PyData.depth, jmpPy]
    omega
theorem jmps_eqv : ∀ l l' : List (Int × Int), PyData.eqvAll (l.map jmpPy) (l'.map jmpPy) = decide (l = l')
  | [], [] => by simp [PyData.eqvAll]
  | [], _ :: _ => by simp [PyData.eqvAll]
  | _ :: _, [] => by simp [PyData.eqvAll]
  | (a, b) :: l, (a', b') :: l' => by
    have ih := jmps_eqv l l'
    simp only [List.map_cons, PyData.eqvAll, ih, jmpPy, PyData.eqv]
    by_cases h1 : a = a' <;> by_cases h2 : b = b' <;> by_cases h3 : l = l' <;> simp [h1, h2, h3]
theorem ne_ahead {h h' : Int} {l l' : List (Int × Int)} : gNe S (.tup [.int h, .lst (l.map jmpD)]) (.tup [.int h', .lst (l'.map jmpD)]) = some (.bl (!decide (h = h' ∧ l = l'))) := by
  have e1 : ∀ (h : Int) (l : List (Int × Int)), toPyS S (.tup [.int h, .lst (l.map jmpD)]) = some (.tuple [.int h, .list (l.map jmpPy)]) := by
    intro h l
    simp only [toPyS, toPy, toPys, jmps_py, Option.bind_some, Option.map_some]
  have s1 : ∀ (h : Int) (l : List (Int × Int)), SeqAt.shaped (.tuple [.int h, .list (l.map jmpPy)]) = true := by
    intro h l
    have h2 := jmps_depth l
    unfold SeqAt.shaped
    simp only [PyData.canLay0, PyData.canLayAll0, jmps_lay, PyData.depth, PyData.depthAll, Bool.and_self, Bool.true_and]
    exact decide_eq_true (by omega)
  unfold gNe eqD
  simp only [e1]
  rw [if_pos ⟨s1 _ _, s1 _ _⟩]
  simp only [PyData.eqv, PyData.eqvAll, jmps_eqv]
  by_cases h1 : h = h' <;> by_cases h2 : l = l' <;> simp [h1, h2]
end
end Dm
-- text HmRun2
namespace Dm
open PySem L2
@[simp] theorem does_raise {c : Str} {ρ : Rho} {S : Sto} {N B C : Rho → Sto → Prop} {R : D → Sto → Prop} {EO : EXO} : (mRaise c ρ S).DoesE EO N R B C = EO c [] ρ S := rfl
@[simp] theorem does_raiseX {c : Str} {ns : List Str} {ma : MA} {ρ : Rho} {S : Sto} {N B C : Rho → Sto → Prop} {R : D → Sto → Prop} {EO : EXO} : (mRaiseX c ns ma ρ S).DoesE EO N R B C = (ma ρ S).DoesE (eAt EO ρ) fun ds S1 => ds.length = ns.length ∧ EO c (ns.zip ds).reverse ρ S1 := by
  unfold mRaiseX
  rw [does_ofRes]; congr 1; funext ds S1
  by_cases h : ds.length = ns.length
  · rw [if_pos h]; simp [h, Out.DoesE]
  · rw [if_neg h]; simp [h, Out.DoesE]
section
variable {S : Sto} {zs : Zs} {tb later : List Tb} {vs : List Int} {row : List Kd} {n c : Nat} {t : Stp} {ts : List Stp}
def finR (E : EX) (Q : D → Sto → Prop) (S0 : Sto) : Fin → Prop
  | .done vs => ∀ S' n, Grow S0 S' → S0.length ≤ n → S'[n]? = some (.lst (vs.map .int)) → Q (.cell n) S'
  | .refused _ k => ∀ S', Grow S0 S' → E "Refused" [("step", .int k)] S'
  | .unsuited => ∀ S', Grow S0 S' → E "Unsuited" [] S'
theorem run_does {st : Int} {E : EX} {Q : D → Sto → Prop} (z : ZsOK zs) (hok : ProgOK zs.length ts) (tk : TbsOK zs tb) (tl : TbsOK zs later) (q : finR E Q S (followS agP zs later tb 0 [st] ts)) :
    (m_run [zonesD zs, progD ts, worldD tb later, .int st] S).DoesE E Q := by
  have hz : zs.length ≤ 2 := by rcases z.len with h | h <;> omega
  have lt := tk.len
  have ll := tl.len
  have hl := hok.len
  refine does_def rfl ?_
  refine seq_cut (fun ρ S' => ρ = [some (zonesD zs), some (progD ts), some (worldD tb later), some (.int st), none, none, none, none, none, none, none, none, none] ∧ Grow S S') (fun M hM => ?_) ?_
  · simp [need_zones_ok z]
    exact hM _ _ ⟨rfl, .refl⟩
  rintro ρ S1 ⟨rfl, g1⟩
  refine seq_cut (fun ρ S' => ρ = [some (zonesD zs), some (progD ts), some (worldD tb later), some (.int st), none, none, none, none, none, none, none, none, none] ∧ Grow S S') (fun M hM => ?_) ?_
  · simp
    refine Res.Does.toE (need_program_does z hok ?_)
    exact hM _ _ ⟨rfl, g1.push _⟩
  rintro ρ S2 ⟨rfl, g2⟩
  refine seq_cut (fun ρ S' => ρ = [some (zonesD zs), some (progD ts), some (worldD tb later), some (.int st), none, none, none, none, none, none, none, none, none] ∧ Grow S S') (fun M hM => ?_) ?_
  · simp [need_world_ok z tk tl]
    exact hM _ _ ⟨rfl, g2⟩
  rintro ρ S3 ⟨rfl, g3⟩
  refine seq_cut (fun ρ S' => ρ = [some (zonesD zs), some (progD ts), some (worldD tb later), some (.int st), none, none, none, none, none, none, none, none, none] ∧ Grow S S') (fun M hM => ?_) ?_
  · simp
    exact hM _ _ ⟨rfl, g3⟩
  rintro ρ S4 ⟨rfl, g4⟩
  have l4 := g4.len
  refine seq_cut (fun ρ S' => ρ = [some (zonesD zs), some (progD ts), some (worldD tb later), some (.int st), some (.cell S4.length), none, none, none, none, none, none, none, none] ∧ S' = S4 ++ [.lst (tb.map Tb.d)]) (fun M hM => ?_) ?_
  · simp [worldD]
    exact hM _ _ ⟨rfl, rfl⟩
  rintro ρ _ ⟨rfl, rfl⟩
  refine seq_cut (fun ρ S' => ρ = [some (zonesD zs), some (progD ts), some (worldD tb later), some (.int st), some (.cell S4.length), some (.cell (S4.length + 1)), none, none, none, none, none, none, none] ∧ Grow S S' ∧ S'[S4.length]? = some (.lst (tb.map Tb.d)) ∧ S'[S4.length + 1]? = some (.lst ([st].map .int))) (fun M hM => ?_) ?_
  · simp
    refine hM _ _ ⟨rfl, g4.trans ⟨_, rfl⟩, ?_, ?_⟩
    · rw [List.getElem?_append_right (by omega)]; simp
    · rw [List.getElem?_append_right (by omega)]; simp
  rintro ρ S5 ⟨rfl, g5, c4, c5⟩
  generalize S4.length = a at l4 c4 c5
  simp [progD]
  refine forL_cut (fun ds ρ S' => ∃ (pre us : List Stp) (tb' : List Tb) (vs : List Int) (row : List Kd) (x6 x7 x8 x9 x10 x11 x12 : Option D), ts = pre ++ us ∧ ds = enumF pre.length (us.map Stp.d) ∧
      ρ = [some (zonesD zs), some (.tup (ts.map Stp.d)), some (worldD tb later), some (.int st), some (.cell a), some (.cell (a + 1)), x6, x7, x8, x9, x10, x11, x12] ∧
      Grow S S' ∧ S'[a]? = some (.lst (tb'.map Tb.d)) ∧ S'[a + 1]? = some (.lst (vs.map .int)) ∧ TbsOK zs tb' ∧ ProgFrom zs.length row us ∧ row.length = vs.length ∧ vs.length = pre.length + 1 ∧
      followS agP zs later tb' pre.length vs us = followS agP zs later tb 0 [st] ts) _
    ⟨[], ts, tb, [st], [.mom], none, none, none, none, none, none, none, rfl, rfl, rfl, g5, c4, c5, tk, hok.steps, rfl, rfl, rfl⟩ ?_ ?_
  · rintro d ds ρ S6 ⟨pre, us, tb', vs, row, x6, x7, x8, x9, x10, x11, x12, ets, e, rfl, g6, d4, d5, tk', hp, hrl, hvl, hf⟩
    cases us with
    | nil => cases e
    | cons t us =>
      rw [List.map_cons, enumF_cons] at e
      injection e with e1 e2
      subst e1
      refine ⟨_, rfl, fun M hM => ?_⟩
      have ok := hp.1
      have hb := ok.base
      rw [hrl] at hb
      generalize hP : pre.length = kk at *
      rw [followS] at hf
      -- the edition
      refine seq_cut (fun ρ S' => ∃ (tb2 : List Tb) (y8 y9 : Option D), ρ = [some (zonesD zs), some (.tup (ts.map Stp.d)), some (worldD tb later), some (.int st), some (.cell a), some (.cell (a + 1)), some (.int kk), some t.d, y8, y9, x10, x11, x12] ∧
          Grow S S' ∧ S'[a]? = some (.lst (tb2.map Tb.d)) ∧ S'[a + 1]? = some (.lst (vs.map .int)) ∧ TbsOK zs tb2 ∧ tb2 = (if t.isEd = true then tb'.set t.place (getT later t.place) else tb') ∧ ¬ (t.isEd = true ∧ agP (getT tb' t.place) (getT later t.place) (getV vs t.base) = false)) (fun M2 hM2 => ?_) ?_
      · by_cases hE : t.isEd = true
        · obtain ⟨i, p, rfl⟩ : ∃ i p, t = .edition i p := ⟨_, _, ed_form hE⟩
          have hib := ix_ints d5 hb
          simp only [Stp.base] at hib
          have hp2 : p < tb'.length := by rw [tk'.len]; exact ok.2
          have hp3 : p < later.length := by rw [ll]; exact ok.2
          have hw : gIx S6 (worldD tb later) (.int 1) = some (.tup (later.map Tb.d)) := by simp [worldD]
          simp only [Stp.isEd, Stp.place, Stp.base, true_and, if_true] at hf ⊢
          have ta := fun (S : Sto) (t : Tb) (m : Int) => table_ahead_ok (S := S) (h := t.1) (m := m) (js := t.2)
          simp (decide := true) [Stp.d, hib, ix_tabsC d4 hp2, hw, ix_tabs hp3, Tb.d, ta, ne_ahead]
          by_cases c : (getT tb' p).1 = (getT later p).1 ∧ aheadJ (getT tb' p).2 (getV vs i) = aheadJ (getT later p).2 (getV vs i)
          · have c' : agP (getT tb' p) (getT later p) (getV vs i) = true := decide_eq_true c
            rw [if_neg (by
              rintro (h | h)
              · exact h c.1
              · exact h c.2)]
            have h16 : ixN (tb'.map Tb.d).length (p : Int) = some p := by
              have : (p : Int) < ((tb'.length : Nat) : Int) := by omega
              simp [ixN, this]
            refine ⟨_, d4, p, h16, hM2 _ _ ⟨tb'.set p (getT later p), _, _, rfl, g6.setN l4 _, ?_, ?_, tk'.set tl p, rfl, fun h => by have h2 := h.2; simp only [Stp.place, Stp.base] at h2; rw [c'] at h2; cases h2⟩⟩
            · rw [set_at d4, List.map_set]; rfl
            · rw [List.getElem?_set_ne (by omega)]; exact d5
          · have c' : agP (getT tb' p) (getT later p) (getV vs i) = false := decide_eq_false c
            rw [if_pos c'] at hf
            rw [if_pos (by
              by_cases h1 : (getT tb' p).1 = (getT later p).1
              · exact .inr fun h2 => c ⟨h1, h2⟩
              · exact .inl h1)]
            rw [← hf] at q
            exact q S6 g6
        · have hE' : t.isEd = false := by simpa using hE
          have hq : ∀ (ρ : Rho) (S' : Sto), ρ[7]? = some (some t.d) → ∀ Q : D → Sto → Prop, Q (.bl false) S' → (mOp gEq (mOp gIx (mVar 7) (mK (.int 0))) (mK (.str "edition")) ρ S').Does Q := by
            intro ρ S' h9 Q qq
            cases t <;> first | (cases hE'; done) | (simp (decide := true) [h9, Stp.d]; exact qq)
          rw [does_ifS]
          refine Res.Does.toE (hq _ _ rfl _ ?_)
          simp
          exact hM2 _ _ ⟨tb', _, _, rfl, g6, d4, d5, tk', by simp [hE'], by simp [hE']⟩
      rintro ρ S7 ⟨tb2, y8, y9, rfl, g7, f4, f5, tk2, et2, hno⟩
      rw [if_neg hno, ← et2] at hf
      have hstep : stepV zs tb' vs t = stepV zs tb2 vs t := by
        by_cases hE : t.isEd = true
        · rw [ed_form hE]; rfl
        · rw [if_neg hE] at et2
          rw [et2]
      rw [hstep] at hf
      have l7 := g7.len
      have ha7 : a + 1 < S7.length := (List.getElem?_eq_some_iff.mp f5).1
      refine seq_cut (fun ρ S' => ρ = [some (zonesD zs), some (.tup (ts.map Stp.d)), some (worldD tb later), some (.int st), some (.cell a), some (.cell (a + 1)), some (.int kk), some t.d, y8, y9, some (.cell S7.length), x11, x12] ∧ S' = S7 ++ [.dic []]) (fun M2 hM2 => ?_) ?_
      · simp
        exact hM2 _ _ ⟨rfl, rfl⟩
      rintro ρ _ ⟨rfl, rfl⟩
      refine seq_cut (fun ρ S' => ∃ (kvs : List (Key × D)) (y11 : Option D), ρ = [some (zonesD zs), some (.tup (ts.map Stp.d)), some (worldD tb later), some (.int st), some (.cell a), some (.cell (a + 1)), some (.int kk), some t.d, y8, y9, some (.cell S7.length), y11, x12] ∧ Grow S S' ∧ S'[a]? = some (.lst (tb2.map Tb.d)) ∧ S'[a + 1]? = some (.lst (vs.map .int)) ∧
          S'[S7.length]? = some (.dic kvs) ∧ ∀ m, m ∈ askedS zs vs t → valD kvs (.inl m) = some (.int ((getT tb2 t.place).of m))) (fun M2 hM2 => ?_) ?_
      · have f5' : (S7 ++ [.dic []])[a + 1]? = some (.lst (vs.map .int)) := by rw [List.getElem?_append_left ha7]; exact f5
        have f4' : (S7 ++ [.dic []])[a]? = some (.lst (tb2.map Tb.d)) := by rw [List.getElem?_append_left (by omega)]; exact f4
        have hal := asked_len (vs := vs) (t := t) z
        simp [asked_moments_ok z ok hrl f5']
        refine forL_cut (fun ds ρ S' => ∃ (ms ws : List Int) (kvs : List (Key × D)) (y11 : Option D), askedS zs vs t = ms ++ ws ∧ ds = ws.map .int ∧ ρ = [some (zonesD zs), some (.tup (ts.map Stp.d)), some (worldD tb later), some (.int st), some (.cell a), some (.cell (a + 1)), some (.int kk), some t.d, y8, y9, some (.cell S7.length), y11, x12] ∧
            Grow S S' ∧ S'[a]? = some (.lst (tb2.map Tb.d)) ∧ S'[a + 1]? = some (.lst (vs.map .int)) ∧ S'[S7.length]? = some (.dic kvs) ∧ kvs.length ≤ ms.length ∧ ∀ m, m ∈ ms → valD kvs (.inl m) = some (.int ((getT tb2 t.place).of m))) _
          ⟨[], _, [], _, rfl, rfl, rfl, g7.push _, f4', f5', by simp, by simp, fun _ h => nomatch h⟩ ?_ ?_
        · rintro d ds' ρ S8 ⟨ms, ws, kvs, y11, ea, ed0, rfl, g8, e4, e5, ek, el, hk⟩
          cases ws with
          | nil => cases ed0
          | cons w ws =>
            rw [List.map_cons] at ed0
            injection ed0 with e6 e7
            subst e6
            refine ⟨_, rfl, fun M3 hM3 => ?_⟩
            obtain ⟨hpi, hpl'⟩ := place_ix (S := S8) ok (by rw [ea]; simp)
            have hpt : t.place < tb2.length := by rw [tk2.len]; exact hpl'
            have ho := offset_in_ok (S := S8) (h := (getT tb2 t.place).1) (js := (getT tb2 t.place).2) (m := w)
            rw [ea] at hal
            simp at hal
            simp [hpi, ix_tabsC e4 hpt, Tb.d, ho, ek]
            refine ⟨by omega, hM3 _ _ ⟨ms ++ [w], ws, _, _, by rw [ea]; simp, e7, rfl, g8.setN (by omega) _, ?_, ?_, set_at ek, ?_, ?_⟩⟩
            · rw [List.getElem?_set_ne (by omega)]; exact e4
            · rw [List.getElem?_set_ne (by omega)]; exact e5
            · have := putD_len (kvs := kvs) (k := .inl w) (v := .int (offAt (getT tb2 t.place).1 (getT tb2 t.place).2 w))
              simp
              omega
            · intro m hm
              by_cases hmw : m = w
              · subst hmw
                rw [valD_put_same]; rfl
              · rw [valD_put_other (by intro h; injection h with h; exact hmw h)]
                rcases List.mem_append.mp hm with hm | hm
                · exact hk m hm
                · exact absurd (List.mem_singleton.mp hm) hmw
        · rintro ρ S8 ⟨ms, ws, kvs, y11, ea, ed0, rfl, g8, e4, e5, ek, el, hk⟩
          cases ws with
          | cons w ws => cases ed0
          | nil =>
            rw [List.append_nil] at ea
            exact hM2 _ _ ⟨kvs, _, rfl, g8, e4, e5, ek, by rw [ea]; exact hk⟩
      rintro ρ S8 ⟨kvs, y11, rfl, g8, e4, e5, ek, hk⟩
      simp
      refine Res.Does.toE (value_made_does z tk2 ok hrl e5 ek hk ?_)
      cases hs : stepV zs tb2 vs t with
      | none =>
        rw [hs] at hf
        rw [← hf] at q
        simp [optD]
        exact q S8 g8
      | some v =>
        rw [hs] at hf
        simp [optD, e5]
        have hpl8 : pre.length ≤ 8 := by rw [ets] at hl; simp at hl; omega
        refine ⟨by omega, hM _ _ ⟨pre ++ [t], us, tb2, vs ++ [v], row ++ [t.kind row], _, _, _, _, _, _, _, by rw [ets]; simp, by rw [List.length_append, List.length_singleton, hP, e2], rfl, g8.setN (by omega) _, ?_, ?_, tk2, hp.2, by simp [hrl], by simp; omega, ?_⟩⟩
        · rw [List.getElem?_set_ne (by omega)]; exact e4
        · rw [set_at e5]; simp
        · rw [← hf]
          simp [hP]
  · rintro ρ S6 ⟨pre, us, tb', vs, row, x6, x7, x8, x9, x10, x11, x12, ets, e, rfl, g6, d4, d5, tk', hp, hrl, hvl, hf⟩
    cases us with
    | cons t us => rw [List.map_cons, enumF_cons] at e; cases e
    | nil =>
      simp
      rw [← hf] at q
      exact q S6 _ g6 (by omega) d5
end
end Dm
-- text HmEarth2
namespace Dm
open PySem L2
/-- jumps near a moment -/
def ChB (ar : Int) (js : List (Int × Int)) : Prop := js.length ≤ 50 ∧ ∀ j, j ∈ js → ar - 60000000 ≤ j.1 ∧ j.1 ≤ ar + 60000000
section
variable {S : Sto} {p n : Nat} {os : List Int} {s : Int}
theorem rest_ne (z : ZoneOK os s) {h : Int} (hh : h ∈ os) (hl : 1 < os.length) : (os.filter fun o => !(o == h)) ≠ [] := by
  intro e
  rw [List.filter_eq_nil_iff] at e
  have nd := z.nodup
  match os, hl, nd with
  | a :: b :: r, _, nd =>
    have h1 := e a (by simp)
    have h2 := e b (by simp)
    simp at h1 h2
    simp at nd
    exact nd.1.1 (h1.trans h2.symm)
theorem any_chart_does {ar : Int} {Q : D → Sto → Prop} (hp : Bag p (n + 200) S) (z : ZoneOK os s) (q : ∀ h js S', Bag p n S' → GoB p S S' → TabOK os s h js → ChB ar js → Q (tabD h js) S') : (m_law_any_chart [.cell p, zoneD os s, .int ar] S).Does Q := by
  have hl := z.len
  have hs := z.sp
  have E := z.ends
  have pl := hp.lt
  have hw0 := E.w
  have hlo := (E.mem _ E.ma)
  refine does_def rfl ?_
  refine seq_cut (fun ρ S' => S = S' ∧ ρ = [some (.cell p), some (zoneD os s), some (.int ar), some (.tup (os.map .int)), some (.int s), none, none, none, none, none, none, none, none]) (fun M hM => ?_) ?_
  · simp
    exact hM _ _ ⟨rfl, rfl⟩
  rintro ρ _ ⟨rfl, rfl⟩
  refine seq_cut (fun ρ S' => ∃ h, h ∈ os ∧ ρ = [some (.cell p), some (zoneD os s), some (.int ar), some (.tup (os.map .int)), some (.int s), some (.int h), none, none, none, none, none, none, none] ∧ Bag p (n + 199) S' ∧ GoB p S S') (fun M hM => ?_) ?_
  · simp
    refine pick_does (n := n + 199) hp (by omega) (by omega) fun c S1 b1 g1 r0 r1 => ?_
    obtain ⟨o, ho, hm, _⟩ := z.at r0 r1
    simp [ho]
    exact hM _ _ ⟨o, hm, rfl, b1, g1⟩
  rintro ρ S1 ⟨h, hh, rfl, b1, g1⟩
  refine seq_cut (fun ρ S' => S1 = S' ∧ ρ = [some (.cell p), some (zoneD os s), some (.int ar), some (.tup (os.map .int)), some (.int s), some (.int h), some (.int h), none, none, none, none, none, none]) (fun M hM => ?_) ?_
  · simp
    exact hM _ _ ⟨rfl, rfl⟩
  rintro ρ _ ⟨rfl, rfl⟩
  refine seq_cut (fun ρ S' => ∃ w : Int, 0 ≤ w ∧ w ≤ 2000000 ∧ ρ = [some (.cell p), some (zoneD os s), some (.int ar), some (.tup (os.map .int)), some (.int s), some (.int h), some (.int h), some (.int w), none, none, none, none, none] ∧ Bag p (n + 198) S' ∧ GoB p S S') (fun M hM => ?_) ?_
  · have k1 : CMulW 2 s := cmulw64 (by omega) (by omega)
    simp [E.hi, E.lo, k1]
    refine pick_does (n := n + 198) b1 (by decide) (by decide) fun c S2 b2 g2 r0 r1 => ?_
    have e : ∃ w : Int, 0 ≤ w ∧ w ≤ 2000000 ∧ atI [D.int 2, .int 60, .int (1 + hiO os - loO os), .int 700, .int (2 * s), .int 3] c = some (.int w) := by
      have := (E.mem _ E.mb)
      have e : c = 0 ∨ c = 1 ∨ c = 2 ∨ c = 3 ∨ c = 4 ∨ c = 5 := by omega
      rcases e with e | e | e | e | e | e <;> subst e
      · exact ⟨2, by omega, by omega, by simp⟩
      · exact ⟨60, by omega, by omega, by simp⟩
      · exact ⟨1 + hiO os - loO os, by omega, by omega, by simp⟩
      · exact ⟨700, by omega, by omega, by simp [atI, ixN]⟩
      · exact ⟨2 * s, by omega, by omega, by simp [atI, ixN]⟩
      · exact ⟨3, by omega, by omega, by simp [atI, ixN]⟩
    obtain ⟨w, w0, w1, e⟩ := e
    simp [e]
    exact hM _ _ ⟨w, w0, w1, rfl, b2, g1.trans g2⟩
  rintro ρ S2 ⟨w, w0, w1, rfl, b2, g2⟩
  refine seq_cut (fun ρ S' => ∃ wh : Int, ar - 9000000 ≤ wh ∧ wh ≤ ar + 9000000 ∧ ρ = [some (.cell p), some (zoneD os s), some (.int ar), some (.tup (os.map .int)), some (.int s), some (.int h), some (.int h), some (.int w), some (.int wh), none, none, none, none] ∧ Bag p (n + 196) S' ∧ GoB p S S') (fun M hM => ?_) ?_
  · have k1 : CMulW 2 w := cmulw64 (by omega) (by omega)
    simp [k1]
    refine pick_does (n := n + 197) b2 (by omega) (by omega) fun c S3 b3 g3 r0 r1 => ?_
    simp
    refine pick_does (n := n + 196) b3 (by decide) (by decide) fun c2 S4 b4 g4 s0 s1 => ?_
    have k2 : CMulW s c2 := cmulw64 (by omega) (by omega)
    simp [k2]
    have m1 : 0 ≤ s * c2 ∧ s * c2 ≤ s * 3 := ⟨Int.mul_nonneg (by omega) s0, Int.mul_le_mul_of_nonneg_left (by omega) (by omega)⟩
    exact hM _ _ ⟨_, by omega, by omega, rfl, b4, g2.trans (g3.trans g4)⟩
  rintro ρ S4 ⟨wh, wh0, wh1, rfl, b4, g4⟩
  have l4 := g4.len
  have p4 := b4.lt
  refine seq_cut (fun ρ S' => ρ = [some (.cell p), some (zoneD os s), some (.int ar), some (.tup (os.map .int)), some (.int s), some (.int h), some (.int h), some (.int w), some (.int wh), some (.cell S4.length), none, none, none] ∧ S' = S4 ++ [.lst []]) (fun M hM => ?_) ?_
  · simp
    exact hM _ _ ⟨rfl, rfl⟩
  rintro ρ _ ⟨rfl, rfl⟩
  have b5 := b4.push (.lst [])
  have g5 := g4.trans (GoB.push (p := p) (S := S4) (.lst []))
  have c5 : (S4 ++ [.lst []])[S4.length]? = some (.lst []) := by simp
  generalize S4.length = N at l4 p4 c5
  generalize S4 ++ [.lst []] = S5 at b5 g5 c5
  refine seq_cut (fun ρ S' => ∃ (js : List (Int × Int)) (h' wh' : Int) (x10 x11 x12 : Option D), ρ = [some (.cell p), some (zoneD os s), some (.int ar), some (.tup (os.map .int)), some (.int s), some (.int h'), some (.int h), some (.int w), some (.int wh'), some (.cell N), x10, x11, x12] ∧ Bag p n S' ∧ GoB p S S' ∧ S'[N]? = some (.lst (js.map jmpD)) ∧ TabOK os s h js ∧ ChB ar js) (fun M hM => ?_) ?_
  · simp
    refine pick_does (n := n + 195) b5 (by decide) (by decide) fun c S6 b6 g6 r0 r1 => ?_
    have e : ∃ k : Int, 0 ≤ k ∧ k ≤ 50 ∧ atI [D.int 1, .int 0, .int 2, .int 3, .int 4, .int 5, .int 7, .int 50] c = some (.int k) := by
      have e : c = 0 ∨ c = 1 ∨ c = 2 ∨ c = 3 ∨ c = 4 ∨ c = 5 ∨ c = 6 ∨ c = 7 := by omega
      rcases e with e | e | e | e | e | e | e | e <;> subst e
      · exact ⟨1, by omega, by omega, by simp⟩
      · exact ⟨0, by omega, by omega, by simp⟩
      · exact ⟨2, by omega, by omega, by simp⟩
      · exact ⟨3, by omega, by omega, by simp [atI, ixN]⟩
      · exact ⟨4, by omega, by omega, by simp [atI, ixN]⟩
      · exact ⟨5, by omega, by omega, by simp [atI, ixN]⟩
      · exact ⟨7, by omega, by omega, by simp [atI, ixN]⟩
      · exact ⟨50, by omega, by omega, by simp [atI, ixN]⟩
    obtain ⟨k, k0, k5, e⟩ := e
    simp [e]
    have c6 := g6.get c5 (by omega)
    refine ⟨cmulw64 (by omega) (by split <;> omega), by split <;> omega, ?_⟩
    generalize hC : k * (if (1 : Int) < (os.length : Int) then (1 : Int) else 0) = kk
    have hk : 0 ≤ kk ∧ kk ≤ 50 ∧ (os.length = 1 → kk = 0) := by
      subst hC
      split <;> omega
    refine forL_cut (fun ds ρ S' => ∃ (js : List (Int × Int)) (h' wh' : Int) (x10 x11 x12 : Option D), ρ = [some (.cell p), some (zoneD os s), some (.int ar), some (.tup (os.map .int)), some (.int s), some (.int h'), some (.int h), some (.int w), some (.int wh'), some (.cell N), x10, x11, x12] ∧ Bag p (n + 3 * ds.length) S' ∧ GoB p S S' ∧ S'[N]? = some (.lst (js.map jmpD)) ∧
        h' ∈ os ∧ h' = endH h js ∧ Chain os s h none js ∧ (∀ pm, endP none js = some pm → pm + s ≤ wh') ∧ js.length + ds.length ≤ 50 ∧ (os.length = 1 → ds.length = 0) ∧ (∀ j, j ∈ js → ar - 60000000 ≤ j.1 ∧ j.1 ≤ ar + 60000000) ∧ ar - 9000000 ≤ wh' ∧ wh' ≤ ar + 9000000 + 1000200 * js.length) _
      ⟨[], h, wh, _, _, _, rfl, b6.mono (by rw [rngD_length]; omega), g5.trans g6, c6, hh, rfl, trivial, (fun _ h => nomatch h), by rw [rngD_length]; simp; omega, fun h => by rw [rngD_length]; have := hk.2.2 h; omega, (fun _ h => nomatch h), wh0, by simpa using wh1⟩ ?_ ?_
    · rintro d ds ρ S7 ⟨js, h', wh', x10, x11, x12, rfl, b7, g7, c7, hh', he, ch, pm, hln, one, jb, wl, wu⟩
      refine ⟨_, rfl, fun M2 hM2 => ?_⟩
      simp at b7 hln one
      have two : 1 < os.length := by
        rcases Nat.lt_or_ge 1 os.length with h | h
        · exact h
        · exact absurd (show os.length = 1 by omega) one
      have rn := rest_ne z hh' two
      have rl : (os.filter fun o => !(o == h')).length ≤ 3 := Nat.le_trans (List.length_filter_le _ _) hl.2
      have rm : ∀ o, o ∈ (os.filter fun o => !(o == h')) → o ∈ os ∧ o ≠ h' := by
        intro o ho
        rw [List.mem_filter] at ho
        refine ⟨ho.1, ?_⟩
        have := ho.2
        simpa using this
      refine seq_cut (fun ρ S' => S' = S7 ∧ ρ = [some (.cell p), some (zoneD os s), some (.int ar), some (.tup (os.map .int)), some (.int s), some (.int h'), some (.int h), some (.int w), some (.int wh'), some (.cell N), some d, some (.lst ((os.filter fun o => !(o == h')).map .int)), x12]) (fun M3 hM3 => ?_) ?_
      · simp [wipeD]
        try rw [lcAQ_fix (.inl rfl) (by simp)]
        refine lcQ_filter (as := os) (fun o : Int => !(o == h')) D.int ?_ ?_
        · intro o ho
          refine ⟨_, rfl, fun Q q => ?_, fun Q _ q => ?_⟩
          · simp
            simpa using q
          · simp
            exact q
        · exact hM3 _ _ ⟨rfl, rfl⟩
      rintro ρ _ ⟨rfl, rfl⟩
      generalize (os.filter fun o => !(o == h')) = rest at rn rl rm
      have rp : 0 < rest.length := List.length_pos_iff.mpr rn
      simp
      refine pick_does (n := n + 3 * ds.length + 2) (b7.mono (by omega)) (by omega) (by omega) fun v S8 b8 g8 s0 s1 => ?_
      obtain ⟨x, hx, ex⟩ := atI_memL (l := rest.map D.int) s0 (by simpa using s1)
      obtain ⟨o, ho, rfl⟩ := List.mem_map.mp hx
      obtain ⟨om, one'⟩ := rm o ho
      have c8 := g8.get c7 (by omega)
      simp [ex, c8]
      refine ⟨by omega, ?_⟩
      refine pick_does (n := n + 3 * ds.length + 1) (b8.set (by omega) _) (by decide) (by decide) fun v2 S9 b9 g9 t0 t1 => ?_
      refine pick_does (n := n + 3 * ds.length) b9 (by decide) (by decide) fun v3 S10 b10 g10 u0 u1 => ?_
      have e : ∃ w : Int, 0 ≤ w ∧ w ≤ 200 ∧ atI [D.int 0, .int 0, .int 1, .int v2] v3 = some (.int w) := by
        have e : v3 = 0 ∨ v3 = 1 ∨ v3 = 2 ∨ v3 = 3 := by omega
        rcases e with e | e | e | e <;> subst e
        · exact ⟨0, by omega, by omega, by simp⟩
        · exact ⟨0, by omega, by omega, by simp⟩
        · exact ⟨1, by omega, by omega, by simp⟩
        · exact ⟨v2, by omega, by omega, by simp [atI, ixN]⟩
      obtain ⟨w2, w20, w21, e⟩ := e
      simp [e]
      have c9 : (S8.set N (.lst (js.map jmpD ++ [.tup [.int wh', .int o]])))[N]? = some (.lst (js.map jmpD ++ [.tup [.int wh', .int o]])) := set_at c8
      refine hM2 _ _ ⟨js ++ [(wh', o)], o, _, _, _, _, rfl, b10, (((g7.trans g8).setNew l4 _).trans (g9.trans g10)), ?_, om, ?_, ?_, ?_, by simp; omega, fun h => absurd h one, ?_, by omega, by simp; omega⟩
      · rw [g10.get (g9.get c9 (by omega)) (by omega)]
        simp [jmpD]
      · rw [endH_snoc]
      · exact chain_snoc ch om (by rw [← he]; exact one') fun q hq => pm q hq
      · intro q hq
        rw [endP_snoc] at hq
        injection hq with hq
        omega
      · intro j hj
        rcases List.mem_append.mp hj with hj | hj
        · exact jb j hj
        · cases List.mem_singleton.mp hj
          simp only
          omega
    · rintro ρ S7 ⟨js, h', wh', x10, x11, x12, rfl, b7, g7, c7, hh', he, ch, pm, hln, one, jb, wl, wu⟩
      simp at b7 hln
      exact hM _ _ ⟨js, h', wh', _, _, _, rfl, b7, g7, c7, ⟨hh, ch⟩, hln, jb⟩
  rintro ρ S6 ⟨js, h', wh', x10, x11, x12, rfl, b6, g6, c6, tk, hln⟩
  simp [gTuple_cell c6]
  exact q h js _ b6 g6 tk hln
theorem any_origin_does {Q : D → Sto → Prop} (hp : Bag p (n + 3) S) (q : ∀ o S', Bag p n S' → GoB p S S' → -1000000000000 < o → o < 1000000000000 → Q (.int o) S') : (m_law_any_origin [.cell p] S).Does Q := by
  refine does_def rfl ?_
  simp
  refine pick_does (n := n + 2) hp (by decide) (by decide) fun c S1 b1 g1 r0 r1 => ?_
  simp
  refine pick_does (n := n + 1) b1 (by decide) (by decide) fun c2 S2 b2 g2 s0 s1 => ?_
  simp
  refine pick_does (n := n) b2 (by decide) (by decide) fun c3 S3 b3 g3 t0 t1 => ?_
  have g := g1.trans (g2.trans g3)
  have e : c3 = 0 ∨ c3 = 1 ∨ c3 = 2 ∨ c3 = 3 := by omega
  rcases e with e | e | e | e <;> subst e
  · simp; exact q _ _ b3 g (by omega) (by omega)
  · simp; exact q _ _ b3 g (by omega) (by omega)
  · simp; exact q _ _ b3 g (by omega) (by omega)
  · simp [atI, ixN]; exact q _ _ b3 g (by omega) (by omega)
end
end Dm
-- text HmEarth3
namespace Dm
open PySem L2
section
variable {S : Sto} {p n : Nat} {os : List Int} {s : Int} {zs : Zs} {ts : List Stp}
theorem TbsOK.cons {z : List Int × Int} {t : Tb} {zs : Zs} {tb : List Tb} (h : TabOK z.1 z.2 t.1 t.2) (k : TbsOK zs tb) : TbsOK (z :: zs) (t :: tb) := by
  refine ⟨by simp [k.len], fun p z' t' hz ht => ?_⟩
  cases p with
  | zero =>
    simp at hz ht
    subst hz ht
    exact h
  | succ p =>
    simp at hz ht
    exact k.ok p z' t' hz ht
/-- tables drawn for the zones -/
theorem lcQ_charts {ar : Int} {x1 x2 x4 x5 x6 x7 x8 x9 x10 x11 : Option D} : ∀ {zs : Zs} {S : Sto} {Q : List D → Sto → Prop}, Bag p (n + 200 * zs.length) S → (∀ z, z ∈ zs → ZoneOK z.1 z.2) → (∀ tb S', Bag p n S' → GoB p S S' → TbsOK zs tb → (∀ t, t ∈ tb → ChB ar t.2) → Q (tb.map Tb.d) S') →
    LcQ (tgN 10) mYes (mCall m_law_any_chart (mCons (mVar 0) (mCons (mVar 10) (mCons (mVar 3) mNil)))) [some (.cell p), x1, x2, some (.int ar), x4, x5, x6, x7, x8, x9, x10, x11] (zs.map fun z => zoneD z.1 z.2) S Q
  | [], S, Q, hb, _, q => by
    simp
    exact q [] S (by simpa using hb) .refl ⟨rfl, fun p z t hz => nomatch hz⟩ fun t h => nomatch h
  | z :: zs, S, Q, hb, hz, q => by
    simp at hb
    simp
    refine any_chart_does (n := n + 200 * zs.length) (hb.mono (by omega)) (hz z (by simp)) fun h js S1 b1 g1 tk hl => ?_
    refine lcQ_charts b1 (fun z' hz' => hz z' (List.mem_cons_of_mem _ hz')) fun tb S2 b2 g2 tks hls => ?_
    refine q ((h, js) :: tb) S2 b2 (g1.trans g2) (.cons tk tks) fun t ht => ?_
    rcases List.mem_cons.mp ht with rfl | ht
    · exact hl
    · exact hls t ht
theorem ints_py : ∀ ns : List Int, toPys (ns.map .int) = some (ns.map .int)
  | [] => rfl
  | n :: ns => by
    have ih := ints_py ns
    simp only [List.map_cons, toPys, ih, toPy, Option.bind_some, Option.map_some]
theorem ints_lay : ∀ ns : List Int, PyData.canLayAll0 (ns.map .int) = true
  | [] => rfl
  | n :: ns => by
    have ih := ints_lay ns
    simp only [List.map_cons, PyData.canLayAll0, ih, PyData.canLay0, Bool.and_self]
theorem ints_depth : ∀ ns : List Int, PyData.depthAll (ns.map .int) ≤ 0
  | [] => by simp [PyData.depthAll]
  | n :: ns => by
    have ih := ints_depth ns
    simp only [List.map_cons, PyData.depthAll, PyData.depth]
    omega
theorem ints_nil {ns : List Int} {d : D} (hd : toPyS S d = some (.list (ns.map .int))) (h2 : ∀ i, d ≠ .int i) (h3 : ∀ x, d ≠ .str x) : eqD S d (.lst []) = some (ns.isEmpty) := by
  have e2 : toPyS S (.lst []) = some (.list []) := rfl
  have s1 : SeqAt.shaped (.list (ns.map .int)) = true := shaped_lst (ints_lay ns) (ints_depth ns) (by decide)
  have s2 : SeqAt.shaped (.list []) = true := by decide +kernel
  have e3 : PyData.eqv (.list (ns.map .int)) (.list []) = ns.isEmpty := by
    cases ns with
    | nil => simp [PyData.eqv, PyData.eqvAll]
    | cons a l => simp [PyData.eqv, PyData.eqvAll]
  unfold eqD
  split
  · exact absurd rfl (h2 _)
  · exact absurd rfl (h3 _)
  · simp only [hd, e2]
    rw [if_pos ⟨s1, s2⟩, e3]
theorem ne_nil {ns : List Int} : gNe S (.lst (ns.map .int)) (.lst []) = some (.bl (!ns.isEmpty)) := by
  unfold gNe
  rw [ints_nil (ns := ns) (by simp only [toPyS, toPy, ints_py, Option.map_some]) (fun _ h => by cases h) (fun _ h => by cases h)]
  rfl
theorem eq_nil {ns : List Int} : gEq S (.lst (ns.map .int)) (.lst []) = some (.bl ns.isEmpty) := by
  unfold gEq
  rw [ints_nil (ns := ns) (by simp only [toPyS, toPy, ints_py, Option.map_some]) (fun _ h => by cases h) (fun _ h => by cases h)]
  rfl
/-! ### bounds of the values -/
def VB (row : List Kd) (vs : List Int) : Prop := row.length = vs.length ∧ ∀ (i : Nat) (v : Int) (k : Kd), vs[i]? = some v → row[i]? = some k → (-(2000000000000 + 200000 * (i : Int)) ≤ v ∧ v ≤ 2000000000000 + 200000 * i) ∧ (k = .spn → -900 ≤ v ∧ v ≤ 900)
theorem VB.at {row : List Kd} {vs : List Int} (h : VB row vs) {i : Nat} {k : Kd} (hi : row[i]? = some k) : (-(2000000000000 + 200000 * (i : Int)) ≤ getV vs i ∧ getV vs i ≤ 2000000000000 + 200000 * i) ∧ (k = .spn → -900 ≤ getV vs i ∧ getV vs i ≤ 900) ∧ i < vs.length := by
  have hl := (List.getElem?_eq_some_iff.mp hi).1
  rw [h.1] at hl
  exact ⟨(h.2 i _ k (getV_at hl) hi).1, (h.2 i _ k (getV_at hl) hi).2, hl⟩
/-! ### the same numbers -/
end
end Dm
-- text HmAgree
namespace Dm
open PySem L2
section
variable {os : List Int} {s m : Int}
theorem chain_gt (hs : 0 < s) : ∀ {js : List (Int × Int)} {h p : Int}, Chain os s h (some p) js → ∀ j, j ∈ js → p < j.1
  | (t, o) :: r, h, p, ⟨_, _, c, d⟩, j, hj => by
    have := c p rfl
    rcases List.mem_cons.mp hj with rfl | hj
    · simp only; omega
    · have := chain_gt hs d j hj
      omega
theorem off_before : ∀ {js : List (Int × Int)} {h : Int}, (∀ j, j ∈ js → m < j.1) → offAt h js m = h
  | [], _, _ => rfl
  | (a, o) :: r, h, hb => by rw [offAt, if_pos (hb _ List.mem_cons_self)]
theorem off_head (hs : 0 < s) {t o h : Int} {p : Option Int} {r : List (Int × Int)} (c : Chain os s h p ((t, o) :: r)) : offAt h ((t, o) :: r) t = o := by
  rw [offAt, if_neg (by omega)]
  exact off_before (chain_gt hs c.2.2.2)
theorem ahead_nil (hs : 0 < s) {t o h : Int} {p : Option Int} {r : List (Int × Int)} (c : Chain os s h p ((t, o) :: r)) (ht : ¬ t < m) : aheadJ ((t, o) :: r) m = [] := by
  unfold aheadJ
  rw [List.filter_eq_nil_iff]
  intro j hj
  rcases List.mem_cons.mp hj with rfl | hj
  · simp only [decide_eq_true_eq]; omega
  · have := chain_gt hs c.2.2.2 j hj
    simp only [decide_eq_true_eq]; omega
theorem ahead_cons {t o : Int} {r : List (Int × Int)} (ht : t < m) : aheadJ ((t, o) :: r) m = (t, o) :: aheadJ r m := by
  unfold aheadJ
  rw [List.filter_cons, if_pos (decide_eq_true ht)]
theorem off_ahead (hs : 0 < s) {e : Int} (he : e < m) : ∀ {js : List (Int × Int)} {h : Int} {p : Option Int}, Chain os s h p js → offAt h js e = offAt h (aheadJ js m) e
  | [], _, _, _ => rfl
  | (t, o) :: r, h, p, c => by
    by_cases ht : t < m
    · rw [ahead_cons ht, offAt, offAt, off_ahead hs he c.2.2.2]
    · rw [show offAt h ((t, o) :: r) e = h by rw [offAt, if_pos (by omega)], ahead_nil hs c ht]; rfl
theorem ag_lists (hs : 0 < s) : ∀ {xs ys : List (Int × Int)} {h : Int} {p q : Option Int}, Chain os s h p xs → Chain os s h q ys → (∀ j, j ∈ xs → j.1 < m → offAt h xs j.1 = offAt h ys j.1) → (∀ j, j ∈ ys → j.1 < m → offAt h xs j.1 = offAt h ys j.1) → aheadJ xs m = aheadJ ys m
  | [], [], _, _, _, _, _, _, _ => rfl
  | [], (t, o) :: r, h, p, q, c, d, hx, hy => by
    by_cases ht : t < m
    · have := hy _ List.mem_cons_self ht
      rw [off_head hs d] at this
      exact absurd this.symm d.2.1
    · rw [ahead_nil hs d ht]; rfl
  | (t, o) :: r, [], h, p, q, c, d, hx, hy => by
    by_cases ht : t < m
    · have := hx _ List.mem_cons_self ht
      rw [off_head hs c] at this
      exact absurd this c.2.1
    · rw [ahead_nil hs c ht]; rfl
  | (t, o) :: r, (t', o') :: r', h, p, q, c, d, hx, hy => by
    by_cases ht : t < m
    · have h1 := hx _ List.mem_cons_self ht
      rw [off_head hs c] at h1
      simp only at h1
      have hle : t' ≤ t := by
        rcases Int.lt_or_le t t' with h2 | h2
        · rw [offAt, if_pos h2] at h1
          exact absurd h1 c.2.1
        · exact h2
      have h3 := hy _ List.mem_cons_self (by simp only; omega)
      rw [off_head hs d] at h3
      simp only at h3
      have hge : t ≤ t' := by
        rcases Int.lt_or_le t' t with h2 | h2
        · rw [offAt, if_pos h2] at h3
          exact absurd h3.symm d.2.1
        · exact h2
      have et : t = t' := by omega
      subst et
      rw [off_head hs c] at h3
      subst h3
      rw [ahead_cons ht, ahead_cons ht]
      congr 1
      refine ag_lists hs c.2.2.2 d.2.2.2 ?_ ?_
      · intro j hj hm
        have h4 := chain_gt hs c.2.2.2 j hj
        have := hx j (List.mem_cons_of_mem _ hj) hm
        rw [offAt, offAt, if_neg (by omega), if_neg (by omega)] at this
        exact this
      · intro j hj hm
        have h4 := chain_gt hs d.2.2.2 j hj
        have := hy j (List.mem_cons_of_mem _ hj) hm
        rw [offAt, offAt, if_neg (by omega), if_neg (by omega)] at this
        exact this
    · have ht' : ¬ t' < m := by
        intro h2
        have h3 := hy _ List.mem_cons_self h2
        rw [off_head hs d] at h3
        simp only at h3
        rw [offAt, if_pos (by omega)] at h3
        exact absurd h3.symm d.2.1
      rw [ahead_nil hs c ht, ahead_nil hs d ht']
end
/-- the law's own test -/
def edgesOf (a b : Tb) (m : Int) : List Int := ((a.2 ++ b.2).filter fun j => decide (j.1 < m)).map (·.1)
def lookedOf (a b : Tb) (m : Int) : List Int := edgesOf a b m ++ [mnI (edgesOf a b m ++ [m]) - 1]
def agL (a b : Tb) (m : Int) : Bool := ((lookedOf a b m).filter fun e => !(a.of e == b.of e)).isEmpty
theorem agL_eq {os : List Int} {s m : Int} {a b : Tb} (hs : 0 < s) (ta : TabOK os s a.1 a.2) (tb : TabOK os s b.1 b.2) : agL a b m = agP a b m := by
  have hmn : ∀ e, e ∈ edgesOf a b m ++ [m] → mnI (edgesOf a b m ++ [m]) ≤ e := (mnI_mem (by simp)).2
  have hm : mnI (edgesOf a b m ++ [m]) ≤ m := hmn m (by simp)
  have hE : ∀ e, e ∈ edgesOf a b m → e < m := by
    intro e he
    obtain ⟨j, hj, rfl⟩ := List.mem_map.mp he
    exact of_decide_eq_true (List.mem_filter.mp hj).2
  have iff1 : agL a b m = true ↔ ∀ e, e ∈ lookedOf a b m → a.of e = b.of e := by
    unfold agL
    rw [List.isEmpty_iff, List.filter_eq_nil_iff]
    constructor
    · intro h e he
      have := h e he
      simpa using this
    · intro h e he
      rw [h e he]
      simp
  rw [Bool.eq_iff_iff, iff1]
  unfold agP
  rw [decide_eq_true_eq]
  constructor
  · intro h
    have low : ∀ j, j ∈ a.2 ++ b.2 → mnI (edgesOf a b m ++ [m]) - 1 < j.1 := by
      intro j hj
      by_cases c : j.1 < m
      · have : j.1 ∈ edgesOf a b m ++ [m] := List.mem_append_left _ (List.mem_map.mpr ⟨j, List.mem_filter.mpr ⟨hj, decide_eq_true c⟩, rfl⟩)
        have := hmn _ this
        omega
      · omega
    have h0 := h (mnI (edgesOf a b m ++ [m]) - 1) (by unfold lookedOf; simp)
    unfold Tb.of at h0
    rw [off_before fun j hj => low j (List.mem_append_left _ hj), off_before fun j hj => low j (List.mem_append_right _ hj)] at h0
    refine ⟨h0, ?_⟩
    have e1 : ∀ j, j ∈ a.2 ++ b.2 → j.1 < m → offAt a.1 a.2 j.1 = offAt a.1 b.2 j.1 := by
      intro j hj c
      have := h j.1 (List.mem_append_left _ (List.mem_map.mpr ⟨j, List.mem_filter.mpr ⟨hj, decide_eq_true c⟩, rfl⟩))
      unfold Tb.of at this
      rw [← h0] at this
      exact this
    refine ag_lists hs ta.chain (by rw [h0]; exact tb.chain) (fun j hj c => e1 j (List.mem_append_left _ hj) c) fun j hj c => e1 j (List.mem_append_right _ hj) c
  · rintro ⟨h1, h2⟩ e he
    have hlt : e < m := by
      rcases List.mem_append.mp he with h | h
      · exact hE e h
      · have := List.mem_singleton.mp h
        omega
    unfold Tb.of
    rw [off_ahead hs hlt ta.chain, off_ahead hs hlt tb.chain, h1, h2]
theorem agree_does {S : Sto} {os : List Int} {s m : Int} {a b : Tb} {Q : D → Sto → Prop} (z : ZoneOK os s) (ta : TabOK os s a.1 a.2) (tb : TabOK os s b.1 b.2) (hl : a.2.length + b.2.length ≤ 1000000) (q : ∀ S', Grow S S' → Q (.bl (agL a b m)) S') :
    (m_law_agree [a.d, b.d, .int m] S).Does Q := by
  refine does_def rfl ?_
  refine seq_cut (fun ρ S' => ρ = [some a.d, some b.d, some (.int m), some (.cell S.length), none, none] ∧ S' = S ++ [.lst ((edgesOf a b m).map .int)]) (fun M hM => ?_) ?_
  · simp [Tb.d, tabD, wipeD]
    refine ⟨by omega, ?_⟩
    rw [← List.map_append]
    refine lcQ_filter (as := a.2 ++ b.2) (i := jmpD) (fun j : Int × Int => decide (j.1 < m)) (fun j : Int × Int => D.int j.1) ?_ ?_
    · intro j hj
      refine ⟨_, rfl, fun Q q => ?_, fun Q _ q => ?_⟩
      · simp
        exact q
      · simp
        exact q
    · have := hM [some a.d, some b.d, some (.int m), some (.cell S.length), none, none] (S ++ [.lst ((edgesOf a b m).map .int)]) ⟨rfl, rfl⟩
      simpa [edgesOf, Tb.d, tabD, Function.comp_def] using this
  rintro ρ _ ⟨rfl, rfl⟩
  have hel : (edgesOf a b m).length ≤ 1000000 := by
    unfold edgesOf
    rw [List.length_map]
    refine Nat.le_trans (List.length_filter_le _ _) ?_
    simp; omega
  refine seq_cut (fun ρ S' => ρ = [some a.d, some b.d, some (.int m), some (.cell S.length), none, none] ∧ S' = S ++ [.lst ((lookedOf a b m).map .int)]) (fun M hM => ?_) ?_
  · have hmin : gMin1 (S ++ [.lst ((edgesOf a b m).map .int)]) [.lst ((edgesOf a b m).map .int ++ [.int m])] = some (.int (mnI (edgesOf a b m ++ [m]))) := gMin1_ints (by simp [lstOf]) (by simp)
    simp [hmin]
    refine ⟨by omega, by omega, ?_⟩
    have := hM _ _ ⟨rfl, rfl⟩
    simpa [lookedOf] using this
  rintro ρ _ ⟨rfl, rfl⟩
  have c3 : (S ++ [.lst ((lookedOf a b m).map .int)])[S.length]? = some (.lst ((lookedOf a b m).map .int)) := by simp
  have g3 : Grow S (S ++ [.lst ((lookedOf a b m).map .int)]) := ⟨_, rfl⟩
  generalize hS1 : S ++ [Cell.lst ((lookedOf a b m).map .int)] = S1 at c3 g3
  simp [seqOf_cell c3]
  refine lcAQ_ext (fun S' => S' = S1) (as := lookedOf a b m) (i := fun e : Int => D.int e) (fun e => !(a.of e == b.of e)) (fun e : Int => D.int e) (by simp) (fun S' h => by subst h; exact seqOf_cell c3) rfl ?_ ?_
  · intro e he S2 e2
    subst e2
    have h1 := fun S => law_holds_ok (S := S) (m := e) z ta
    have h2 := fun S => law_holds_ok (S := S) (m := e) z tb
    refine ⟨_, rfl, ?_, ?_⟩
    · simp [wipeD, Tb.d, h1, h2, Tb.of]
    · intro S3 e3 _
      simp [wipeD]
      exact e3
  · intro S2 e2
    simp [eq_nil]
    have := q S2 (by rw [e2]; exact g3)
    simpa [agL] using this
end Dm
-- text HmRan
namespace Dm
open PySem L2
/-! ### try -/
section
variable {ρ : Rho} {S : Sto} {N B C : Rho → Sto → Prop} {R : D → Sto → Prop} {EO : EXO}
@[simp] theorem does_try {cs : List Str} {hs : List (Str × Option Nat × MS)} {mb : MS} : (mTry cs hs mb ρ S).DoesE EO N R B C = (mb ρ S).DoesE (fun c fs ρ1 S1 => ∃ ns, intFsOf fs = some ns ∧ c ∈ cs ∧ (catchD c fs ns hs ρ1 S1).DoesE EO N R B C) N R B C := by
  unfold mTry
  cases mb ρ S with
  | exc c fs ρ1 S1 =>
    simp only [Out.DoesE]
    cases e : intFsOf fs with
    | none => simp [Out.DoesE, e]
    | some ns =>
      by_cases h : c ∈ cs
      · simp [h, e, Out.DoesE]
      · simp [h, e, Out.DoesE]
  | _ => rfl
@[simp] theorem catch_nil {c : Str} {fs : List (Str × D)} {ns : List (Str × Int)} : (catchD c fs ns [] ρ S).DoesE EO N R B C = EO c fs ρ S := rfl
@[simp] theorem catch_cons {c h : Str} {fs : List (Str × D)} {ns : List (Str × Int)} {oi : Option Nat} {ms : MS} {r : List (Str × Option Nat × MS)} : (catchD c fs ns ((h, oi, ms) :: r) ρ S).DoesE EO N R B C =
    if xSub c h = true then (ms (setI oi ρ (.exn c ns)) S).DoesE (fun _ _ _ _ => False) (fun ρ S => N (clearI oi ρ) S) R (fun ρ S => B (clearI oi ρ) S) (fun ρ S => C (clearI oi ρ) S) else (catchD c fs ns r ρ S).DoesE EO N R B C := by
  rw [catchD]
  by_cases h : xSub c h = true
  · simp only [if_pos h]
    cases ms (setI oi ρ (.exn c ns)) S <;> rfl
  · simp only [if_neg h]
@[simp] theorem gXf_exn {c f : Str} {fs : List (Str × Int)} : gXf c f S (.exn c fs) = (fs.lookup f).map D.int := by simp [gXf]
end
/-! ### repr of pairs -/
/-! ### what becomes of a run -/
end Dm
-- text HmMoved
namespace Dm
open PySem L2
def mvJ (d : Int) (j : Int × Int) : Int × Int := (j.1 + d, j.2)
def mvT (d : Int) (t : Tb) : Tb := (t.1, t.2.map (mvJ d))
section
variable {d m : Int} {zs : Zs} {tb later : List Tb} {row : List Kd} {vs : List Int} {t : Stp}
theorem done_len {ag : Tb → Tb → Int → Bool} : ∀ {ts : List Stp} {tb : List Tb} {vs vs' : List Int} {k : Nat}, followS ag zs later tb k vs ts = .done vs' → vs'.length = vs.length + ts.length
  | [], tb, vs, vs', k, h => by
    cases h; rfl
  | t :: ts, tb, vs, vs', k, h => by
    rw [followS] at h
    split at h
    · cases h
    · cases e : stepV zs tb vs t with
      | none => rw [e] at h; cases h
      | some v =>
        rw [e] at h
        have := done_len h
        simp at this
        simp
        omega
theorem no_unsuited {ag : Tb → Tb → Int → Bool} : ∀ {ts : List Stp} {tb : List Tb} {vs : List Int} {k : Nat}, (∀ t, t ∈ ts → t.isEd = false) → followS ag zs later tb k vs ts ≠ .unsuited
  | [], _, _, _, _ => fun h => nomatch h
  | t :: ts, tb, vs, k, he => by
    rw [followS, if_neg (fun h => by rw [he t List.mem_cons_self] at h; exact nomatch h.1)]
    cases stepV zs tb vs t with
    | none => exact fun h => nomatch h
    | some v => exact no_unsuited fun t ht => he t (List.mem_cons_of_mem _ ht)
theorem chain_mv {os : List Int} {s : Int} : ∀ {js : List (Int × Int)} {h : Int} {p : Option Int}, Chain os s h p js → Chain os s h (p.map (· + d)) (js.map (mvJ d))
  | [], _, _, _ => trivial
  | (m, o) :: r, h, p, ⟨a, b, c, e⟩ => by
    refine ⟨a, b, ?_, chain_mv (p := some m) e⟩
    intro q hq
    cases p with
    | none => cases hq
    | some p =>
      have hq : p + d = q := by injection hq
      have := c p rfl
      show q + s ≤ m + d
      omega
theorem TbsOK.mv (tk : TbsOK zs tb) : TbsOK zs (tb.map (mvT d)) := by
  refine ⟨by rw [List.length_map]; exact tk.len, fun p z t hz ht => ?_⟩
  rw [List.getElem?_map] at ht
  cases e : tb[p]? with
  | none => rw [e] at ht; cases ht
  | some t0 =>
    rw [e] at ht
    cases ht
    have := tk.ok p z t0 hz e
    exact ⟨this.held, chain_mv this.chain⟩
/-! ### the words -/
variable {S : Sto} {n : Nat} {ts : List Stp}
/-- what is due, as a value -/
def dueD (b : Nat) (S : Sto) : Fin → D → Prop
  | .done vs, e => ∃ n, b ≤ n ∧ e = .tup [.str "", .cell n] ∧ S[n]? = some (.lst (vs.map .int))
  | .refused _ k, e => e = .tup [.str "refused", .int k]
  | .unsuited, e => e = .tup [.str "unsuited", .non]
theorem dueD.go {b p : Nat} {S S' : Sto} {f : Fin} {e : D} (h : dueD b S f e) (g : GoB p S S') (hp : p < b) : dueD b S' f e := by
  cases f with
  | done vs =>
    obtain ⟨n, hn, rfl, hc⟩ := h
    exact ⟨n, hn, rfl, g.get hc (by omega)⟩
  | refused vs k => exact h
  | unsuited => exact h
theorem dueD.grow {b : Nat} {S S' : Sto} {f : Fin} {e : D} (h : dueD b S f e) (g : Grow S S') : dueD b S' f e := by
  cases f with
  | done vs =>
    obtain ⟨n, hn, rfl, hc⟩ := h
    exact ⟨n, hn, rfl, g.get hc⟩
  | refused vs k => exact h
  | unsuited => exact h
end
end Dm
-- text HmEdition
namespace Dm
open PySem L2
section
variable {S : Sto} {p n : Nat} {os : List Int} {s m : Int} {zs : Zs} {ts : List Stp}
theorem ahead_lt {js : List (Int × Int)} : ∀ j, j ∈ aheadJ js m → j.1 < m := fun j hj => of_decide_eq_true (List.mem_filter.mp hj).2
theorem chain_ahead (hs : 0 < s) : ∀ {js : List (Int × Int)} {h : Int} {p : Option Int}, Chain os s h p js → Chain os s h p (aheadJ js m)
  | [], _, _, _ => trivial
  | (t, o) :: r, h, p, c => by
    by_cases ht : t < m
    · rw [ahead_cons ht]
      exact ⟨c.1, c.2.1, c.2.2.1, chain_ahead hs c.2.2.2⟩
    · rw [ahead_nil hs c ht]
      trivial
theorem endH_in {h : Int} (hh : h ∈ os) : ∀ {js : List (Int × Int)} {p : Option Int}, Chain os s h p js → endH h js ∈ os := by
  intro js
  induction js generalizing h with
  | nil => intro p _; exact hh
  | cons j r ih =>
    obtain ⟨t, o⟩ := j
    intro p c
    exact ih c.1 c.2.2.2
theorem last_jmp {js : List (Int × Int)} {h : Int} (hne : js ≠ []) : ∃ t o, atI (js.map jmpD) (-1) = some (jmpD (t, o)) ∧ endH h js = o ∧ endP none js = some t := by
  obtain ⟨r, ⟨t, o⟩, rfl⟩ : ∃ r j, js = r ++ [j] := by
    refine ⟨js.take (js.length - 1), js.getLast hne, ?_⟩
    have := List.dropLast_concat_getLast hne
    rw [List.dropLast_eq_take] at this
    exact this.symm
  refine ⟨t, o, ?_, endH_snoc, endP_snoc⟩
  have h1 : (0 : Int) ≤ -1 + ((r.length : Int) + 1) := by omega
  have h2 : (-1 + ((r.length : Int) + 1)).toNat = r.length := by omega
  have h3 : (1 : Int) ≤ (r.length : Int) + 1 := by omega
  have h4 : (0 : Int) ≤ (r.length : Int) := by omega
  simp [atI, ixN, h2, h3, h4]
theorem jmps_ne {n : Nat} {js : List (Int × Int)} (h : S[n]? = some (.lst (js.map jmpD))) : gNe S (.cell n) (.lst []) = some (.bl (!js.isEmpty)) := by
  have e1 : toPyS S (.cell n) = some (.list (js.map jmpPy)) := by simp only [toPyS, h, jmps_py]; rfl
  have e2 : toPyS S (.lst []) = some (.list []) := rfl
  have s1 : SeqAt.shaped (.list (js.map jmpPy)) = true := by
    have h2 := jmps_depth js
    unfold SeqAt.shaped
    simp only [PyData.canLay0, jmps_lay, PyData.depth, Bool.true_and]
    exact decide_eq_true (by omega)
  have s2 : SeqAt.shaped (.list []) = true := by decide +kernel
  have e3 : PyData.eqv (.list (js.map jmpPy)) (.list []) = js.isEmpty := by
    cases js with
    | nil => simp [PyData.eqv, PyData.eqvAll]
    | cons a l => simp [PyData.eqv, PyData.eqvAll]
  unfold gNe eqD
  simp only [e1, e2]
  rw [if_pos ⟨s1, s2⟩, e3]
  rfl
theorem ahead_ahead {js : List (Int × Int)} : aheadJ (aheadJ js m) m = aheadJ js m := by
  unfold aheadJ
  rw [List.filter_filter]
  refine List.filter_congr fun j _ => ?_
  rw [Bool.and_self]
theorem ahead_snoc {js : List (Int × Int)} {t o : Int} (h : m ≤ t) : aheadJ (js ++ [(t, o)]) m = aheadJ js m := by
  unfold aheadJ
  rw [List.filter_append]
  have : decide (t < m) = false := decide_eq_false (by omega)
  simp [this]
theorem any_later_does {h : Int} {js : List (Int × Int)} {Q : D → Sto → Prop} (hp : Bag p (n + 100) S) (z : ZoneOK os s) (t : TabOK os s h js) (hl : js.length ≤ 50) (q : ∀ js' S', Bag p n S' → GoB p S S' → TabOK os s h js' → js'.length ≤ 60 → aheadJ js' m = aheadJ js m → Q (tabD h js') S') :
    (m_law_any_later [.cell p, zoneD os s, tabD h js, .int m] S).Does Q := by
  have hll := z.len
  have hs := z.sp
  have pl := hp.lt
  refine does_def rfl ?_
  refine seq_cut (fun ρ S' => S' = S ++ [.lst ((aheadJ js m).map jmpD)] ∧ ρ = [some (.cell p), some (zoneD os s), some (tabD h js), some (.int m), some (.cell S.length), none, none, none, none, none, none]) (fun M hM => ?_) ?_
  · simp [wipeD]
    try rw [lcAQ_fix (.inl rfl) (by simp)]
    refine lcQ_filter (as := js) (i := jmpD) (fun j : Int × Int => decide (j.1 < m)) jmpD ?_ ?_
    · intro j hj
      refine ⟨_, rfl, fun Q q => ?_, fun Q _ q => ?_⟩
      · simp
        exact q
      · simp
        exact q
    · exact hM _ _ ⟨rfl, rfl⟩
  rintro ρ _ ⟨rfl, rfl⟩
  have b1 := hp.push (.lst ((aheadJ js m).map jmpD))
  have g1 : GoB p S (S ++ [.lst ((aheadJ js m).map jmpD)]) := GoB.push _
  have c1 : (S ++ [.lst ((aheadJ js m).map jmpD)])[S.length]? = some (.lst ((aheadJ js m).map jmpD)) := by simp
  have kl : (aheadJ js m).length ≤ 50 := Nat.le_trans (List.length_filter_le _ _) hl
  have kc : Chain os s h none (aheadJ js m) := chain_ahead (by omega) t.chain
  have klt := ahead_lt (m := m) (js := js)
  have l1 : S.length ≤ S.length := Nat.le_refl _
  generalize hN : S.length = N at c1 l1
  generalize S ++ [Cell.lst ((aheadJ js m).map jmpD)] = S1 at b1 g1 c1
  have ka := ahead_ahead (m := m) (js := js)
  generalize aheadJ js m = ks at c1 kl kc klt ka q
  refine seq_cut (fun ρ S' => S1 = S' ∧ ρ = [some (.cell p), some (zoneD os s), some (tabD h js), some (.int m), some (.cell N), some (.int h), some (.int m), none, none, none, none]) (fun M hM => ?_) ?_
  · simp [tgU]
    exact hM _ _ ⟨rfl, rfl⟩
  rintro ρ _ ⟨rfl, rfl⟩
  refine seq_cut (fun ρ S' => ∃ wh : Int, S1 = S' ∧ ρ = [some (.cell p), some (zoneD os s), some (tabD h js), some (.int m), some (.cell N), some (.int (endH h ks)), some (.int wh), none, none, none, none] ∧ m ≤ wh ∧ ∀ q, endP none ks = some q → q + s ≤ wh) (fun M hM => ?_) ?_
  · have hne := jmps_ne c1
    by_cases hk : ks = []
    · subst hk
      simp at hne
      simp [hne]
      exact hM _ _ ⟨m, rfl, rfl, by omega, fun q hq => nomatch hq⟩
    · obtain ⟨t0, o0, e0, e1, e2⟩ := last_jmp (h := h) hk
      have hne' : gNe S1 (.cell N) (.lst []) = some (.bl true) := by
        rw [hne]
        cases ks with
        | nil => exact absurd rfl hk
        | cons a r => rfl
      have e3 : gIx S1 (.cell N) (.int (-1)) = some (jmpD (t0, o0)) := by
        rw [gIx_cell c1]
        exact e0
      simp [hne', e3, tgU]
      refine hM _ _ ⟨_, rfl, by rw [e1], by split <;> omega, fun q hq => ?_⟩
      rw [e2] at hq
      injection hq with hq
      split <;> omega
  rintro ρ _ ⟨wh, rfl, rfl, hmw, hwh⟩
  refine seq_cut (fun ρ S' => ∃ wh : Int, ρ = [some (.cell p), some (zoneD os s), some (tabD h js), some (.int m), some (.cell N), some (.int (endH h ks)), some (.int wh), none, none, none, none] ∧ m ≤ wh ∧ (∀ q, endP none ks = some q → q + s ≤ wh) ∧ Bag p (n + 90) S' ∧ GoB p S S' ∧ S'[N]? = some (.lst (ks.map jmpD))) (fun M hM => ?_) ?_
  · simp
    refine pick_does (n := n + 99) b1 (by decide) (by decide) fun v S2 b2 g2 r0 r1 => ?_
    refine pick_does (n := n + 98) b2 (by decide) (by decide) fun v2 S3 b3 g3 s0 s1 => ?_
    have e : ∃ w : Int, 0 ≤ w ∧ w ≤ 900 ∧ atI [D.int 0, .int 0, .int 1, .int 60, .int v] v2 = some (.int w) := by
      have e : v2 = 0 ∨ v2 = 1 ∨ v2 = 2 ∨ v2 = 3 ∨ v2 = 4 := by omega
      rcases e with e | e | e | e | e <;> subst e
      · exact ⟨0, by omega, by omega, by simp⟩
      · exact ⟨0, by omega, by omega, by simp⟩
      · exact ⟨1, by omega, by omega, by simp⟩
      · exact ⟨60, by omega, by omega, by simp [atI, ixN]⟩
      · exact ⟨v, by omega, by omega, by simp [atI, ixN]⟩
    obtain ⟨w, w0, w1, e⟩ := e
    simp [e]
    refine hM _ _ ⟨wh + w, rfl, by omega, fun q hq => ?_, b3.mono (by omega), g1.trans (g2.trans g3), g3.get (g2.get c1 (by omega)) (by omega)⟩
    have := hwh q hq
    omega
  rintro ρ S3 ⟨wh, rfl, hmw, hwh, b3, g3, c3⟩
  refine seq_cut (fun ρ S' => ∃ (js' : List (Int × Int)) (h' wh' : Int) (x7 x8 x9 x10 : Option D), ρ = [some (.cell p), some (zoneD os s), some (tabD h js), some (.int m), some (.cell N), some (.int h'), some (.int wh'), x7, x8, x9, x10] ∧ Bag p n S' ∧ GoB p S S' ∧ S'[N]? = some (.lst (js'.map jmpD)) ∧ TabOK os s h js' ∧ js'.length ≤ 60 ∧ aheadJ js' m = ks) (fun M hM => ?_) ?_
  · simp
    refine pick_does (n := n + 89) b3 (by decide) (by decide) fun k S4 b4 g4 r0 r1 => ?_
    have c4 := g4.get c3 (by omega)
    simp
    refine ⟨cmulw64 (by omega) (by split <;> omega), by split <;> omega, ?_⟩
    generalize hC : k * (if (1 : Int) < (os.length : Int) then (1 : Int) else 0) = kk
    have hk : 0 ≤ kk ∧ kk ≤ 5 ∧ (os.length = 1 → kk = 0) := by
      subst hC
      split <;> omega
    refine forL_cut (fun ds ρ S' => ∃ (js' : List (Int × Int)) (h' wh' : Int) (x7 x8 x9 x10 : Option D), ρ = [some (.cell p), some (zoneD os s), some (tabD h js), some (.int m), some (.cell N), some (.int h'), some (.int wh'), x7, x8, x9, x10] ∧ Bag p (n + 3 * ds.length) S' ∧ GoB p S S' ∧ S'[N]? = some (.lst (js'.map jmpD)) ∧
        h' ∈ os ∧ h' = endH h js' ∧ Chain os s h none js' ∧ (∀ pm, endP none js' = some pm → pm + s ≤ wh') ∧ js'.length + ds.length ≤ 60 ∧ (os.length = 1 → ds.length = 0) ∧ m ≤ wh' ∧ aheadJ js' m = ks) _
      ⟨ks, endH h ks, wh, _, _, _, _, rfl, b4.mono (by rw [rngD_length]; omega), g3.trans g4, c4, endH_in t.held kc, rfl, kc, hwh, by rw [rngD_length]; omega, fun h => by rw [rngD_length]; have := hk.2.2 h; omega, hmw, ka⟩ ?_ ?_
    · rintro d ds ρ S7 ⟨js', h', wh', x7, x8, x9, x10, rfl, b7, g7, c7, hh', he, ch, pm, hln, one, hmw', hka⟩
      refine ⟨_, rfl, fun M2 hM2 => ?_⟩
      simp at b7 hln one
      have two : 1 < os.length := by
        rcases Nat.lt_or_ge 1 os.length with h | h
        · exact h
        · exact absurd (show os.length = 1 by omega) one
      have rn := rest_ne z hh' two
      have rl : (os.filter fun o => !(o == h')).length ≤ 3 := Nat.le_trans (List.length_filter_le _ _) hll.2
      have rm : ∀ o, o ∈ (os.filter fun o => !(o == h')) → o ∈ os ∧ o ≠ h' := by
        intro o ho
        rw [List.mem_filter] at ho
        refine ⟨ho.1, ?_⟩
        have := ho.2
        simpa using this
      refine seq_cut (fun ρ S' => S' = S7 ∧ ρ = [some (.cell p), some (zoneD os s), some (tabD h js), some (.int m), some (.cell N), some (.int h'), some (.int wh'), some d, some (.lst ((os.filter fun o => !(o == h')).map .int)), x9, x10]) (fun M3 hM3 => ?_) ?_
      · simp [wipeD]
        try rw [lcAQ_fix (.inl rfl) (by simp)]
        refine lcQ_filter (as := os) (fun o : Int => !(o == h')) D.int ?_ ?_
        · intro o ho
          refine ⟨_, rfl, fun Q q => ?_, fun Q _ q => ?_⟩
          · simp
            simpa using q
          · simp
            exact q
        · exact hM3 _ _ ⟨rfl, rfl⟩
      rintro ρ _ ⟨rfl, rfl⟩
      generalize (os.filter fun o => !(o == h')) = rest at rn rl rm
      have rp : 0 < rest.length := List.length_pos_iff.mpr rn
      simp
      refine pick_does (n := n + 3 * ds.length + 2) (b7.mono (by omega)) (by omega) (by omega) fun v S8 b8 g8 s0 s1 => ?_
      obtain ⟨x, hx, ex⟩ := atI_memL (l := rest.map D.int) s0 (by simpa using s1)
      obtain ⟨o, ho, rfl⟩ := List.mem_map.mp hx
      obtain ⟨om, one'⟩ := rm o ho
      have c8 := g8.get c7 (by omega)
      simp [ex, c8]
      refine ⟨by omega, ?_⟩
      refine pick_does (n := n + 3 * ds.length + 1) (b8.set (by omega) _) (by decide) (by decide) fun v2 S9 b9 g9 t0 t1 => ?_
      refine pick_does (n := n + 3 * ds.length) b9 (by decide) (by decide) fun v3 S10 b10 g10 u0 u1 => ?_
      have e : ∃ w : Int, 0 ≤ w ∧ w ≤ 200 ∧ atI [D.int 0, .int 0, .int 1, .int v2] v3 = some (.int w) := by
        have e : v3 = 0 ∨ v3 = 1 ∨ v3 = 2 ∨ v3 = 3 := by omega
        rcases e with e | e | e | e <;> subst e
        · exact ⟨0, by omega, by omega, by simp⟩
        · exact ⟨0, by omega, by omega, by simp⟩
        · exact ⟨1, by omega, by omega, by simp⟩
        · exact ⟨v2, by omega, by omega, by simp [atI, ixN]⟩
      obtain ⟨w2, w20, w21, e⟩ := e
      simp [e]
      have c9 : (S8.set N (.lst (js'.map jmpD ++ [.tup [.int wh', .int o]])))[N]? = some (.lst (js'.map jmpD ++ [.tup [.int wh', .int o]])) := set_at c8
      refine hM2 _ _ ⟨js' ++ [(wh', o)], o, _, _, _, _, _, rfl, b10, (((g7.trans g8).setNew (by omega) _).trans (g9.trans g10)), ?_, om, ?_, ?_, ?_, by simp; omega, fun h => absurd h one, by omega, by rw [ahead_snoc hmw']; exact hka⟩
      · rw [g10.get (g9.get c9 (by omega)) (by omega)]
        simp [jmpD]
      · rw [endH_snoc]
      · exact chain_snoc ch om (by rw [← he]; exact one') fun q hq => pm q hq
      · intro q hq
        rw [endP_snoc] at hq
        injection hq with hq
        omega
    · rintro ρ S7 ⟨js', h', wh', x7, x8, x9, x10, rfl, b7, g7, c7, hh', he, ch, pm, hln, one, hmw', hka⟩
      simp at b7 hln
      exact hM _ _ ⟨js', h', wh', _, _, _, _, rfl, b7, g7, c7, ⟨t.held, ch⟩, hln, hka⟩
  rintro ρ S6 ⟨js', h', wh', x7, x8, x9, x10, rfl, b6, g6, c6, tk, hln, hka⟩
  simp [gTuple_cell c6]
  exact q js' _ b6 g6 tk hln hka
end
end Dm
-- text HmEdition2
namespace Dm
open PySem L2
section
variable {S : Sto} {p n : Nat} {os : List Int} {s m : Int} {zs : Zs} {ts : List Stp} {tb later : List Tb}
theorem Grow.gob {S S' : Sto} (g : Grow S S') : GoB p S S' := by
  obtain ⟨cs, rfl⟩ := g
  exact ⟨by rw [List.length_append]; omega, fun n h _ => List.getElem?_append_left h⟩
theorem Bag.grow {S S' : Sto} (h : Bag p n S) (g : Grow S S') : Bag p n S' := by
  obtain ⟨a, b, c, e, r⟩ := h
  exact ⟨a, b, c, g.get e, r⟩
theorem cnt_zero2 {f : Stp → Bool} {ts : List Stp} (h : cnt f ts ≤ 0) : ∀ t, t ∈ ts → f t = false := by
  intro t ht
  have h0 : (ts.filter f).length = 0 := by
    unfold cnt at h
    omega
  have := List.eq_nil_of_length_eq_zero h0
  rw [List.filter_eq_nil_iff] at this
  have := this t ht
  simpa using this
theorem cnt_none2 {f : Stp → Bool} {ts : List Stp} (h : ∀ t, t ∈ ts → f t = false) : cnt f ts = 0 := by
  unfold cnt
  have : ts.filter f = [] := List.filter_eq_nil_iff.mpr fun t ht => by rw [h t ht]; exact Bool.noConfusion
  rw [this]; rfl
theorem progFrom_left {nz : Nat} : ∀ {a b : List Stp} {row : List Kd}, ProgFrom nz row (a ++ b) → ProgFrom nz row a
  | [], _, _, _ => trivial
  | t :: a, b, row, h => ⟨h.1, progFrom_left h.2⟩
theorem progFrom_mid {nz : Nat} : ∀ {a b : List Stp} {t : Stp} {row : List Kd}, ProgFrom nz row (a ++ t :: b) → ∃ row', t.OK nz row'
  | [], _, _, _, h => ⟨_, h.1⟩
  | u :: a, b, t, row, h => progFrom_mid (a := a) h.2
theorem TbsOK.put {t : Tb} (h : TbsOK zs tb) (ht : TabOK (getZ zs p).1 (getZ zs p).2 t.1 t.2) : TbsOK zs (tb.set p t) := by
  refine ⟨by rw [List.length_set]; exact h.len, fun i z t' hz ht' => ?_⟩
  by_cases e : p = i
  · subst e
    have hp : p < tb.length := by
      have := (List.getElem?_eq_some_iff.mp ht').1
      rw [List.length_set] at this
      exact this
    rw [List.getElem?_set_self hp] at ht'
    cases ht'
    rw [getZ_at (by rw [← h.len]; exact hp)] at hz
    cases hz
    exact ht
  · rw [List.getElem?_set_ne e] at ht'
    exact h.ok i z t' hz ht'
theorem range_one {a : Nat} : ∀ k, a < k → (List.range k).filter (fun i => decide (i = a)) = [a]
  | 0, h => absurd h (by omega)
  | k + 1, h => by
    rw [List.range_succ, List.filter_append]
    by_cases e : a = k
    · subst e
      have : (List.range a).filter (fun i => decide (i = a)) = [] := List.filter_eq_nil_iff.mpr fun i hi => by
        have := List.mem_range.mp hi
        simp; omega
      rw [this]
      simp
    · rw [range_one k (by omega)]
      simp
      omega
/-- no edition, or one -/
def Ed1 (ts : List Stp) : Prop := (∀ t, t ∈ ts → t.isEd = false) ∨ ∃ t1 i pl t2, ts = t1 ++ .edition i pl :: t2 ∧ (∀ t, t ∈ t1 → t.isEd = false) ∧ ∀ t, t ∈ t2 → t.isEd = false
def edIx (ts : List Stp) : List Nat := (List.range ts.length).filter fun i => (ts.getD i (.add 0 0)).isEd
theorem edIx_none (h : ∀ t, t ∈ ts → t.isEd = false) : edIx ts = [] := by
  unfold edIx
  rw [List.filter_eq_nil_iff]
  intro i hi
  have hi' := List.mem_range.mp hi
  rw [List.getD_eq_getElem?_getD, List.getElem?_eq_getElem hi']
  simp only [Option.getD_some]
  rw [h _ (List.getElem_mem hi')]
  exact Bool.noConfusion
theorem edIx_one {t1 t2 : List Stp} {i pl : Nat} (h1 : ∀ t, t ∈ t1 → t.isEd = false) (h2 : ∀ t, t ∈ t2 → t.isEd = false) : edIx (t1 ++ .edition i pl :: t2) = [t1.length] := by
  unfold edIx
  rw [← range_one (a := t1.length) (t1 ++ .edition i pl :: t2).length (by simp)]
  refine List.filter_congr fun k hk => ?_
  have hk' := List.mem_range.mp hk
  rw [List.getD_eq_getElem?_getD]
  by_cases e : k = t1.length
  · subst e
    simp [Stp.isEd]
  · rw [decide_eq_false e, List.getElem?_eq_getElem hk']
    simp only [Option.getD_some]
    have hm := List.getElem_mem hk'
    by_cases c : k < t1.length
    · rw [List.getElem_append_left c]
      exact h1 _ (List.getElem_mem c)
    · obtain ⟨j, rfl⟩ : ∃ j, k = t1.length + 1 + j := ⟨k - t1.length - 1, by omega⟩
      rw [List.getElem_append_right (by omega)]
      have e2 : t1.length + 1 + j - t1.length = j + 1 := by omega
      simp only [e2, List.getElem_cons_succ]
      exact h2 _ (List.getElem_mem _)
/-- the later table of the edition goes on from the first one -/
def Goes (zs : Zs) (st nr : Int) (ts : List Stp) (tb later : List Tb) : Prop := ∀ t1 i pc t2, ts = t1 ++ .edition i pc :: t2 → (∀ t, t ∈ t1 → t.isEd = false) → ∀ vs, followS agP zs tb tb 0 [st] t1 = .done vs → i < vs.length → agP (getT tb pc) (getT later pc) (getV vs i + nr) = true
theorem ed_split : ∀ {a b c d : List Stp} {i j p q : Nat}, a ++ .edition i p :: b = c ++ .edition j q :: d → (∀ t, t ∈ a → t.isEd = false) → (∀ t, t ∈ c → t.isEd = false) → a = c ∧ i = j ∧ p = q
  | [], b, [], d, i, j, p, q, e, ha, hc => by
    injection e with e1 e2
    injection e1 with e1 e3
    exact ⟨rfl, e1, e3⟩
  | [], b, u :: c, d, i, j, p, q, e, ha, hc => by
    injection e with e1 e2
    have := hc u List.mem_cons_self
    rw [← e1] at this
    cases this
  | u :: a, b, [], d, i, j, p, q, e, ha, hc => by
    injection e with e1 e2
    have := ha u List.mem_cons_self
    rw [e1] at this
    cases this
  | u :: a, b, v :: c, d, i, j, p, q, e, ha, hc => by
    injection e with e1 e2
    obtain ⟨h1, h2, h3⟩ := ed_split e2 (fun t h => ha t (List.mem_cons_of_mem _ h)) (fun t h => hc t (List.mem_cons_of_mem _ h))
    exact ⟨by rw [e1, h1], h2, h3⟩
theorem any_earth_does {st nr : Int} {Q : D → Sto → Prop} (hp : Bag p (n + 1200) S) (z : ZsOK zs) (hok : ProgFrom zs.length [.mom] ts) (hl : ts.length ≤ 8) (hE : Ed1 ts)
    (q : ∀ tb later S', Bag p n S' → GoB p S S' → TbsOK zs tb → TbsOK zs later → (∀ t, t ∈ tb → t.2.length ≤ 60) → (∀ t, t ∈ later → t.2.length ≤ 60) → Goes zs st nr ts tb later → Q (worldD tb later) S') :
    (m_law_any_earth [.cell p, zonesD zs, progD ts, .int st, .int nr] S).Does Q := by
  have hz : zs.length ≤ 2 := by rcases z.len with h | h <;> omega
  have pl := hp.lt
  refine does_def rfl ?_
  refine seq_cut (fun ρ S' => ∃ tb, TbsOK zs tb ∧ (∀ t, t ∈ tb → ChB st t.2) ∧ ρ = [some (.cell p), some (zonesD zs), some (progD ts), some (.int st), some (.int nr), some (.lst (tb.map Tb.d)), none, none, none, none, none, none] ∧ Bag p (n + 700) S' ∧ GoB p S S') (fun M hM => ?_) ?_
  · simp [wipeD, zonesD]
    try rw [lcAQ_fix (.inl rfl) (by simp)]
    refine lcQ_charts (n := n + 700) (hp.mono (by omega)) z.all fun tb S1 b1 g1 tk ht => ?_
    exact hM _ _ ⟨tb, tk, ht, rfl, b1, g1⟩
  rintro ρ S1 ⟨tb, tk, ht, rfl, b1, g1⟩
  refine seq_cut (fun ρ S' => ∃ later m, TbsOK zs later ∧ (∀ t, t ∈ later → ChB st t.2) ∧ p < m ∧ S.length ≤ m ∧ ρ = [some (.cell p), some (zonesD zs), some (progD ts), some (.int st), some (.int nr), some (.lst (tb.map Tb.d)), some (.cell m), none, none, none, none, none] ∧ Bag p (n + 200) S' ∧ GoB p S S' ∧ S'[m]? = some (.lst (later.map Tb.d))) (fun M hM => ?_) ?_
  · simp [wipeD, zonesD]
    try rw [lcAQ_fix (.inl rfl) (by simp)]
    refine lcQ_charts (n := n + 200) (b1.mono (by omega)) z.all fun later S2 b2 g2 tl hlr => ?_
    have l2 := (g1.trans g2).len
    exact hM _ _ ⟨later, _, tl, hlr, by omega, l2, rfl, b2.push _, g1.trans (g2.trans (GoB.push _)), by simp⟩
  rintro ρ S2 ⟨later, m, tl, hlr, hpm, hSm, rfl, b2, g2, c2⟩
  refine seq_cut (fun ρ S' => S2 = S' ∧ ρ = [some (.cell p), some (zonesD zs), some (progD ts), some (.int st), some (.int nr), some (.lst (tb.map Tb.d)), some (.cell m), some (.lst ((edIx ts).map fun i : Nat => D.int i)), none, none, none, none]) (fun M hM => ?_) ?_
  · simp [wipeD, progD]
    refine ⟨by omega, ?_⟩
    unfold rngD
    refine lcQ_filter (as := List.range ts.length) (i := fun i : Nat => D.int (0 + i)) (fun i => (ts.getD i (.add 0 0)).isEd) (fun i : Nat => D.int i) ?_ ?_
    · intro i hi
      have hi' : i < ts.length := List.mem_range.mp hi
      have eg : ts.getD i (.add 0 0) = ts[i] := by rw [List.getD_eq_getElem?_getD, List.getElem?_eq_getElem hi']; rfl
      rw [eg]
      refine ⟨_, rfl, fun Q q => ?_, fun Q e q => ?_⟩
      · have e1 : atI (ts.map Stp.d) (0 + (i : Int)) = some (ts[i]).d := by
          rw [atI_of (by omega) (by rw [List.length_map]; omega)]
          have : (0 + (i : Int)).toNat = i := by omega
          rw [this, List.getElem?_map, List.getElem?_eq_getElem hi']; rfl
        rw [Int.zero_add] at e1
        simp [e1]
        revert q
        generalize ts[i] = t
        intro q
        cases t <;> (simp (decide := true) [Stp.d, Stp.isEd] at q ⊢; exact q)
      · simp
        exact q
    · exact hM _ _ ⟨rfl, rfl⟩
  rintro ρ _ ⟨rfl, rfl⟩
  have hb50 : ∀ t, t ∈ tb → t.2.length ≤ 60 := fun t h => Nat.le_trans (ht t h).1 (by decide)
  have hl50 : ∀ t, t ∈ later → t.2.length ≤ 60 := fun t h => Nat.le_trans (hlr t h).1 (by decide)
  rcases hE with hE | ⟨t1, i, pc, t2, rfl, h1, h2⟩
  · have nn := ne_nil (S := S2) (ns := [])
    simp at nn
    rw [edIx_none hE]
    simp [nn, gTuple_cell c2]
    exact q tb later _ (b2.mono (by omega)) g2 tk tl hb50 hl50 fun t1 i pc t2 e h => by
      have := hE (.edition i pc) (by rw [e]; simp)
      cases this
  · rw [edIx_one h1 h2]
    have nn := ne_nil (S := S2) (ns := [((t1.length : Nat) : Int)])
    simp at nn
    obtain ⟨row', ok⟩ := progFrom_mid hok
    have hpc : pc < zs.length := ok.2
    have e8 : atI ((t1 ++ .edition i pc :: t2).map Stp.d) (t1.length : Int) = some (Stp.edition i pc).d := by
      rw [atI_of (by omega) (by simp; omega)]
      simp
    have ecut : cutD ((t1 ++ .edition i pc :: t2).map Stp.d) none (some (t1.length : Int)) = t1.map Stp.d := by
      rw [cut_take (by omega)]
      simp
    have l1 : t1.length ≤ 7 := by simp at hl; omega
    refine seq_cut (fun ρ S' => ∃ later' x8 x9, ρ = [some (.cell p), some (zonesD zs), some (progD (t1 ++ .edition i pc :: t2)), some (.int st), some (.int nr), some (.lst (tb.map Tb.d)), some (.cell m), some (.lst [.int (t1.length : Int)]), x8, x9, none, none] ∧ Bag p n S' ∧ GoB p S S' ∧ S'[m]? = some (.lst (later'.map Tb.d)) ∧ TbsOK zs later' ∧ (∀ t, t ∈ later' → t.2.length ≤ 60) ∧ Goes zs st nr (t1 ++ .edition i pc :: t2) tb later') (fun M hM => ?_) ?_
    · have fo : ∀ Q' : D → Sto → Prop, (∀ (a : Nat) (vs : List Int) (x y : D) S3, (∀ vs', followS agP zs tb tb 0 [st] t1 = .done vs' → vs' = vs) → Grow S2 S3 → S3[a]? = some (.lst (vs.map .int)) → a ≠ p → Q' (.tup [x, .cell a, y]) S3) →
          (m_law_follow [zonesD zs, progD t1, .tup [.lst (tb.map Tb.d), .lst (tb.map Tb.d)], .int st] S2).Does Q' := by
        intro Q' hQ
        have lp := b2.lt
        refine follow_doesW (ag := agP) z (progFrom_left hok) (by omega) (by rw [cnt_none2 h1]; decide) tk tk (fun i' p' hmem => absurd (h1 _ hmem) (by simp [Stp.isEd])) (.inr rfl) (.inr rfl) ?_
        cases e : followS agP zs tb tb 0 [st] t1 with
        | done vs =>
          intro S' tb' ed lk g cs
          exact hQ (S2.length + 2) vs _ _ S' (fun vs' h => by rw [e] at h; cases h; rfl) g cs.c6 (by omega)
        | refused vs k =>
          intro S' tb' ed lk g cs
          exact hQ (S2.length + 2) vs _ _ S' (fun vs' h => by rw [e] at h; cases h) g cs.c6 (by omega)
        | unsuited => exact absurd e (no_unsuited h1)
      simp only [progD] at hM fo ⊢
      generalize (t1 ++ Stp.edition i pc :: t2).map Stp.d = L at hM e8 ecut ⊢
      simp [nn, e8, ecut]
      refine fo _ fun a vs x y S3 hvs g3 c3 hap => ?_
      have c2' := g3.get c2
      have hpt : pc < tb.length := by rw [tk.len]; exact hpc
      have hpl : pc < later.length := by rw [tl.len]; exact hpc
      have b3 := b2.grow g3
      simp [Stp.d, gLen_cell c3]
      by_cases hi : i < vs.length
      · have hi3 := ix_ints c3 hi
        simp [hi, ix_zones hpc, ix_tabs hpt, hi3]
        refine any_later_does (n := n + 50) (b3.mono (by omega)) (z.at hpc) (tk.tab hpc) (ht _ (List.mem_of_getElem? (getT_at hpt))).1 fun js' S4 b4 g4 t4 l4 ha4 => ?_
        have c4 := g4.get c2' (by omega)
        have h16 : ixN (later.map Tb.d).length (pc : Int) = some pc := by
          have : (pc : Int) < ((later.length : Nat) : Int) := by omega
          simp [ixN, this]
        refine ⟨_, c4, pc, h16, ?_⟩
        refine hM _ _ ⟨later.set pc ((getT tb pc).1, js'), _, _, rfl, (b4.mono (by omega)).set (by omega) _, (g2.trans ((Grow.gob g3).trans g4)).setNew hSm _, ?_, tl.put t4, ?_, ?_⟩
        · rw [set_at c4, List.map_set]; rfl
        · intro t ht'
          rcases List.mem_or_eq_of_mem_set ht' with h | h
          · exact hl50 t h
          · rw [h]; exact l4
        · intro u1 j pd u2 eu hu vs' hvs' hj
          obtain ⟨rfl, rfl, rfl⟩ := ed_split eu h1 hu
          have ev := hvs vs' hvs'
          subst ev
          have eg : getT (later.set pc ((getT tb pc).1, js')) pc = ((getT tb pc).1, js') := by
            unfold getT
            rw [List.getD_eq_getElem?_getD, List.getElem?_set_self hpl]; rfl
          rw [eg]
          unfold agP
          exact decide_eq_true ⟨rfl, ha4.symm⟩
      · simp [hi]
        refine hM _ _ ⟨later, _, _, rfl, b3.mono (by omega), g2.trans (Grow.gob g3), c2', tl, hl50, ?_⟩
        intro u1 j pd u2 eu hu vs' hvs' hj
        obtain ⟨rfl, rfl, rfl⟩ := ed_split eu h1 hu
        have ev := hvs vs' hvs'
        subst ev
        exact absurd hj hi
    rintro ρ S3 ⟨later', x8, x9, rfl, b3, g3, c3, tl', hl', hg'⟩
    simp [gTuple_cell c3]
    exact q tb later' _ b3 g3 tk tl' hb50 hl' hg'
/-- a program with at most one edition -/
theorem ed1_of : ∀ {ts : List Stp}, cnt Stp.isEd ts ≤ 1 → Ed1 ts
  | [], _ => .inl fun t h => nomatch h
  | t :: ts, h => by
    rw [cnt_cons] at h
    by_cases hE : t.isEd = true
    · have h0 : cnt Stp.isEd ts ≤ 0 := by
        have : bI t.isEd = 1 := by rw [hE]; rfl
        omega
      refine .inr ⟨[], t.base, t.place, ts, ?_, (fun t h => nomatch h), cnt_zero2 h0⟩
      rw [← ed_form hE]; rfl
    · have hE' : t.isEd = false := by simpa using hE
      have h0 : cnt Stp.isEd ts ≤ 1 := by
        have : bI t.isEd = 0 := by rw [hE']; rfl
        omega
      rcases ed1_of h0 with h1 | ⟨t1, i, pl, t2, e, h1, h2⟩
      · refine .inl fun u hu => ?_
        rcases List.mem_cons.mp hu with rfl | hu
        · exact hE'
        · exact h1 u hu
      · refine .inr ⟨t :: t1, i, pl, t2, by rw [e]; rfl, fun u hu => ?_, h2⟩
        rcases List.mem_cons.mp hu with rfl | hu
        · exact hE'
        · exact h1 u hu
/-- the same beginning, whatever comes later -/
theorem follow_begin {ag : Tb → Tb → Int → Bool} {l2 : List Tb} : ∀ {t1 : List Stp} {u : List Stp} {vs : List Int} {k : Nat}, (∀ t, t ∈ t1 → t.isEd = false) →
    (∃ vs', followS ag zs l2 tb k vs t1 = .done vs' ∧ followS ag zs later tb k vs (t1 ++ u) = followS ag zs later tb (k + t1.length) vs' u) ∨ (∃ vs' k', followS ag zs later tb k vs (t1 ++ u) = .refused vs' k')
  | [], u, vs, k, _ => .inl ⟨vs, rfl, rfl⟩
  | t :: t1, u, vs, k, h => by
    have hE := h t List.mem_cons_self
    have f : ∀ (l : List Tb) (w : List Stp), followS ag zs l tb k vs (t :: w) = match stepV zs tb vs t with
        | none => .refused vs k
        | some v => followS ag zs l tb (k + 1) (vs ++ [v]) w := by
      intro l w
      rw [followS, if_neg (fun h => by rw [hE] at h; exact Bool.noConfusion h.1)]
      simp only [hE]
      rfl
    rw [List.cons_append, f, f]
    cases e : stepV zs tb vs t with
    | none => exact .inr ⟨_, _, rfl⟩
    | some v =>
      simp only
      rcases follow_begin (ag := ag) (l2 := l2) (t1 := t1) (u := u) (vs := vs ++ [v]) (k := k + 1) (fun t ht => h t (List.mem_cons_of_mem _ ht)) with ⟨vs', h1, h2⟩ | h
      · refine .inl ⟨vs', h1, ?_⟩
        rw [h2]
        congr 1
        simp; omega
      · exact .inr h
/-- such a world suits -/
theorem suits {st : Int} (hok : ProgFrom zs.length [.mom] ts) (hE : Ed1 ts) (hg : Goes zs st 0 ts tb later) : followS agP zs later tb 0 [st] ts ≠ .unsuited := by
  rcases hE with h | ⟨t1, i, pc, t2, rfl, h1, h2⟩
  · exact no_unsuited h
  · rcases follow_begin (ag := agP) (zs := zs) (tb := tb) (later := later) (l2 := tb) (t1 := t1) (u := .edition i pc :: t2) (vs := [st]) (k := 0) h1 with ⟨vs, e1, e2⟩ | ⟨vs', k', e⟩
    · rw [e2, followS]
      have hi : i < vs.length := by
        have hlen := done_len e1
        have hkl := kindsFrom_length [.mom] t1
        have hro : ∀ {a b : List Stp} {t : Stp} {row : List Kd}, ProgFrom zs.length row (a ++ t :: b) → t.OK zs.length (kindsFrom row a) := by
          intro a
          induction a with
          | nil => intro b t row h; exact h.1
          | cons u a ih => intro b t row h; exact ih h.2
        have hr := (hro hok).1
        have := (List.getElem?_eq_some_iff.mp hr).1
        simp at hlen hkl
        omega
      have ha := hg t1 i pc t2 rfl h1 vs e1 hi
      rw [Int.add_zero] at ha
      rw [if_neg (fun h => by
        have h3 := h.2
        simp only [Stp.place, Stp.base] at h3
        rw [ha] at h3
        cases h3)]
      cases stepV zs tb vs (.edition i pc) with
      | none => exact fun h => nomatch h
      | some v => exact no_unsuited h2
    · rw [e]
      exact fun h => nomatch h
end
end Dm
-- text HmEdition3
namespace Dm
open PySem L2
end Dm
-- text HmReplay
namespace Dm
open PySem L2
section
variable {d m : Int} {zs : Zs} {tb tb2 later later2 : List Tb} {row : List Kd} {vs : List Int} {t : Stp}
theorem agP_of {os : List Int} {s : Int} {a b : Tb} (hs : 0 < s) (ta : TabOK os s a.1 a.2) (tb : TabOK os s b.1 b.2) (h : agP a b m = true) {e : Int} (he : e < m) : a.of e = b.of e := by
  obtain ⟨h1, h2⟩ := of_decide_eq_true h
  unfold Tb.of
  rw [off_ahead hs he ta.chain, off_ahead hs he tb.chain, h1, h2]
/-! ### looks -/
variable {org : Int} {ed : Option (Nat × Int)} {lk : List Lk} {ws : List Int}
/-! ### a run once more, in another world with the same looks -/
end
end Dm
-- text HmTh1
namespace Dm
open PySem L2
section
variable {zs : Zs} {tb later : List Tb} {a b ts : List Stp} {vs ws : List Int} {k p i : Nat} {st : Int} {ag : Tb → Tb → Int → Bool}
/-! ### there and back: runs, cut in two -/
def tabsB (later : List Tb) (tb : List Tb) (ts : List Stp) : List Tb := ts.foldl (fun tb t => if t.isEd = true then tb.set t.place (getT later t.place) else tb) tb
def stepF (later : List Tb) (ag : Tb → Tb → Int → Bool) (zs : Zs) (tb : List Tb) (k : Nat) (vs : List Int) (t : Stp) (u : List Int → List Tb → Fin) : Fin :=
  if t.isEd = true ∧ ag (getT tb t.place) (getT later t.place) (getV vs t.base) = false then .unsuited
  else match stepV zs tb vs t with
    | none => .refused vs k
    | some v => u (vs ++ [v]) (if t.isEd = true then tb.set t.place (getT later t.place) else tb)
theorem follow_consT {t : Stp} : followS ag zs later tb k vs (t :: ts) = stepF later ag zs tb k vs t fun ws tb' => followS ag zs later tb' (k + 1) ws ts := by
  rw [followS]; rfl
theorem follow_one {t : Stp} {v : Int} (h : t.isEd = false) (e : stepV zs tb vs t = some v) : followS ag zs later tb k vs (t :: ts) = followS ag zs later tb (k + 1) (vs ++ [v]) ts := by
  rw [follow_consT]
  unfold stepF
  rw [if_neg (fun c => by rw [h] at c; exact Bool.noConfusion c.1), e]
  simp only
  rw [if_neg (by rw [h]; decide)]
theorem follow_refd {t : Stp} (h : t.isEd = false) (e : stepV zs tb vs t = none) : followS ag zs later tb k vs (t :: ts) = .refused vs k := by
  rw [follow_consT]
  unfold stepF
  rw [if_neg (fun c => by rw [h] at c; exact Bool.noConfusion c.1), e]
theorem follow_edt {i p : Nat} (h : ag (getT tb p) (getT later p) (getV vs i) = true) : followS ag zs later tb k vs (.edition i p :: ts) = followS ag zs later (tb.set p (getT later p)) (k + 1) (vs ++ [getV vs i]) ts := by
  rw [follow_consT]
  unfold stepF
  rw [if_neg (fun c => by
    have c2 : ag (getT tb p) (getT later p) (getV vs i) = false := c.2
    rw [h] at c2
    exact Bool.noConfusion c2)]
  rfl
theorem follow_unf {i p : Nat} (h : ag (getT tb p) (getT later p) (getV vs i) = false) : followS ag zs later tb k vs (.edition i p :: ts) = .unsuited := by
  rw [follow_consT]
  unfold stepF
  rw [if_pos ⟨rfl, h⟩]
/-- without finds: nothing is refused -/
theorem follow_free : ∀ {a : List Stp} {tb : List Tb} {k : Nat} {vs : List Int}, (∀ t, t ∈ a → t.isFind = false) →
    (∀ b, followS ag zs later tb k vs (a ++ b) = .unsuited) ∨ ∃ us, us.length = a.length ∧ ∀ b, followS ag zs later tb k vs (a ++ b) = followS ag zs later (tabsB later tb a) (k + a.length) (vs ++ us) b
  | [], tb, k, vs, _ => .inr ⟨[], rfl, fun b => by simp [tabsB]⟩
  | t :: a, tb, k, vs, h => by
    have hf := h t List.mem_cons_self
    have hs : ∃ v, stepV zs tb vs t = some v := by
      cases t with
      | find => exact absurd hf (by simp [Stp.isFind])
      | _ => exact ⟨_, rfl⟩
    obtain ⟨v, ev⟩ := hs
    by_cases c : t.isEd = true ∧ ag (getT tb t.place) (getT later t.place) (getV vs t.base) = false
    · refine .inl fun b => ?_
      rw [List.cons_append, follow_consT]
      unfold stepF
      rw [if_pos c]
    · rcases follow_free (a := a) (tb := if t.isEd = true then tb.set t.place (getT later t.place) else tb) (k := k + 1) (vs := vs ++ [v]) fun t ht => h t (List.mem_cons_of_mem _ ht) with h1 | ⟨us, h2, h1⟩
      · refine .inl fun b => ?_
        rw [List.cons_append, follow_consT]
        unfold stepF
        rw [if_neg c, ev]
        exact h1 b
      · refine .inr ⟨v :: us, by simp [h2], fun b => ?_⟩
        rw [List.cons_append, follow_consT]
        unfold stepF
        rw [if_neg c, ev]
        simp only
        rw [h1 b]
        have e1 : k + 1 + a.length = k + (t :: a).length := by simp; omega
        have e2 : vs ++ [v] ++ us = vs ++ v :: us := by simp
        rw [e1, e2]
        rfl
theorem tabsB_ok (hl : TbsOK zs later) : ∀ {a : List Stp} {tb : List Tb}, TbsOK zs tb → TbsOK zs (tabsB later tb a)
  | [], tb, h => h
  | t :: a, tb, h => by
    have : TbsOK zs (if t.isEd = true then tb.set t.place (getT later t.place) else tb) := by
      by_cases c : t.isEd = true
      · rw [if_pos c]; exact h.set hl _
      · rw [if_neg c]; exact h
    show TbsOK zs (tabsB later (if t.isEd = true then tb.set t.place (getT later t.place) else tb) a)
    exact tabsB_ok hl this
def hasEd (a : List Stp) (p : Nat) : Bool := a.any fun t => t.isEd && decide (t.place = p)
theorem tabsB_at {p : Nat} : ∀ {a : List Stp} {tb : List Tb}, later.length = tb.length → p < tb.length → getT (tabsB later tb a) p = if hasEd a p = true then getT later p else getT tb p
  | [], tb, _, _ => rfl
  | t :: a, tb, h, hp => by
    show getT (tabsB later (if t.isEd = true then tb.set t.place (getT later t.place) else tb) a) p = _
    have hlen : (if t.isEd = true then tb.set t.place (getT later t.place) else tb).length = tb.length := by split <;> simp
    rw [tabsB_at (a := a) (by rw [hlen]; exact h) (by rw [hlen]; exact hp)]
    have e : hasEd (t :: a) p = ((t.isEd && decide (t.place = p)) || hasEd a p) := rfl
    rw [e]
    cases hasEd a p with
    | true => simp
    | false =>
      simp
      by_cases c : t.isEd = true
      · by_cases c2 : t.place = p
        · subst c2
          simp [c, getT, List.getD_eq_getElem?_getD, List.getElem?_set_self hp]
        · simp [c, c2, getT, List.getD_eq_getElem?_getD, List.getElem?_set_ne c2]
      · simp [c]
/-! ### the moments of a reading -/
variable {os : List Int} {s : Int} {T : Tb} {r x w m : Int} {f g : Str}
theorem of_in (z : ZoneOK os s) (t : TabOK os s T.1 T.2) : T.of m ∈ os := off_mem t.held t.chain
theorem mom_iff (z : ZoneOK os s) (t : TabOK os s T.1 T.2) : m ∈ momsOf os T.1 T.2 r ↔ T.of m = r - m := moms_mem fun m => of_in (T := T) z t
theorem found_some (z : ZoneOK os s) (t : TabOK os s T.1 T.2) (h : foundT (os, s) T r f g = some w) : momsOf os T.1 T.2 r = [] ∨ w ∈ momsOf os T.1 T.2 r := by
  have h2 := moms_two (r := r) z t
  unfold foundT at h
  simp only at h
  match momsOf os T.1 T.2 r, h, h2 with
  | [], _, _ => exact .inl rfl
  | [m], h, _ =>
    simp [findI] at h
    exact .inr (by simp [h])
  | [m, m'], h, _ =>
    simp only [findI] at h
    split at h
    · cases h
    · split at h
      · cases h; exact .inr (by simp)
      · cases h; exact .inr (by simp)
  | _ :: _ :: _ :: _, _, h2 => simp at h2
theorem found_none (z : ZoneOK os s) (t : TabOK os s T.1 T.2) (h : foundT (os, s) T r f g = none) : (f = "refuse" ∧ ∃ m m', momsOf os T.1 T.2 r = [m, m']) ∨ (g = "refuse" ∧ momsOf os T.1 T.2 r = []) := by
  have h2 := moms_two (r := r) z t
  unfold foundT at h
  simp only at h
  match momsOf os T.1 T.2 r, h, h2 with
  | [], h, _ =>
    simp only [findI] at h
    split at h
    · next c => exact .inr ⟨c, rfl⟩
    · split at h <;> cases h
  | [m], h, _ => simp [findI] at h
  | [m, m'], h, _ =>
    simp only [findI] at h
    split at h
    · next c => exact .inl ⟨c, m, m', rfl⟩
    · split at h <;> cases h
  | _ :: _ :: _ :: _, _, h2 => simp at h2
/-- a reading that some moment has: what is found -/
theorem found_back (z : ZoneOK os s) (t : TabOK os s T.1 T.2) (hx : T.of x = r - x) (h : foundT (os, s) T r f g = some w) (hf : RuleF f) :
    (momsOf os T.1 T.2 r = [x] ∧ w = x) ∨ ∃ m m', momsOf os T.1 T.2 r = [m, m'] ∧ m < m' ∧ (x = m ∨ x = m') ∧ ((f = "early" ∧ w = m) ∨ (f = "late" ∧ w = m')) := by
  have hm := (mom_iff (r := r) z t).mpr hx
  have ha : (momsOf os T.1 T.2 r).Pairwise (· < ·) := moms_asc (by cases z <;> simp <;> omega)
  have h2 := moms_two (r := r) z t
  unfold foundT at h
  simp only at h
  match momsOf os T.1 T.2 r, h, h2, hm, ha with
  | [], _, _, hm, _ => simp at hm
  | [m], h, _, hm, _ =>
    simp [findI] at h
    simp at hm
    exact .inl ⟨by rw [hm], by omega⟩
  | [m, m'], h, _, hm, ha =>
    simp at hm ha
    refine .inr ⟨m, m', rfl, ha, hm, ?_⟩
    simp only [findI] at h
    rcases hf with rfl | rfl | rfl
    · simp (decide := true) at h
      exact .inl ⟨rfl, h.symm⟩
    · simp (decide := true) at h
      exact .inr ⟨rfl, h.symm⟩
    · simp at h
  | _ :: _ :: _ :: _, _, h2, _, _ => simp at h2
end
end Dm
-- text HmTh2
namespace Dm
open PySem L2
section
variable {zs : Zs} {tb later : List Tb} {a : List Stp} {p i j : Nat} {st m : Int} {f g : Str}
def way0 (a : List Stp) (i p : Nat) (f g : Str) : List Stp := a ++ [.read i p, .find (a.length + 1) p f g]
def way1 (a : List Stp) (j p : Nat) (m : Int) (f g : Str) : List Stp := a ++ [.add j m, .find (a.length + 1) p f g, .read (a.length + 2) p]
def way2 (a : List Stp) (i p : Nat) : Option Int → List Stp
  | none => a ++ [.read i p, .offset i p, .less (a.length + 1) (a.length + 2)]
  | some ah => a ++ [.read i p, .add i ah, .edition (a.length + 2) p, .offset i p, .less (a.length + 1) (a.length + 4)]
theorem gv_new {vs : List Int} {n : Nat} {r : Int} (h : vs.length = n) : getV (vs ++ [r]) n = r := by
  subst h
  simp [getV]
theorem gv_old {vs ws : List Int} {i : Nat} (h : i < vs.length) : getV (vs ++ ws) i = getV vs i := by
  simp [getV, List.getD_eq_getElem?_getD, List.getElem?_append_left h]
def fin0 (a : List Stp) (vs : List Int) (r : Int) : Option Int → Fin
  | none => .refused (vs ++ [r]) (a.length + 1)
  | some w => .done (vs ++ [r] ++ [w])
theorem run0 (h : ∀ t, t ∈ a → t.isFind = false) (hs : followS agP zs later tb 0 [st] (way0 a i p f g) ≠ .unsuited) :
    ∃ vs : List Int, vs.length = a.length + 1 ∧ followS agP zs later tb 0 [st] (way0 a i p f g) = fin0 a vs (getV vs i + (getT (tabsB later tb a) p).of (getV vs i))
      (foundT (getZ zs p) (getT (tabsB later tb a) p) (getV vs i + (getT (tabsB later tb a) p).of (getV vs i)) f g) ∧
      followS agP zs later tb 0 [st] (a ++ [.read i p]) = .done (vs ++ [getV vs i + (getT (tabsB later tb a) p).of (getV vs i)]) := by
  rcases follow_free (ag := agP) (zs := zs) (later := later) (tb := tb) (k := 0) (vs := [st]) h with h1 | ⟨us, hl, h1⟩
  · exact absurd (h1 _) hs
  refine ⟨[st] ++ us, by simp [hl], ?_, by rw [h1, follow_one rfl rfl]; simp [followS]⟩
  unfold way0
  rw [h1]
  have hv : ([st] ++ us).length = a.length + 1 := by simp [hl]
  generalize [st] ++ us = vs at hv
  generalize tabsB later tb a = TB
  rw [follow_one rfl rfl]
  cases e : foundT (getZ zs p) (getT TB p) (getV vs i + (getT TB p).of (getV vs i)) f g with
  | none =>
    rw [follow_refd rfl (by show foundT (getZ zs p) (getT TB p) (getV _ (a.length + 1)) f g = none; rw [gv_new hv, e])]
    simp [fin0]
  | some w =>
    rw [follow_one rfl (by show foundT (getZ zs p) (getT TB p) (getV _ (a.length + 1)) f g = some w; rw [gv_new hv, e])]
    simp [fin0, followS]
def fin1 (a : List Stp) (vs : List Int) (r : Int) (T : Tb) : Option Int → Fin
  | none => .refused (vs ++ [r]) (a.length + 1)
  | some w => .done (vs ++ [r] ++ [w] ++ [w + T.of w])
theorem run1 (h : ∀ t, t ∈ a → t.isFind = false) (hs : followS agP zs later tb 0 [st] (way1 a j p m f g) ≠ .unsuited) :
    ∃ vs : List Int, vs.length = a.length + 1 ∧ followS agP zs later tb 0 [st] (way1 a j p m f g) = fin1 a vs (getV vs j + m) (getT (tabsB later tb a) p)
      (foundT (getZ zs p) (getT (tabsB later tb a) p) (getV vs j + m) f g) := by
  rcases follow_free (ag := agP) (zs := zs) (later := later) (tb := tb) (k := 0) (vs := [st]) h with h1 | ⟨us, hl, h1⟩
  · exact absurd (h1 _) hs
  refine ⟨[st] ++ us, by simp [hl], ?_⟩
  unfold way1
  rw [h1]
  have hv : ([st] ++ us).length = a.length + 1 := by simp [hl]
  generalize [st] ++ us = vs at hv
  generalize tabsB later tb a = TB
  rw [follow_one rfl rfl]
  cases e : foundT (getZ zs p) (getT TB p) (getV vs j + m) f g with
  | none =>
    rw [follow_refd rfl (by show foundT (getZ zs p) (getT TB p) (getV _ (a.length + 1)) f g = none; rw [gv_new hv, e])]
    simp [fin1]
  | some w =>
    rw [follow_one rfl (by show foundT (getZ zs p) (getT TB p) (getV _ (a.length + 1)) f g = some w; rw [gv_new hv, e])]
    rw [follow_one (v := w + (getT TB p).of w) rfl (by show some (getV _ (a.length + 2) + (getT TB p).of (getV _ (a.length + 2))) = _; rw [gv_new (by simp [hv])])]
    simp [fin1, followS]
theorem run2 (z : ZsOK zs) (tk : TbsOK zs tb) (tl : TbsOK zs later) (hp : p < zs.length) {o : Option Int} (ho : ∀ ah, o = some ah → 1 ≤ ah ∧ ∀ t, t ∈ a → t.isEd = false) (hi : i < a.length + 1) (h : ∀ t, t ∈ a → t.isFind = false)
    (hs : followS agP zs later tb 0 [st] (way2 a i p o) ≠ .unsuited) :
    ∃ (vs us : List Int) , vs.length = a.length + 1 ∧ followS agP zs later tb 0 [st] (way2 a i p o) = .done (vs ++ us ++ [getV vs i]) ∧ (vs ++ us ++ [getV vs i]).length = (way2 a i p o).length + 1 := by
  rcases follow_free (ag := agP) (zs := zs) (later := later) (tb := tb) (k := 0) (vs := [st]) h with h1 | ⟨us, hl, h1⟩
  · refine absurd ?_ hs
    cases o <;> exact h1 _
  have hv : ([st] ++ us).length = a.length + 1 := by simp [hl]
  cases o with
  | none =>
    have hx := h1 [.read i p, .offset i p, .less (a.length + 1) (a.length + 2)]
    unfold way2
    rw [hx]
    generalize [st] ++ us = vs at hv
    generalize tabsB later tb a = TB
    generalize hT : (getT TB p).of (getV vs i) = o1
    refine ⟨vs, [getV vs i + o1, o1], hv, ?_, by simp [hv]⟩
    rw [follow_one (v := getV vs i + o1) rfl (by show some _ = _; rw [hT])]
    rw [follow_one (v := o1) rfl (by show some ((getT TB p).of (getV _ i)) = _; rw [gv_old (by omega), hT])]
    have g1 : getV (vs ++ [getV vs i + o1] ++ [o1]) (a.length + 1) = getV vs i + o1 := by rw [gv_old (by simp; omega), gv_new hv]
    have g2 : getV (vs ++ [getV vs i + o1] ++ [o1]) (a.length + 2) = o1 := gv_new (by simp [hv])
    rw [follow_one (v := getV vs i) rfl (by show some (getV _ (a.length + 1) - getV _ (a.length + 2)) = _; rw [g1, g2]; congr 1; omega)]
    simp [followS]
  | some ah =>
    obtain ⟨h2, h3⟩ := ho ah rfl
    have hx := h1 [.read i p, .add i ah, .edition (a.length + 2) p, .offset i p, .less (a.length + 1) (a.length + 4)]
    unfold way2 at hs ⊢
    rw [hx] at hs ⊢
    have eT : getT (tabsB later tb a) p = getT tb p := by
      rw [tabsB_at (by rw [tl.len, tk.len]) (by rw [tk.len]; exact hp)]
      have : hasEd a p = false := by
        unfold hasEd
        rw [List.any_eq_false]
        intro t ht
        simp [h3 t ht]
      rw [this]; simp
    have lT : p < (tabsB later tb a).length := by
      have := (tabsB_ok tl tk (a := a)).len
      omega
    generalize [st] ++ us = vs at hv hs
    generalize tabsB later tb a = TB at hs eT lT
    generalize hT : (getT TB p).of (getV vs i) = o1
    rw [follow_one (v := getV vs i + o1) rfl (by show some _ = _; rw [hT]), follow_one (v := getV vs i + ah) rfl (by show some (getV _ i + ah) = _; rw [gv_old (by omega)])] at hs ⊢
    have g0 : getV (vs ++ [getV vs i + o1] ++ [getV vs i + ah]) (a.length + 2) = getV vs i + ah := gv_new (by simp [hv])
    cases c : agP (getT TB p) (getT later p) (getV vs i + ah) with
    | false =>
      rw [follow_unf (by rw [g0, c])] at hs
      exact absurd rfl hs
    | true =>
      have c' : agP (getT tb p) (getT later p) (getV vs i + ah) = true := by rw [← eT]; exact c
      have e2 : (getT later p).of (getV vs i) = o1 := by
        rw [← hT, eT]
        exact (agP_of (z.at hp).sp.1 (tk.tab hp) (tl.tab hp) c' (by omega)).symm
      have eS : getT (TB.set p (getT later p)) p = getT later p := by
        simp [getT, List.getD_eq_getElem?_getD, List.getElem?_set_self lT]
      refine ⟨vs, [getV vs i + o1, getV vs i + ah, getV vs i + ah, o1], hv, ?_, by simp [hv]⟩
      rw [follow_edt (by rw [g0, c]), g0]
      have g1 : getV (vs ++ [getV vs i + o1] ++ [getV vs i + ah] ++ [getV vs i + ah]) i = getV vs i := by
        rw [gv_old (by simp; omega), gv_old (by simp; omega), gv_old (by omega)]
      rw [follow_one (v := o1) rfl (by show some ((getT _ p).of (getV _ i)) = _; rw [g1, eS, e2])]
      have g2 : getV (vs ++ [getV vs i + o1] ++ [getV vs i + ah] ++ [getV vs i + ah] ++ [o1]) (a.length + 1) = getV vs i + o1 := by
        rw [gv_old (by simp; omega), gv_old (by simp; omega), gv_old (by simp; omega), gv_new hv]
      have g3 : getV (vs ++ [getV vs i + o1] ++ [getV vs i + ah] ++ [getV vs i + ah] ++ [o1]) (a.length + 4) = o1 := gv_new (by simp [hv])
      rw [follow_one (v := getV vs i) rfl (by show some (getV _ (a.length + 1) - getV _ (a.length + 4)) = _; rw [g2, g3]; congr 1; omega)]
      simp [followS]
end
end Dm
-- text HmLeftAt
namespace Dm
open PySem L2
@[simp] theorem does_callBL {S : Sto} {ρ : Rho} {g : Sto → List D → Option (List D)} {a : MA} {E : EX} {Q : List D → Sto → Prop} : (mCallBL g a ρ S).DoesE E Q = (a ρ S).DoesE E fun xs S1 => match g S1 xs with
    | some z => Q z S1
    | none => False := by
  unfold mCallBL
  rw [does_bind]
  congr 1
  funext x S1
  cases g S1 x <;> rfl
section
variable {S : Sto} {os : List Int} {s m o : Int} {ls : List (Int × Int)} {n p : Nat}
@[simp] theorem gList_looks : gList S [looksD ls] = some (ls.map jmpD) := rfl
@[simp] theorem gList_tup {ds : List D} : gList S [.tup ds] = some ds := rfl
@[simp] theorem gList_lst {ds : List D} : gList S [.lst ds] = some ds := rfl
end
end Dm
-- text HmCchart
namespace Dm
open PySem L2
end Dm
-- text HmGone
namespace Dm
open PySem L2
end Dm
-- text HmGone2
namespace Dm
open PySem L2
end Dm
-- text HmTurn
namespace Dm
open PySem L2
section
variable {S : Sto} {os : List Int} {s h r c d : Int} {js : List (Int × Int)} {fold gap : Str}
@[simp] theorem lcAQ_mapT {f : D → Rho → Option Rho} {mt me : ME} {ρ : Rho} {Q : List D → Sto → Prop} {α : Type} {g : α → D} {as : List α} : LcAQ (.tup (as.map g)) f mt me ρ as.length S Q = LcQ f mt me ρ (as.map g) S Q := lcAQ_fix (.inl rfl) (by rw [List.length_map])
@[simp] theorem lcAQ_mapL {f : D → Rho → Option Rho} {mt me : ME} {ρ : Rho} {Q : List D → Sto → Prop} {α : Type} {g : α → D} {as : List α} : LcAQ (.lst (as.map g)) f mt me ρ as.length S Q = LcQ f mt me ρ (as.map g) S Q := lcAQ_fix (.inr rfl) (by rw [List.length_map])
/-! ### the zone, the table, moved and turned -/
end
end Dm
-- text HmPick
set_option maxHeartbeats 1000000
namespace Dm
open PySem L2
/-! ### the pots of the later laws -/
end Dm
-- text HmOdd1
namespace Dm
open PySem L2
/-- data of any kind: nothing that may change -/
inductive OddD : D → Prop
  | non : OddD .non
  | bl (b : Bool) : OddD (.bl b)
  | int (i : Int) : OddD (.int i)
  | str (x : Str) : OddD (.str x)
  | exn (c : Str) (fs : List (Str × Int)) : OddD (.exn c fs)
  | tup {ds : List D} : ds.length ≤ 1000 → (∀ d, d ∈ ds → OddD d) → OddD (.tup ds)
  | lst {ds : List D} : ds.length ≤ 1000 → (∀ d, d ∈ ds → OddD d) → OddD (.lst ds)
end Dm
-- text HmOdd2
namespace Dm
open PySem L2
end Dm
-- text HmOdd3
namespace Dm
open PySem L2
end Dm
-- text HmOdd4
namespace Dm
open PySem L2
/-- a row of data, so many at most -/
structure OddL (k : Nat) (ds : List D) : Prop where
  len : ds.length ≤ k
  all : ∀ d, d ∈ ds → OddD d
theorem OddL.one {d : D} (h : OddD d) : OddL 1 [d] := ⟨by simp, fun x hx => by rw [List.mem_singleton.mp hx]; exact h⟩
theorem OddL.tup {k : Nat} {ds : List D} (h : OddL k ds) (hk : k ≤ 1000 := by decide) : OddD (.tup ds) := .tup (Nat.le_trans h.len hk) h.all
theorem OddL.lst {k : Nat} {ds : List D} (h : OddL k ds) (hk : k ≤ 1000 := by decide) : OddD (.lst ds) := .lst (Nat.le_trans h.len hk) h.all
theorem OddL.mono {k m : Nat} {ds : List D} (h : OddL k ds) (hk : k ≤ m) : OddL m ds := ⟨Nat.le_trans h.len hk, h.all⟩
end Dm
-- text HmFields
set_option maxHeartbeats 1000000
namespace Dm
open PySem L2
/-! ### drawn zones of the later laws -/
end Dm
-- text HmFields2
set_option maxHeartbeats 1000000
namespace Dm
open PySem L2
end Dm
-- text HmTale1
set_option maxHeartbeats 1000000
namespace Dm
open PySem L2
/-! ### drawn programs of the later laws: rules, minutes, indexes of values -/
end Dm
-- text HmTale2
set_option maxHeartbeats 1000000
namespace Dm
open PySem L2
/-! ### drawn programs of the later laws: the words, a step -/
section
variable {S : Sto} {p n r : Nat} {row : List Kd} {zs : Zs}
theorem stps_pyT {nz : Nat} : ∀ l : List Stp, (∀ t, t ∈ l → ∃ row, t.OK nz row) → ∃ qs, toPys (l.map Stp.d) = some qs ∧ PyData.canLayAll0 qs = true ∧ PyData.depthAll qs ≤ 1 ∧ qs.length = l.length
  | [], _ => ⟨[], rfl, rfl, Nat.zero_le _, rfl⟩
  | t :: l, h => by
    obtain ⟨row, ho⟩ := h t List.mem_cons_self
    obtain ⟨q, e, h1, h2⟩ := stp_py ho
    obtain ⟨qs, es, k1, k2, k3⟩ := stps_pyT l fun t ht => h t (List.mem_cons_of_mem _ ht)
    refine ⟨q :: qs, by simp [toPys, e, es], by simp [PyData.canLayAll0, h1, k1], by simp only [PyData.depthAll]; omega, by simp [k3]⟩
theorem gEq_steps {nz : Nat} {l : List Stp} (hok : ∀ u, u ∈ l → ∃ row, u.OK nz row) : gEq S (.lst (l.map Stp.d)) (.lst []) = some (.bl (decide (l = []))) := by
  obtain ⟨qs, es, k1, k2, k3⟩ := stps_pyT l hok
  have e1 : toPyS S (.lst (l.map Stp.d)) = some (.list qs) := by simp only [toPyS, toPy, es]; rfl
  have e2 : toPyS S (.lst []) = some (.list []) := rfl
  cases l with
  | nil =>
    cases qs with
    | nil =>
      unfold gEq eqD
      simp only [e1, e2]
      simp [SeqAt.shaped, PyData.canLay0, PyData.canLayAll0, PyData.depth, PyData.depthAll, PyData.eqv]
      rfl
    | cons => cases k3
  | cons t l =>
    cases qs with
    | nil => simp at k3
    | cons p ps =>
      unfold gEq eqD
      simp only [e1, e2]
      have k2' : PyData.depthAll (p :: ps) ≤ 1 := k2
      have z0 : PyData.depthAll [] = 0 := rfl
      simp [SeqAt.shaped, PyData.canLay0, k1, PyData.canLayAll0, PyData.depth, PyData.eqv]
      exact ⟨⟨⟨by simpa [PyData.canLayAll0] using k1, by omega⟩, by omega⟩, rfl⟩
end
end Dm
-- text HmTh3
namespace Dm
open PySem L2
section
variable {S : Sto} {zs : Zs} {p n : Nat}
/-- a program there and back: its way, the place, the index of what is to come back -/
inductive RoadW (zs : Zs) : Nat → List Stp → Nat → Nat → Prop
  | w0 {a : List Stp} {i p : Nat} {f g : Str} : (∀ t, t ∈ a → t.isFind = false) → i < a.length + 1 → RuleF f → RuleG g → RoadW zs 0 (way0 a i p f g) p i
  | w1 {a : List Stp} {j p : Nat} {m : Int} {f g : Str} : (∀ t, t ∈ a → t.isFind = false) → j < a.length + 1 → RuleF f → RuleG g → RoadW zs 1 (way1 a j p m f g) p (a.length + 1)
  | w2 {a : List Stp} {i p : Nat} {o : Option Int} : (∀ t, t ∈ a → t.isFind = false) → i < a.length + 1 → (∀ ah, o = some ah → 1 ≤ ah ∧ ∀ t, t ∈ a → t.isEd = false) → RoadW zs 2 (way2 a i p o) p i
structure Road (zs : Zs) (w : Nat) (ts : List Stp) (p i : Nat) : Prop where
  w : RoadW zs w ts p i
  ok : ProgOK zs.length ts
  hp : p < zs.length
theorem ifS_yesT {ρ : Rho} {c : ME} {A B : MS} {EO : EXO} {N B' C : Rho → Sto → Prop} {R : D → Sto → Prop} (h : ∀ Q : D → Sto → Prop, Q (.bl true) S → (c ρ S).Does Q) (y : ∀ N', (A ρ S).DoesE EO N' R B' C) : (mSeq (mIfS c A mNop) B ρ S).DoesE EO N R B' C := by
  rw [does_seq, does_ifS]
  exact Res.Does.toE (h _ (y _))
theorem ifS_noT {ρ : Rho} {c : ME} {A B : MS} {EO : EXO} {N B' C : Rho → Sto → Prop} {R : D → Sto → Prop} (h : ∀ Q : D → Sto → Prop, Q (.bl false) S → (c ρ S).Does Q) (y : (B ρ S).DoesE EO N R B' C) : (mSeq (mIfS c A mNop) B ρ S).DoesE EO N R B' C := by
  rw [does_seq, does_ifS]
  exact Res.Does.toE (h _ y)
theorem eqT_yes {ρ : Rho} {i : Int} {j : Nat} {A B : MS} {EO : EXO} {N B' C : Rho → Sto → Prop} {R : D → Sto → Prop} (h0 : ρ[j]? = some (some (.int i))) (y : ∀ N', (A ρ S).DoesE EO N' R B' C) : (mSeq (mIfS (mOp gEq (mVar j) (mK (.int i))) A mNop) B ρ S).DoesE EO N R B' C := by
  rw [does_seq, does_ifS]
  refine Res.Does.toE (?_ : Res.Does _ _)
  simp [h0]
  exact y _
theorem eqT_no {ρ : Rho} {i k : Int} {j : Nat} {A B : MS} {EO : EXO} {N B' C : Rho → Sto → Prop} {R : D → Sto → Prop} (h0 : ρ[j]? = some (some (.int k))) (h : k ≠ i) (y : (B ρ S).DoesE EO N R B' C) : (mSeq (mIfS (mOp gEq (mVar j) (mK (.int i))) A mNop) B ρ S).DoesE EO N R B' C := by
  rw [does_seq, does_ifS]
  refine Res.Does.toE (?_ : Res.Does _ _)
  simp [h0, h]
  exact y
theorem kinds_len {a : List Stp} : (kindsFrom [.mom] a).length = a.length + 1 := by
  have := kindsFrom_length [.mom] a
  simpa [Nat.add_comm] using this
theorem ix_len {α : Type} {l : List α} {i : Nat} {x : α} (h : l[i]? = some x) : i < l.length := (List.getElem?_eq_some_iff.mp h).1
theorem in_rowN {r : Nat} {row : List Kd} (hr : S[r]? = some (.lst (row.map Kd.d))) (k : Kd) : gIn true S (.str k.s) (.cell r) = some (.bl (!decide (k ∈ row))) := by
  have h := in_row hr k
  unfold gIn at h ⊢
  rw [seqOf_cell hr] at h ⊢
  simp only at h ⊢
  by_cases c : flatD (.str k.s) = true ∧ (row.map Kd.d).all flatD = true
  · rw [if_pos c] at h ⊢
    simp only [Bool.false_eq_true, if_false, if_true, Option.some.injEq, D.bl.injEq] at h ⊢
    rw [h]
  · rw [if_neg c] at h
    cases h
theorem prog_each {nz : Nat} : ∀ {a : List Stp} {row : List Kd}, ProgFrom nz row a → ∀ t, t ∈ a → ∃ row', t.OK nz row'
  | [], _, _, t, ht => nomatch ht
  | u :: a, row, h, t, ht => by
    rcases List.mem_cons.mp ht with rfl | ht
    · exact ⟨row, h.1⟩
    · exact prog_each h.2 t ht
theorem road_does {w : Nat} {Q : D → Sto → Prop} (hp : Bag p (n + 1000) S) (z : ZsOK zs) (hw : w ≤ 2) (q : ∀ ts (s i : Nat) S', Bag p n S' → GoB p S S' → Road zs w ts s i → Q (.tup [progD ts, .int s, .int i]) S') :
    (m_law_road [.cell p, zonesD zs, .int w] S).Does Q := by
  have hz : 1 ≤ zs.length ∧ zs.length ≤ 2 := by rcases z.len with h | h <;> omega
  have lz : ∀ S, gLen S [zonesD zs] = some (.int zs.length) := fun S => by simp [zonesD]
  have pl := hp.lt
  refine does_def rfl ?_
  refine seq_cut (fun ρ S' => ∃ a : List Stp, Bag p (n + 800) S' ∧ GoB p S S' ∧ ProgFrom zs.length [.mom] a ∧ a.length ≤ 3 ∧ (∀ t, t ∈ a → t.isFind = false) ∧ cnt Stp.isEd a ≤ 1 ∧ ρ = [some (.cell p), some (zonesD zs), some (.int w), some (progD a), none, none, none, none, none, none]) (fun M hM => ?_) ?_
  · simp
    refine pick_does (n := n + 999) hp (by decide) (by decide) fun v S1 b1 g1 r0 r1 => ?_
    have lp := longer_plan_does (n := n + 800) (ts0 := []) (st := v) (a := 1) (b := 0) (c := 1) (d := 0) (S := S1) (p := p) (zs := zs) (Q := fun d S' => M [some (.cell p), some (zonesD zs), some (.int w), some d, none, none, none, none, none, none] S') (b1.mono (by omega)) z trivial (by simp; omega) (by omega) (by omega) (by omega) (by omega) (.inl rfl) fun ts S2 b2 g2 h1 h2 h3 h4 h5 => by
      rw [List.nil_append] at h1 ⊢
      exact hM _ _ ⟨ts, b2, g1.trans g2, h1, by omega, cnt_zero2 h4, h5, rfl⟩
    simpa [progD] using lp
  rintro ρ S1 ⟨a, b1, g1, pa, la, fa, ea, rfl⟩
  have kl := kinds_len (a := a)
  have hma : Kd.mom ∈ kindsFrom [.mom] a := kindsFrom_mem List.mem_cons_self
  refine seq_cut (fun ρ S' => ∃ r, r ≠ p ∧ S.length ≤ r ∧ S'[r]? = some (.lst ((kindsFrom [.mom] a).map Kd.d)) ∧ Bag p (n + 800) S' ∧ GoB p S S' ∧ ρ = [some (.cell p), some (zonesD zs), some (.int w), some (progD a), some (.cell r), none, none, none, none, none]) (fun M hM => ?_) ?_
  · simp
    refine kind_row_does pa (by omega) ?_
    exact hM _ _ ⟨S1.length, by have := g1.len; omega, g1.len, by simp, b1.push _, g1.trans (.push _), rfl⟩
  rintro ρ S2 ⟨r, hrp, hrS, c2, b2, g2, rfl⟩
  refine seq_cut (fun ρ S' => ∃ s : Nat, s < zs.length ∧ S'[r]? = some (.lst ((kindsFrom [.mom] a).map Kd.d)) ∧ Bag p (n + 799) S' ∧ GoB p S S' ∧ ρ = [some (.cell p), some (zonesD zs), some (.int w), some (progD a), some (.cell r), some (.int s), none, none, none, none]) (fun M hM => ?_) ?_
  · simp [lz]
    refine pick_does (n := n + 799) b2 (by omega) (by omega) fun v S3 b3 g3 r0 r1 => ?_
    refine hM _ _ ⟨v.toNat, by omega, g3.get c2 hrp, b3, g2.trans g3, ?_⟩
    rw [Int.toNat_of_nonneg r0]
  rintro ρ S3 ⟨s, hs, c3, b3, g3, rfl⟩
  refine seq_cut (fun ρ S' => ∃ i : Nat, (kindsFrom [.mom] a)[i]? = some .mom ∧ S'[r]? = some (.lst ((kindsFrom [.mom] a).map Kd.d)) ∧ Bag p (n + 700) S' ∧ GoB p S S' ∧ ρ = [some (.cell p), some (zonesD zs), some (.int w), some (progD a), some (.cell r), some (.int s), some (.int i), none, none, none]) (fun M hM => ?_) ?_
  · simp
    refine spot_does (n := n + 700) (k := .mom) (b3.mono (by omega)) c3 hrp hma (by omega) fun i S4 b4 g4 hi => ?_
    exact hM _ _ ⟨i, hi, g4.get c3 hrp, b4, g3.trans g4, rfl⟩
  rintro ρ S4 ⟨i, hi, c4, b4, g4, rfl⟩
  have hil := ix_len hi
  rw [kl] at hil
  have lr : ∀ S, S[r]? = some (.lst ((kindsFrom [.mom] a).map Kd.d)) → gLen S [.cell r] = some (.int ((a.length + 1 : Nat) : Int)) := fun S h => by
    rw [gLen_cell h]
    simp [kl]
  rcases (show w = 0 ∨ w = 1 ∨ w = 2 by omega) with rfl | rfl | rfl
  · -- read and find
    refine eqT_yes (by simp) fun N' => ?_
    refine seq_cut (fun ρ S' => ∃ f g, RuleF f ∧ RuleG g ∧ Bag p n S' ∧ GoB p S S' ∧ ρ = [some (.cell p), some (zonesD zs), some (.int (0 : Nat)), some (progD a), some (.cell r), some (.int s), some (.int i), some (.tup [(Stp.read i s).d, (Stp.find (a.length + 1) s f g).d]), none, none]) (fun M hM => ?_) ?_
    · simp [lr S4 c4]
      refine rules_does (n := n) (b4.mono (by omega)) fun f g S5 b5 g5 hf hg => ?_
      simp
      exact hM _ _ ⟨f, g, hf, hg, b5, g4.trans g5, by simp [Stp.d]⟩
    rintro ρ S5 ⟨f, g, hf, hg, b5, g5, rfl⟩
    have ok1 : ProgFrom zs.length [.mom] (a ++ [.read i s]) := progFrom_snoc pa ⟨hi, hs⟩
    have ok2 : ProgFrom zs.length [.mom] (a ++ [.read i s] ++ [.find (a.length + 1) s f g]) := progFrom_snoc ok1 ⟨by rw [kindsFrom_snoc, List.getElem?_append_right (by omega), kl]; simp [Stp.kind], hs, hf, hg⟩
    have fin := q (way0 a i s f g) s i S5 b5 g5 ⟨.w0 fa hil hf hg, ⟨by simp [way0]; omega, by simpa [way0] using ok2, by
      unfold way0
      have : cnt Stp.isEd a < 2 := by omega
      unfold cnt at this
      simp [Stp.isEd]
      omega⟩, hs⟩
    simp [progD]
    refine ⟨by omega, ?_⟩
    simpa [progD, way0] using fin
  · -- add, find and read
    refine eqT_no (k := ((1 : Nat) : Int)) rfl (by decide) (eqT_yes (by simp) fun N' => ?_)
    refine seq_cut (fun ρ S' => ∃ a' : List Stp, Bag p (n + 600) S' ∧ GoB p S S' ∧ ProgFrom zs.length [.mom] a' ∧ a'.length ≤ 4 ∧ (∀ t, t ∈ a' → t.isFind = false) ∧ cnt Stp.isEd a' ≤ 1 ∧ .rdg ∈ kindsFrom [.mom] a' ∧ S'[r]? = some (.lst ((kindsFrom [.mom] a').map Kd.d)) ∧
        ρ = [some (.cell p), some (zonesD zs), some (.int (1 : Nat)), some (progD a'), some (.cell r), some (.int s), some (.int i), none, none, none]) (fun M hM => ?_) ?_
    · have hrd := in_rowN c4 .rdg
      simp only [Kd.s] at hrd
      simp [hrd]
      by_cases c : Kd.rdg ∈ kindsFrom [.mom] a
      · simp [c]
        exact hM _ _ ⟨a, b4.mono (by omega), g4, pa, by omega, fa, ea, c, c4, rfl⟩
      · simp [c, lz]
        refine pick_does (n := n + 699) b4 (by omega) (by omega) fun v S5 b5 g5 r0 r1 => ?_
        have c5 := g5.get c4 hrp
        have hrl := (List.getElem?_eq_some_iff.mp c5).1
        have hv : (v : Int) = (v.toNat : Nat) := (Int.toNat_of_nonneg r0).symm
        have hvz : v.toNat < zs.length := by omega
        have pk : ProgFrom zs.length [.mom] (a ++ [.read i v.toNat]) := progFrom_snoc pa ⟨hi, hvz⟩
        simp [progD, c5]
        refine ⟨by omega, by omega, ?_⟩
        have fin := hM [some (.cell p), some (zonesD zs), some (.int (1 : Nat)), some (progD (a ++ [.read i v.toNat])), some (.cell r), some (.int s), some (.int i), none, none, none] (S5.set r (.lst ((kindsFrom [.mom] (a ++ [.read i v.toNat])).map Kd.d)))
          ⟨a ++ [.read i v.toNat], (b5.mono (by omega)).set hrp _, (g4.trans g5).setNew hrS _, pk, by simp; omega, fun t ht => by
            rcases List.mem_append.mp ht with ht | ht
            · exact fa t ht
            · simp at ht; subst ht; rfl, by rw [cnt_snoc]; simpa [Stp.isEd, bI] using ea, by rw [kindsFrom_snoc]; simp [Stp.kind], List.getElem?_set_self hrl, rfl⟩
        rw [kindsFrom_snoc] at fin
        simp only [Stp.kind, progD, Stp.d, List.map_append, List.map_cons, List.map_nil, ← hv] at fin
        exact fin
    rintro ρ S5 ⟨a', b5, g5, pa', la', fa', ea', hrd, c5, rfl⟩
    have kl' := kinds_len (a := a')
    have lr' : ∀ S, S[r]? = some (.lst ((kindsFrom [.mom] a').map Kd.d)) → gLen S [.cell r] = some (.int ((a'.length + 1 : Nat) : Int)) := fun S h => by
      rw [gLen_cell h]
      simp [kl']
    refine seq_cut (fun ρ S' => ∃ (j : Nat) (m : Int), (kindsFrom [.mom] a')[j]? = some .rdg ∧ (-100000 ≤ m ∧ m ≤ 100000) ∧ Bag p (n + 500) S' ∧ GoB p S S' ∧ S'[r]? = some (.lst ((kindsFrom [.mom] a').map Kd.d)) ∧
        ρ = [some (.cell p), some (zonesD zs), some (.int (1 : Nat)), some (progD a'), some (.cell r), some (.int s), some (.int i), some (.tup [(Stp.add j m).d]), none, none]) (fun M hM => ?_) ?_
    · simp
      refine spot_does (n := n + 505) (k := .rdg) (b5.mono (by omega)) c5 hrp hrd (by omega) fun j S6 b6 g6 hj => ?_
      refine minutes_does (n := n + 500) b6 z fun m S7 b7 g7 hm => ?_
      exact hM _ _ ⟨j, m, hj, hm, b7, (g5.trans g6).trans g7, g7.get (g6.get c5 hrp) hrp, by simp [Stp.d]⟩
    rintro ρ S6 ⟨j, m, hj, hm, b6, g6, c6, rfl⟩
    have hjl := ix_len hj
    rw [kl'] at hjl
    refine seq_cut (fun ρ S' => ∃ f g, RuleF f ∧ RuleG g ∧ Bag p n S' ∧ GoB p S S' ∧ S'[r]? = some (.lst ((kindsFrom [.mom] a').map Kd.d)) ∧
        ρ = [some (.cell p), some (zonesD zs), some (.int (1 : Nat)), some (progD a'), some (.cell r), some (.int s), some (.int i), some (.tup [(Stp.add j m).d, (Stp.find (a'.length + 1) s f g).d]), none, none]) (fun M hM => ?_) ?_
    · simp [lr' S6 c6]
      refine rules_does (n := n) (b6.mono (by omega)) fun f g S7 b7 g7 hf hg => ?_
      simp
      exact hM _ _ ⟨f, g, hf, hg, b7, g6.trans g7, g7.get c6 hrp, by simp [Stp.d]⟩
    rintro ρ S7 ⟨f, g, hf, hg, b7, g7, c7, rfl⟩
    have ok1 : ProgFrom zs.length [.mom] (a' ++ [.add j m]) := progFrom_snoc pa' ⟨.inr hj, hm⟩
    have kj : (kindsFrom [.mom] a').getD j .mom = .rdg := by rw [List.getD_eq_getElem?_getD, hj]; rfl
    have ok2 : ProgFrom zs.length [.mom] (a' ++ [.add j m] ++ [.find (a'.length + 1) s f g]) := progFrom_snoc ok1 ⟨by rw [kindsFrom_snoc, List.getElem?_append_right (by omega), kl']; simp [Stp.kind, hj], hs, hf, hg⟩
    have ok3 : ProgFrom zs.length [.mom] (a' ++ [.add j m] ++ [.find (a'.length + 1) s f g] ++ [.read (a'.length + 2) s]) := progFrom_snoc ok2 ⟨by rw [kindsFrom_snoc, kindsFrom_snoc, List.getElem?_append_right (by simp [kl'])]; simp [Stp.kind, kl'], hs⟩
    have fin := q (way1 a' j s m f g) s (a'.length + 1) S7 b7 g7 ⟨.w1 fa' hjl hf hg, ⟨by simp [way1]; omega, by simpa [way1] using ok3, by
      unfold way1
      have : cnt Stp.isEd a' < 2 := by omega
      unfold cnt at this
      simp [Stp.isEd]
      omega⟩, hs⟩
    simp [progD, lr' S7 c7]
    refine ⟨by omega, by omega, ?_⟩
    simpa [progD, way1, Stp.d, Int.add_assoc] using fin
  · -- read, offset and less
    refine eqT_no (k := ((2 : Nat) : Int)) rfl (by decide) (eqT_no (k := ((2 : Nat) : Int)) rfl (by decide) ?_)
    refine seq_cut (fun ρ S' => S4 = S' ∧ ρ = [some (.cell p), some (zonesD zs), some (.int (2 : Nat)), some (progD a), some (.cell r), some (.int s), some (.int i), some (.tup [(Stp.read i s).d]), none, none]) (fun M hM => ?_) ?_
    · simp
      exact hM _ _ ⟨rfl, by simp [Stp.d]⟩
    rintro ρ _ ⟨rfl, rfl⟩
    have en : gEq S4 (.lst ((a.filter Stp.isEd).map Stp.d)) (.lst []) = some (.bl (decide (a.filter Stp.isEd = []))) := gEq_steps (nz := zs.length) fun u hu => prog_each pa u (List.mem_filter.mp hu).1
    have rdok : ProgFrom zs.length [.mom] (a ++ [.read i s]) := progFrom_snoc pa ⟨hi, hs⟩
    have aln : gLen S4 [.cell r] = some (.int ((a.length + 1 : Nat) : Int)) := lr S4 c4
    refine seq_cut (fun ρ S' => ∃ (o : Option Int) (x8 : Option D), (∀ ah, o = some ah → (1 ≤ ah ∧ ah ≤ 100000) ∧ ∀ t, t ∈ a → t.isEd = false) ∧ Bag p n S' ∧ GoB p S S' ∧ S'[r]? = some (.lst ((kindsFrom [.mom] a).map Kd.d)) ∧
        ρ = [some (.cell p), some (zonesD zs), some (.int (2 : Nat)), some (progD a), some (.cell r), some (.int s), some (.int i), some (.tup (match o with
          | none => [(Stp.read i s).d]
          | some ah => [(Stp.read i s).d, (Stp.add i ah).d, (Stp.edition (a.length + 2) s).d])), x8, none]) (fun M hM => ?_) ?_
    · rw [does_ifS]
      have skip : M [some (.cell p), some (zonesD zs), some (.int (2 : Nat)), some (progD a), some (.cell r), some (.int s), some (.int i), some (.tup [(Stp.read i s).d]), none, none] S4 → True := fun _ => trivial
      have hskip : ∀ S', Bag p n S' → GoB p S4 S' → M [some (.cell p), some (zonesD zs), some (.int (2 : Nat)), some (progD a), some (.cell r), some (.int s), some (.int i), some (.tup [(Stp.read i s).d]), none, none] S' := fun S' b' g' =>
        hM _ _ ⟨none, none, (fun _ h => nomatch h), b', g4.trans g', g'.get c4 hrp, rfl⟩
      have hcond : ∀ (Q : D → Sto → Prop), (a.filter Stp.isEd ≠ [] → Q (.bl false) S4) → (a.filter Stp.isEd = [] → ∀ b S', Bag p (n + 600) S' → GoB p S4 S' → Q (.bl b) S') →
          (mAnd (mOp gEq (mFz (mLcA (mVar 3) (tgN 9) (mOp gEq (mOp gIx (mVar 9) (mK (.int 0))) (mK (.str "edition"))) (mVar 9) [9])) (mFz (mLst mNil))) (mOp gGt (mCall m_law_pick (mCons (mVar 0) (mCons (mK (.int 3)) mNil))) (mK (.int 0)))
            [some (.cell p), some (zonesD zs), some (.int (2 : Nat)), some (progD a), some (.cell r), some (.int s), some (.int i), some (.tup [(Stp.read i s).d]), none, none] S4).Does Q := by
        intro Q q1 q2
        simp [progD, wipeD]
        refine lcQ_filter (as := a) (i := Stp.d) Stp.isEd Stp.d ?_ ?_
        · intro t _
          refine ⟨_, rfl, fun Q q => ?_, fun Q _ q => ?_⟩
          · cases t <;> (simp (decide := true) [Stp.d, Stp.isEd] at q ⊢; exact q)
          · simp
            exact q
        · simp only [en]
          by_cases c : a.filter Stp.isEd = []
          · simp [c]
            refine pick_does (n := n + 600) (b4.mono (by omega)) (by decide) (by decide) fun v S5 b5 g5 r0 r1 => ?_
            simp
            exact q2 c _ _ b5 g5
          · simp [c]
            exact q1 c
      refine Res.Does.toE (hcond _ (fun _ => ?_) fun c b S5 b5 g5 => ?_)
      · simp
        exact hskip S4 (b4.mono (by omega)) .refl
      · cases b with
        | false =>
          simp
          exact hskip S5 (b5.mono (by omega)) g5
        | true =>
          have noed : ∀ t, t ∈ a → t.isEd = false := fun t ht => by
            cases e : t.isEd with
            | false => rfl
            | true =>
              have : t ∈ a.filter Stp.isEd := List.mem_filter.mpr ⟨ht, e⟩
              rw [c] at this
              cases this
          simp only [blQ_bl, if_true]
          refine seq_cut (fun ρ S' => ∃ ah : Int, (1 ≤ ah ∧ ah ≤ 100000) ∧ Bag p n S' ∧ GoB p S4 S' ∧ ρ = [some (.cell p), some (zonesD zs), some (.int (2 : Nat)), some (progD a), some (.cell r), some (.int s), some (.int i), some (.tup [(Stp.read i s).d]), some (.int ah), none]) (fun M2 hM2 => ?_) ?_
          · simp
            refine pick_does (n := n + 599) b5 (by decide) (by decide) fun v S6 b6 g6 r0 r1 => ?_
            simp
            refine pick_does (n := n) (b6.mono (by omega)) (by decide) (by decide) fun u S7 b7 g7 s0 s1 => ?_
            have e : u = 0 ∨ u = 1 ∨ u = 2 ∨ u = 3 := by omega
            rcases e with rfl | rfl | rfl | rfl
            · simp
              exact hM2 _ _ ⟨1, by decide, b7, (g5.trans g6).trans g7, rfl⟩
            · simp
              exact hM2 _ _ ⟨1, by decide, b7, (g5.trans g6).trans g7, rfl⟩
            · simp
              exact hM2 _ _ ⟨1 + v, by omega, b7, (g5.trans g6).trans g7, rfl⟩
            · have e3 : atI [D.int 1, D.int 1, D.int (1 + v), D.int 100000] 3 = some (.int 100000) := rfl
              simp [e3]
              exact hM2 _ _ ⟨100000, by decide, b7, (g5.trans g6).trans g7, rfl⟩
          rintro ρ S6 ⟨ah, hah, b6, g6, rfl⟩
          have c6 := g6.get c4 hrp
          simp [lr S6 c6]
          have fin := hM [some (.cell p), some (zonesD zs), some (.int (2 : Nat)), some (progD a), some (.cell r), some (.int s), some (.int i), some (.tup [(Stp.read i s).d, (Stp.add i ah).d, (Stp.edition (a.length + 2) s).d]), some (.int ah), none] S6 ⟨some ah, some (.int ah), (fun x hx => by cases hx; exact ⟨hah, noed⟩), b6, g4.trans g6, c6, rfl⟩
          simpa [Stp.d, Int.add_assoc] using fin
    rintro ρ S5 ⟨o, x8, ho, b5, g5, c5, rfl⟩
    have l5 := lr S5 c5
    have okw : ProgOK zs.length (way2 a i s o) := by
      cases o with
      | none =>
        have k1 : ProgFrom zs.length [.mom] (a ++ [.read i s] ++ [.offset i s]) := progFrom_snoc rdok ⟨by rw [kindsFrom_snoc, List.getElem?_append_left (by omega)]; exact hi, hs⟩
        have k2 : ProgFrom zs.length [.mom] (a ++ [.read i s] ++ [.offset i s] ++ [.less (a.length + 1) (a.length + 2)]) := progFrom_snoc k1 ⟨by
          rw [kindsFrom_snoc, kindsFrom_snoc, List.getElem?_append_left (by simp; omega), List.getElem?_append_right (by omega)]; simp [Stp.kind, kl], by
          rw [kindsFrom_snoc, List.getElem?_append_right (by rw [kindsFrom_snoc]; simp [kl])]; simp [Stp.kind, kindsFrom_snoc, kl]⟩
        refine ⟨by simp [way2]; omega, by simpa [way2] using k2, ?_⟩
        have : cnt Stp.isEd a < 2 := by omega
        unfold cnt at this
        simp [way2, Stp.isEd]
        omega
      | some ah =>
        obtain ⟨h1, h2⟩ := ho ah rfl
        have k1 : ProgFrom zs.length [.mom] (a ++ [.read i s] ++ [.add i ah]) := progFrom_snoc rdok ⟨.inl (by rw [kindsFrom_snoc, List.getElem?_append_left (by omega)]; exact hi), by omega, h1.2⟩
        have gk : ((kindsFrom [.mom] a) ++ [Kd.rdg])[i]? = some .mom := by rw [List.getElem?_append_left (by omega)]; exact hi
        have kk1 : kindsFrom [.mom] (a ++ [.read i s] ++ [.add i ah]) = kindsFrom [.mom] a ++ [.rdg] ++ [.mom] := by
          rw [kindsFrom_snoc, kindsFrom_snoc]
          simp only [Stp.kind, List.getD_eq_getElem?_getD, gk]
          rfl
        have k2 : ProgFrom zs.length [.mom] (a ++ [.read i s] ++ [.add i ah] ++ [.edition (a.length + 2) s]) := progFrom_snoc k1 ⟨by
          rw [kk1, List.getElem?_append_right (by simp [kl])]; simp [kl], hs⟩
        have kk2 : kindsFrom [.mom] (a ++ [.read i s] ++ [.add i ah] ++ [.edition (a.length + 2) s]) = kindsFrom [.mom] a ++ [.rdg] ++ [.mom] ++ [.mom] := by
          rw [kindsFrom_snoc, kk1]; rfl
        have k3 : ProgFrom zs.length [.mom] (a ++ [.read i s] ++ [.add i ah] ++ [.edition (a.length + 2) s] ++ [.offset i s]) := progFrom_snoc k2 ⟨by
          rw [kk2, List.getElem?_append_left (by simp; omega), List.getElem?_append_left (by simp; omega), List.getElem?_append_left (by omega)]; exact hi, hs⟩
        have kk3 : kindsFrom [.mom] (a ++ [.read i s] ++ [.add i ah] ++ [.edition (a.length + 2) s] ++ [.offset i s]) = kindsFrom [.mom] a ++ [.rdg] ++ [.mom] ++ [.mom] ++ [.spn] := by
          rw [kindsFrom_snoc, kk2]; rfl
        have k4 : ProgFrom zs.length [.mom] (a ++ [.read i s] ++ [.add i ah] ++ [.edition (a.length + 2) s] ++ [.offset i s] ++ [.less (a.length + 1) (a.length + 4)]) := progFrom_snoc k3 ⟨by
          rw [kk3, List.getElem?_append_left (by simp; omega), List.getElem?_append_left (by simp; omega), List.getElem?_append_left (by simp; omega), List.getElem?_append_right (by omega)]; simp [kl], by
          rw [kk3, List.getElem?_append_right (by simp [kl])]; simp [kl]⟩
        refine ⟨by simp [way2]; omega, by simpa [way2] using k4, ?_⟩
        have e0 : a.filter Stp.isEd = [] := List.filter_eq_nil_iff.mpr fun t ht => by rw [h2 t ht]; decide
        simp [way2, Stp.isEd, e0]
        show (1 : Nat) < 2
        decide
    have fin := q (way2 a i s o) s i S5 b5 g5 ⟨.w2 fa hil fun ah h => ⟨(ho ah h).1.1, (ho ah h).2⟩, okw, hs⟩
    cases o with
    | none =>
      simp [progD, l5]
      refine ⟨by omega, ?_⟩
      simpa [progD, way2, Stp.d, Int.add_assoc] using fin
    | some ah =>
      simp [progD, l5]
      refine ⟨by omega, ?_⟩
      simpa [progD, way2, Stp.d, Int.add_assoc] using fin
end
end Dm
-- text HmTh4
namespace Dm
open PySem L2
section
variable {S : Sto} {zs : Zs} {tb later : List Tb} {ts a : List Stp} {p i n k : Nat} {st : Int} {f g : Str}
/-! ### what becomes of a run, as told -/
def ranQ (Q : D → Sto → Prop) (S : Sto) : Fin → Prop
  | .done vs => ∀ S' n, Grow S S' → S'[n]? = some (.lst (vs.map .int)) → Q (.tup [.str "", .cell n]) S'
  | .refused _ k => ∀ S', Grow S S' → Q (.tup [.str "refused", .int k]) S'
  | .unsuited => ∀ S', Grow S S' → Q (.tup [.str "unsuited", .non]) S'
theorem ran_shape {Q : D → Sto → Prop} (z : ZsOK zs) (hok : ProgOK zs.length ts) (tk : TbsOK zs tb) (tl : TbsOK zs later) (q : ranQ Q S (followS agP zs later tb 0 [st] ts)) :
    (m_law_ran [zonesD zs, progD ts, worldD tb later, .int st] S).Does Q := by
  refine does_def rfl ?_
  simp [tgU]
  refine run_does z hok tk tl ?_
  cases e : followS agP zs later tb 0 [st] ts with
  | done vs =>
    intro S' n g hn hc
    rw [e] at q
    try simp
    exact q _ _ g hc
  | refused vs k =>
    intro S' g
    rw [e] at q
    refine ⟨[("step", (k : Int))], rfl, by simp, ?_⟩
    have h1 : xSub "Refused" "Refused" = true := by decide +kernel
    simp [h1, setI, clearI]
    have := q S' g
    simpa using this
  | unsuited =>
    intro S' g
    rw [e] at q
    refine ⟨[], rfl, by simp, ?_⟩
    have h1 : xSub "Unsuited" "Refused" = false := by decide +kernel
    have h2 : xSub "Unsuited" "Unsuited" = true := by decide +kernel
    simp [h1, h2, setI, clearI]
    have := q S' g
    simpa using this
/-! ### steps as data -/
def thPy : Stp → PyData
  | .read i p => .tuple [.str "read", .int i, .int p]
  | .find i p f g => .tuple [.str "find", .int i, .int p, .str f, .str g]
  | .offset i p => .tuple [.str "offset", .int i, .int p]
  | .edition i p => .tuple [.str "edition", .int i, .int p]
  | .plus i j => .tuple [.str "plus", .int i, .int j]
  | .less i j => .tuple [.str "less", .int i, .int j]
  | .add i m => .tuple [.str "add", .int i, .int m]
theorem th_py {t : Stp} : toPy t.d = some (thPy t) := by cases t <;> rfl
theorem ths_py : ∀ {ts : List Stp}, toPys (ts.map Stp.d) = some (ts.map thPy)
  | [] => rfl
  | t :: ts => by
    rw [List.map_cons, toPys, th_py, ths_py (ts := ts)]; rfl
theorem th_lay {nz : Nat} {row : List Kd} {t : Stp} (h : t.OK nz row) : (thPy t).canLay0 = true ∧ (thPy t).depth ≤ 1 := by
  obtain ⟨q, e, h1, h2⟩ := stp_py h
  rw [th_py] at e
  cases e
  exact ⟨h1, h2⟩
theorem ths_lay {nz : Nat} : ∀ {ts : List Stp}, (∀ t, t ∈ ts → ∃ row, t.OK nz row) → PyData.canLayAll0 (ts.map thPy) = true ∧ PyData.depthAll (ts.map thPy) ≤ 1
  | [], _ => by simp [PyData.canLayAll0, PyData.depthAll]
  | t :: ts, h => by
    obtain ⟨row, ho⟩ := h t List.mem_cons_self
    have h1 := th_lay ho
    have h2 := ths_lay (ts := ts) fun u hu => h u (List.mem_cons_of_mem _ hu)
    simp only [List.map_cons, PyData.canLayAll0, PyData.depthAll, h1.1, h2.1, Bool.and_self, true_and]
    omega
theorem ths_shaped {nz : Nat} (h : ∀ t, t ∈ ts → ∃ row, t.OK nz row) : SeqAt.shaped (.tuple (ts.map thPy)) = true := by
  have h := ths_lay h
  simp [SeqAt.shaped, PyData.canLay0, PyData.depth, h.1]
  omega
theorem th_shaped {nz : Nat} {row : List Kd} {t : Stp} (h : t.OK nz row) : SeqAt.shaped (thPy t) = true := by
  have h := th_lay h
  simp [SeqAt.shaped, h.1]
  omega
theorem th_find {t : Stp} (h : t.isFind = false) : PyData.eqv (thPy t) (thPy (.find i p f g)) = false := by
  cases t with
  | find => exact absurd h (by simp [Stp.isFind])
  | _ => simp (decide := true) [thPy, PyData.eqv, PyData.eqvAll]
theorem th_self {t : Stp} : PyData.eqv (thPy t) (thPy t) = true := by
  cases t <;> simp [thPy, PyData.eqv, PyData.eqvAll]
theorem find_ix {nz : Nat} {b : List Stp} (ho : ∀ t, t ∈ a ++ .find i p f g :: b → ∃ row, t.OK nz row) (h : ∀ t, t ∈ a → t.isFind = false) : ixT S (progD (a ++ .find i p f g :: b)) (Stp.find i p f g).d = some a.length := by
  have e1 : toPyS S (progD (a ++ .find i p f g :: b)) = some (.tuple ((a ++ .find i p f g :: b).map thPy)) := by
    show (toPys _).map PyData.tuple = _
    rw [ths_py]; rfl
  have e2 : toPyS S (Stp.find i p f g).d = some (thPy (.find i p f g)) := th_py
  unfold ixT
  rw [e1, e2]
  simp only
  obtain ⟨row, hr⟩ := ho (.find i p f g) (by simp)
  rw [if_pos ⟨ths_shaped ho, th_shaped hr⟩, List.findIdx?_map, List.findIdx?_append]
  have h0 : List.findIdx? ((fun x => PyData.eqv x (thPy (.find i p f g))) ∘ thPy) a = none := by
    rw [List.findIdx?_eq_none_iff]
    intro t ht
    exact th_find (h t ht)
  rw [h0, List.findIdx?_cons]
  simp [th_self]
def thirdD (t : Stp) : D := match t with
  | .read _ p => .int p
  | .find _ p _ _ => .int p
  | .offset _ p => .int p
  | .edition _ p => .int p
  | .plus _ j => .int j
  | .less _ j => .int j
  | .add _ m => .int m
def wordD (t : Stp) : D := match t with
  | .read _ _ => .str "read"
  | .find _ _ _ _ => .str "find"
  | .offset _ _ => .str "offset"
  | .edition _ _ => .str "edition"
  | .plus _ _ => .str "plus"
  | .less _ _ => .str "less"
  | .add _ _ => .str "add"
theorem ix_word {t : Stp} : gIx S t.d (.int 0) = some (wordD t) := by cases t <;> rfl
theorem ix_third {t : Stp} : gIx S t.d (.int 2) = some (thirdD t) := by cases t <;> rfl
theorem word_ok {t : Stp} {x : Str} (h : wordD t = .str x) : PyData.strOk x = true := by
  cases t <;> (injection h with h; subst h; decide +kernel)
theorem ed_in {p : Nat} : gIn2 false S (.tup [.str "edition", .int p]) (.lst (ts.map fun t => .tup [wordD t, thirdD t])) = some (.bl (hasEd ts p)) := by
  have e1 : toPyS S (.tup [.str "edition", .int p]) = some (.tuple [.str "edition", .int p]) := rfl
  have h : ∀ l : List Stp, ∃ qs, toPys (l.map fun t => D.tup [wordD t, thirdD t]) = some qs ∧ PyData.canLayAll0 qs = true ∧ PyData.depthAll qs ≤ 1 ∧ qs.any (fun e => PyData.eqv e (.tuple [.str "edition", .int p])) = hasEd l p := by
    intro l
    induction l with
    | nil => exact ⟨[], rfl, rfl, by simp [PyData.depthAll], rfl⟩
    | cons t l ih =>
      obtain ⟨qs, i1, i2, i3, i4⟩ := ih
      have one : ∃ x, toPy (.tup [wordD t, thirdD t]) = some x ∧ x.canLay0 = true ∧ x.depth ≤ 1 ∧ PyData.eqv x (.tuple [.str "edition", .int p]) = (t.isEd && decide (t.place = p)) := by
        have w0 := fun x => word_ok (t := t) (x := x)
        cases t with
        | edition j q =>
          have w := w0 _ rfl
          refine ⟨.tuple [.str "edition", .int q], rfl, by simp [PyData.canLay0, PyData.canLayAll0, w], by simp [PyData.depth, PyData.depthAll], ?_⟩
          simp [PyData.eqv, PyData.eqvAll, Stp.isEd, Stp.place]
          by_cases c : q = p
          · subst c; simp
          · have : ¬ ((q : Int) = (p : Int)) := by omega
            simp [c, this]
        | _ =>
          have w := w0 _ rfl
          exact ⟨.tuple [.str _, .int _], rfl, by simp [PyData.canLay0, PyData.canLayAll0, w], by simp [PyData.depth, PyData.depthAll], by simp (decide := true) [PyData.eqv, PyData.eqvAll, Stp.isEd]⟩
      obtain ⟨x, x1, x2, x3, x4⟩ := one
      refine ⟨x :: qs, by rw [List.map_cons, toPys, x1, i1]; rfl, by simp [PyData.canLayAll0, x2, i2], by simp only [PyData.depthAll]; omega, ?_⟩
      rw [List.any_cons, x4, i4]
      rfl
  obtain ⟨qs, i1, i2, i3, i4⟩ := h ts
  have e2 : toPyS S (.lst (ts.map fun t => .tup [wordD t, thirdD t])) = some (.list qs) := by
    show (toPys _).map PyData.list = _
    rw [i1]; rfl
  unfold gIn2
  rw [e1, e2]
  simp only
  have w : PyData.strOk ("edition" : Str) = true := by decide +kernel
  rw [if_pos ⟨by simp [SeqAt.shaped, PyData.canLay0, PyData.canLayAll0, PyData.depth, PyData.depthAll, w], by simp [SeqAt.shaped, PyData.canLay0, PyData.depth, i2]; omega⟩, i4]
  rfl
theorem in_rules {t : D} {i p : Nat} : gIn false S (.str "refuse") (.tup [.str "find", .int i, .int p, .str f, .str g]) = some (.bl (decide (f = "refuse") || decide (g = "refuse"))) := by
  unfold gIn
  simp (decide := true) [flatD, eqF]
  have e0 : (Str.ofString "find" == Str.ofString "refuse") = false := by decide +kernel
  rw [e0, Bool.false_or, Bool.eq_iff_iff]
  simp
/-! ### the moments with a reading, as the law lists them -/
def fitsA (os : List Int) (T : Tb) (r : Int) : List Int := (os.filter fun o => T.of (r - o) == o).map fun o => r - o
theorem fitsA_rev {os : List Int} {T : Tb} {r : Int} : fitsA os T r = (momsOf os T.1 T.2 r).reverse := by
  unfold fitsA momsOf
  rw [← List.map_reverse, ← List.filter_reverse, List.reverse_reverse]
  rfl
theorem at_lastT {α : Type} {l : List α} {x : α} : atI (l ++ [x]) (-1) = some x := by
  have e : ((-1 : Int) + ((l.length : Int) + 1)).toNat = l.length := by omega
  have h : (1 : Int) ≤ (l.length : Int) + 1 := by omega
  simp [atI, ixN, e, h]
theorem at_last2T {α : Type} {l : List α} {x y : α} : atI (l ++ [x, y]) (-2) = some x := by
  have e : ((-2 : Int) + ((l.length : Int) + 2)).toNat = l.length := by omega
  have h : (2 : Int) ≤ (l.length : Int) + 2 := by omega
  simp [atI, ixN, e, h]
theorem at_old {vs ws : List Int} {i : Nat} (h : i < vs.length) : atI ((vs ++ ws).map D.int) (i : Int) = some (.int (getV vs i)) := by
  rw [atI_of (by omega) (by rw [List.length_map, List.length_append]; omega), Int.toNat_natCast, List.getElem?_map, List.getElem?_append_left h, getV_at h]
  rfl
/-! ### the end of a run -/
theorem fits_does {os : List Int} {s r : Int} {T : Tb} {ρ : Rho} {Q : List D → Sto → Prop} {me : ME} (z : ZoneOK os s) (t : TabOK os s T.1 T.2) (h11 : 11 < ρ.length) (h2 : ρ[2]? = some (some (tabD T.1 T.2)))
    (hm : ∀ (o : Int) (Q : D → Sto → Prop), Q (.int r) S → (me (ρ.set 11 (some (.int o))) S).Does Q) (q : Q ((fitsA os T r).map .int) S) :
    LcQ (tgN 11) (mOp gEq (mCall m_law_holds (mCons (mVar 2) (mCons (mOp gSub me (mVar 11)) mNil))) (mVar 11)) (mOp gSub me (mVar 11)) ρ (os.map .int) S Q := by
  refine lcQ_filter (as := os) (i := D.int) (fun o => T.of (r - o) == o) (fun o => .int (r - o)) ?_ ?_
  · intro o _
    have e2 : (ρ.set 11 (some (.int o)))[2]? = some (some (tabD T.1 T.2)) := by rw [List.getElem?_set_ne (by decide)]; exact h2
    have e11 : (ρ.set 11 (some (.int o)))[11]? = some (some (.int o)) := List.getElem?_set_self h11
    refine ⟨ρ.set 11 (some (.int o)), by simp [tgN, h11], fun Q q => ?_, fun Q _ q => ?_⟩
    · simp [e2, e11]
      refine hm o _ ?_
      simp [law_holds_ok z t]
      exact q
    · simp [e11]
      refine hm o _ ?_
      simp
      exact q
  · have e : (os.filter fun o => T.of (r - o) == o).map (fun o => D.int (r - o)) = (fitsA os T r).map .int := by
      unfold fitsA
      rw [List.map_map]; rfl
    rw [e]
    exact q
end
end Dm
-- text HmTh5
namespace Dm
open PySem L2
section
variable {S : Sto} {zs : Zs} {tb later : List Tb} {ts a b : List Stp} {p s i n k sp : Nat} {st r w : Int} {f g : Str} {T : Tb} {vs us : List Int} {Q : D → Sto → Prop}
/-- the only find of a program -/
structure OneF (nz : Nat) (ts a b : List Stp) (i p : Nat) (f g : Str) : Prop where
  e : ts = a ++ .find i p f g :: b
  ha : ∀ t, t ∈ a → t.isFind = false
  hb : ∀ t, t ∈ b → t.isFind = false
  ok : ∀ t, t ∈ ts → ∃ row, t.OK nz row
theorem filt_none {l : List Stp} (h : ∀ t, t ∈ l → t.isFind = false) : l.filter Stp.isFind = [] := List.filter_eq_nil_iff.mpr fun t ht => by rw [h t ht]; decide
/-- its beginning: the way, what is told, the find -/
theorem ends_head {way : Str} {ch : D} {B : MS} {ρ0 : Rho} {M M1 M2 : Rho → Sto → Prop} {EO : EXO} (o : OneF zs.length ts a b i p f g) {td : D}
    (k : (B [some (zonesD zs), some (progD ts), some ch, some (.int s), some (.int sp), some (.tup [.str way, td]), some (.str way), some td, some (Stp.find i p f g).d, none, none, none] S).DoesE EO M Q M1 M2)
    (h0 : ρ0 = [some (zonesD zs), some (progD ts), some ch, some (.int s), some (.int sp), some (.tup [.str way, td]), none, none, none, none, none, none]) :
    (mSeq (mAsgG (tgU 2 (tgCons (tgN 6) (tgCons (tgN 7) tgNil))) (mVar 5)) (mSeq (mAsg 8 (mOp gIx (mFz (mLcA (mVar 1) (tgN 10) (mOp gEq (mOp gIx (mVar 10) (mK (.int 0))) (mK (.str "find"))) (mVar 10) [10])) (mK (.int (-1))))) B) ρ0 S).DoesE EO M Q M1 M2 := by
  subst h0
  refine seq_cut (fun ρ S' => S = S' ∧ ρ = [some (zonesD zs), some (progD ts), some ch, some (.int s), some (.int sp), some (.tup [.str way, td]), some (.str way), some td, none, none, none, none]) (fun M hM => ?_) ?_
  · simp [tgU]
    exact hM _ _ ⟨rfl, rfl⟩
  rintro ρ _ ⟨rfl, rfl⟩
  refine seq_cut (fun ρ S' => S = S' ∧ ρ = [some (zonesD zs), some (progD ts), some ch, some (.int s), some (.int sp), some (.tup [.str way, td]), some (.str way), some td, some (Stp.find i p f g).d, none, none, none]) (fun M hM => ?_) ?_
  · simp [progD, wipeD]
    refine lcQ_filter (as := ts) (i := Stp.d) Stp.isFind Stp.d ?_ ?_
    · intro t _
      refine ⟨_, rfl, fun Q q => ?_, fun Q _ q => ?_⟩
      · cases t <;> (simp (decide := true) [Stp.d, Stp.isFind] at q ⊢; exact q)
      · simp
        exact q
    · have e : ts.filter Stp.isFind = [.find i p f g] := by
        rw [o.e, List.filter_append, filt_none o.ha, List.filter_cons_of_pos (by rfl), filt_none o.hb]; rfl
      rw [e]
      have e2 : atI [(Stp.find i p f g).d] (-1) = some (Stp.find i p f g).d := rfl
      simp [e2]
      exact hM _ _ ⟨rfl, rfl⟩
  rintro ρ _ ⟨rfl, rfl⟩
  exact k
theorem ends_ref {ch : D} (o : OneF zs.length ts a b i p f g) (hr : f = "refuse" ∨ g = "refuse") (q : Q (.bl true) S) :
    (m_law_ends [zonesD zs, progD ts, ch, .int s, .int sp, .tup [.str "refused", .int a.length]] S).Does Q := by
  refine does_def rfl ?_
  refine ends_head o ?_ rfl
  have e : ixT S (progD ts) (Stp.find i p f g).d = some a.length := by rw [o.e]; exact find_ix (nz := zs.length) (by rw [← o.e]; exact o.ok) o.ha
  have e2 : gIn false S (.str "refuse") (Stp.find i p f g).d = some (.bl true) := by
    show gIn false S (.str "refuse") (.tup [.str "find", .int i, .int p, .str f, .str g]) = _
    rw [in_rules (t := .non)]
    rcases hr with rfl | rfl <;> simp
  refine ifS_yesT (fun Q q => ?_) fun N' => ?_
  · simp
    exact q
  · have ep : ∃ l, progD ts = .tup l := ⟨_, rfl⟩
    simp [ep, e, e2]
    exact q
theorem ix_lastP {ts0 : List Stp} {t : Stp} (e : ts = ts0 ++ [t]) : gIx S (progD ts) (.int (-1)) = some t.d := by
  have h := at_lastT (l := ts0.map Stp.d) (x := t.d)
  subst e
  simpa [progD] using h
theorem ints_nilT {l : List Int} : gEq S (.lst (l.map .int)) (.lst []) = some (.bl l.isEmpty) := by
  have h1 : ∀ l : List Int, PyData.canLayAll0 (l.map .int) = true ∧ PyData.depthAll (l.map .int) ≤ 1 ∧ toPys (l.map D.int) = some (l.map .int) := by
    intro l
    induction l with
    | nil => exact ⟨rfl, by simp [PyData.depthAll], rfl⟩
    | cons x l ih =>
      obtain ⟨a1, a2, a3⟩ := ih
      refine ⟨by simp [PyData.canLayAll0, PyData.canLay0, a1], ?_, by rw [List.map_cons, toPys, a3]; rfl⟩
      simp [PyData.depthAll, PyData.depth]
      omega
  obtain ⟨a1, a2, a3⟩ := h1 l
  have e1 : toPyS S (.lst (l.map .int)) = some (.list (l.map .int)) := by
    show (toPys (l.map .int)).map PyData.list = _
    rw [a3]; rfl
  have e2 : toPyS S (.lst []) = some (.list []) := rfl
  show (match toPyS S (.lst (l.map .int)), toPyS S (.lst []) with
    | some p, some q => if SeqAt.shaped p = true ∧ SeqAt.shaped q = true then some (PyData.eqv p q) else none
    | _, _ => none).map D.bl = _
  rw [e1, e2]
  simp only
  rw [if_pos ⟨by simp [SeqAt.shaped, PyData.canLay0, PyData.depth, a1]; omega, by simp [SeqAt.shaped, PyData.canLay0, PyData.depth, PyData.canLayAll0, PyData.depthAll]⟩]
  cases l <;> simp [PyData.eqv, PyData.eqvAll]
theorem ends_read {ts0 : List Stp} {i2 p2 : Nat} (z : ZsOK zs) (hs : s < zs.length) (t : TabOK (getZ zs s).1 (getZ zs s).2 T.1 T.2) (o : OneF zs.length ts a b i p f g) (el : ts = ts0 ++ [.read i2 p2])
    (hc : S[n]? = some (.lst ((vs ++ [r, w, w + T.of w]).map .int))) (hsp : sp = vs.length) (hw : momsOf (getZ zs s).1 T.1 T.2 r = [] ∨ w ∈ momsOf (getZ zs s).1 T.1 T.2 r) (q : Q (.bl true) S) :
    (m_law_ends [zonesD zs, progD ts, tabD T.1 T.2, .int s, .int sp, .tup [.str "", .cell n]] S).Does Q := by
  have zh := z.at hs
  refine does_def rfl ?_
  refine ends_head o ?_ rfl
  have h1 : atI ((vs ++ [r, w, w + T.of w]).map D.int) (-1) = some (.int (w + T.of w)) := by
    have := at_lastT (l := (vs ++ [r, w]).map D.int) (x := .int (w + T.of w))
    simpa using this
  have h2 : atI ((vs ++ [r, w, w + T.of w]).map D.int) (-2) = some (.int w) := by
    have := at_last2T (l := (vs ++ [r]).map D.int) (x := .int w) (y := .int (w + T.of w))
    simpa using this
  have h3 : atI ((vs ++ [r, w, w + T.of w]).map D.int) (sp : Int) = some (.int r) := by
    have := at_old (vs := vs ++ [r]) (ws := [w, w + T.of w]) (i := sp) (by simp; omega)
    rw [gv_new hsp.symm] at this
    simpa using this
  have i1 : gIx S (.cell n) (.int (-1)) = some (.int (w + T.of w)) := by rw [gIx_cell hc]; exact h1
  have i2' : gIx S (.cell n) (.int (-2)) = some (.int w) := by rw [gIx_cell hc]; exact h2
  have i3 : gIx S (.cell n) (.int sp) = some (.int r) := by rw [gIx_cell hc]; exact h3
  have il := ix_lastP (S := S) el
  refine ifS_noT (fun Q q => ?_) ?_
  · have e0 : (("" : Str) == "refused") = false := by decide +kernel
    simp [e0]
    exact q
  refine ifS_yesT (fun Q q => ?_) fun N' => ?_
  · simp [il, Stp.d]
    exact q
  refine seq_cut (fun ρ S' => S = S' ∧ ρ = [some (zonesD zs), some (progD ts), some (tabD T.1 T.2), some (.int s), some (.int sp), some (.tup [.str "", .cell n]), some (.str ""), some (.cell n), some (Stp.find i p f g).d, some (.lst ((fitsA (getZ zs s).1 T r).map .int)), none, none]) (fun M hM => ?_) ?_
  · have hz := ix_zones (S := S) hs
    have hz0 : gIx S (zoneD (getZ zs s).1 (getZ zs s).2) (.int 0) = some (.tup ((getZ zs s).1.map .int)) := by simp [zoneD]
    simp [hz, hz0, wipeD]
    refine fits_does (r := r) zh t (by simp) rfl (fun o Q q => ?_) ?_
    · simp [i3]
      exact q
    · exact hM _ _ ⟨rfl, rfl⟩
  rintro ρ _ ⟨rfl, rfl⟩
  have hl := law_holds_ok (S := S) (m := w) zh t
  have hl' : m_law_holds [tabD T.1 T.2, .int w] S = .ok (.int (T.of w)) S := hl
  have hnl := ints_nilT (S := S) (l := fitsA (getZ zs s).1 T r)
  simp [i1, i2', i3, hl']
  rw [hnl]
  cases he : (fitsA (getZ zs s).1 T r).isEmpty with
  | true =>
    simp
    exact q
  | false =>
    rcases hw with hw | hw
    · rw [fitsA_rev, hw] at he
      cases he
    · have ew := (mom_iff (r := r) zh t).mp hw
      have e1 : w + T.of w = r := by omega
      rw [e1] at i1
      simp [i1, i3]
      exact q
theorem ends_find {ts0 : List Stp} {x : Int} (z : ZsOK zs) (hs : s < zs.length) (t : TabOK (getZ zs s).1 (getZ zs s).2 T.1 T.2) (o : OneF zs.length ts a b i p f g) (el : ts = ts0 ++ [.find i p f g])
    (hc : S[n]? = some (.lst ((vs ++ [r, w]).map .int))) (hsp : sp < vs.length) (hx : getV vs sp = x) (hf : RuleF f)
    (hw : (momsOf (getZ zs s).1 T.1 T.2 r = [x] ∧ w = x) ∨ ∃ m m', momsOf (getZ zs s).1 T.1 T.2 r = [m, m'] ∧ m < m' ∧ (x = m ∨ x = m') ∧ ((f = "early" ∧ w = m) ∨ (f = "late" ∧ w = m'))) (q : ∀ S', Grow S S' → Q (.bl true) S') :
    (m_law_ends [zonesD zs, progD ts, tabD T.1 T.2, .int s, .int sp, .tup [.str "", .cell n]] S).Does Q := by
  have zh := z.at hs
  refine does_def rfl ?_
  refine ends_head o ?_ rfl
  have h1 : atI ((vs ++ [r, w]).map D.int) (-1) = some (.int w) := by
    have := at_lastT (l := (vs ++ [r]).map D.int) (x := .int w)
    simpa using this
  have h2 : atI ((vs ++ [r, w]).map D.int) (-2) = some (.int r) := by
    have := at_last2T (l := vs.map D.int) (x := .int r) (y := .int w)
    simpa using this
  have h3 : atI ((vs ++ [r, w]).map D.int) (sp : Int) = some (.int x) := by
    have := at_old (vs := vs) (ws := [r, w]) (i := sp) hsp
    rw [hx] at this
    exact this
  have i1 : ∀ S', Grow S S' → gIx S' (.cell n) (.int (-1)) = some (.int w) := fun S' g => by rw [gIx_cell (g.get hc)]; exact h1
  have i2' : ∀ S', Grow S S' → gIx S' (.cell n) (.int (-2)) = some (.int r) := fun S' g => by rw [gIx_cell (g.get hc)]; exact h2
  have i3 : ∀ S', Grow S S' → gIx S' (.cell n) (.int sp) = some (.int x) := fun S' g => by rw [gIx_cell (g.get hc)]; exact h3
  have il := ix_lastP (S := S) el
  refine ifS_noT (fun Q q => ?_) ?_
  · have e0 : (("" : Str) == "refused") = false := by decide +kernel
    simp [e0]
    exact q
  refine ifS_noT (fun Q q => ?_) ?_
  · have e0 : (("find" : Str) == "read") = false := by decide +kernel
    simp [il, Stp.d, e0]
    exact q
  refine seq_cut (fun ρ S' => S = S' ∧ ρ = [some (zonesD zs), some (progD ts), some (tabD T.1 T.2), some (.int s), some (.int sp), some (.tup [.str "", .cell n]), some (.str ""), some (.cell n), some (Stp.find i p f g).d, some (.lst ((fitsA (getZ zs s).1 T r).map .int)), none, none]) (fun M hM => ?_) ?_
  · have hz := ix_zones (S := S) hs
    have hz0 : gIx S (zoneD (getZ zs s).1 (getZ zs s).2) (.int 0) = some (.tup ((getZ zs s).1.map .int)) := by simp [zoneD]
    simp [hz, hz0, wipeD]
    refine fits_does (r := r) zh t (by simp) rfl (fun o Q q => ?_) ?_
    · simp [i2' S .refl]
      exact q
    · exact hM _ _ ⟨rfl, rfl⟩
  rintro ρ _ ⟨rfl, rfl⟩
  rw [fitsA_rev]
  have inn : ∀ (l : List Int) (y : Int), y ∈ l → gIn true S (.int y) (.lst (l.map .int)) = some (.bl false) := fun l y hy => by
    unfold gIn
    simp [flatD, eqF, hy]
  have gd : gIx S (Stp.find i p f g).d (.int 3) = some (.str f) := rfl
  obtain ⟨l, hl, xin, win, hv⟩ : ∃ l : List Int, (momsOf (getZ zs s).1 T.1 T.2 r).reverse = l ∧ x ∈ l ∧ w ∈ l ∧ 0 < l.length ∧ ((f = "early" ∧ mnI l = w) ∨ (f = "late" ∧ mxI l = w) ∨ (f = "refuse" ∧ w = x)) := by
    rcases hw with ⟨e, rfl⟩ | ⟨m, m', e, hlt, hxm, hwm⟩
    · refine ⟨[w], by rw [e]; rfl, by simp, by simp, by simp, ?_⟩
      rcases hf with rfl | rfl | rfl
      · exact .inl ⟨rfl, rfl⟩
      · exact .inr (.inl ⟨rfl, rfl⟩)
      · exact .inr (.inr ⟨rfl, rfl⟩)
    · refine ⟨[m', m], by rw [e]; rfl, ?_, ?_, by simp, ?_⟩
      · rcases hxm with rfl | rfl <;> simp
      · rcases hwm with ⟨_, rfl⟩ | ⟨_, rfl⟩ <;> simp
      · rcases hwm with ⟨rfl, rfl⟩ | ⟨rfl, rfl⟩
        · exact .inl ⟨rfl, by simp [mnI]; omega⟩
        · exact .inr (.inl ⟨rfl, by simp [mxI]; omega⟩)
  obtain ⟨hlen, hv⟩ := hv
  rw [hl]
  refine ifS_noT (fun Q q => ?_) ?_
  · simp [i1 S .refl, i3 S .refl, inn l x xin, inn l w win]
    exact q
  have hmn : ∀ S', gMin1 S' [.lst (l.map .int)] = some (.int (mnI l)) := fun S' => gMin1_ints rfl hlen
  have hmx : ∀ S', gMax1 S' [.lst (l.map .int)] = some (.int (mxI l)) := fun S' => gMax1_ints rfl hlen
  have gd' : ∀ S', gIx S' (Stp.find i p f g).d (.int 3) = some (.str f) := fun _ => rfl
  have j1 := i1 S .refl
  have j3 : ∀ c, gIx (S ++ [c]) (.cell n) (.int sp) = some (.int x) := fun c => i3 _ ⟨_, rfl⟩
  rcases hv with ⟨rfl, e⟩ | ⟨rfl, e⟩ | ⟨rfl, e⟩
  · simp (decide := true) [j1, hmn, hmx, gd', j3, keysD, keyD, dicOf, mergeD, putD, valD, e]
    exact q _ ⟨_, rfl⟩
  · simp (decide := true) [j1, hmn, hmx, gd', j3, keysD, keyD, dicOf, mergeD, putD, valD, e]
    exact q _ ⟨_, rfl⟩
  · simp (decide := true) [j1, hmn, hmx, gd', j3, keysD, keyD, dicOf, mergeD, putD, valD, e]
    exact q _ ⟨_, rfl⟩
end
end Dm
-- text HmTh6
namespace Dm
open PySem L2
section
variable {S : Sto} {zs : Zs} {tb later : List Tb} {ts a b : List Stp} {p s i n k w : Nat} {st : Int} {vs ws : List Int} {Q : D → Sto → Prop}
theorem prog_oks (ok : ProgOK zs.length ts) : ∀ t, t ∈ ts → ∃ row, t.OK zs.length row := prog_each ok.steps
theorem back_chart {way : Str} {td : D} {B : MS} {ρ0 : Rho} {M M1 M2 : Rho → Sto → Prop} {EO : EXO} (tk : TbsOK zs tb) (tl : TbsOK zs later) (hs : s < zs.length) {t0 : List Stp} {tl0 : Stp} (el : ts = t0 ++ [tl0]) (hl : wordD tl0 ≠ .str "less")
    (k : ∀ x9, (B [some (zonesD zs), some (progD ts), some (worldD tb later), some (.int s), some (.int i), some (.tup [.str way, td]), some (.str way), some td, some (if hasEd ts s = true then (getT later s).d else (getT tb s).d), x9] S).DoesE EO M Q M1 M2)
    (h0 : ρ0 = [some (zonesD zs), some (progD ts), some (worldD tb later), some (.int s), some (.int i), some (.tup [.str way, td]), none, none, none, none]) :
    (mSeq (mAsgG (tgU 2 (tgCons (tgN 6) (tgCons (tgN 7) tgNil))) (mVar 5)) (mSeq (mIfS (mOp gEq (mOp gIx (mOp gIx (mVar 1) (mK (.int (-1)))) (mK (.int 0))) (mK (.str "less"))) (mRet (mAnd (mOp gEq (mVar 6) (mK (.str ""))) (mOp gEq (mOp gIx (mVar 7) (mK (.int (-1)))) (mOp gIx (mVar 7) (mVar 4))))) mNop) (mSeq (mAsg 8 (mOp gIx (mOp gIx (mVar 2) (mK (.int 0))) (mVar 3))) (mSeq (mIfS (mOp (gIn2 false) (mTup (mCons (mK (.str "edition")) (mCons (mVar 3) mNil))) (mFz (mLcA (mVar 1) (tgN 9) mYes (mTup (mCons (mOp gIx (mVar 9) (mK (.int 0))) (mCons (mOp gIx (mVar 9) (mK (.int 2))) mNil))) [9]))) (mAsg 8 (mOp gIx (mOp gIx (mVar 2) (mK (.int 1))) (mVar 3))) mNop) B))) ρ0 S).DoesE EO M Q M1 M2 := by
  subst h0
  refine seq_cut (fun ρ S' => S = S' ∧ ρ = [some (zonesD zs), some (progD ts), some (worldD tb later), some (.int s), some (.int i), some (.tup [.str way, td]), some (.str way), some td, none, none]) (fun M hM => ?_) ?_
  · simp [tgU]
    exact hM _ _ ⟨rfl, rfl⟩
  rintro ρ _ ⟨rfl, rfl⟩
  have il := ix_lastP (S := S) el
  refine ifS_noT (fun Q q => ?_) ?_
  · have : gEq S (wordD tl0) (.str "less") = some (.bl false) := by
      cases tl0 <;> first | (exact absurd rfl hl) | (simp (decide := true) [wordD])
    simp [il, ix_word, this]
    exact q
  have hw : TbsOK zs tb := tk
  have lt : s < tb.length := by rw [tk.len]; exact hs
  have ll : s < later.length := by rw [tl.len]; exact hs
  refine seq_cut (fun ρ S' => S = S' ∧ ρ = [some (zonesD zs), some (progD ts), some (worldD tb later), some (.int s), some (.int i), some (.tup [.str way, td]), some (.str way), some td, some (getT tb s).d, none]) (fun M hM => ?_) ?_
  · simp [worldD, ix_tabs lt]
    simp [worldD] at hM
    exact hM
  rintro ρ _ ⟨rfl, rfl⟩
  refine seq_cut (fun ρ S' => S = S' ∧ ∃ x9, ρ = [some (zonesD zs), some (progD ts), some (worldD tb later), some (.int s), some (.int i), some (.tup [.str way, td]), some (.str way), some td, some (if hasEd ts s = true then (getT later s).d else (getT tb s).d), x9]) (fun M hM => ?_) ?_
  · simp [progD, wipeD]
    refine lcQ_filter (as := ts) (i := Stp.d) (fun _ => true) (fun t => .tup [wordD t, thirdD t]) ?_ ?_
    · intro t _
      refine ⟨_, rfl, fun Q q => q, fun Q _ q => ?_⟩
      simp [ix_word, ix_third]
      exact q
    · have e : ts.filter (fun _ => true) = ts := List.filter_eq_self.mpr fun _ _ => rfl
      rw [e]
      simp [ed_in]
      cases he : hasEd ts s with
      | false =>
        simp [he] at hM
        simp
        exact hM _
      | true =>
        have e2 : gIx S (worldD tb later) (.int 1) = some (.tup (later.map Tb.d)) := rfl
        simp [he] at hM
        simp [e2, ix_tabs ll]
        exact hM _
  rintro ρ _ ⟨rfl, x9, rfl⟩
  exact k x9
theorem ed_tail {u v : List Stp} (h : ∀ t, t ∈ v → t.isEd = false) : hasEd (u ++ v) s = hasEd u s := by
  unfold hasEd
  rw [List.any_append]
  have : v.any (fun t => t.isEd && decide (t.place = s)) = false := by
    rw [List.any_eq_false]
    intro t ht
    simp [h t ht]
  rw [this, Bool.or_false]
theorem chart_eq (tk : TbsOK zs tb) (tl : TbsOK zs later) (hs : s < zs.length) {u v : List Stp} (h : ∀ t, t ∈ v → t.isEd = false) : (if hasEd (u ++ v) s = true then (getT later s).d else (getT tb s).d) = tabD (getT (tabsB later tb u) s).1 (getT (tabsB later tb u) s).2 := by
  rw [ed_tail h, tabsB_at (by rw [tl.len, tk.len]) (by rw [tk.len]; exact hs)]
  split <;> rfl
theorem one_w0 {a : List Stp} {i p : Nat} {f g : Str} (ha : ∀ t, t ∈ a → t.isFind = false) (ok : ProgOK zs.length (way0 a i p f g)) : OneF zs.length (way0 a i p f g) (a ++ [.read i p]) [] (a.length + 1) p f g :=
  ⟨by simp [way0], fun t ht => by
    rcases List.mem_append.mp ht with ht | ht
    · exact ha t ht
    · simp at ht; subst ht; rfl, (fun t ht => nomatch ht), prog_oks ok⟩
theorem one_w1 {a : List Stp} {j p : Nat} {m : Int} {f g : Str} (ha : ∀ t, t ∈ a → t.isFind = false) (ok : ProgOK zs.length (way1 a j p m f g)) : OneF zs.length (way1 a j p m f g) (a ++ [.add j m]) [.read (a.length + 2) p] (a.length + 1) p f g :=
  ⟨by simp [way1], fun t ht => by
    rcases List.mem_append.mp ht with ht | ht
    · exact ha t ht
    · simp at ht; subst ht; rfl, (fun t ht => by simp at ht; subst ht; rfl), prog_oks ok⟩
theorem back_done (z : ZsOK zs) (tk : TbsOK zs tb) (tl : TbsOK zs later) (R : Road zs w ts s i) (e : followS agP zs later tb 0 [st] ts = .done ws) (hc : S[n]? = some (.lst (ws.map .int))) (q : ∀ S', Grow S S' → Q (.bl true) S') :
    (m_law_back [zonesD zs, progD ts, worldD tb later, .int s, .int i, .tup [.str "", .cell n]] S).Does Q ∧ ws.length = ts.length + 1 := by
  have suit : followS agP zs later tb 0 [st] ts ≠ .unsuited := by rw [e]; intro h; cases h
  have hz := z.at R.hp
  have e0 : (("" : Str) == "refused") = false := by decide +kernel
  obtain ⟨hw, ok, hp⟩ := R
  cases hw with
  | @w0 a _ _ f g ha hi hf hg =>
    have tabs := (tabsB_ok (a := a) tl tk).tab hp
    obtain ⟨vs, hv, ev, _⟩ := run0 (f := f) (g := g) (p := s) (i := i) ha suit
    rw [e] at ev
    have ech := chart_eq (u := a) (v := [Stp.read i s, Stp.find (a.length + 1) s f g]) tk tl hp fun t ht => by simp at ht; rcases ht with rfl | rfl <;> rfl
    generalize hT : getT (tabsB later tb a) s = T at ev tabs ech
    cases ew : foundT (getZ zs s) T (getV vs i + T.of (getV vs i)) f g with
    | none => rw [ew] at ev; cases ev
    | some u =>
      rw [ew] at ev
      have ev2 : ws = vs ++ [getV vs i + T.of (getV vs i)] ++ [u] := by
        have : Fin.done ws = .done (vs ++ [getV vs i + T.of (getV vs i)] ++ [u]) := ev
        injection this
      subst ev2
      refine ⟨?_, by simp [way0, hv]⟩
      refine does_def rfl ?_
      refine back_chart (t0 := a ++ [.read i s]) (tl0 := .find (a.length + 1) s f g) tk tl hp (by simp [way0]) (by simp (decide := true) [wordD]) (fun x9 => ?_) rfl
      refine ifS_noT (fun Q q => ?_) ?_
      · simp [e0]
        exact q
      have fb := found_back hz tabs (r := getV vs i + T.of (getV vs i)) (x := getV vs i) (by omega) ew hf
      have fin := ends_find (Q := Q) (sp := i) (n := n) (w := u) (vs := vs) (x := getV vs i) (ts0 := a ++ [.read i s]) z hp tabs (one_w0 ha ok) (by simp [way0]) (by simpa using hc) (by omega) rfl hf fb q
      have ew0 : way0 a i s f g = a ++ [Stp.read i s, Stp.find (a.length + 1) s f g] := rfl
      rw [← ew0] at ech
      rw [ech]
      simp
      exact fin
  | @w1 a j _ m f g ha hj hf hg =>
    have tabs := (tabsB_ok (a := a) tl tk).tab hp
    obtain ⟨vs, hv, ev⟩ := run1 (f := f) (g := g) (p := s) (j := j) (m := m) ha suit
    rw [e] at ev
    have ech := chart_eq (u := a) (v := [Stp.add j m, Stp.find (a.length + 1) s f g, Stp.read (a.length + 2) s]) tk tl hp fun t ht => by simp at ht; rcases ht with rfl | rfl | rfl <;> rfl
    generalize hT : getT (tabsB later tb a) s = T at ev tabs ech
    cases ew : foundT (getZ zs s) T (getV vs j + m) f g with
    | none => rw [ew] at ev; cases ev
    | some u =>
      rw [ew] at ev
      have ev2 : ws = vs ++ [getV vs j + m] ++ [u] ++ [u + T.of u] := by
        have : Fin.done ws = .done (vs ++ [getV vs j + m] ++ [u] ++ [u + T.of u]) := ev
        injection this
      subst ev2
      refine ⟨?_, by simp [way1, hv]⟩
      refine does_def rfl ?_
      refine back_chart (t0 := a ++ [.add j m, .find (a.length + 1) s f g]) (tl0 := .read (a.length + 2) s) tk tl hp (by simp [way1]) (by simp (decide := true) [wordD]) (fun x9 => ?_) rfl
      refine ifS_noT (fun Q q => ?_) ?_
      · simp [e0]
        exact q
      have fin := ends_read (i2 := a.length + 2) (p2 := s) (Q := Q) (sp := a.length + 1) (n := n) (w := u) (r := getV vs j + m) (vs := vs) (ts0 := a ++ [.add j m, .find (a.length + 1) s f g]) z hp tabs (one_w1 ha ok) (by simp [way1]) (by simpa using hc) hv.symm (found_some hz tabs ew) (q S .refl)
      have ew0 : way1 a j s m f g = a ++ [Stp.add j m, Stp.find (a.length + 1) s f g, Stp.read (a.length + 2) s] := rfl
      rw [← ew0] at ech
      rw [ech]
      simp
      simpa using fin
  | @w2 a _ _ o ha hi ho =>
    obtain ⟨vs, us, hv, ev, el⟩ := run2 (i := i) (p := s) z tk tl hp ho hi ha suit
    rw [e] at ev
    injection ev with ev
    subst ev
    refine ⟨?_, el⟩
    obtain ⟨t0, k, l, et⟩ : ∃ t0 k l, way2 a i s o = t0 ++ [.less k l] := by
      cases o with
      | none => exact ⟨a ++ [.read i s, .offset i s], _, _, by simp [way2]; exact ⟨rfl, rfl⟩⟩
      | some ah => exact ⟨a ++ [.read i s, .add i ah, .edition (a.length + 2) s, .offset i s], _, _, by simp [way2]; exact ⟨rfl, rfl⟩⟩
    have il := ix_lastP (S := S) et
    have h1 : gIx S (.cell n) (.int (-1)) = some (.int (getV vs i)) := by
      rw [gIx_cell hc]
      have := at_lastT (l := (vs ++ us).map D.int) (x := .int (getV vs i))
      simpa using this
    have h2 : gIx S (.cell n) (.int i) = some (.int (getV vs i)) := by
      rw [gIx_cell hc]
      have := at_old (vs := vs) (ws := us ++ [getV vs i]) (i := i) (by omega)
      simpa using this
    refine does_def rfl ?_
    refine seq_cut (fun ρ S' => S = S' ∧ ρ = [some (zonesD zs), some (progD (way2 a i s o)), some (worldD tb later), some (.int s), some (.int i), some (.tup [.str "", .cell n]), some (.str ""), some (.cell n), none, none]) (fun M hM => ?_) ?_
    · simp [tgU]
      exact hM _ _ ⟨rfl, rfl⟩
    rintro ρ _ ⟨rfl, rfl⟩
    refine ifS_yesT (fun Q q => ?_) fun N' => ?_
    · simp [il, Stp.d]
      exact q
    simp [h1, h2]
    exact q S .refl
theorem back_ref (z : ZsOK zs) (tk : TbsOK zs tb) (tl : TbsOK zs later) (R : Road zs w ts s i) (e : followS agP zs later tb 0 [st] ts = .refused vs k) (q : Q (.bl true) S) :
    (m_law_back [zonesD zs, progD ts, worldD tb later, .int s, .int i, .tup [.str "refused", .int k]] S).Does Q := by
  have suit : followS agP zs later tb 0 [st] ts ≠ .unsuited := by rw [e]; intro h; cases h
  have hz := z.at R.hp
  obtain ⟨hw, ok, hp⟩ := R
  cases hw with
  | @w0 a _ _ f g ha hi hf hg =>
    have tabs := (tabsB_ok (a := a) tl tk).tab hp
    obtain ⟨vs, hv, ev, _⟩ := run0 (f := f) (g := g) (p := s) (i := i) ha suit
    rw [e] at ev
    generalize hT : getT (tabsB later tb a) s = T at ev tabs
    cases ew : foundT (getZ zs s) T (getV vs i + T.of (getV vs i)) f g with
    | some u => rw [ew] at ev; cases ev
    | none =>
      rw [ew] at ev
      have ek : k = a.length + 1 := by
        have : Fin.refused _ k = .refused _ (a.length + 1) := ev
        injection this
      subst ek
      have hr : f = "refuse" ∨ g = "refuse" := (found_none hz tabs ew).imp (·.1) (·.1)
      refine does_def rfl ?_
      refine back_chart (t0 := a ++ [.read i s]) (tl0 := .find (a.length + 1) s f g) tk tl hp (by simp [way0]) (by simp (decide := true) [wordD]) (fun x9 => ?_) rfl
      have lp : gLen S [progD (way0 a i s f g)] = some (.int ((a.length + 2 : Nat) : Int)) := by simp [progD, way0]
      refine ifS_noT (fun Q q => ?_) ?_
      · simp [lp]
        have : decide ((a.length : Int) + 1 < (a.length : Int)) = false := decide_eq_false (by omega)
        rw [this]
        exact q
      have fin := fun ch => ends_ref (Q := Q) (S := S) (ch := ch) (s := s) (sp := i) (one_w0 ha ok) hr q
      simp
      simpa using fin _
  | @w1 a j _ m f g ha hj hf hg =>
    have tabs := (tabsB_ok (a := a) tl tk).tab hp
    obtain ⟨vs, hv, ev⟩ := run1 (f := f) (g := g) (p := s) (j := j) (m := m) ha suit
    rw [e] at ev
    generalize hT : getT (tabsB later tb a) s = T at ev tabs
    cases ew : foundT (getZ zs s) T (getV vs j + m) f g with
    | some u => rw [ew] at ev; cases ev
    | none =>
      rw [ew] at ev
      have ek : k = a.length + 1 := by
        have : Fin.refused _ k = .refused _ (a.length + 1) := ev
        injection this
      subst ek
      have hr : f = "refuse" ∨ g = "refuse" := (found_none hz tabs ew).imp (·.1) (·.1)
      refine does_def rfl ?_
      refine back_chart (t0 := a ++ [.add j m, .find (a.length + 1) s f g]) (tl0 := .read (a.length + 2) s) tk tl hp (by simp [way1]) (by simp (decide := true) [wordD]) (fun x9 => ?_) rfl
      have lp : gLen S [progD (way1 a j s m f g)] = some (.int ((a.length + 3 : Nat) : Int)) := by simp [progD, way1]
      refine ifS_noT (fun Q q => ?_) ?_
      · simp [lp]
        have : ¬ ((a.length : Int) + 1 < (a.length : Int) + 3 - 2) := by omega
        simp [this]
        exact q
      have fin := fun ch => ends_ref (Q := Q) (S := S) (ch := ch) (s := s) (sp := a.length + 1) (one_w1 ha ok) hr q
      simp
      simpa using fin _
  | @w2 a _ _ o ha hi ho =>
    obtain ⟨vs, us, hv, ev, el⟩ := run2 (i := i) (p := s) z tk tl hp ho hi ha suit
    rw [e] at ev
    cases ev
end
end Dm
-- text M_k27
namespace Dm
open PySem L2
section
variable {S : Sto} {zs : Zs} {tb later : List Tb} {ts a : List Stp} {s i k : Nat} {st : Int} {f g : Str} {vs : List Int}
theorem follow_agP {org : Int} {Q : D → Sto → Prop} (z : ZsOK zs) (ok : ProgOK zs.length ts) (tk : TbsOK zs tb) (tl : TbsOK zs later) (l1 : ∀ t, t ∈ tb → t.2.length ≤ 60) (l2 : ∀ t, t ∈ later → t.2.length ≤ 60)
    (q : finQ S.length Q tb S (followS agP zs later tb 0 [org] ts)) : (m_law_follow [zonesD zs, progD ts, worldD tb later, .int org] S).Does Q := by
  refine follow_does (ag := agP) z ok.steps ok.len (by have := ok.eds; unfold cnt; omega) tk tl (fun i p hm S m Q q => ?_) q
  obtain ⟨row, ho⟩ := prog_each ok.steps _ hm
  have hp : p < zs.length := ho.2
  have len : ∀ (tb : List Tb), (∀ t, t ∈ tb → t.2.length ≤ 60) → (getT tb p).2.length ≤ 60 := fun tb h => by
    unfold getT
    rw [List.getD_eq_getElem?_getD]
    cases e : tb[p]? with
    | none => simp
    | some t => exact h t (List.mem_of_getElem? e)
  have h1 := len tb l1
  have h2 := len later l2
  refine agree_does (z.at hp) (tk.tab hp) (tl.tab hp) (by omega) fun S' g => ?_
  rw [agL_eq (z.at hp).sp.1 (tk.tab hp) (tl.tab hp)]
  exact q S' g
end
theorem cut_lastT {l : List D} {x : D} : cutD (l ++ [x]) none (some (-1)) = l := by
  have e1 : HT.sIx (l ++ [x]).length 0 none = 0 := by simp [HT.sIx]
  have e2 : HT.sIx (l ++ [x]).length (l ++ [x]).length (some (-1)) = l.length := by
    simp [HT.sIx]
    omega
  unfold cutD
  rw [e1, e2]
  simp
theorem law_k27_whole_there_and_back_true : LawTrue m_law_k27_whole_there_and_back := by
  refine law_loop (by decide) fun c L xs S hx => ?_
  obtain ⟨x2, x3, x4, x5, x6, x7, x8, x9, x10, x11, x12, x13, x14, rfl⟩ : ∃ x2 x3 x4 x5 x6 x7 x8 x9 x10 x11 x12 x13 x14, xs = [x2, x3, x4, x5, x6, x7, x8, x9, x10, x11, x12, x13, x14] := match xs, hx with
    | [_, _, _, _, _, _, _, _, _, _, _, _, _], _ => ⟨_, _, _, _, _, _, _, _, _, _, _, _, _, rfl⟩
  refine seq_cut (fun ρ S' => ∃ p, ρ = [some L, some (.int c), some (.cell p), x3, x4, x5, x6, x7, x8, x9, x10, x11, x12, x13, x14] ∧ Bag p 9223372036854775808 S') (fun M hM => ?_) ?_
  · simp
    refine bag_of_does fun S1 b1 g1 => ?_
    exact hM _ _ ⟨_, rfl, b1⟩
  rintro ρ S1 ⟨p, rfl, b1⟩
  refine seq_cut (fun ρ S' => ∃ zs, ρ = [some L, some (.int c), some (.cell p), some (zonesD zs), x4, x5, x6, x7, x8, x9, x10, x11, x12, x13, x14] ∧ ZsOK zs ∧ Bag p 100000 S') (fun M hM => ?_) ?_
  · simp
    refine any_belts_does (n := 100000) (b1.mono (by omega)) fun zs S2 b2 g2 h1 h2 => ?_
    exact hM _ _ ⟨zs, rfl, ⟨h1, h2⟩, b2⟩
  rintro ρ S2 ⟨zs, rfl, z, b2⟩
  refine seq_cut (fun ρ S' => ∃ ts, ∃ s i w : Nat, ρ = [some L, some (.int c), some (.cell p), some (zonesD zs), some (progD ts), some (.int s), some (.int i), x7, x8, x9, x10, x11, x12, x13, x14] ∧ Road zs w ts s i ∧ Bag p 90000 S') (fun M hM => ?_) ?_
  · simp
    refine pick_does (n := 99999) b2 (by decide) (by decide) fun v S3 b3 g3 r0 r1 => ?_
    have hv : v = (v.toNat : Nat) := (Int.toNat_of_nonneg r0).symm
    have rd := road_does (w := v.toNat) (n := 90000) (S := S3) (p := p) (zs := zs) (Q := fun d S' => ∃ ts, ∃ s i : Nat, d = .tup [progD ts, .int s, .int i] ∧ Road zs v.toNat ts s i ∧ Bag p 90000 S') (b3.mono (by omega)) z (by omega) fun ts s i S4 b4 g4 R => ⟨ts, s, i, rfl, R, b4⟩
    rw [← hv] at rd
    refine resMonoI rd fun d S4 h => ?_
    obtain ⟨ts, s, i, rfl, R, b4⟩ := h
    simp [tgU]
    exact hM _ _ ⟨ts, s, i, v.toNat, rfl, R, b4⟩
  rintro ρ S3 ⟨ts, s, i, w, rfl, R, b3⟩
  refine seq_cut (fun ρ S' => ∃ st, ρ = [some L, some (.int c), some (.cell p), some (zonesD zs), some (progD ts), some (.int s), some (.int i), some (.int st), x8, x9, x10, x11, x12, x13, x14] ∧ Bag p 80000 S') (fun M hM => ?_) ?_
  · simp
    refine any_origin_does (n := 80000) (b3.mono (by omega)) fun st S4 b4 g4 h1 h2 => ?_
    exact hM _ _ ⟨st, rfl, b4⟩
  rintro ρ S4 ⟨st, rfl, b4⟩
  have hE : Ed1 ts := ed1_of (by have := R.ok.eds; unfold cnt; omega)
  refine seq_cut (fun ρ S' => ∃ tb later, ρ = [some L, some (.int c), some (.cell p), some (zonesD zs), some (progD ts), some (.int s), some (.int i), some (.int st), some (worldD tb later), x9, x10, x11, x12, x13, x14] ∧ TbsOK zs tb ∧ TbsOK zs later ∧ (∀ t, t ∈ tb → t.2.length ≤ 60) ∧ (∀ t, t ∈ later → t.2.length ≤ 60) ∧ followS agP zs later tb 0 [st] ts ≠ .unsuited) (fun M hM => ?_) ?_
  · simp
    refine any_earth_does (n := 70000) (nr := 0) (b4.mono (by omega)) z R.ok.steps R.ok.len hE fun tb later S5 b5 g5 tk tl l1 l2 hg => ?_
    exact hM _ _ ⟨tb, later, rfl, tk, tl, l1, l2, suits R.ok.steps hE hg⟩
  rintro ρ S5 ⟨tb, later, rfl, tk, tl, l1, l2, suit⟩
  have len0 : ∀ S, gLen S [progD ts] = some (.int (ts.length : Nat)) := fun S => by simp [progD]
  have e1 : (("" : Str) == "unsuited") = false := by decide +kernel
  have e2 : (("refused" : Str) == "unsuited") = false := by decide +kernel
  have e3 : (("refused" : Str) == "") = false := by decide +kernel
  have e4 : (("" : Str) == "refused") = false := by decide +kernel
  refine seq_cut (fun ρ S' => ∃ x, ρ = [some L, some (.int c), some (.cell p), some (zonesD zs), some (progD ts), some (.int s), some (.int i), some (.int st), some (worldD tb later), some x, x10, x11, x12, x13, x14] ∧
      ((∃ ws n, followS agP zs later tb 0 [st] ts = .done ws ∧ x = .tup [.str "", .cell n] ∧ S'[n]? = some (.lst (ws.map .int))) ∨ ∃ vs k, followS agP zs later tb 0 [st] ts = .refused vs k ∧ x = .tup [.str "refused", .int k])) (fun M hM => ?_) ?_
  · simp
    refine ran_shape z R.ok tk tl ?_
    cases e : followS agP zs later tb 0 [st] ts with
    | done ws => exact fun S' n g hc => hM _ _ ⟨_, rfl, .inl ⟨ws, n, e, rfl, hc⟩⟩
    | refused vs k => exact fun S' g => hM _ _ ⟨_, rfl, .inr ⟨vs, k, e, rfl⟩⟩
    | unsuited => exact absurd e suit
  rintro ρ S6 ⟨x, rfl, hx9⟩
  rcases hx9 with ⟨ws, n, ef, rfl, hc⟩ | ⟨vs, k, ef, rfl⟩
  · have hl := (back_done (Q := fun _ _ => True) z tk tl R ef hc fun _ _ => trivial).2
    have lw : gLen S6 [.cell n] = some (.int (ts.length + 1 : Nat)) := by rw [gLen_cell hc]; simp [hl]
    refine ifS_noT (fun Q q => ?_) ?_
    · simp [e1, lw, len0]
      exact q
    refine seq_cut (fun ρ S' => ρ = [some L, some (.int c), some (.cell p), some (zonesD zs), some (progD ts), some (.int s), some (.int i), some (.int st), some (worldD tb later), some (.tup [.str "", .cell n]), x10, x11, x12, x13, x14]) (fun M hM => ?_) ?_
    · simp
      refine (back_done z tk tl R ef hc fun S' g => ?_).1
      simp
      exact hM _ _ rfl
    rintro ρ S7 rfl
    simp [e4]
    exact ⟨_, _, ⟨rfl, rfl⟩, rfl⟩
  · refine ifS_noT (fun Q q => ?_) ?_
    · simp [e2, e3]
      exact q
    refine seq_cut (fun ρ S' => S6 = S' ∧ ρ = [some L, some (.int c), some (.cell p), some (zonesD zs), some (progD ts), some (.int s), some (.int i), some (.int st), some (worldD tb later), some (.tup [.str "refused", .int k]), x10, x11, x12, x13, x14]) (fun M hM => ?_) ?_
    · simp
      refine back_ref z tk tl R ef ?_
      simp
      exact hM _ _ ⟨rfl, rfl⟩
    rintro ρ _ ⟨rfl, rfl⟩
    obtain ⟨hw, ok, hs⟩ := R
    cases hw with
    | @w0 a _ _ f g ha hi hf hg =>
      have zh := z.at hs
      have tabs := (tabsB_ok (a := a) tl tk).tab hs
      obtain ⟨vs', hv, ev, eb⟩ := run0 (f := f) (g := g) (p := s) (i := i) ha suit
      rw [ef] at ev
      have ech := chart_eq (u := a) (v := [Stp.read i s, Stp.find (a.length + 1) s f g]) tk tl hs fun t ht => by simp at ht; rcases ht with rfl | rfl <;> rfl
      have ew0 : way0 a i s f g = a ++ [Stp.read i s, Stp.find (a.length + 1) s f g] := rfl
      rw [← ew0] at ech
      generalize hT : getT (tabsB later tb a) s = T at ev eb tabs ech
      cases ew : foundT (getZ zs s) T (getV vs' i + T.of (getV vs' i)) f g with
      | some u => rw [ew] at ev; cases ev
      | none =>
        generalize hr : getV vs' i + T.of (getV vs' i) = r at ew eb
        have hx : T.of (getV vs' i) = r - getV vs' i := by omega
        have two : f = "refuse" ∧ (fitsA (getZ zs s).1 T r).length = 2 := by
          rcases found_none zh tabs ew with ⟨h1, m, m', h2⟩ | ⟨h1, h2⟩
          · exact ⟨h1, by rw [fitsA_rev, h2]; rfl⟩
          · have := (mom_iff (r := r) zh tabs).mpr hx
            rw [h2] at this
            cases this
        have il := fun S => ix_lastP (S := S) (ts := way0 a i s f g) (ts0 := a ++ [.read i s]) (t := .find (a.length + 1) s f g) (by simp [way0])
        have hcond : ∀ Q : D → Sto → Prop, Q (.bl true) S6 → (mAnd (mOp gEq (mOp gIx (mVar 9) (mK (.int 0))) (mK (.str "refused"))) (mOp gEq (mOp gIx (mOp gIx (mVar 4) (mK (.int (-1)))) (mK (.int 0))) (mK (.str "find")))
            [some L, some (.int c), some (.cell p), some (zonesD zs), some (progD (way0 a i s f g)), some (.int s), some (.int i), some (.int st), some (worldD tb later), some (.tup [.str "refused", .int k]), x10, x11, x12, x13, x14] S6).Does Q := by
          intro Q q
          simp [il, Stp.d]
          exact q
        rw [does_ifS]
        refine Res.Does.toE (hcond _ ?_)
        simp only [blQ_bl, if_true]
        have ok1 : ProgFrom zs.length [.mom] (a ++ [.read i s]) := by
          have := ok.steps
          rw [ew0, show a ++ [Stp.read i s, Stp.find (a.length + 1) s f g] = (a ++ [.read i s]) ++ [.find (a.length + 1) s f g] by simp] at this
          exact progFrom_left this
        have okb : ProgOK zs.length (a ++ [.read i s]) := ⟨by
          have := ok.len
          rw [ew0] at this
          simp at this ⊢
          omega, ok1, by
          have := ok.eds
          rw [ew0, show a ++ [Stp.read i s, Stp.find (a.length + 1) s f g] = (a ++ [.read i s]) ++ [.find (a.length + 1) s f g] by simp, List.filter_append] at this
          simp at this ⊢
          omega⟩
        have ecd : cutD ((way0 a i s f g).map Stp.d) none (some (-1)) = (a ++ [Stp.read i s]).map Stp.d := by
          rw [ew0, show a ++ [Stp.read i s, Stp.find (a.length + 1) s f g] = (a ++ [.read i s]) ++ [.find (a.length + 1) s f g] by simp, List.map_append]
          exact cut_lastT
        refine seq_cut (fun ρ S' => ρ = [some L, some (.int c), some (.cell p), some (zonesD zs), some (progD (way0 a i s f g)), some (.int s), some (.int i), some (.int st), some (worldD tb later), some (.tup [.str "refused", .int k]), some (.int r), x11, x12, x13, x14]) (fun M hM => ?_) ?_
        · simp [progD]
          rw [ecd]
          refine follow_agP z okb tk tl l1 l2 ?_
          rw [eb]
          intro S' tb' ed lk g cs
          have h1 := cs.c6
          have h2 : atI (vs'.map D.int ++ [D.int r]) (-1) = some (.int r) := at_lastT
          simp [gIx_cell h1, h2]
          exact hM _ _ rfl
        rintro ρ S7 rfl
        refine seq_cut (fun ρ S' => S7 = S' ∧ ∃ x13, ρ = [some L, some (.int c), some (.cell p), some (zonesD zs), some (progD (way0 a i s f g)), some (.int s), some (.int i), some (.int st), some (worldD tb later), some (.tup [.str "refused", .int k]), some (.int r), some (tabD T.1 T.2), x12, x13, x14]) (fun M hM => ?_) ?_
        · have lt : s < tb.length := by rw [tk.len]; exact hs
          have ll : s < later.length := by rw [tl.len]; exact hs
          simp [progD, wipeD]
          refine lcQ_filter (as := way0 a i s f g) (i := Stp.d) (fun _ => true) (fun t => .tup [wordD t, thirdD t]) ?_ ?_
          · intro t _
            refine ⟨_, rfl, fun Q q => q, fun Q _ q => ?_⟩
            simp [ix_word, ix_third]
            exact q
          · have e : (way0 a i s f g).filter (fun _ => true) = way0 a i s f g := List.filter_eq_self.mpr fun _ _ => rfl
            rw [e]
            simp [ed_in]
            rw [← ech] at hM
            cases he : hasEd (way0 a i s f g) s with
            | false =>
              simp [he] at hM
              have e2 : gIx S7 (worldD tb later) (.int 0) = some (.tup (tb.map Tb.d)) := rfl
              simp [e2, ix_tabs lt]
              exact hM _
            | true =>
              simp [he] at hM
              have e2 : gIx S7 (worldD tb later) (.int 1) = some (.tup (later.map Tb.d)) := rfl
              simp [e2, ix_tabs ll]
              exact hM _
        rintro ρ _ ⟨rfl, y13, rfl⟩
        refine seq_cut (fun ρ S' => S7 = S' ∧ ∃ l : List Int, l.length = 2 ∧ ∃ x14, ρ = [some L, some (.int c), some (.cell p), some (zonesD zs), some (progD (way0 a i s f g)), some (.int s), some (.int i), some (.int st), some (worldD tb later), some (.tup [.str "refused", .int k]), some (.int r), some (tabD T.1 T.2), some (.lst (l.map .int)), y13, x14]) (fun M hM => ?_) ?_
        · have hz := ix_zones (S := S7) hs
          have hz0 : gIx S7 (zoneD (getZ zs s).1 (getZ zs s).2) (.int 0) = some (.tup ((getZ zs s).1.map .int)) := by simp [zoneD]
          simp [hz, hz0, wipeD]
          refine lcQ_filter (as := (getZ zs s).1) (i := D.int) (fun o => T.of (r - o) == o) D.int ?_ ?_
          · intro o _
            refine ⟨_, rfl, fun Q q => ?_, fun Q _ q => ?_⟩
            · simp [law_holds_ok zh tabs]
              exact q
            · simp
              exact q
          · refine hM _ _ ⟨rfl, (getZ zs s).1.filter fun o => T.of (r - o) == o, ?_, _, rfl⟩
            have := two.2
            unfold fitsA at this
            rw [List.length_map] at this
            exact this
        rintro ρ _ ⟨rfl, l, hl2, y14, rfl⟩
        have i2 := il S7
        obtain ⟨e7, _⟩ := two
        have i3 : gIx S7 (Stp.find (a.length + 1) s f g).d (.int 3) = some (.str "refuse") := by rw [e7]; rfl
        simp [i2, i3, hl2]
        exact ⟨_, _, ⟨rfl, rfl⟩, rfl⟩
    | @w1 a j _ m f g ha hj hf hg =>
      have il := ix_lastP (S := S6) (ts := way1 a j s m f g) (ts0 := a ++ [.add j m, .find (a.length + 1) s f g]) (t := .read (a.length + 2) s) (by simp [way1])
      have e5 : (("read" : Str) == "find") = false := by decide +kernel
      simp [il, Stp.d, e5]
      exact ⟨_, _, ⟨rfl, rfl⟩, rfl⟩
    | @w2 a _ _ o ha hi ho =>
      obtain ⟨vs', us, hv, ev, el⟩ := run2 (i := i) (p := s) z tk tl hs ho hi ha suit
      rw [ef] at ev
      cases ev
end Dm
-- text E_k27
open PySem PySem.W PyProof.Rows in
set_option maxRecDepth 100000 in
set_option maxHeartbeats 0 in
theorem PySem.Challenge.cw_hoursmeant_k27_whole_there_and_back_holds : PySem.Challenge.rw_hoursmeant_k27_whole_there_and_back.Holds := by
  w_on; o_law; k_head; (case hw => w_witness2)
  k_fill
  refine V.walk (l := PySem.Challenge.rw_hoursmeant_k27_whole_there_and_back) rfl rfl (fun w h Y => PySem.W.kIn_of Y) ?F
  case F =>
    intro w mg fa h KX G hmg
    refine' V.all_mk Dm.law_k27_whole_there_and_back_true KX G hmg ?a0 ?l0 ?c0 ?k0 ?a1 ?l1 ?c1 ?k1 ?a2 ?l2 ?c2 ?k2 ?a3 ?l3 ?c3 ?k3 ?a4 ?l4 ?c4 ?k4 ?a5 ?l5 ?c5 ?k5 ?a6 ?l6 ?c6 ?k6 ?a7 ?l7 ?c7 ?k7 ?a8 ?l8 ?c8 ?k8 ?a9 ?l9 ?c9 ?k9 ?a10 ?l10 ?c10 ?k10 ?a11 ?l11 ?c11 ?k11 ?a12 ?l12 ?c12 ?k12 ?a13 ?l13 ?c13 ?k13 ?a14 ?l14 ?c14 ?k14 ?a15 ?l15 ?c15 ?k15 ?a16 ?l16 ?c16 ?k16 ?a17 ?l17 ?c17 ?k17 ?a18 ?l18 ?c18 ?k18 ?a19 ?l19 ?c19 ?k19 ?a20 ?l20 ?c20 ?k20 ?a21 ?l21 ?lT21 ?c21 ?k21 ?a22 ?l22 ?c22 ?k22 ?a23 ?l23 ?c23 ?k23 ?a24 ?l24 ?c24 ?k24 ?a25 ?l25 ?c25 ?k25 ?a26 ?l26 ?c26 ?k26 ?a27 ?l27 ?c27 ?k27 ?a28 ?l28 ?c28 ?k28 ?a29 ?l29 ?c29 ?k29 ?a30 ?l30 ?c30 ?k30 ?a31 ?l31 ?c31 ?k31 ?a32 ?l32 ?c32 ?k32 ?a33 ?l33 ?c33 ?k33 ?a34 ?l34 ?c34 ?k34 ?a35 ?l35 ?c35 ?k35 ?a36 ?l36 ?c36 ?k36 ?a37 ?l37 ?c37 ?k37 ?a38 ?l38 ?c38 ?k38 ?a39 ?l39 ?c39 ?k39 ?a40 ?l40 ?c40 ?k40 ?a41 ?l41 ?c41 ?k41 ?a42 ?l42 ?c42 ?k42 ?a43 ?l43 ?c43 ?k43 ?a44 ?l44 ?c44 ?k44 ?a45 ?l45 ?c45 ?k45 ?a46 ?l46 ?c46 ?k46 ?a47 ?l47 ?c47 ?k47 ?a48 ?l48 ?c48 ?k48 ?a49 ?l49 ?c49 ?k49 ?z0 ?z1 ?z2 ?z3 ?z4 ?z5 ?z6 ?z7 ?z8 ?z9 ?z10 ?z11 ?z12 ?v0 ?q0_1 ?v1 ?q1_1 ?v2 ?tb2 ?hs2_0 ?hs2_1 ?hs2_2 ?hs2_3 ?hs2_4 ?hs2_5 ?lw2 ?v3 ?v4 ?v5 ?v6 ?v7 ?tb7 ?hs7_0 ?hs7_1 ?hs7_2 ?hs7_3 ?hs7_4 ?hs7_5 ?hs7_6 ?lw7 ?q7_1 ?q7_4 ?q7_9 ?q7_12 ?q7_15 ?q7_18 ?q7_21 ?xa0 ?xq0 ?xk0 ?xb0 ?xt0 ?xa1 ?xq1 ?xk1 ?xb1 ?xt1 ?xa2 ?xq2 ?xk2 ?xb2 ?xt2 ?xa3 ?xq3 ?xk3 ?xb3 ?xt3 ?xa4 ?xq4 ?xk4 ?xb4 ?xt4 ?xa5 ?xq5 ?xk5 ?xb5 ?xt5 ?xa6 ?xf0 ?xf1 ?xf2 ?xf3 ?xf4 ?xf5 ?xf6 ?xf7 ?xf8 ?xf9 ?xf10 ?xf11 ?xf12 ?xf13 ?xf14 ?xf15 ?xf16 ?xf17 ?xf18 ?xf19 ?xf20 ?xf21 ?xf22 ?xf23 ?xf24 ?xf25 ?xf26 ?xf27 ?xf28 ?xf29 ?xf30 ?xf31 ?xf32 ?xf33 ?xf34 ?xf35 ?xf36 ?xf37 ?xf38 ?xf39 ?xf40 ?xf41 ?xf42 ?xf43 ?xf44 ?xf45 ?xf46 ?xf47 ?xf48 ?xf49 ?xf50 ?xf51 ?xf52 ?xf53 ?xf54 ?xf55 ?xf56 ?xf57 ?xf58 ?xf59 ?xf60 ?xf61 ?xf62 ?xf63 ?xf64 ?xf65 ?xf66 ?xf67 ?xf68 ?xf69 ?xf70 ?xf71 ?xf72 ?xf73 ?xf74 ?xf75 ?xf76 ?xf77 ?xf78 ?xf79 ?xf80 ?xf81 ?xf82 ?xf83 ?xf84 ?xf85 ?xf86 ?xf87 ?xf88 ?xf89 ?xf90 ?xf91 ?xf92 ?xf93 ?xf94 ?xf95 ?xa7 ?xL6 ?rb6 ?xf96 ?xf97 ?lI6 ?cI6 ?xf98 ?xf99 ?xf100 ?xf101 ?xf102 ?xf103
    (case a0 => k_is)
    (case l0 => k_is)
    (case c0 => k_is)
    (case k0 => k_is)
    (case a1 => k_is)
    (case l1 => k_is)
    (case c1 => k_is)
    (case k1 => k_is)
    (case a2 => k_is)
    (case l2 => k_is)
    (case c2 => k_is)
    (case k2 => k_is)
    (case a3 => k_is)
    (case l3 => k_is)
    (case c3 => k_is)
    (case k3 => k_is)
    (case a4 => k_is)
    (case l4 => k_is)
    (case c4 => k_is)
    (case k4 => k_is)
    (case a5 => k_is)
    (case l5 => k_is)
    (case c5 => k_is)
    (case k5 => k_is)
    (case a6 => k_is)
    (case l6 => k_is)
    (case c6 => k_is)
    (case k6 => k_is)
    (case a7 => k_is)
    (case l7 => k_is)
    (case c7 => k_is)
    (case k7 => k_is)
    (case a8 => k_is)
    (case l8 => k_is)
    (case c8 => k_is)
    (case k8 => k_is)
    (case a9 => k_is)
    (case l9 => k_is)
    (case c9 => k_is)
    (case k9 => k_is)
    (case a10 => k_is)
    (case l10 => k_is)
    (case c10 => k_is)
    (case k10 => k_is)
    (case a11 => k_is)
    (case l11 => k_is)
    (case c11 => k_is)
    (case k11 => k_is)
    (case a12 => k_is)
    (case l12 => k_is)
    (case c12 => k_is)
    (case k12 => k_is)
    (case a13 => k_is)
    (case l13 => k_is)
    (case c13 => k_is)
    (case k13 => k_is)
    (case a14 => k_is)
    (case l14 => k_is)
    (case c14 => k_is)
    (case k14 => k_is)
    (case a15 => k_is)
    (case l15 => k_is)
    (case c15 => k_is)
    (case k15 => k_is)
    (case a16 => k_is)
    (case l16 => k_is)
    (case c16 => k_is)
    (case k16 => k_is)
    (case a17 => k_is)
    (case l17 => k_is)
    (case c17 => k_is)
    (case k17 => k_is)
    (case a18 => k_is)
    (case l18 => k_is)
    (case c18 => k_is)
    (case k18 => k_is)
    (case a19 => k_is)
    (case l19 => k_is)
    (case c19 => k_is)
    (case k19 => k_is)
    (case a20 => k_is)
    (case l20 => k_is)
    (case c20 => k_is)
    (case k20 => k_is)
    (case a21 => k_is)
    (case l21 => k_is)
    (case lT21 => k_is)
    (case c21 => k_is)
    (case k21 => k_is)
    (case a22 => k_is)
    (case l22 => k_is)
    (case c22 => k_is)
    (case k22 => k_is)
    (case a23 => k_is)
    (case l23 => k_is)
    (case c23 => k_is)
    (case k23 => k_is)
    (case a24 => k_is)
    (case l24 => k_is)
    (case c24 => k_is)
    (case k24 => k_is)
    (case a25 => k_is)
    (case l25 => k_is)
    (case c25 => k_is)
    (case k25 => k_is)
    (case a26 => k_is)
    (case l26 => k_is)
    (case c26 => k_is)
    (case k26 => k_is)
    (case a27 => k_is)
    (case l27 => k_is)
    (case c27 => k_is)
    (case k27 => k_is)
    (case a28 => k_is)
    (case l28 => k_is)
    (case c28 => k_is)
    (case k28 => k_is)
    (case a29 => k_is)
    (case l29 => k_is)
    (case c29 => k_is)
    (case k29 => k_is)
    (case a30 => k_is)
    (case l30 => k_is)
    (case c30 => k_is)
    (case k30 => k_is)
    (case a31 => k_is)
    (case l31 => k_is)
    (case c31 => k_is)
    (case k31 => k_is)
    (case a32 => k_is)
    (case l32 => k_is)
    (case c32 => k_is)
    (case k32 => k_is)
    (case a33 => k_is)
    (case l33 => k_is)
    (case c33 => k_is)
    (case k33 => k_is)
    (case a34 => k_is)
    (case l34 => k_is)
    (case c34 => k_is)
    (case k34 => k_is)
    (case a35 => k_is)
    (case l35 => k_is)
    (case c35 => k_is)
    (case k35 => k_is)
    (case a36 => k_is)
    (case l36 => k_is)
    (case c36 => k_is)
    (case k36 => k_is)
    (case a37 => k_is)
    (case l37 => k_is)
    (case c37 => k_is)
    (case k37 => k_is)
    (case a38 => k_is)
    (case l38 => k_is)
    (case c38 => k_is)
    (case k38 => k_is)
    (case a39 => k_is)
    (case l39 => k_is)
    (case c39 => k_is)
    (case k39 => k_is)
    (case a40 => k_is)
    (case l40 => k_is)
    (case c40 => k_is)
    (case k40 => k_is)
    (case a41 => k_is)
    (case l41 => k_is)
    (case c41 => k_is)
    (case k41 => k_is)
    (case a42 => k_is)
    (case l42 => k_is)
    (case c42 => k_is)
    (case k42 => k_is)
    (case a43 => k_is)
    (case l43 => k_is)
    (case c43 => k_is)
    (case k43 => k_is)
    (case a44 => k_is)
    (case l44 => k_is)
    (case c44 => k_is)
    (case k44 => k_is)
    (case a45 => k_is)
    (case l45 => k_is)
    (case c45 => k_is)
    (case k45 => k_is)
    (case a46 => k_is)
    (case l46 => k_is)
    (case c46 => k_is)
    (case k46 => k_is)
    (case a47 => k_is)
    (case l47 => k_is)
    (case c47 => k_is)
    (case k47 => k_is)
    (case a48 => k_is)
    (case l48 => k_is)
    (case c48 => k_is)
    (case k48 => k_is)
    (case a49 => k_is)
    (case l49 => k_is)
    (case c49 => k_is)
    (case k49 => k_is)
    (case z0 => k_is)
    (case z1 => k_is)
    (case z2 => k_is)
    (case z3 => k_is)
    (case z4 => k_is)
    (case z5 => k_is)
    (case z6 => k_is)
    (case z7 => k_is)
    (case z8 => k_is)
    (case z9 => k_is)
    (case z10 => k_is)
    (case z11 => k_is)
    (case z12 => k_is)
    (case v0 => k_is)
    (case q0_1 => k_is)
    (case v1 => k_is)
    (case q1_1 => k_is)
    (case v2 => k_is)
    (case tb2 => k_is)
    (case hs2_0 => rfl)
    (case hs2_1 => rfl)
    (case hs2_2 => rfl)
    (case hs2_3 => rfl)
    (case hs2_4 => rfl)
    (case hs2_5 => rfl)
    (case lw2 => rfl)
    (case v3 => k_is)
    (case v4 => k_is)
    (case v5 => k_is)
    (case v6 => k_is)
    (case v7 => k_is)
    (case tb7 => k_is)
    (case hs7_0 => rfl)
    (case hs7_1 => rfl)
    (case hs7_2 => rfl)
    (case hs7_3 => rfl)
    (case hs7_4 => rfl)
    (case hs7_5 => rfl)
    (case hs7_6 => rfl)
    (case lw7 => rfl)
    (case q7_1 => k_is)
    (case q7_4 => k_is)
    (case q7_9 => k_is)
    (case q7_12 => k_is)
    (case q7_15 => k_is)
    (case q7_18 => k_is)
    (case q7_21 => k_is)
    (case xa0 => k_is)
    (case xq0 => k_exc)
    (case xk0 => k_is)
    (case xb0 => k_is)
    (case xt0 => k_is)
    (case xa1 => k_is)
    (case xq1 => k_exc)
    (case xk1 => k_is)
    (case xb1 => k_is)
    (case xt1 => k_is)
    (case xa2 => k_is)
    (case xq2 => k_exc)
    (case xk2 => k_is)
    (case xb2 => k_is)
    (case xt2 => k_is)
    (case xa3 => k_is)
    (case xq3 => k_exc)
    (case xk3 => k_is)
    (case xb3 => k_is)
    (case xt3 => k_is)
    (case xa4 => k_is)
    (case xq4 => k_exc)
    (case xk4 => k_is)
    (case xb4 => k_is)
    (case xt4 => k_is)
    (case xa5 => k_is)
    (case xq5 => k_exc)
    (case xk5 => k_is)
    (case xb5 => k_is)
    (case xt5 => k_is)
    (case xa6 => k_is)
    (case xf0 => k_is)
    (case xf1 => k_is)
    (case xf2 => k_is)
    (case xf3 => k_is)
    (case xf4 => k_is)
    (case xf5 => k_is)
    (case xf6 => k_is)
    (case xf7 => k_is)
    (case xf8 => k_is)
    (case xf9 => k_is)
    (case xf10 => k_is)
    (case xf11 => k_is)
    (case xf12 => k_is)
    (case xf13 => k_is)
    (case xf14 => k_is)
    (case xf15 => k_is)
    (case xf16 => k_is)
    (case xf17 => k_is)
    (case xf18 => k_is)
    (case xf19 => k_is)
    (case xf20 => k_is)
    (case xf21 => k_is)
    (case xf22 => k_is)
    (case xf23 => k_is)
    (case xf24 => k_is)
    (case xf25 => k_is)
    (case xf26 => k_is)
    (case xf27 => k_is)
    (case xf28 => k_is)
    (case xf29 => k_is)
    (case xf30 => k_is)
    (case xf31 => k_is)
    (case xf32 => k_is)
    (case xf33 => k_is)
    (case xf34 => k_is)
    (case xf35 => k_is)
    (case xf36 => k_is)
    (case xf37 => k_is)
    (case xf38 => k_is)
    (case xf39 => k_is)
    (case xf40 => k_is)
    (case xf41 => k_is)
    (case xf42 => k_is)
    (case xf43 => k_is)
    (case xf44 => k_is)
    (case xf45 => k_is)
    (case xf46 => k_is)
    (case xf47 => k_is)
    (case xf48 => k_is)
    (case xf49 => k_is)
    (case xf50 => k_is)
    (case xf51 => k_is)
    (case xf52 => k_is)
    (case xf53 => k_is)
    (case xf54 => k_is)
    (case xf55 => k_is)
    (case xf56 => k_is)
    (case xf57 => k_is)
    (case xf58 => k_is)
    (case xf59 => k_is)
    (case xf60 => k_is)
    (case xf61 => k_is)
    (case xf62 => k_is)
    (case xf63 => k_is)
    (case xf64 => k_is)
    (case xf65 => k_is)
    (case xf66 => k_is)
    (case xf67 => k_is)
    (case xf68 => k_is)
    (case xf69 => k_is)
    (case xf70 => k_is)
    (case xf71 => k_is)
    (case xf72 => k_is)
    (case xf73 => k_is)
    (case xf74 => k_is)
    (case xf75 => k_is)
    (case xf76 => k_is)
    (case xf77 => k_is)
    (case xf78 => k_is)
    (case xf79 => k_is)
    (case xf80 => k_is)
    (case xf81 => k_is)
    (case xf82 => k_is)
    (case xf83 => k_is)
    (case xf84 => k_is)
    (case xf85 => k_is)
    (case xf86 => k_is)
    (case xf87 => k_is)
    (case xf88 => k_is)
    (case xf89 => k_is)
    (case xf90 => k_is)
    (case xf91 => k_is)
    (case xf92 => k_is)
    (case xf93 => k_is)
    (case xf94 => k_is)
    (case xf95 => k_is)
    (case xa7 => k_is)
    (case xL6 => k_is)
    (case rb6 => first | rfl | decide +kernel)
    (case xf96 => k_is)
    (case xf97 => k_is)
    (case lI6 => k_is)
    (case cI6 => k_is)
    (case xf98 => k_is)
    (case xf99 => k_is)
    (case xf100 => k_is)
    (case xf101 => k_is)
    (case xf102 => k_is)
    (case xf103 => k_is)
